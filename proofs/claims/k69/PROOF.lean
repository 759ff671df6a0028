import PyProof.Rows.All
import Wide.All
import OpenK.AllK
import Wide.FinOn
import HandS.ForMost
import HandS.Wide
import HandS.IsInst
import HandS.SortInts
import HandS.Style
import HandS.Defaults
import HandS.MakeKw
import HandS.Zip
import HandS.Flow
import HandS.SortKw
import HandS.SetFor
import HandS.Strs
import HandS.Conv
import HandS.Codes
import HandS.MakeKwOnly
import HandS.WideBits
import KE.DataMinMax
import KE.SortData
import KE.KSortedM
import HandS.Deep
import HandS.NoneIn
import HandS.OwnEq
import PySem.Challenge.RW_snapdigits_k69_schemes_with_the_fewest_k
set_option Elab.async false
set_option linter.all false
set_option maxRecDepth 100000
set_option maxHeartbeats 1000000
/-! ### range over ints of any size -/
namespace L2
open PySem PySem.Spec PyProof.Rows
theorem turn_long {P : Program} {w : World} {K : PySem.W.Frag} {tg : Expr} (it : Addr) (lo : Int) (n : Nat) : Turn P w K tg (Itr lo n) [it] it (fun i h => IsLongIter h it (lo + (i : Nat) * 1) ((n : Int) - (i : Nat)) 1) where
  mem := by simp
  obj := fun i h st b hb => by
    have e : b = it := by simpa using hb
    subst e
    exact ⟨_, st, fun v z => by
      have z' : Data.fields _ = Data.cell v := z
      cases z'⟩
  keep := fun i h h' st k => k it (by simp) _ st
  item := by
    intro X hP hw hK hc i pins s σ H E I hf st hg
    subst hP hw hK
    obtain ⟨f0, f1, f2, f3, f4, f5⟩ := hf it (by simp)
    have W := Walks.longrange (prog := X.prog) (w := X.w) (I.ok.hd hc) it lo 1 n
    refine W.item i s _ _ hg st fun v h' tk hv st' kk => ?_
    obtain ⟨t, rfl⟩ := hv
    have I1 : Inv X pins σ H { s with heap := h', toks := tk } := I.turned (fun b o hb e => kk b o (by simpa using hb) e) f0 f1 f3 f4 f5
    refine ⟨_, rfl, go_of (s := { s with heap := h', toks := tk }) (n := "longrange_iterator") st' rfl rfl (by decide) ⟨.int (lo + i), H, I1, ⟨t, ?_⟩, ⟨rfl, rfl⟩, st', fun b hb => (hf b hb).1⟩⟩
    rw [Int.mul_one]
  done := by
    intro X hP hw hK hc i pins s σ H E I hf st hg
    subst hP hw hK
    obtain ⟨f0, f1, f2, f3, f4, f5⟩ := hf it (by simp)
    exact wpAny_pyNext_long_end (I.ok.hd hc) st (by have : n ≤ i := hg; omega) fun h' eb => ⟨rfl, I.turned (t' := s.toks) (fun b o hb e => eb b o hb e) f0 f1 f3 f4 f5⟩
  self := fun _ _ _ _ _ st h => wpAny_pyIter_longiter st h
section
variable {X : Cx} {tg : Expr}
theorem range_itW {pins : List (Addr × Obj)} {σ : St} {H : Hp} {s : Shared} {R : It → Hp → Prop} {E : Value → Shared → Prop} {lo hi : Int} {t u v : Tok} {tk : Nat} (I : Inv X pins σ H s)
    (q : R (Itr lo (hi - lo).toNat) H) : wpAny (model X.prog X.w) X.A (pyIter (.ref s.heap.objs.size)) (PIE X pins σ tg R) E { s with heap := s.heap.push { cls := .type "range", data := .fields #[.int lo t, .int hi u, .int 1 v] }, toks := tk } := by
  have I1 : Inv X pins σ H { s with heap := s.heap.push { cls := .type "range", data := .fields #[.int lo t, .int hi u, .int 1 v] }, toks := tk } := I.kept fun b o e => Heap.get?_push_of_some _ e
  have e1 : lo + ((0 : Nat) : Int) * 1 = lo := by simp
  have e2 : (((hi - lo).toNat : Nat) : Int) - ((0 : Nat) : Int) = Builtin.Range.rangeSize lo hi 1 := by rw [rangeSize_one]; split <;> omega
  cases hsm : Builtin.Range.small lo hi 1 with
  | true =>
    refine wpAny_pyIter_range (IsRange.new ..) hsm ?_
    refine ⟨(s.heap.push { cls := .type "range", data := .fields #[.int lo t, .int hi u, .int 1 v] }).objs.size, [(s.heap.push { cls := .type "range", data := .fields #[.int lo t, .int hi u, .int 1 v] }).objs.size], _, _, H, rfl,
      I1.kept (t' := tk) fun b o e => Heap.get?_push_of_some _ e, turn_range _ lo (hi - lo).toNat, ?_, fun b hb => ?_, q⟩
    · show IsRangeIter _ _ (lo + ((0 : Nat) : Int) * 1) ((((hi - lo).toNat : Nat) : Int) - ((0 : Nat) : Int)) 1
      rw [e1, e2]
      exact Heap.get?_push_size _ rfl
    · have e : b = (s.heap.push { cls := .type "range", data := .fields #[.int lo t, .int hi u, .int 1 v] }).objs.size := by simpa using hb
      subst e
      exact I1.fpOk (Nat.le_refl _) (I1.hok.fresh (Nat.le_refl _))
  | false =>
    refine wpAny_pyIter_longrange (IsRange.new ..) hsm ?_
    refine ⟨(s.heap.push { cls := .type "range", data := .fields #[.int lo t, .int hi u, .int 1 v] }).objs.size, [(s.heap.push { cls := .type "range", data := .fields #[.int lo t, .int hi u, .int 1 v] }).objs.size], _, _, H, rfl,
      I1.kept (t' := tk) fun b o e => Heap.get?_push_of_some _ e, turn_long _ lo (hi - lo).toNat, ?_, fun b hb => ?_, q⟩
    · show IsLongIter _ _ (lo + ((0 : Nat) : Int) * 1) ((((hi - lo).toNat : Nat) : Int) - ((0 : Nat) : Int)) 1
      rw [e1, e2]
      exact Heap.get?_push_size _ rfl
    · have e : b = (s.heap.push { cls := .type "range", data := .fields #[.int lo t, .int hi u, .int 1 v] }).objs.size := by simpa using hb
      subst e
      exact I1.fpOk (Nat.le_refl _) (I1.hok.fresh (Nat.le_refl _))
def iRngW (ta : TA) : TI := fun σ H R => ta σ H fun vs H1 => ∃ i j : Int, vs = [.int i, .int j] ∧ R (Itr i (j - i).toNat) H1
theorem pi_rangeW {a b : Expr} {ta : TA} {p pos : Pos} (hg : Gl X "range") (hm : X.mg "range" = none) (ha : PA X [a, b] ta) (hs : starEach [a, b] X.env = [(false, eval a X.env), (false, eval b X.env)] := by rfl) (hs2 : starEach [b] X.env = [(false, eval b X.env)] := by rfl) :
    PI X tg (.Call (.Name "range" p) [a, b] [] pos) (iRngW ta) := by
  refine ⟨fun pins s σ H R I h => ?_⟩
  refine Call_ (ld_blt I hg hm boot_range (PyProof.Rows.callWith_type1 (thn (ha.run pos pins s σ H _ I h) fun us s1 ⟨vs, H1, I1, r1, q1⟩ => ?_) (by rw [hs, hs2]) (by rw [hs2]; rfl)))
  obtain ⟨i, j, e, q⟩ := q1
  subst e
  cases r1 with
  | cons r rr =>
    cases rr with
    | cons r' rr =>
      cases rr
      obtain ⟨t, rfl⟩ := r
      obtain ⟨t', rfl⟩ := r'
      exact call_range_2 (range_itW I1 q)
def iRngW1 (ta : TA) : TI := fun σ H R => ta σ H fun vs H1 => ∃ j : Int, vs = [.int j] ∧ R (Itr 0 j.toNat) H1
theorem pi_rangeW1 {a : Expr} {ta : TA} {p pos : Pos} (hg : Gl X "range") (hm : X.mg "range" = none) (ha : PA X [a] ta) (hs : starEach [a] X.env = [(false, eval a X.env)] := by rfl) : PI X tg (.Call (.Name "range" p) [a] [] pos) (iRngW1 ta) := by
  refine ⟨fun pins s σ H R I h => ?_⟩
  refine Call_ (ld_blt I hg hm boot_range (PyProof.Rows.callWith_type1 (thn (ha.run pos pins s σ H _ I h) fun us s1 ⟨vs, H1, I1, r1, q1⟩ => ?_) hs rfl))
  obtain ⟨j, e, q⟩ := q1
  subst e
  cases r1 with
  | cons r rr =>
    cases rr
    obtain ⟨t, rfl⟩ := r
    exact call_range_1 (range_itW I1 (by simpa using q))
end
end L2
namespace Kr
open PySem L2

/-! ### a ledger: what is known of the heap, place by place -/
inductive Ent where
  | ob (o : HO)
  | src (n : Nat)
  | well (n : Nat)
  | rows (rs : List (List V))
  | inss (C : Addr) (fss : List (List (Str × V)))
def Ent.Is : Ent → HO → Prop
  | .rows _, _ => False
  | .inss _ _, _ => False
  | .ob o, u => u = o
  | .src n, u => ∃ x y z : Int, u = .lst [.int x, .int y, .int z] ∧ 0 ≤ y ∧ y < 2147483648 ∧ 0 ≤ z ∧ z ≤ (n : Int)
  | .well n, u => ∃ x y z : Int, u = .lst [.int x, .int y, .int z] ∧ 0 ≤ z ∧ z ≤ (n : Int)
/-- by the heap: a list of tuples -/
def Ent.In : Ent → Hp → HO → Prop
  | .rows rs, H, u => ∃ as : List Addr, u = .lst (as.map V.ref) ∧ as.length = rs.length ∧ ∀ (k : Nat) (a : Addr) (r : List V), as[k]? = some a → rs[k]? = some r → H a = some (.tup r)
  | .inss C fss, H, u => ∃ as : List Addr, u = .lst (as.map V.ref) ∧ as.length = fss.length ∧ ∀ (k : Nat) (a : Addr) (fs : List (Str × V)), as[k]? = some a → fss[k]? = some fs → ∃ dx, H a = some (.ins C dx fs)
  | .ob o, _, u => u = o
  | .src n, _, u => (Ent.src n).Is u
  | .well n, _, u => (Ent.well n).Is u
theorem Ent.in_of {e : Ent} {H : Hp} {o : HO} (h : e.Is o) : e.In H o := by
  cases e with
  | rows rs => exact h.elim
  | inss C fss => exact h.elim
  | ob u => exact h
  | src n => exact h
  | well n => exact h
theorem Ent.In.same {e : Ent} {H H' : Hp} {o : HO} (s : Same H H') (h : e.In H o) : e.In H' o := by
  cases e with
  | rows rs =>
    obtain ⟨as, h1, h2, h3⟩ := h
    exact ⟨as, h1, h2, fun k a r q1 q2 => s _ _ (h3 k a r q1 q2)⟩
  | inss C fss =>
    obtain ⟨as, h1, h2, h3⟩ := h
    exact ⟨as, h1, h2, fun k a r q1 q2 => (h3 k a r q1 q2).imp fun dx q => s _ _ q⟩
  | ob u => exact h
  | src n => exact h
  | well n => exact h
/-- no list of instances -/
def Ent.noI : Ent → Bool
  | .inss _ _ => false
  | _ => true
theorem Ent.In.exc {e : Ent} {H H' : Hp} {o u : HO} {a : Addr} (ha : H a = some u) (hu : ∀ r, u ≠ .tup r) (hi : e.noI = true ∨ ∀ C dx fs, u ≠ .ins C dx fs) (s : ∀ c o, H c = some o → c ≠ a → H' c = some o) (h : e.In H o) : e.In H' o := by
  cases e with
  | rows rs =>
    obtain ⟨as, h1, h2, h3⟩ := h
    refine ⟨as, h1, h2, fun k b r q1 q2 => s _ _ (h3 k b r q1 q2) fun z => ?_⟩
    subst z
    have q3 := h3 k b r q1 q2
    rw [ha] at q3
    exact hu r (Option.some.inj q3)
  | inss C fss =>
    obtain ⟨as, h1, h2, h3⟩ := h
    refine ⟨as, h1, h2, fun k b r q1 q2 => (h3 k b r q1 q2).imp fun dx q3 => s _ _ q3 fun z => ?_⟩
    subst z
    rw [ha] at q3
    rcases hi with hi | hi
    · cases hi
    · exact hi _ _ _ (Option.some.inj q3)
  | ob u => exact h
  | src n => exact h
  | well n => exact h
/-- may change -/
def Ent.mov : Ent → Bool
  | .ob (.tup _) => false
  | _ => true
theorem Ent.mov_ne {e : Ent} {H : Hp} {u : HO} (m : e.mov = true) (h : e.In H u) : ∀ r, u ≠ .tup r := by
  intro r q
  subst q
  cases e with
  | rows rs =>
    obtain ⟨as, h1, _⟩ := h
    cases h1
  | inss C fss =>
    obtain ⟨as, h1, _⟩ := h
    cases h1
  | ob o =>
    have h : HO.tup r = o := h
    subst h
    cases m
  | src n =>
    obtain ⟨x, y, z, h1, _⟩ := h
    cases h1
  | well n =>
    obtain ⟨x, y, z, h1, _⟩ := h
    cases h1
/-- an instance itself -/
def Ent.insq : Ent → Bool
  | .ob (.ins _ _ _) => true
  | _ => false
/-- may change, and is no instance -/
def Ent.mov2 : Ent → Bool
  | .ob (.tup _) => false
  | .ob (.ins _ _ _) => false
  | _ => true
theorem Ent.mov2_mov {e : Ent} (m : e.mov2 = true) : e.mov = true := by
  cases e with
  | ob o => cases o <;> first | rfl | cases m
  | _ => rfl
theorem Ent.insq_ne {e : Ent} {H : Hp} {u : HO} (m : e.insq = false) (h : e.In H u) : ∀ C dx fs, u ≠ .ins C dx fs := by
  intro C dx fs q
  subst q
  cases e with
  | rows rs =>
    obtain ⟨as, h1, _⟩ := h
    cases h1
  | inss C fss =>
    obtain ⟨as, h1, _⟩ := h
    cases h1
  | ob o =>
    have h : HO.ins C dx fs = o := h
    subst h
    cases m
  | src n =>
    obtain ⟨x, y, z, h1, _⟩ := h
    cases h1
  | well n =>
    obtain ⟨x, y, z, h1, _⟩ := h
    cases h1
theorem Ent.mov2_insq {e : Ent} (m : e.mov2 = true) : e.insq = false := by
  cases e with
  | ob o => cases o <;> first | rfl | cases m
  | _ => rfl
abbrev Led := List (Addr × Ent × Bool)
structure Gr where
  H0 : Hp
  mu : Addr → Prop
/-- two entries of one place: both tuples, or both not own -/
def NdR (x y : Addr × Ent × Bool) : Prop := x.1 = y.1 → (x.2.1.mov = false ∧ y.2.1.mov = false) ∨ (x.2.2 = false ∧ y.2.2 = false)
theorem ndR_symm {x y : Addr × Ent × Bool} (h : NdR x y) : NdR y x := fun e => (h e.symm).imp (fun z => ⟨z.2, z.1⟩) (fun z => ⟨z.2, z.1⟩)
theorem nd_at {L : Led} (h : L.Pairwise NdR) {i j : Nat} {x y : Addr × Ent × Bool} (hx : L[i]? = some x) (hy : L[j]? = some y) (hij : i ≠ j) : NdR x y := by
  obtain ⟨hi, ei⟩ := List.getElem?_eq_some_iff.mp hx
  obtain ⟨hj, ej⟩ := List.getElem?_eq_some_iff.mp hy
  rcases Nat.lt_or_gt_of_ne hij with q | q
  · have := List.pairwise_iff_getElem.mp h i j hi hj q
    rwa [ei, ej] at this
  · have := List.pairwise_iff_getElem.mp h j i hj hi q
    rw [ei, ej] at this
    exact ndR_symm this
theorem nd_ne {L : Led} (h : L.Pairwise NdR) {i j : Nat} {x y : Addr × Ent × Bool} (hx : L[i]? = some x) (hy : L[j]? = some y) (hij : i ≠ j) (m : x.2.1.mov = true ∨ y.2.1.mov = true) (o : x.2.2 = true ∨ y.2.2 = true) : x.1 ≠ y.1 := by
  intro e
  rcases nd_at h hx hy hij e with z | z
  · rcases m with m | m
    · rw [m] at z; cases z.1
    · rw [m] at z; cases z.2
  · rcases o with o | o
    · rw [o] at z; cases z.1
    · rw [o] at z; cases z.2
theorem nd_set {L : Led} (h : L.Pairwise NdR) {i : Nat} {a : Addr} {e e' : Ent} {b : Bool} (k : L[i]? = some (a, e, b)) (m : e.mov = true) : (L.set i (a, e', b)).Pairwise NdR := by
  rw [List.pairwise_iff_getElem]
  intro p q hp hq hpq ee
  have hp' : p < L.length := by simpa using hp
  have hq' : q < L.length := by simpa using hq
  by_cases h1 : i = p
  · subst h1
    rw [List.getElem_set_self, List.getElem_set_ne (by omega)] at ee ⊢
    rcases nd_at h (x := (a, e, b)) k (List.getElem?_eq_getElem hq') (by omega) ee with z | z
    · rw [m] at z
      cases z.1
    · exact .inr z
  · by_cases h2 : i = q
    · subst h2
      rw [List.getElem_set_self, List.getElem_set_ne (by omega)] at ee ⊢
      rcases nd_at h (y := (a, e, b)) (List.getElem?_eq_getElem hp') k (by omega) ee with z | z
      · rw [m] at z
        cases z.2
      · exact .inr z
    · rw [List.getElem_set_ne h1, List.getElem_set_ne h2] at ee ⊢
      exact List.pairwise_iff_getElem.mp h p q hp' hq' hpq ee
theorem nd_app {L : Led} (h : L.Pairwise NdR) {x : Addr × Ent × Bool} (hn : ∀ y ∈ L, NdR y x) : (L ++ [x]).Pairwise NdR := by
  rw [List.pairwise_append]
  refine ⟨h, List.pairwise_singleton _ _, fun y hy z hz => ?_⟩
  have e : z = x := by simpa using hz
  subst e
  exact hn y hy
structure At (g : Gr) (L : Led) (H : Hp) : Prop where
  old : ∀ b o, g.H0 b = some o → ¬ g.mu b → H b = some o
  led : ∀ p ∈ L, ∃ o, H p.1 = some o ∧ p.2.1.In H o
  own : ∀ p ∈ L, p.2.2 = true → (g.H0 p.1 = none ∨ g.mu p.1)
  nd : L.Pairwise NdR
section
variable {g : Gr} {L : Led} {H H' : Hp} {a p : Addr} {e : Ent} {o u : HO} {b : Bool} {i : Nat}
theorem At.look (h : At g L H) (k : L[i]? = some (a, e, b)) : ∃ o, H a = some o ∧ e.In H o := h.led _ (List.mem_of_getElem? k)
theorem At.get (h : At g L H) (k : L[i]? = some (a, .ob o, b)) : H a = some o := by
  obtain ⟨u, h1, h2⟩ := h.look k
  have h2 : u = o := h2
  rw [h1, h2]
/-- nothing is forgotten -/
theorem At.same (h : At g L H) (s : Same H H') : At g L H' := by
  refine ⟨fun c o e m => s _ _ (h.old c o e m), fun q hq => ?_, h.own, h.nd⟩
  obtain ⟨o, h1, h2⟩ := h.led q hq
  exact ⟨o, s _ _ h1, h2.same s⟩
/-- a new object -/
theorem At.newE (h : At g L H) (s : Same H H') (n : H p = none) (hp : H' p = some o) (he : e.In H' o) : At g (L ++ [(p, e, true)]) H' := by
  refine ⟨fun c o e m => s _ _ (h.old c o e m), fun q hq => ?_, fun q hq => ?_, ?_⟩
  · rcases List.mem_append.mp hq with hq | hq
    · obtain ⟨o, h1, h2⟩ := h.led q hq
      exact ⟨o, s _ _ h1, h2.same s⟩
    · have e : q = (p, e, true) := by simpa using hq
      subst e
      exact ⟨o, hp, he⟩
  · rcases List.mem_append.mp hq with hq | hq
    · exact h.own q hq
    · have e : q = (p, e, true) := by simpa using hq
      subst e
      intro _
      by_cases hmu : g.mu p
      · exact .inr hmu
      · refine .inl ?_
        cases z : g.H0 p with
        | none => rfl
        | some u =>
          rw [h.old p u z hmu] at n
          cases n
  · refine nd_app h.nd fun q hq e3 => ?_
    obtain ⟨o, h1, _⟩ := h.led q hq
    rw [e3, n] at h1
    cases h1
theorem At.new (h : At g L H) (s : Same H H') (n : H p = none) (hp : H' p = some o) : At g (L ++ [(p, .ob o, true)]) H' := h.newE s n hp rfl
theorem At.upd_new (h : At g L H) (n : H p = none) : At g (L ++ [(p, .ob o, true)]) (upd H p o) :=
  h.new (fun c u e => by rw [upd_ne (ne_of_none e n)]; exact e) n upd_same
/-- an own object changes -/
theorem At.chgG (h : At g L H) (k : L[i]? = some (a, e, true)) {e' : Ent} (s : ∀ c o, H c = some o → c ≠ a → H' c = some o) (ho : H' a = some o) (he : e'.In H' o) (hmv : e.mov = true) (hni : (∀ q ∈ L, q.2.1.noI = true) ∨ e.insq = false) : At g (L.set i (a, e', true)) H' := by
  obtain ⟨u0, hu0, hin0⟩ := h.look k
  have hmn := Ent.mov_ne hmv hin0
  have hi : i < L.length := (List.getElem?_eq_some_iff.mp k).1
  have hk : L[i] = (a, e, true) := (List.getElem?_eq_some_iff.mp k).2
  have hown := h.own _ (List.mem_of_getElem? k) rfl
  have hmap : (L.set i (a, e', true)).map (·.1) = L.map (·.1) := by
    rw [List.map_set]
    apply List.ext_getElem?
    intro j
    by_cases hj : i = j
    · subst hj
      rw [List.getElem?_set_self (by simpa using hi), List.getElem?_map, k]
      rfl
    · rw [List.getElem?_set_ne hj]
  refine ⟨fun c o' e1 m => ?_, fun q hq => ?_, fun q hq hb => ?_, ?_⟩
  · refine s _ _ (h.old c o' e1 m) fun z => ?_
    subst z
    rcases hown with z | z
    · rw [show g.H0 c = none from z] at e1
      cases e1
    · exact m z
  · obtain ⟨j, hj, ej⟩ := List.mem_iff_getElem.mp hq
    by_cases hij : i = j
    · subst hij
      rw [List.getElem_set_self] at ej
      subst ej
      exact ⟨o, ho, he⟩
    · rw [List.getElem_set_ne hij] at ej
      have hj' : j < L.length := by simpa using hj
      obtain ⟨o', h1, h2⟩ := h.led q (ej ▸ List.getElem_mem hj')
      refine ⟨o', s _ _ h1 fun z => hij ?_, h2.exc hu0 hmn (hni.imp (fun w => w q (ej ▸ List.getElem_mem hj')) (fun w => Ent.insq_ne w hin0)) s⟩
      exact Decidable.byContradiction fun hij' => nd_ne h.nd k (List.getElem?_eq_getElem hj') hij' (.inl hmv) (.inl rfl) (by rw [ej]; exact z.symm)
  · obtain ⟨j, hj, ej⟩ := List.mem_iff_getElem.mp hq
    by_cases hij : i = j
    · subst hij
      rw [List.getElem_set_self] at ej
      subst ej
      exact hown
    · rw [List.getElem_set_ne hij] at ej
      have hj' : j < L.length := by simpa using hj
      exact h.own q (ej ▸ List.getElem_mem hj') hb
  · exact nd_set h.nd k hmv
theorem At.chg (h : At g L H) (k : L[i]? = some (a, e, true)) {e' : Ent} (s : ∀ c o, H c = some o → c ≠ a → H' c = some o) (ho : H' a = some o) (he : e'.In H' o) (hmv : e.mov2 = true := by rfl) : At g (L.set i (a, e', true)) H' :=
  h.chgG k s ho he (Ent.mov2_mov hmv) (.inr (Ent.mov2_insq hmv))
theorem At.upd_chg (h : At g L H) (k : L[i]? = some (a, e, true)) (hmv : e.mov2 = true := by rfl) : At g (L.set i (a, .ob o, true)) (upd H a o) :=
  h.chg k (fun c u e z => by rw [upd_ne z]; exact e) upd_same rfl hmv
theorem At.upd_fld (h : At g L H) (k : L[i]? = some (a, e, true)) (hmv : e.mov = true) (hni : L.all (fun q => q.2.1.noI) = true) : At g (L.set i (a, .ob o, true)) (upd H a o) :=
  h.chgG k (fun c u e z => by rw [upd_ne z]; exact e) upd_same rfl hmv (.inl (List.all_eq_true.mp hni))
theorem At.sub {L' : Led} (h : At g L' H) (s : L.Sublist L') : At g L H :=
  ⟨h.old, fun q hq => h.led q (s.subset hq), fun q hq => h.own q (s.subset hq), h.nd.sublist s⟩
theorem At.pre {L' : Led} (h : At g L' H) (s : L <+: L') : At g L H := h.sub s.sublist
end

/-! ### readings over a ledger -/
def Wp {α : Type} (g : Gr) (L : Led) (m : Hp → (α → Hp → Prop) → Prop) (C : α → Led → Prop) : Prop :=
  ∀ H, At g L H → ∀ Q : α → Hp → Prop, (∀ v L' H', C v L' → At g L' H' → Q v H') → m H Q
structure Ks where
  nx : St → Led → Prop
  rt : V → Led → Prop
  bk : St → Led → Prop := fun _ _ => False
  ct : St → Led → Prop := fun _ _ => False
structure Eo (g : Gr) (K : Ks) (D : Ends) : Prop where
  nx : ∀ σ L H, K.nx σ L → At g L H → D.nx σ H
  rt : ∀ v L H, K.rt v L → At g L H → D.rt v H
  bk : ∀ σ L H, K.bk σ L → At g L H → D.bk σ H
  ct : ∀ σ L H, K.ct σ L → At g L H → D.ct σ H
def Ws (g : Gr) (L : Led) (t : TS) (σ : St) (K : Ks) : Prop := ∀ H, At g L H → ∀ D, Eo g K D → t D σ H

section
variable {g : Gr} {L : Led} {σ : St} {α β : Type}
theorem Wp.now {m : Hp → (α → Hp → Prop) → Prop} {C : α → Led → Prop} {v : α} (h : ∀ H Q, At g L H → Q v H → m H Q) (c : C v L) : Wp g L m C :=
  fun H a Q q => h H Q a (q v L H c a)
theorem Wp.mono {m : Hp → (α → Hp → Prop) → Prop} {C C' : α → Led → Prop} (h : Wp g L m C) (c : ∀ v L', C v L' → C' v L') : Wp g L m C' :=
  fun H a Q q => h H a Q fun v L' H' z => q v L' H' (c v L' z)
variable {C : V → Led → Prop} {v x y : V} {ta tb tc te : TE} {i j : Nat}
theorem wp_var (h : σ[i]? = some (some v)) (c : C v L) : Wp g L (tVar i σ) C := .now (fun H Q _ q => ⟨v, h, q⟩) c
theorem wp_c (c : C v L) : Wp g L (tC v σ) C := .now (fun _ _ _ q => q) c
theorem wp_op {r : R2} (h : Wp g L (ta σ) fun x L1 => Wp g L1 (tb σ) fun y L2 => Wp g L2 (r x y) C) : Wp g L (tOp r ta tb σ) C :=
  fun H a Q q => h H a _ fun x L1 H1 h1 a1 => h1 H1 a1 _ fun y L2 H2 h2 a2 => h2 H2 a2 Q q
theorem wp_un {r : V → Hp → VK → Prop} (h : Wp g L (ta σ) fun x L1 => Wp g L1 (r x) C) : Wp g L (tUn r ta σ) C :=
  fun H a Q q => h H a _ fun x L1 H1 h1 a1 => h1 H1 a1 Q q
/-- ints -/
theorem wr0 {f : Int → Int → V} {m n : Int} (c : C (f m n) L) : Wp g L (rI0 f (.int m) (.int n)) C := .now (fun _ _ _ q => ⟨m, n, rfl, rfl, q⟩) c
theorem wr1 {P : Int → Int → Prop} {f : Int → Int → V} {m n : Int} (h : P m n) (c : C (f m n) L) : Wp g L (rI P f (.int m) (.int n)) C := .now (fun _ _ _ q => ⟨m, n, rfl, rfl, h, q⟩) c
theorem wu0 {f : Int → V} {m : Int} (c : C (f m) L) : Wp g L (rU f (.int m)) C := .now (fun _ _ _ q => ⟨m, rfl, q⟩) c
theorem wr_modA {m n : Int} (h : 0 < n) (c : ∀ r : Int, 0 ≤ r → r < n → C (.int r) L) : Wp g L (rI (fun _ j => 0 < j) (fun i j => .int (i % j)) (.int m) (.int n)) C := wr1 h (c _ (Int.emod_nonneg _ (by omega)) (Int.emod_lt_of_pos _ h))
theorem wr_powc {m n r : Int} (h : CPow m n) (e : m ^ n.toNat = r) (c : C (.int r) L) : Wp g L (rI CPow (fun i j => .int (i ^ j.toNat)) (.int m) (.int n)) C := wr1 h (by rw [e]; exact c)
theorem wr_eq (h : scal x y = true) (c : C (.bl (decide (x = y))) L) : Wp g L (rEq x y) C := .now (fun _ _ _ q => ⟨h, q⟩) c
theorem wr_ne (h : scal x y = true) (c : C (.bl (!decide (x = y))) L) : Wp g L (rNe x y) C := .now (fun _ _ _ q => ⟨h, q⟩) c
theorem wr_eqI {m n : Int} (c : C (.bl (decide (m = n))) L) : Wp g L (rEq (.int m) (.int n)) C :=
  wr_eq rfl (by rw [show decide (V.int m = V.int n) = decide (m = n) from by simp]; exact c)
theorem wr_neI {m n : Int} (c : C (.bl (!decide (m = n))) L) : Wp g L (rNe (.int m) (.int n)) C :=
  wr_ne rfl (by rw [show decide (V.int m = V.int n) = decide (m = n) from by simp]; exact c)
theorem wr_eqB {m n : Bool} (c : C (.bl (decide (m = n))) L) : Wp g L (rEq (.bl m) (.bl n)) C :=
  wr_eq rfl (by rw [show decide (V.bl m = V.bl n) = decide (m = n) from by simp]; exact c)
theorem wr_neB {m n : Bool} (c : C (.bl (!decide (m = n))) L) : Wp g L (rNe (.bl m) (.bl n)) C :=
  wr_ne rfl (by rw [show decide (V.bl m = V.bl n) = decide (m = n) from by simp]; exact c)
def rIsN' : R2 := fun x y H Q => y = .non ∧ Q (.bl (decide (x = .non))) H
def rNotN' : R2 := fun x y H Q => y = .non ∧ Q (.bl (!decide (x = .non))) H
theorem op_isN' {X : Cx} : OpR X (compareOp .Is) rIsN' := op_isN
theorem op_notN' {X : Cx} : OpR X (compareOp .IsNot) rNotN' := op_notN
theorem wr_isN (c : C (.bl (decide (x = .non))) L) : Wp g L (rIsN' x .non) C := .now (fun _ _ _ q => ⟨rfl, q⟩) c
theorem wr_notN (c : C (.bl (!decide (x = .non))) L) : Wp g L (rNotN' x .non) C := .now (fun _ _ _ q => ⟨rfl, q⟩) c
-- tests
variable {B : Bool → Led → Prop} {t u : TT} {b : Bool}
theorem wt_test (h : Wp g L (te σ) fun v L1 => ∃ b, v = .bl b ∧ B b L1) : Wp g L (tTest te σ) B :=
  fun H a Q q => h H a _ fun v L1 H1 ⟨b, e, k⟩ a1 => ⟨b, e, q b L1 H1 k a1⟩
theorem wt_B (h : Wp g L (te σ) fun v L1 => ∃ b, v = .bl b ∧ B b L1) : Wp g L (tB te σ) B :=
  fun H a Q q => h H a _ fun v L1 H1 ⟨b, e, k⟩ a1 => ⟨b, e, q b L1 H1 k a1⟩
theorem wt_and (h : Wp g L (t σ) fun b L1 => if b = true then Wp g L1 (u σ) B else B false L1) : Wp g L (tAnd t u σ) B :=
  fun H a Q q => h H a _ fun b L1 H1 k a1 => by
    cases b with
    | true => exact (show Wp g L1 (u σ) B from k) H1 a1 Q q
    | false => exact q false L1 H1 k a1
theorem wt_or (h : Wp g L (t σ) fun b L1 => if b = true then B true L1 else Wp g L1 (u σ) B) : Wp g L (tOr t u σ) B :=
  fun H a Q q => h H a _ fun b L1 H1 k a1 => by
    cases b with
    | true => exact q true L1 H1 k a1
    | false => exact (show Wp g L1 (u σ) B from k) H1 a1 Q q
theorem wt_not (h : Wp g L (t σ) fun b L1 => B (!b) L1) : Wp g L (tNot t σ) B := fun H a Q q => h H a _ fun b L1 H1 k a1 => q _ L1 H1 k a1
theorem wt_yes (h : B true L) : Wp g L (tYes σ) B := .now (fun _ _ _ q => q) h
theorem wp_andV (h : Wp g L (ta σ) fun x L1 => ∃ b, x = .bl b ∧ if b = true then Wp g L1 (tb σ) C else C (.bl false) L1) : Wp g L (tAndV ta tb σ) C :=
  fun H a Q q => h H a _ fun x L1 H1 ⟨b, e, k⟩ a1 => ⟨b, e, by
    cases b with
    | true => exact (show Wp g L1 (tb σ) C from k) H1 a1 Q q
    | false => exact q _ L1 H1 k a1⟩
theorem wp_orV (h : Wp g L (ta σ) fun x L1 => ∃ b, x = .bl b ∧ if b = true then C (.bl true) L1 else Wp g L1 (tb σ) C) : Wp g L (tOrV ta tb σ) C :=
  fun H a Q q => h H a _ fun x L1 H1 ⟨b, e, k⟩ a1 => ⟨b, e, by
    cases b with
    | true => exact q _ L1 H1 k a1
    | false => exact (show Wp g L1 (tb σ) C from k) H1 a1 Q q⟩
theorem wp_notV (h : Wp g L (ta σ) fun x L1 => ∃ b, x = .bl b ∧ C (.bl (!b)) L1) : Wp g L (tNotV ta σ) C :=
  fun H a Q q => h H a _ fun x L1 H1 ⟨b, e, k⟩ a1 => ⟨b, e, q _ L1 H1 k a1⟩
theorem wp_if (h : Wp g L (t σ) fun b L1 => if b = true then Wp g L1 (ta σ) C else Wp g L1 (tb σ) C) : Wp g L (tIf t ta tb σ) C :=
  fun H a Q q => h H a _ fun b L1 H1 k a1 => by
    cases b with
    | true => exact (show Wp g L1 (ta σ) C from k) H1 a1 Q q
    | false => exact (show Wp g L1 (tb σ) C from k) H1 a1 Q q
theorem wp_chain {r r' : R2} (h : Wp g L (ta σ) fun x L1 => Wp g L1 (tb σ) fun y L2 => Wp g L2 (r x y) fun z L3 => ∃ b, z = .bl b ∧ if b = true then Wp g L3 (tc σ) fun w L4 => Wp g L4 (r' y w) C else C (.bl false) L3) : Wp g L (tChain r r' ta tb tc σ) C :=
  fun H a Q q => h H a _ fun x L1 H1 h1 a1 => h1 H1 a1 _ fun y L2 H2 h2 a2 => h2 H2 a2 _ fun z L3 H3 ⟨b, e, k⟩ a3 => ⟨b, e, by
    cases b with
    | true => exact (show Wp g L3 (tc σ) _ from k) H3 a3 _ fun w L4 H4 h4 a4 => h4 H4 a4 Q q
    | false => exact q _ L3 H3 k a3⟩
-- arguments
variable {A : List V → Led → Prop} {tr : TA}
theorem wa_nil (h : A [] L) : Wp g L (tNil σ) A := .now (fun _ _ _ q => q) h
theorem wa_cons (h : Wp g L (ta σ) fun x L1 => Wp g L1 (tr σ) fun xs L2 => A (x :: xs) L2) : Wp g L (tCons ta tr σ) A :=
  fun H a Q q => h H a _ fun x L1 H1 h1 a1 => h1 H1 a1 _ fun xs L2 H2 h2 a2 => q _ L2 H2 h2 a2
/-- new things -/
theorem wp_tup (h : Wp g L (tr σ) fun xs L1 => xs.length ≤ 1000 ∧ ∀ p, C (.ref p) (L1 ++ [(p, .ob (.tup xs), true)])) : Wp g L (tTup tr σ) C :=
  fun H a Q q => h H a _ fun xs L1 H1 h1 a1 => ⟨Nat.le_trans h1.1 (by decide), fun p hp => q _ _ _ (h1.2 p) (a1.upd_new hp)⟩
theorem wp_lst (h : Wp g L (tr σ) fun xs L1 => xs.length ≤ 1000 ∧ ∀ p, C (.ref p) (L1 ++ [(p, .ob (.lst xs), true)])) : Wp g L (tLst tr σ) C :=
  fun H a Q q => h H a _ fun xs L1 H1 h1 a1 => ⟨Nat.le_trans h1.1 (by decide), fun p hp => q _ _ _ (h1.2 p) (a1.upd_new hp)⟩
/-- fields -/
theorem wp_fld {K : PySem.W.Frag} {C' : Addr} {f : Str} (i : Nat) (hc : Cls K C') (hn : NoAttr K C' f) (h : Wp g L (ta σ) fun x L1 => ∃ (a dx : Addr) (fs : List (Str × V)) (bo : Bool) (v : V), x = .ref a ∧ L1[i]? = some (a, .ob (.ins C' dx fs), bo) ∧ fs.lookup f = some v ∧ C v L1) : Wp g L (tFld K ta f σ) C :=
  fun H a' Q q => h H a' _ fun x L1 H1 ⟨a, dx, fs, bo, v, e, h1, h2, h3⟩ a1 => ⟨a, C', dx, fs, v, e, a1.get h1, hc, hn, h2, q _ L1 H1 h3 a1⟩
/-- calls -/
theorem wp_call {sp : Sp} {dvs : List V} {E : XK} (h : Wp g L (tr σ) fun vs L1 => Wp g L1 (fun H Q => sp (vs ++ dvs) H Q E) C) : Wp g L (tCall sp dvs E tr σ) C :=
  fun H a Q q => h H a _ fun vs L1 H1 h1 a1 => h1 H1 a1 Q q
theorem wp_callK {sp : Sp} {gV : List V → List V → List V} {E : XK} {tk : TA} (h : Wp g L (tr σ) fun vs L1 => Wp g L1 (tk σ) fun zs L2 => Wp g L2 (fun H Q => sp (gV vs zs) H Q E) C) : Wp g L (tCallK sp gV E tr tk σ) C :=
  fun H a Q q => h H a _ fun vs L1 H1 h1 a1 => h1 H1 a1 _ fun zs L2 H2 h2 a2 => h2 H2 a2 Q q
theorem wp_meth {sp : Sp} {dvs : List V} {E : XK} {C' : Addr} {m : Str} (i : Nat)
    (h : Wp g L (ta σ) fun x L1 => ∃ (a dx : Addr) (fs : List (Str × V)) (bo : Bool), x = .ref a ∧ L1[i]? = some (a, .ob (.ins C' dx fs), bo) ∧ fs.lookup m = none ∧ Wp g L1 (tr σ) fun vs L2 => Wp g L2 (fun H Q => sp (.ref a :: (vs ++ dvs)) H Q E) C) : Wp g L (tMeth C' m sp dvs E ta tr σ) C :=
  fun H a' Q q => h H a' _ fun x L1 H1 ⟨a, dx, fs, bo, e, h1, h2, h3⟩ a1 => by
    subst e
    exact ⟨a, dx, fs, rfl, a1.get h1, h2, h3 H1 a1 _ fun vs L2 H2 k2 a2 => k2 H2 a2 Q q⟩
theorem wp_cb {r : List V → Hp → VK → Prop} (h : Wp g L (tr σ) fun vs L1 => Wp g L1 (r vs) C) : Wp g L (tCB r tr σ) C :=
  fun H a Q q => h H a _ fun vs L1 H1 h1 a1 => h1 H1 a1 Q q
def rMax2 : List V → Hp → VK → Prop := fun xs H Q => ∃ i j, xs = [.int i, .int j] ∧ Q (.int (if j > i then j else i)) H
def rMin2 : List V → Hp → VK → Prop := fun xs H Q => ∃ i j, xs = [.int i, .int j] ∧ Q (.int (if j < i then j else i)) H
def rInt1 : List V → Hp → VK → Prop := fun xs H Q => (∃ i, xs = [.int i] ∧ Q (.int i) H) ∨ ∃ k, xs = [.bl k] ∧ Q (.int (if k then 1 else 0)) H
def rLen (K : PySem.W.Frag) : List V → Hp → VK → Prop := fun xs H Q => ∃ p ys, xs = [.ref p] ∧ (SqL K H p ys ∨ SqT K H p ys) ∧ Q (.int ys.length) H
def rListOf (K : PySem.W.Frag) : List V → Hp → VK → Prop := fun xs H Q => ∃ p ys, xs = [.ref p] ∧ (SqL K H p ys ∨ SqT K H p ys) ∧ ∀ l, H l = none → Q (.ref l) (upd H l (.lst ys))
theorem c_max2 {X : Cx} (hc : X.calm = true) : CallR X (.builtin "max") rMax2 := call_max2 hc
theorem c_min2 {X : Cx} (hc : X.calm = true) : CallR X (.builtin "min") rMin2 := call_min2 hc
theorem c_int1 {X : Cx} : CallR X (.type "int") rInt1 := call_int1
theorem c_len {X : Cx} : CallR X (.builtin "len") (rLen X.K) := call_len_seq
theorem c_list {X : Cx} : CallR X (.type "list") (rListOf X.K) := call_list_of
theorem wc_max2 {m n : Int} (c : C (.int (max m n)) L) : Wp g L (rMax2 [.int m, .int n]) C :=
  .now (fun _ _ _ q => ⟨m, n, rfl, q⟩) (by rw [show (if n > m then n else m) = max m n from by rw [Int.max_def]; split <;> split <;> omega]; exact c)
theorem wc_min2 {m n : Int} (c : C (.int (min m n)) L) : Wp g L (rMin2 [.int m, .int n]) C :=
  .now (fun _ _ _ q => ⟨m, n, rfl, q⟩) (by rw [show (if n < m then n else m) = min m n from by rw [Int.min_def]; split <;> split <;> omega]; exact c)
theorem wc_intB {b : Bool} (c : C (.int (if b then 1 else 0)) L) : Wp g L (rInt1 [.bl b]) C := .now (fun _ _ _ q => .inr ⟨b, rfl, q⟩) c
theorem wr_is_True {m : Bool} (c : C (.bl m) L) : Wp g L (rIsB (.bl m) (.bl true)) C := .now (fun _ _ _ q => ⟨m, true, rfl, rfl, by cases m <;> exact q⟩) c
theorem wr_is_False {m : Bool} (c : C (.bl (!m)) L) : Wp g L (rIsB (.bl m) (.bl false)) C := .now (fun _ _ _ q => ⟨m, false, rfl, rfl, by cases m <;> exact q⟩) c
theorem wr_isnot_True {m : Bool} (c : C (.bl (!m)) L) : Wp g L (rNotB (.bl m) (.bl true)) C := .now (fun _ _ _ q => ⟨m, true, rfl, rfl, by cases m <;> exact q⟩) c
theorem wr_isnot_False {m : Bool} (c : C (.bl m) L) : Wp g L (rNotB (.bl m) (.bl false)) C := .now (fun _ _ _ q => ⟨m, false, rfl, rfl, by cases m <;> exact q⟩) c
/-- a list or tuple that is known to be there -/
structure Seen (K : PySem.W.Frag) (g : Gr) (L : Led) (a : Addr) (xs : List V) : Prop where
  at_ : ∀ H, At g L H → SqL K H a xs
structure SeenT (K : PySem.W.Frag) (g : Gr) (L : Led) (a : Addr) (xs : List V) : Prop where
  at_ : ∀ H, At g L H → SqT K H a xs
theorem seen {K : PySem.W.Frag} {a : Addr} {xs : List V} {bo : Bool} (i : Nat) (h : L[i]? = some (a, .ob (.lst xs), bo)) : Seen K g L a xs := ⟨fun H z => SqL.of (z.get h)⟩
theorem seenT {K : PySem.W.Frag} {a : Addr} {xs : List V} {bo : Bool} (i : Nat) (h : L[i]? = some (a, .ob (.tup xs), bo)) : SeenT K g L a xs := ⟨fun H z => SqT.of (z.get h)⟩
/-- what stood at the entry and is not changed -/
theorem seen0 {K : PySem.W.Frag} {a : Addr} {xs : List V} (h : SqL K g.H0 a xs) (hm : ¬ g.mu a) : Seen K g L a xs := ⟨fun H z => by
  rcases h with (h | ⟨o, h⟩) | h
  · exact .inl (.inl (z.old _ _ h hm))
  · exact .inl (.inr ⟨o, z.old _ _ h hm⟩)
  · exact .inr h⟩
section
variable {K : PySem.W.Frag} {a : Addr} {xs : List V}
theorem wc_len (s : Seen K g L a xs) (c : C (.int (xs.length : Int)) L) : Wp g L (rLen K [.ref a]) C := .now (fun H _ z q => ⟨a, xs, rfl, .inl (s.at_ H z), q⟩) c
theorem wc_lenT (s : SeenT K g L a xs) (c : C (.int (xs.length : Int)) L) : Wp g L (rLen K [.ref a]) C := .now (fun H _ z q => ⟨a, xs, rfl, .inr (s.at_ H z), q⟩) c
theorem wc_list (s : Seen K g L a xs) (c : ∀ p, C (.ref p) (L ++ [(p, .ob (.lst xs), true)])) : Wp g L (rListOf K [.ref a]) C :=
  fun H z Q q => ⟨a, xs, rfl, .inl (s.at_ H z), fun p hp => q _ _ _ (c p) (z.upd_new hp)⟩
theorem wr_ixL {k : Int} (s : Seen K g L a xs) (h : atI xs k = some v) (c : C v L) : Wp g L (rIxL K (.ref a) (.int k)) C := .now (fun H _ z q => ⟨a, xs, k, v, rfl, rfl, s.at_ H z, h, q⟩) c
theorem wr_ixT {k : Int} (s : SeenT K g L a xs) (h : atI xs k = some v) (c : C v L) : Wp g L (rIxT K (.ref a) (.int k)) C := .now (fun H _ z q => ⟨a, xs, k, v, rfl, rfl, s.at_ H z, h, q⟩) c
theorem wr_in {neg : Bool} (s : Seen K g L a xs) (hx : flatV x = true) (hf : xs.all flatV = true) (c : C (.bl (if neg then !inV x xs else inV x xs)) L) : Wp g L (rIn K neg x (.ref a)) C :=
  .now (fun H _ z q => ⟨a, xs, rfl, .inl (s.at_ H z), hx, hf, q⟩) c
theorem inV_ints {m : Int} : ∀ {xs : List Int}, inV (.int m) (xs.map V.int) = decide (m ∈ xs)
  | [] => by simp [inV]
  | x :: r => by
    have ih := inV_ints (m := m) (xs := r)
    unfold inV at *
    rw [List.map_cons, List.any_cons, ih]
    by_cases e : m = x
    · subst e
      simp [eqV]
    · have : (x == m) = false := by simp; omega
      simp [eqV, e]
      omega
theorem flat_ints {xs : List Int} : (xs.map V.int).all flatV = true := by
  rw [List.all_eq_true]
  intro v hv
  obtain ⟨n, _, rfl⟩ := List.mem_map.mp hv
  rfl
theorem wr_inI {m : Int} {ns : List Int} (s : Seen K g L a (ns.map V.int)) (c : C (.bl (decide (m ∈ ns))) L) : Wp g L (rIn K false (.int m) (.ref a)) C :=
  wr_in s rfl flat_ints (by rw [inV_ints]; exact c)
theorem wr_notinI {m : Int} {ns : List Int} (s : Seen K g L a (ns.map V.int)) (c : C (.bl (!decide (m ∈ ns))) L) : Wp g L (rIn K true (.int m) (.ref a)) C :=
  wr_in s rfl flat_ints (by rw [inV_ints]; exact c)
theorem wr_cat {a2 : Addr} {ys : List V} {b1 b2 : Bool} (i j : Nat) (h1 : L[i]? = some (a, .ob (.lst xs), b1)) (h2 : L[j]? = some (a2, .ob (.lst ys), b2)) (hl : xs.length + ys.length ≤ 100000)
    (c : ∀ p, C (.ref p) (L ++ [(p, .ob (.lst (xs ++ ys)), true)])) : Wp g L (rCat (.ref a) (.ref a2)) C :=
  fun H z Q q => ⟨a, a2, xs, ys, rfl, rfl, z.get h1, z.get h2, Nat.le_trans hl (by decide), fun p hp => q _ _ _ (c p) (z.upd_new hp)⟩
-- slices
variable {O : Option Int → Led → Prop} {tl th : TO}
theorem wo_none (h : O none L) : Wp g L (tNoPart σ) O := .now (fun _ _ _ q => q) h
theorem wo_some (h : Wp g L (te σ) fun v L1 => ∃ k, v = .int k ∧ O (some k) L1) : Wp g L (tPart te σ) O := fun H z Q q => h H z _ fun v L1 H1 ⟨k, e, c⟩ z1 => ⟨k, e, q _ L1 H1 c z1⟩
theorem wp_sl {r : V → Option Int → Option Int → Hp → VK → Prop} (h : Wp g L (te σ) fun x L1 => Wp g L1 (tl σ) fun l L2 => Wp g L2 (th σ) fun u L3 => Wp g L3 (r x l u) C) : Wp g L (tSl r te tl th σ) C :=
  fun H z Q q => h H z _ fun x L1 H1 h1 z1 => h1 H1 z1 _ fun l L2 H2 h2 z2 => h2 H2 z2 _ fun u L3 H3 h3 z3 => h3 H3 z3 Q q
theorem wr_slL {lo hi : Option Int} (s : Seen K g L a xs) (c : ∀ p, C (.ref p) (L ++ [(p, .ob (.lst (cutV xs lo hi)), true)])) : Wp g L (rSlL K (.ref a) lo hi) C :=
  fun H z Q q => ⟨a, xs, rfl, s.at_ H z, fun p hp => q _ _ _ (c p) (z.upd_new hp)⟩
/-- a built-in type's method -/
theorem wp_bm {T : String} {r : V → List V → Hp → VK → Prop} (h : Wp g L (te σ) fun x L1 => (∀ H, At g L1 H → tyV K T x H) ∧ Wp g L1 (tr σ) fun vs L2 => Wp g L2 (r x vs) C) : Wp g L (tBM K T r te tr σ) C :=
  fun H z Q q => h H z _ fun x L1 H1 ⟨k, h1⟩ z1 => ⟨k H1 z1, h1 H1 z1 _ fun vs L2 H2 h2 z2 => h2 H2 z2 Q q⟩
theorem ty_list {bo : Bool} (i : Nat) (h : L[i]? = some (a, .ob (.lst xs), bo)) : ∀ H, At g L H → tyV K "list" (.ref a) H := fun H z => .inl ⟨rfl, _, SqL.of (z.get h)⟩
theorem wr_app {e : Ent} (i : Nat) (h : L[i]? = some (a, .ob (.lst xs), true)) (hl : xs.length < 100000) (c : C .non (L.set i (a, .ob (.lst (xs ++ [x])), true))) : Wp g L (rAppend (.ref a) [x]) C :=
  fun H z Q q => ⟨a, xs, x, rfl, rfl, z.get h, Nat.lt_of_lt_of_le hl (by decide), q _ _ _ c (z.upd_chg h)⟩
end

/-! ### statements -/
variable {K : Ks} {t1 t2 : TS} {cT : TT}
theorem ws_seq (h : Ws g L t1 σ { K with nx := fun σ' L' => Ws g L' t2 σ' K }) : Ws g L (tSeq t1 t2) σ K :=
  fun H z D e => h H z { D with nx := t2 D } ⟨fun σ' L' H' k z' => k H' z' D e, e.rt, e.bk, e.ct⟩
theorem ws_eq {σ' : St} (e : σ = σ') (h : Ws g L t1 σ' K) : Ws g L t1 σ K := e ▸ h
theorem ws_nf {σ' : St} {L' : Led} (e : σ = σ') (e2 : L = L') (h : Ws g L' t1 σ' K) : Ws g L t1 σ K := e ▸ e2 ▸ h
theorem ws_next (h : K.nx σ L) : Ws g L tNext σ K := fun H z D e => e.nx _ _ _ h z
theorem ws_brk (h : K.bk σ L) : Ws g L tBreak σ K := fun H z D e => e.bk _ _ _ h z
theorem ws_cont (h : K.ct σ L) : Ws g L tCont σ K := fun H z D e => e.ct _ _ _ h z
theorem ws_drop (h : Wp g L (te σ) fun _ L1 => K.nx σ L1) : Ws g L (tDrop te) σ K := fun H z D e => h H z _ fun _ L1 H1 k z1 => e.nx _ _ _ k z1
theorem ws_ret (h : Wp g L (te σ) fun v L1 => K.rt v L1) : Ws g L (tRet te) σ K := fun H z D e => h H z _ fun v L1 H1 k z1 => e.rt _ _ _ k z1
theorem ws_retN (h : K.rt .non L) : Ws g L tRetN σ K := fun H z D e => e.rt _ _ _ h z
theorem ws_if (h : Wp g L (cT σ) fun b L1 => if b = true then Ws g L1 t1 σ K else Ws g L1 t2 σ K) : Ws g L (tIfS cT t1 t2) σ K :=
  fun H z D e => h H z _ fun b L1 H1 k z1 => by
    cases b with
    | true => exact (show Ws g L1 t1 σ K from k) H1 z1 D e
    | false => exact (show Ws g L1 t2 σ K from k) H1 z1 D e
theorem ws_never (h : False) : Ws g L tNever σ K := h.elim
/-- targets -/
def Wg (g : Gr) (L : Led) (t : TG) (v : V) (σ : St) (N : St → Led → Prop) : Prop := ∀ H, At g L H → ∀ Q : St → Hp → Prop, (∀ σ' L' H', N σ' L' → At g L' H' → Q σ' H') → t v σ H Q
def Wgs (g : Gr) (L : Led) (t : TGs) (vs : List V) (σ : St) (N : St → Led → Prop) : Prop := ∀ H, At g L H → ∀ Q : St → Hp → Prop, (∀ σ' L' H', N σ' L' → At g L' H' → Q σ' H') → t vs σ H Q
variable {N : St → Led → Prop}
theorem wg_name (h : N (σ.set i (some v)) L) : Wg g L (gName i) v σ N := fun H z Q q => q _ _ _ h z
theorem wgs_nil (h : N σ L) : Wgs g L gNil [] σ N := fun H z Q q => ⟨rfl, q _ _ _ h z⟩
theorem wgs_cons {tg : TG} {u : TGs} {vs : List V} (h : Wg g L tg v σ fun σ1 L1 => Wgs g L1 u vs σ1 N) : Wgs g L (gCons tg u) (v :: vs) σ N := fun H z Q q => ⟨v, vs, rfl, h H z _ fun σ1 L1 H1 k z1 => k H1 z1 Q q⟩
theorem wg_tup {Kf : PySem.W.Frag} {n : Nat} {u : TGs} {a : Addr} {xs : List V} (s : SeenT Kf g L a xs) (hn : xs.length = n) (h : Wgs g L u xs σ N) : Wg g L (gTup Kf n u) (.ref a) σ N := fun H z Q q => ⟨a, xs, rfl, s.at_ H z, hn, h H z Q q⟩
theorem ws_asg {tg : TG} (h : Wp g L (te σ) fun v L1 => Wg g L1 tg v σ K.nx) : Ws g L (tAsg te tg) σ K := fun H z D e => h H z _ fun v L1 H1 k z1 => k H1 z1 _ e.nx
theorem ws_set (h : Wp g L (te σ) fun v L1 => K.nx (σ.set i (some v)) L1) : Ws g L (tAsg te (gName i)) σ K := ws_asg (h.mono fun _ _ k => wg_name k)
theorem ws_par (h : Wp g L (tr σ) fun vs L1 => ∃ v w, vs = [v, w] ∧ K.nx ((σ.set i (some v)).set j (some w)) L1) : Ws g L (tPar i j tr) σ K :=
  fun H z D e => h H z _ fun vs L1 H1 ⟨v, w, e1, k⟩ z1 => ⟨v, w, e1, e.nx _ _ _ k z1⟩
theorem wg_sub {to ti : TE} {r : TSet} (h : Wp g L (to σ) fun o L1 => Wp g L1 (ti σ) fun k L2 => Wp g L2 (fun H (Q : Unit → Hp → Prop) => r o k v H (Q ())) fun _ L3 => N σ L3) : Wg g L (gSub to ti r) v σ N :=
  fun H z Q q => h H z _ fun o L1 H1 h1 z1 => h1 H1 z1 _ fun k L2 H2 h2 z2 => h2 H2 z2 (fun _ H3 => Q σ H3) fun _ L3 H3 n z3 => q _ _ _ n z3
theorem wr_setL {a : Addr} {xs : List V} {k : Int} {jj : Nat} {U : Unit → Led → Prop} (i : Nat) (h : L[i]? = some (a, .ob (.lst xs), true)) (hj : ixN xs.length k = some jj) (c : U () (L.set i (a, .ob (.lst (xs.set jj v)), true))) :
    Wp g L (fun H (Q : Unit → Hp → Prop) => rSetL (.ref a) (.int k) v H (Q ())) U := fun H z Q q => ⟨a, xs, k, jj, rfl, rfl, z.get h, hj, q () _ _ c (z.upd_chg h)⟩
/-- field stores -/
theorem ws_fld {Kf : PySem.W.Frag} {tv : TE} {C' : Addr} {f : Str} (i : Nat) (hc : Cls Kf C') (hn : NoAttr Kf C' f)
    (h : Wp g L (tv σ) fun y L1 => Wp g L1 (ta σ) fun x L2 => ∃ (a dx : Addr) (fs : List (Str × V)), x = .ref a ∧ L2[i]? = some (a, .ob (.ins C' dx fs), true) ∧ fs.length < 1000 ∧ L2.all (fun q => q.2.1.noI) = true ∧ K.nx σ (L2.set i (a, .ob (.ins C' dx (putF f y fs)), true))) : Ws g L (sFld Kf ta tv f) σ K :=
  fun H z D e => h H z _ fun y L1 H1 h1 z1 => h1 H1 z1 _ fun x L2 H2 ⟨a, dx, fs, e1, k, hl, hni, n⟩ z2 => ⟨a, C', dx, fs, e1, z2.get k, hc, hn, hl, e.nx _ _ _ n (z2.upd_fld k rfl hni)⟩
/-- while: a word I, a measure μ -/
theorem ws_while (I : St → Led → Prop) (μ : St → Nat) (h0 : I σ L)
    (hs : ∀ σ L, I σ L → Wp g L (cT σ) fun b L1 => if b = true then Ws g L1 t1 σ { K with nx := fun σ' L' => μ σ' < μ σ ∧ ∃ L2, L2 <+: L' ∧ I σ' L2, ct := fun σ' L' => μ σ' < μ σ ∧ ∃ L2, L2 <+: L' ∧ I σ' L2, bk := K.nx } else K.nx σ L1) :
    Ws g L (tWhile cT t1) σ K := fun H z D e => by
  refine ⟨fun m σ H => m = μ σ ∧ ∃ L, I σ L ∧ At g L H, ⟨_, rfl, L, h0, z⟩, ?_⟩
  rintro m σ H ⟨rfl, L, hI, z⟩
  refine hs σ L hI H z _ fun b L1 H1 k z1 => ?_
  cases b with
  | true =>
    have k : Ws g L1 t1 σ _ := k
    have kk : ∀ σ' L' H', (μ σ' < μ σ ∧ ∃ L2, L2 <+: L' ∧ I σ' L2) → At g L' H' → μ σ' < μ σ ∧ ∃ L, I σ' L ∧ At g L H' := fun σ' L' H' ⟨hm, L2, hp, hi⟩ z' => ⟨hm, L2, hi, z'.pre hp⟩
    exact ⟨fun σ' H' => μ σ' < μ σ ∧ ∃ L, I σ' L ∧ At g L H', fun σ' H' ⟨hm, q⟩ => ⟨_, hm, rfl, q⟩, k H1 z1 { D with nx := fun σ' H' => μ σ' < μ σ ∧ ∃ L, I σ' L ∧ At g L H', ct := fun σ' H' => μ σ' < μ σ ∧ ∃ L, I σ' L ∧ At g L H', bk := D.nx } ⟨kk, e.rt, e.nx, kk⟩⟩
  | false => exact e.nx _ _ _ k z1
/-- while: a word with its measure -/
theorem ws_whileN (I : Nat → St → Led → Prop) (h0 : ∃ m, I m σ L)
    (hs : ∀ m σ L, I m σ L → Wp g L (cT σ) fun b L1 => if b = true then Ws g L1 t1 σ { K with nx := fun σ' L' => ∃ m' L2, m' < m ∧ I m' σ' L2 ∧ L2 <+: L', ct := fun σ' L' => ∃ m' L2, m' < m ∧ I m' σ' L2 ∧ L2 <+: L', bk := K.nx } else K.nx σ L1) :
    Ws g L (tWhile cT t1) σ K := fun H z D e => by
  obtain ⟨m, h0⟩ := h0
  refine ⟨fun m σ H => ∃ L, I m σ L ∧ At g L H, ⟨m, L, h0, z⟩, ?_⟩
  rintro m σ H ⟨L, hI, z⟩
  refine hs m σ L hI H z _ fun b L1 H1 k z1 => ?_
  cases b with
  | true =>
    have k : Ws g L1 t1 σ _ := k
    have kk : ∀ σ' L' H', (∃ m' L2, m' < m ∧ I m' σ' L2 ∧ L2 <+: L') → At g L' H' → ∃ m', m' < m ∧ ∃ L, I m' σ' L ∧ At g L H' := fun σ' L' H' ⟨m', L2, hm, hi, hp⟩ z' => ⟨m', hm, L2, hi, z'.pre hp⟩
    exact ⟨fun σ' H' => ∃ m', m' < m ∧ ∃ L, I m' σ' L ∧ At g L H', fun σ' H' q => q, k H1 z1 { D with nx := fun σ' H' => ∃ m', m' < m ∧ ∃ L, I m' σ' L ∧ At g L H', ct := fun σ' H' => ∃ m', m' < m ∧ ∃ L, I m' σ' L ∧ At g L H', bk := D.nx } ⟨kk, e.rt, e.nx, kk⟩⟩
  | false => exact e.nx _ _ _ k z1
/-- for over range(n), range(lo, hi) -/
def WFor (g : Gr) (L : Led) (J : It) (tg : TG) (tb : TS) (σ : St) (K : Ks) : Prop := ∀ H, At g L H → ∀ D, Eo g K D → ∃ W : Nat → Nat → St → Hp → Prop, (∃ m, W 0 m σ H) ∧ ∀ i m σ H, W i m σ H →
  (J.stop i H ∧ D.nx σ H) ∨ (J.go i H ∧ ∃ N : St → Hp → Prop, (∀ σ' H', N σ' H' → ∃ m', m' < m ∧ W (i + 1) m' σ' H') ∧ ∀ x H', J.yld i H x H' → tg x σ H' fun σ2 H2 => tb { D with nx := N, ct := N, bk := D.nx } σ2 H2)
theorem ws_for {wi : TI} {tg : TG} {tb : TS} (h : Wp g L (wi σ) fun J L1 => WFor g L1 J tg tb σ K) : Ws g L (tFor wi tg tb) σ K := fun H z D e => h H z _ fun J L1 H1 k z1 => k H1 z1 D e
variable {T : It → Led → Prop}
theorem wi_list {Kf : PySem.W.Frag} {tl : TE} (h : Wp g L (tl σ) fun x L1 => ∃ (a : Addr) (xs : List V), x = .ref a ∧ Seen Kf g L1 a xs ∧ T (Itl Kf a) L1) : Wp g L (iList Kf tl σ) T :=
  fun H z Q q => h H z _ fun x L1 H1 ⟨a, xs, e, s, k⟩ z1 => ⟨a, e, ⟨xs, s.at_ H1 z1⟩, q _ _ _ k z1⟩
theorem wi_rng1 (h : Wp g L (tr σ) fun vs L1 => ∃ n : Int, vs = [.int n] ∧ -1000000 ≤ n ∧ n ≤ 1000000 ∧ T (Itr 0 n.toNat) L1) : Wp g L (iRng1 tr σ) T :=
  fun H z Q q => h H z _ fun vs L1 H1 ⟨n, e, h0, h1, k⟩ z1 => ⟨n, e, by omega, by omega, q _ _ _ k z1⟩
theorem wi_rngW1 (h : Wp g L (tr σ) fun vs L1 => ∃ n : Int, vs = [.int n] ∧ T (Itr 0 n.toNat) L1) : Wp g L (iRngW1 tr σ) T :=
  fun H z Q q => h H z _ fun vs L1 H1 ⟨n, e, k⟩ z1 => ⟨n, e, q _ _ _ k z1⟩
theorem wi_rngW2 (h : Wp g L (tr σ) fun vs L1 => ∃ m n : Int, vs = [.int m, .int n] ∧ T (Itr m (n - m).toNat) L1) : Wp g L (iRngW tr σ) T :=
  fun H z Q q => h H z _ fun vs L1 H1 ⟨m, n, e, k⟩ z1 => ⟨m, n, e, q _ _ _ k z1⟩
theorem wi_rng2 (h : Wp g L (tr σ) fun vs L1 => ∃ m n : Int, vs = [.int m, .int n] ∧ (-(2 ^ 62) ≤ m ∧ m < 2 ^ 62 ∧ -(2 ^ 62) ≤ n ∧ n < 2 ^ 62) ∧ T (Itr m (n - m).toNat) L1) : Wp g L (iRng2 tr σ) T :=
  fun H z Q q => h H z _ fun vs L1 H1 ⟨m, n, e, hb, k⟩ z1 => ⟨m, n, e, hb, q _ _ _ k z1⟩
/-- the turns of a for over a list that stands still -/
theorem wf_list {Kf : PySem.W.Frag} {a : Addr} {xs : List V} {tg : TG} {tb : TS} (s0 : Seen Kf g L a xs) (I : Nat → St → Led → Prop) (h0 : I 0 σ L) (hl : ∀ i σ L, i ≤ xs.length → I i σ L → Seen Kf g L a xs)
    (hs : ∀ i x σ L, xs[i]? = some x → I i σ L → Wg g L tg x σ fun σ2 L2 => Ws g L2 tb σ2 { K with nx := fun σ' L' => ∃ L3, I (i + 1) σ' L3 ∧ L3 <+: L', ct := fun σ' L' => ∃ L3, I (i + 1) σ' L3 ∧ L3 <+: L', bk := K.nx })
    (hd : ∀ σ L, I xs.length σ L → K.nx σ L) : WFor g L (Itl Kf a) tg tb σ K := fun H z D e => by
  refine for_list (K := Kf) (a := a) (xs := xs) (fun i σ H => ∃ L, I i σ L ∧ At g L H) ⟨L, h0, z⟩ (fun i σ H hi ⟨L, k, z⟩ => (hl i σ L hi k).at_ H z) ?_ fun σ H ⟨L, k, z⟩ => e.nx _ _ _ (hd σ L k) z
  rintro i x σ H hx ⟨L, k, z⟩
  refine hs i x σ L hx k H z _ fun σ2 L2 H2 k2 z2 => ?_
  have kk : ∀ σ' L' H', (∃ L3, I (i + 1) σ' L3 ∧ L3 <+: L') → At g L' H' → ∃ L, I (i + 1) σ' L ∧ At g L H' := fun σ' L' H' ⟨L3, hi, hp⟩ z' => ⟨L3, hi, z'.pre hp⟩
  exact k2 H2 z2 _ ⟨kk, e.rt, e.nx, kk⟩
theorem wf_rng {lo : Int} {n : Nat} {tg : TG} {tb : TS} (I : Nat → St → Led → Prop) (h0 : I 0 σ L)
    (hs : ∀ i σ L, i < n → I i σ L → Wg g L tg (.int (lo + i)) σ fun σ2 L2 => Ws g L2 tb σ2 { K with nx := fun σ' L' => ∃ L3, I (i + 1) σ' L3 ∧ L3 <+: L', ct := fun σ' L' => ∃ L3, I (i + 1) σ' L3 ∧ L3 <+: L', bk := K.nx })
    (hd : ∀ σ L, I n σ L → K.nx σ L) : WFor g L (Itr lo n) tg tb σ K := fun H z D e => by
  refine for_range (lo := lo) (n := n) (fun i σ H => ∃ L, I i σ L ∧ At g L H) ⟨L, h0, z⟩ ?_ fun σ H ⟨L, k, z⟩ => e.nx _ _ _ (hd σ L k) z
  rintro i σ H hx ⟨L, k, z⟩
  refine hs i σ L hx k H z _ fun σ2 L2 H2 k2 z2 => ?_
  have kk : ∀ σ' L' H', (∃ L3, I (i + 1) σ' L3 ∧ L3 <+: L') → At g L' H' → ∃ L, I (i + 1) σ' L ∧ At g L H' := fun σ' L' H' ⟨L3, hi, hp⟩ z' => ⟨L3, hi, z'.pre hp⟩
  exact k2 H2 z2 _ ⟨kk, e.rt, e.nx, kk⟩
end

/-! ### loops by the slots that they store; the ledger as at the start, a source's draws counted -/
def putA : St → List (Option (Option V)) → St
  | s :: σ, none :: ms => s :: putA σ ms
  | _ :: σ, some v :: ms => v :: putA σ ms
  | σ, _ => σ
section
variable {g : Gr} {L : Led} {σ : St} {K : Ks} {t1 : TS} {cT : TT} {tg : TG} {tb : TS}
theorem wf_rngS {lo : Int} {n : Nat} (I : Nat → List (Option (Option V)) → Prop) (h0 : ∃ vs, σ = putA σ vs ∧ I 0 vs)
    (hs : ∀ (i : Nat) (x : Int) vs, i < n → x = lo + i → I i vs → Wg g L tg (.int x) (putA σ vs) fun σ2 L2 => Ws g L2 tb σ2 { K with nx := fun σ' L' => ∃ vs', (σ' = putA σ vs' ∧ I (i + 1) vs') ∧ L <+: L', ct := fun σ' L' => ∃ vs', (σ' = putA σ vs' ∧ I (i + 1) vs') ∧ L <+: L', bk := K.nx })
    (hd : ∀ vs, I n vs → K.nx (putA σ vs) L) : WFor g L (Itr lo n) tg tb σ K := by
  refine wf_rng (fun i σ' L' => ∃ vs, (σ' = putA σ vs ∧ I i vs) ∧ L' = L) (by obtain ⟨vs, h1, h2⟩ := h0; exact ⟨vs, ⟨h1, h2⟩, rfl⟩) ?_ ?_
  · rintro i σ' L' hi ⟨vs, ⟨rfl, k⟩, rfl⟩
    intro H z Q q
    refine hs i _ vs hi rfl k H z Q fun σ2 L2 H2 k2 z2 => q σ2 L2 H2 ?_ z2
    intro H3 z3 D e
    have kk : ∀ σ' L'' H', (∃ vs', (σ' = putA σ vs' ∧ I (i + 1) vs') ∧ L' <+: L'') → At g L'' H' → D.nx σ' H' := fun σ' L'' H' ⟨vs', h1, h2⟩ z' => e.nx σ' L'' H' ⟨L', ⟨vs', h1, rfl⟩, h2⟩ z'
    have kc : ∀ σ' L'' H', (∃ vs', (σ' = putA σ vs' ∧ I (i + 1) vs') ∧ L' <+: L'') → At g L'' H' → D.ct σ' H' := fun σ' L'' H' ⟨vs', h1, h2⟩ z' => e.ct σ' L'' H' ⟨L', ⟨vs', h1, rfl⟩, h2⟩ z'
    exact k2 H3 z3 D ⟨kk, e.rt, e.bk, kc⟩
  · rintro σ' L' ⟨vs, ⟨rfl, k⟩, rfl⟩
    exact hd vs k
theorem wf_listS {Kf : PySem.W.Frag} {a : Addr} {xs : List V} (s0 : Seen Kf g L a xs) (I : Nat → List (Option (Option V)) → Prop) (h0 : ∃ vs, σ = putA σ vs ∧ I 0 vs)
    (hs : ∀ i x vs, xs[i]? = some x → I i vs → Wg g L tg x (putA σ vs) fun σ2 L2 => Ws g L2 tb σ2 { K with nx := fun σ' L' => ∃ vs', (σ' = putA σ vs' ∧ I (i + 1) vs') ∧ L <+: L', ct := fun σ' L' => ∃ vs', (σ' = putA σ vs' ∧ I (i + 1) vs') ∧ L <+: L', bk := K.nx })
    (hd : ∀ vs, I xs.length vs → K.nx (putA σ vs) L) : WFor g L (Itl Kf a) tg tb σ K := by
  refine wf_list s0 (fun i σ' L' => ∃ vs, (σ' = putA σ vs ∧ I i vs) ∧ L' = L) (by obtain ⟨vs, h1, h2⟩ := h0; exact ⟨vs, ⟨h1, h2⟩, rfl⟩) (fun i σ' L' _ ⟨vs, _, e⟩ => e ▸ s0) ?_ ?_
  · rintro i x σ' L' hi ⟨vs, ⟨rfl, k⟩, rfl⟩
    intro H z Q q
    refine hs i x vs hi k H z Q fun σ2 L2 H2 k2 z2 => q σ2 L2 H2 ?_ z2
    intro H3 z3 D e
    have kk : ∀ σ' L'' H', (∃ vs', (σ' = putA σ vs' ∧ I (i + 1) vs') ∧ L' <+: L'') → At g L'' H' → D.nx σ' H' := fun σ' L'' H' ⟨vs', h1, h2⟩ z' => e.nx σ' L'' H' ⟨L', ⟨vs', h1, rfl⟩, h2⟩ z'
    have kc : ∀ σ' L'' H', (∃ vs', (σ' = putA σ vs' ∧ I (i + 1) vs') ∧ L' <+: L'') → At g L'' H' → D.ct σ' H' := fun σ' L'' H' ⟨vs', h1, h2⟩ z' => e.ct σ' L'' H' ⟨L', ⟨vs', h1, rfl⟩, h2⟩ z'
    exact k2 H3 z3 D ⟨kk, e.rt, e.bk, kc⟩
  · rintro σ' L' ⟨vs, ⟨rfl, k⟩, rfl⟩
    exact hd vs k
theorem ws_whileS (I : Nat → List (Option (Option V)) → Prop) (h0 : ∃ m vs, σ = putA σ vs ∧ I m vs)
    (hs : ∀ m vs, I m vs → Wp g L (cT (putA σ vs)) fun b L1 => if b = true then Ws g L1 t1 (putA σ vs) { K with nx := fun σ' L' => ∃ m' vs', m' < m ∧ (σ' = putA σ vs' ∧ I m' vs') ∧ L <+: L', ct := fun σ' L' => ∃ m' vs', m' < m ∧ (σ' = putA σ vs' ∧ I m' vs') ∧ L <+: L', bk := K.nx } else K.nx (putA σ vs) L1) :
    Ws g L (tWhile cT t1) σ K := by
  obtain ⟨m0, vs0, h1, h2⟩ := h0
  refine ws_whileN (fun m σ' L' => ∃ vs, (σ' = putA σ vs ∧ I m vs) ∧ L' = L) ⟨m0, vs0, ⟨h1, h2⟩, rfl⟩ ?_
  rintro m σ' L' ⟨vs, ⟨rfl, k⟩, rfl⟩
  refine (hs m vs k).mono fun b L1 q => ?_
  cases b with
  | true =>
    have q : Ws g L1 t1 _ _ := q
    show Ws g L1 t1 _ _
    intro H3 z3 D e
    have kk : ∀ σ' L'' H', (∃ m' vs', m' < m ∧ (σ' = putA σ vs' ∧ I m' vs') ∧ L' <+: L'') → At g L'' H' → D.nx σ' H' := fun σ' L'' H' ⟨m', vs', h0, h1, h2⟩ z' => e.nx σ' L'' H' ⟨m', L', h0, ⟨vs', h1, rfl⟩, h2⟩ z'
    have kc : ∀ σ' L'' H', (∃ m' vs', m' < m ∧ (σ' = putA σ vs' ∧ I m' vs') ∧ L' <+: L'') → At g L'' H' → D.ct σ' H' := fun σ' L'' H' ⟨m', vs', h0, h1, h2⟩ z' => e.ct σ' L'' H' ⟨m', L', h0, ⟨vs', h1, rfl⟩, h2⟩ z'
    exact q H3 z3 D ⟨kk, e.rt, e.bk, kc⟩
  | false => exact q
end
/-! ### small words for tests -/
theorem ifB {b : Bool} {A B : Prop} (h1 : b = true → A) (h2 : b = false → B) : if b = true then A else B := by
  cases b with
  | true => exact h1 rfl
  | false => exact (show B from h2 rfl)
theorem ifD {c : Prop} [Decidable c] {A B : Prop} (h1 : c → A) (h2 : ¬ c → B) : if decide c = true then A else B := by
  by_cases h : c
  · rw [decide_eq_true h]
    exact h1 h
  · rw [decide_eq_false h]
    exact (show B from h2 h)
theorem ifN {c : Prop} [Decidable c] {A B : Prop} (h1 : ¬ c → A) (h2 : c → B) : if (!decide c) = true then A else B := by
  by_cases h : c
  · rw [decide_eq_true h]
    exact (show B from h2 h)
  · rw [decide_eq_false h]
    exact (show A from h1 h)
theorem ifT {b : Bool} {A B : Prop} (e : b = true) (h : A) : if b = true then A else B := by
  rw [if_pos e]
  exact h
theorem ifF {b : Bool} {A B : Prop} (e : b = false) (h : B) : if b = true then A else B := by
  rw [e]
  exact (show B from h)
section
variable {g : Gr} {L : Led} {σ : St} {B : Bool → Led → Prop} {t u : TT} {C : V → Led → Prop} {ta tb : TE} 
theorem andK {P Q : Bool → Prop} {b2 : Bool} (h1 : P b2) (h2 : Q b2) : ∃ b2, P b2 ∧ Q b2 := ⟨b2, h1, h2⟩
/-- and, or whose second part is known -/
theorem wt_andP (h : Wp g L (t σ) fun b L1 => ∃ b2, (b = true → Wp g L1 (u σ) fun c L2 => c = b2 ∧ L2 = L1) ∧ B (b && b2) L1) : Wp g L (tAnd t u σ) B := wt_and (h.mono fun b L1 ⟨b2, k⟩ => by
  cases b with
  | true =>
    refine (k.1 rfl).mono fun c L2 z => ?_
    rw [z.1, z.2]
    exact k.2
  | false => exact k.2)
theorem wt_orP (h : Wp g L (t σ) fun b L1 => ∃ b2, (b = false → Wp g L1 (u σ) fun c L2 => c = b2 ∧ L2 = L1) ∧ B (b || b2) L1) : Wp g L (tOr t u σ) B := wt_or (h.mono fun b L1 ⟨b2, k⟩ => by
  cases b with
  | true => exact k.2
  | false =>
    refine (k.1 rfl).mono fun c L2 z => ?_
    rw [z.1, z.2]
    exact k.2)
theorem wp_andVP (h : Wp g L (ta σ) fun x L1 => ∃ b, x = .bl b ∧ ∃ b2, (b = true → Wp g L1 (tb σ) fun c L2 => c = .bl b2 ∧ L2 = L1) ∧ C (.bl (b && b2)) L1) : Wp g L (tAndV ta tb σ) C := wp_andV (h.mono fun x L1 ⟨b, e, b2, k⟩ => ⟨b, e, by
  cases b with
  | true =>
    refine (k.1 rfl).mono fun c L2 z => ?_
    rw [z.1, z.2]
    exact k.2
  | false => exact k.2⟩)
theorem wp_orVP (h : Wp g L (ta σ) fun x L1 => ∃ b, x = .bl b ∧ ∃ b2, (b = false → Wp g L1 (tb σ) fun c L2 => c = .bl b2 ∧ L2 = L1) ∧ C (.bl (b || b2)) L1) : Wp g L (tOrV ta tb σ) C := wp_orV (h.mono fun x L1 ⟨b, e, b2, k⟩ => ⟨b, e, by
  cases b with
  | true => exact k.2
  | false =>
    refine (k.1 rfl).mono fun c L2 z => ?_
    rw [z.1, z.2]
    exact k.2⟩)
theorem wp_chainP {r r' : R2} {tc : TE} (h : Wp g L (ta σ) fun x L1 => Wp g L1 (tb σ) fun y L2 => Wp g L2 (r x y) fun z L3 => ∃ b, z = .bl b ∧ ∃ b2, (b = true → Wp g L3 (tc σ) fun w L4 => Wp g L4 (r' y w) fun c L5 => c = .bl b2 ∧ L5 = L3) ∧ C (.bl (b && b2)) L3) : Wp g L (tChain r r' ta tb tc σ) C :=
  wp_chain (h.mono fun x L1 k1 => k1.mono fun y L2 k2 => k2.mono fun z L3 ⟨b, e, b2, k⟩ => ⟨b, e, by
    cases b with
    | true =>
      refine (k.1 rfl).mono fun w L4 k4 => k4.mono fun c L5 z => ?_
      rw [z.1, z.2]
      exact k.2
    | false => exact k.2⟩)
end

/-! ### defs of the top, methods, classes -/
structure TopFn (K : PySem.W.Frag) (mg : Str → Option Value) (x : Str) (st : Stmt) : Prop where
  ex : ∃ f fd, mg x = some (.ref f) ∧ Fun K x x st f fd
structure MethFn (K : PySem.W.Frag) (C : Addr) (m qual : Str) (st : Stmt) : Prop where
  ex : ∃ f fd, Meth K C m f ∧ Fun K m qual st f fd
structure InitFn (K : PySem.W.Frag) (mg : Str → Option Value) (x : Str) (C : Addr) (qual : Str) (st : Stmt) : Prop where
  mg : mg x = some (.ref C)
  ex : ∃ f fd, Mk K C f ∧ Fun K "__init__" qual st f fd
structure Ok (P : Program) (w : World) (K : PySem.W.Frag) (mg : Str → Option Value) (base : Heap) (k : Nat) (x : Str) (st : Stmt) (ps : List Str) (sp : Sp) : Prop where
  ex : ∃ f fd, mg x = some (.ref f) ∧ Fun K x x st f fd ∧ Binds K fd ps [] ∧ FnOk P w K mg base CX0 k f fd ps sp
structure OkM (P : Program) (w : World) (K : PySem.W.Frag) (mg : Str → Option Value) (base : Heap) (C : Addr) (k : Nat) (m qual : Str) (st : Stmt) (ps : List Str) (sp : Sp) : Prop where
  ex : ∃ f fd, Meth K C m f ∧ Fun K m qual st f fd ∧ Binds K fd ps [] ∧ FnOk P w K mg base CX0 k f fd ps sp
structure OkC (P : Program) (w : World) (K : PySem.W.Frag) (mg : Str → Option Value) (base : Heap) (x : Str) (C : Addr) (k : Nat) (qual : Str) (st : Stmt) (ps : List Str) (sp : Sp) : Prop where
  ex : ∃ f fd, mg x = some (.ref C) ∧ Mk K C f ∧ Fun K "__init__" qual st f fd ∧ Binds K fd ps [] ∧ FnOk P w K mg base CX0 k f fd ps sp
section
variable {P : Program} {w : World} {K : PySem.W.Frag} {mg : Str → Option Value} {base : Heap}
abbrev BodyOk (P : Program) (w : World) (K : PySem.W.Frag) (mg : Str → Option Value) (base : Heap) (qual : Str) (st : Stmt) (N : List Str) (k : Nat) (sp : Sp) : Prop :=
  ∀ (f : Addr) (cdv : Value) (A : Around) (outer : List Env) (s : Shared) (H : Hp) (vs : List V) (Q : VK) (E : XK), Room k (A.deeper (PyProof.Rows.envOfC qual (defScope st) s.heap.objs.size f cdv)) → sp vs H Q E →
      ∃ t, PSs (cxOf CX0 P w K mg base N qual (defScope st) f cdv A outer s H E).nox (defBody st) t ∧ t { nx := fun _ H' => Q .non H', rt := Q } (start N vs) H
theorem Ok.of {x : Str} {st : Stmt} {N ps : List Str} {k : Nat} {sp : Sp} (T : TopFn K mg x st) (S : FnScope N ps (defScope st))
    (hb : ∀ (kV doc pm : Value) (an : Option Addr) (cdv ct : Value) (us : List Value), us.length = ps.length → bindArgs (PySem.W.fnOf x x (defArgs st) (defBody st) (defScope st) .none kV doc pm an cdv ct) ⟨us, []⟩ = pure (ps.zip us))
    (len : ∀ vs H Q E, sp vs H Q E → vs.length = ps.length) (body : BodyOk P w K mg base x st N k sp) : Ok P w K mg base (k + 1) x st ps sp := by
  obtain ⟨f, fd, h1, F⟩ := T.ex
  exact ⟨f, fd, h1, F, F.binds hb, F.ok S len (body f)⟩
theorem OkM.of {C : Addr} {m qual : Str} {st : Stmt} {N ps : List Str} {k : Nat} {sp : Sp} (T : MethFn K C m qual st) (S : FnScope N ps (defScope st))
    (hb : ∀ (kV doc pm : Value) (an : Option Addr) (cdv ct : Value) (us : List Value), us.length = ps.length → bindArgs (PySem.W.fnOf m qual (defArgs st) (defBody st) (defScope st) .none kV doc pm an cdv ct) ⟨us, []⟩ = pure (ps.zip us))
    (len : ∀ vs H Q E, sp vs H Q E → vs.length = ps.length) (body : BodyOk P w K mg base qual st N k sp) : OkM P w K mg base C (k + 1) m qual st ps sp := by
  obtain ⟨f, fd, h1, F⟩ := T.ex
  exact ⟨f, fd, h1, F, F.binds hb, F.ok S len (body f)⟩
theorem OkC.of {C : Addr} {x qual : Str} {st : Stmt} {N ps : List Str} {k : Nat} {sp : Sp} (T : InitFn K mg x C qual st) (S : FnScope N ps (defScope st))
    (hb : ∀ (kV doc pm : Value) (an : Option Addr) (cdv ct : Value) (us : List Value), us.length = ps.length → bindArgs (PySem.W.fnOf "__init__" qual (defArgs st) (defBody st) (defScope st) .none kV doc pm an cdv ct) ⟨us, []⟩ = pure (ps.zip us))
    (len : ∀ vs H Q E, sp vs H Q E → vs.length = ps.length) (body : BodyOk P w K mg base qual st N k sp) : OkC P w K mg base x C (k + 1) qual st ps sp := by
  obtain ⟨f, fd, h1, F⟩ := T.ex
  exact ⟨f, fd, T.mg, h1, F, F.binds hb, F.ok S len (body f)⟩
/-- what the top has written -/
theorem topFn_mk {h : Heap} {x : Str} {st : Stmt} {f : Addr} {oc : Value} {od an : Option Addr} {osl : Array (Option Value)} {kV doc pm cdv ct : Value} (X : K.In h) (G : h.Ns mainGlobals mg) (a : PySem.W.nsIn K mainGlobals x = some (some (.ref f)))
    (l : K.lookup f = some ⟨oc, od, .func (PySem.W.fnOf x x (defArgs st) (defBody st) (defScope st) .none kV doc pm an cdv ct), osl⟩) (c : PySem.W.codeIn K cdv x = true) (k : PySem.W.keepIn K (.ref f) = true) : TopFn K mg x st :=
  ⟨f, _, PySem.W.mg_of X G a, fun_mk l c k⟩
theorem methFn_mk {C : Addr} {m qual : Str} {st : Stmt} {f : Addr} {oc : Value} {od an : Option Addr} {osl : Array (Option Value)} {kV doc pm cdv ct : Value} (a : PySem.W.findIn K (.ref C) m = some (some (.ref f))) (i : PySem.W.isFn K (.ref f) = true)
    (l : K.lookup f = some ⟨oc, od, .func (PySem.W.fnOf m qual (defArgs st) (defBody st) (defScope st) .none kV doc pm an cdv ct), osl⟩) (c : PySem.W.codeIn K cdv qual = true) (k : PySem.W.keepIn K (.ref f) = true) : MethFn K C m qual st :=
  ⟨f, _, ⟨a, i, k⟩, fun_mk l c k⟩
theorem initFn_mk {x : Str} {C : Addr} {qual : Str} {st : Stmt} {f : Addr} {oc : Value} {od an : Option Addr} {osl : Array (Option Value)} {kV doc pm cdv ct : Value} (hm : mg x = some (.ref C)) (mk : PySem.W.makesIn K C = true) (kc : PySem.W.keepIn K (.ref C) = true)
    (a : PySem.W.findIn K (.ref C) "__init__" = some (some (.ref f))) (i : PySem.W.isFn K (.ref f) = true)
    (l : K.lookup f = some ⟨oc, od, .func (PySem.W.fnOf "__init__" qual (defArgs st) (defBody st) (defScope st) .none kV doc pm an cdv ct), osl⟩) (c : PySem.W.codeIn K cdv qual = true) (k : PySem.W.keepIn K (.ref f) = true) : InitFn K mg x C qual st :=
  ⟨hm, f, _, ⟨mk, a, i, kc⟩, fun_mk l c k⟩
end
-- the rules of a derivation
section
variable {X : Cx} {k : Nat} {x m : Str} {ps : List Str} {sp : Sp} {p pos apos : Pos} {e o : Expr} {es : List Expr} {t : TA} {ta : TE} {C : Addr} {st : Stmt} {qual : Str}
theorem pe_own (O : Ok X.prog X.w X.K X.mg X.base k x st ps sp) (hr : Room k X.A) (hg : Gl X x) (ha : PA X (e :: es) t) (hdb : (x == ("__debug__" : Str)) = false := by decide) (he : starEach (e :: es) X.env = (false, eval e X.env) :: starEach es X.env := by rfl) (hpl : (backTo pos (starEach es X.env)).any (·.1) = false := by rfl) :
    PE X (.Call (.Name x p) (e :: es) [] pos) (tCall sp [] E0 t) := by
  obtain ⟨f, fd, h1, h2, h3, F⟩ := O.ex
  exact pe_call F hr hg h1 h2.kp h3 .nil pass0 ha hdb he hpl
theorem pe_own0 (O : Ok X.prog X.w X.K X.mg X.base k x st ps sp) (hr : Room k X.A) (hg : Gl X x) (hdb : (x == ("__debug__" : Str)) = false := by decide) : PE X (.Call (.Name x p) [] [] pos) (tCall sp [] E0 tNil) := by
  obtain ⟨f, fd, h1, h2, h3, F⟩ := O.ex
  exact pe_call0 F hr hg h1 h2.kp h3 .nil pass0 hdb
theorem pe_om {pl : Sem Bool} (c : Cls X.K C) (O : OkM X.prog X.w X.K X.mg X.base C k m qual st ps sp) (hr : Room k X.A) (ho : PE X o ta) (ha : PA X (e :: es) t)
    (hst : starEach (e :: es) X.env = (false, eval e X.env) :: starEach es X.env := by rfl) (hpl : (backTo pos (starEach es X.env)).any (·.1) = false := by rfl)
    (ht : eval (.Call (.Attribute o m apos) (e :: es) [] pos) X.env = (do
      let ov ← eval o X.env
      standAt apos.atName
      let (f, first) ← holding [ov] (getMethod ov m pl)
      callWith pos f first (backTo pos (starEach (e :: es) X.env)) (backToKw pos (keywordEach [] X.env))) := by rfl) :
    PE X (.Call (.Attribute o m apos) (e :: es) [] pos) (tMeth C m sp [] E0 ta t) := by
  obtain ⟨f, fd, h1, _, h3, F⟩ := O.ex
  exact pe_meth ho c h1 F hr h3 .nil pass0 ha hst hpl ht
theorem pe_om0 {pl : Sem Bool} (c : Cls X.K C) (O : OkM X.prog X.w X.K X.mg X.base C k m qual st ps sp) (hr : Room k X.A) (ho : PE X o ta)
    (ht : eval (.Call (.Attribute o m apos) [] [] pos) X.env = (do
      let ov ← eval o X.env
      standAt apos.atName
      let (f, first) ← holding [ov] (getMethod ov m pl)
      callWith pos f first (backTo pos (starEach [] X.env)) (backToKw pos (keywordEach [] X.env))) := by rfl) :
    PE X (.Call (.Attribute o m apos) [] [] pos) (tMeth C m sp [] E0 ta tNil) := by
  obtain ⟨f, fd, h1, _, h3, F⟩ := O.ex
  exact pe_meth0 ho c h1 F hr h3 .nil pass0 ht
theorem pe_oc (O : OkC X.prog X.w X.K X.mg X.base x C k qual st ps sp) (hr : Room (k + 1) X.A) (hg : Gl X x) (ha : PA X (e :: es) t) (hdb : (x == ("__debug__" : Str)) = false := by decide) (he : starEach (e :: es) X.env = (false, eval e X.env) :: starEach es X.env := by rfl) (hpl : (backTo pos (starEach es X.env)).any (·.1) = false := by rfl) :
    PE X (.Call (.Name x p) (e :: es) [] pos) (tMake C sp [] E0 t) := by
  obtain ⟨f, fd, h1, h2, _, h3, F⟩ := O.ex
  exact pe_make h2 F hr hg h1 h3 .nil pass0 ha hdb he hpl
/-! calls by keywords alone: perm tells for each parameter the place of its keyword -/
def pick {α : Type} (perm : List Nat) (ws : List α) : List α := perm.filterMap fun i => ws[i]?
theorem pick_vals {zs : List V} {ws : List Value} (r : Vals zs ws) : ∀ perm : List Nat, Vals (pick perm zs) (pick perm ws)
  | [] => .nil
  | i :: q => by
    have ih := pick_vals r q
    unfold pick at *
    rw [List.filterMap_cons, List.filterMap_cons]
    cases h : zs[i]? with
    | none =>
      rw [r.none_of h]
      exact ih
    | some x =>
      obtain ⟨u, h1, h2⟩ := r.get h
      rw [h1]
      exact .cons h2 ih
def tKw (sp : Sp) (perm : List Nat) (m : Nat) (E : XK) (tk : TA) : TE := fun σ H Q => tk σ H fun zs H1 => zs.length = m ∧ sp (pick perm zs) H1 Q E
def tKwM (C : Addr) (m : Str) (sp : Sp) (perm : List Nat) (n : Nat) (E : XK) (ta : TE) (tk : TA) : TE := fun σ H Q => ta σ H fun x H1 => ∃ a dx fs, x = .ref a ∧ H1 a = some (.ins C dx fs) ∧ fs.lookup m = none ∧ tk σ H1 fun zs H2 => zs.length = n ∧ sp (.ref a :: pick perm zs) H2 Q E
def tKwC (C : Addr) (sp : Sp) (perm : List Nat) (n : Nat) (E : XK) (tk : TA) : TE := fun σ H Q => tk σ H fun zs H1 => zs.length = n ∧ ∀ x dx, H1 x = none → H1 dx = none → dx ≠ x →
  sp (.ref x :: pick perm zs) (upd (upd H1 dx (.own x)) x (.ins C dx [])) (fun v H2 => v = .non ∧ Q (.ref x) H2) E
variable {kws : List Keyword} {tk : TA} {ks : List Str}
theorem pe_kw (perm : List Nat) (O : Ok X.prog X.w X.K X.mg X.base k x st ps sp) (hr : Room k X.A) (hg : Gl X x) (hkw : PK X kws tk)
    (hb : ∀ (kV doc pm : Value) (an : Option Addr) (cdv ct : Value) (ws : List Value), ws.length = ks.length → bindArgs (PySem.W.fnOf x x (defArgs st) (defBody st) (defScope st) .none kV doc pm an cdv ct) ⟨[], ks.zip ws⟩ = pure (ps.zip (pick perm ws)))
    (hall : (backToKw pos (keywordEach kws X.env)).all (·.1.isSome) = true := by rfl) (hks : (backToKw pos (keywordEach kws X.env)).filterMap (·.1) = ks := by rfl) (hdb : (x == ("__debug__" : Str)) = false := by decide)
    (hpl : ((backTo pos (starEach [] X.env)).any (·.1) || (backToKw pos (keywordEach kws X.env)).any (·.1.isNone)) = false := by rfl) : PE X (.Call (.Name x p) [] kws pos) (tKw sp perm ks.length E0 tk) := by
  obtain ⟨f, fd, h1, h2, h3, F⟩ := O.ex
  have kb : KBn X.K fd ps 0 ks (fun us ws => us ++ pick perm ws) (fun vs zs => vs ++ pick perm zs) := by
    obtain ⟨oc, od, kV, doc, pm, an, cdv, ct, osl, rfl, lk, hcd⟩ := h2.ex
    refine ⟨fun s us ws _ l1 l2 => ?_, fun r1 r2 => Vals.append r1 (pick_vals r2 perm)⟩
    have e : us = [] := List.length_eq_zero_iff.mp l1
    subst e
    exact .of_eq (hb kV doc pm an cdv ct ws l2)
  refine ⟨fun pins s σ H Q I h => ?_⟩
  refine wpAny_Call_Name_kw (ld_glob I hg h1 ?_ hdb)
  refine PySem.W.callWith_KW0 (h₀ := X.base) I.ok.mod.kin h2.kp hall (thn (hkw.run pos pins s σ H _ I h) fun ws s2 ⟨zs, H2, I2, rz, l2, q2⟩ => ⟨I2.kIn, ?_⟩) hpl
  rw [hks]
  exact run_fnN (us := []) (vs := []) F hr kb pass0 I2 .nil rz rfl l2 q2
theorem pe_kwM {pl : Sem Bool} (perm : List Nat) (c : Cls X.K C) (O : OkM X.prog X.w X.K X.mg X.base C k m qual st ps sp) (hr : Room k X.A) (ho : PE X o ta) (hkw : PK X kws tk)
    (hb : ∀ (kV doc pm : Value) (an : Option Addr) (cdv ct : Value) (u : Value) (ws : List Value), ws.length = ks.length → bindArgs (PySem.W.fnOf m qual (defArgs st) (defBody st) (defScope st) .none kV doc pm an cdv ct) ⟨[u], ks.zip ws⟩ = pure (ps.zip (u :: pick perm ws)))
    (hall : (backToKw pos (keywordEach kws X.env)).all (·.1.isSome) = true := by rfl) (hks : (backToKw pos (keywordEach kws X.env)).filterMap (·.1) = ks := by rfl)
    (hpl : ((backTo pos (starEach [] X.env)).any (·.1) || (backToKw pos (keywordEach kws X.env)).any (·.1.isNone)) = false := by rfl)
    (ht : eval (.Call (.Attribute o m apos) [] kws pos) X.env = (do
      let ov ← eval o X.env
      standAt apos.atName
      let (f, first) ← holding [ov] (getMethod ov m pl)
      callWith pos f first (backTo pos (starEach [] X.env)) (backToKw pos (keywordEach kws X.env))) := by rfl) : PE X (.Call (.Attribute o m apos) [] kws pos) (tKwM C m sp perm ks.length E0 ta tk) := by
  obtain ⟨f, fd, h1, h2, h3, F⟩ := O.ex
  have kb : KBn X.K fd ps 1 ks (fun us ws => us ++ pick perm ws) (fun vs zs => vs ++ pick perm zs) := by
    obtain ⟨oc, od, kV, doc, pm, an, cdv, ct, osl, rfl, lk, hcd⟩ := h2.ex
    refine ⟨fun s us ws _ l1 l2 => ?_, fun r1 r2 => Vals.append r1 (pick_vals r2 perm)⟩
    match us, l1 with
    | [u], _ => exact .of_eq (hb kV doc pm an cdv ct u ws l2)
  refine ⟨fun pins s σ H Q I h => ?_⟩
  refine PySem.W.methodCall_KW (pl := pl) (thn (ho.run pins s σ H _ I h) fun u s1 ⟨y, H1, I1, rx, a, dx, fs, ex, ea, l, q⟩ => ?_) ht
  subst ex
  obtain rfl : u = Value.ref a := rx
  refine getmeth_ok I1 ea c h1 l ?_
  refine PySem.W.callWith_KW0 (first := [.ref a]) (h₀ := X.base) I.ok.mod.kin h1.kp hall (thn (hkw.run pos pins s1 σ H1 _ I1 q) fun ws s2 ⟨zs, H2, I2, rz, l2, q2⟩ => ⟨I2.kIn, ?_⟩) hpl
  rw [hks]
  exact run_fnN (us := [.ref a]) (vs := [.ref a]) F hr kb pass0 I2 (.cons rfl .nil) rz rfl l2 q2
theorem pe_kwC (perm : List Nat) (O : OkC X.prog X.w X.K X.mg X.base x C k qual st ps sp) (hr : Room (k + 1) X.A) (hg : Gl X x) (hkw : PK X kws tk)
    (hb : ∀ (kV doc pm : Value) (an : Option Addr) (cdv ct : Value) (u : Value) (ws : List Value), ws.length = ks.length → bindArgs (PySem.W.fnOf "__init__" qual (defArgs st) (defBody st) (defScope st) .none kV doc pm an cdv ct) ⟨[u], ks.zip ws⟩ = pure (ps.zip (u :: pick perm ws)))
    (hall : (backToKw pos (keywordEach kws X.env)).all (·.1.isSome) = true := by rfl) (hks : (backToKw pos (keywordEach kws X.env)).filterMap (·.1) = ks := by rfl) (hdb : (x == ("__debug__" : Str)) = false := by decide)
    (hpl : ((backTo pos (starEach [] X.env)).any (·.1) || (backToKw pos (keywordEach kws X.env)).any (·.1.isNone)) = false := by rfl) : PE X (.Call (.Name x p) [] kws pos) (tKwC C sp perm ks.length E0 tk) := by
  obtain ⟨f, fd, h1, M, h2, h3, F⟩ := O.ex
  have kb : KBn X.K fd ps (0 + 1) ks (fun us ws => us ++ pick perm ws) (fun vs zs => vs ++ pick perm zs) := by
    obtain ⟨oc, od, kV, doc, pm, an, cdv, ct, osl, rfl, lk, hcd⟩ := h2.ex
    refine ⟨fun s us ws _ l1 l2 => ?_, fun r1 r2 => Vals.append r1 (pick_vals r2 perm)⟩
    match us, l1 with
    | [u], _ => exact .of_eq (hb kV doc pm an cdv ct u ws l2)
  refine ⟨fun pins s σ H Q I h => ?_⟩
  refine wpAny_Call_Name_kw (ld_glob I hg h1 ?_ hdb)
  refine PySem.W.callWith_KW0 (h₀ := X.base) I.ok.mod.kin M.kp hall (thn (hkw.run pos pins s σ H _ I h) fun ws s2 ⟨zs, H2, I2, rz, l2, q2⟩ => ⟨I2.kIn, ?_⟩) hpl
  rw [hks]
  exact run_makeN (us := []) (vs := []) M F hr kb pass0 I2 .nil rz rfl l2 q2
theorem wp_kw {g : Gr} {L : Led} {σ : St} {D : V → Led → Prop} {perm : List Nat} {n : Nat} {E : XK} (h : Wp g L (tk σ) fun zs L1 => zs.length = n ∧ Wp g L1 (fun H Q => sp (pick perm zs) H Q E) D) : Wp g L (tKw sp perm n E tk σ) D :=
  fun H z Q q => h H z _ fun zs L1 H1 ⟨e, k⟩ z1 => ⟨e, k H1 z1 Q q⟩
theorem wp_kwM {g : Gr} {L : Led} {σ : St} {D : V → Led → Prop} {perm : List Nat} {n : Nat} {E : XK} (i : Nat)
    (h : Wp g L (ta σ) fun x L1 => ∃ (a dx : Addr) (fs : List (Str × V)) (bo : Bool), x = .ref a ∧ L1[i]? = some (a, .ob (.ins C dx fs), bo) ∧ fs.lookup m = none ∧ Wp g L1 (tk σ) fun zs L2 => zs.length = n ∧ Wp g L2 (fun H Q => sp (.ref a :: pick perm zs) H Q E) D) : Wp g L (tKwM C m sp perm n E ta tk σ) D :=
  fun H a' Q q => h H a' _ fun x L1 H1 ⟨a, dx, fs, bo, e, h1, h2, h3⟩ a1 => by
    subst e
    exact ⟨a, dx, fs, rfl, a1.get h1, h2, h3 H1 a1 _ fun zs L2 H2 ⟨e, k2⟩ a2 => ⟨e, k2 H2 a2 Q q⟩⟩
theorem pe_const {n : Int} (hg : Gl X x) (hm : ∃ t, X.mg x = some (.int n t)) (hd : (x == ("__debug__" : Str)) = false := by decide) : PE X (.Name x pos) (tC (.int n)) := by
  obtain ⟨t, h⟩ := hm
  exact pe_glob hg h ⟨t, rfl⟩ hd
theorem pe_tyint (hg : Gl X "int") (hm : X.mg "int" = none) : PE X (.Name "int" pos) (tC (.ty "int")) := pe_bltn hg hm (by decide +kernel) rfl
theorem pe_tybool (hg : Gl X "bool") (hm : X.mg "bool" = none) : PE X (.Name "bool" pos) (tC (.ty "bool")) := pe_bltn hg hm (by decide +kernel) rfl
end
/-! ### from a ledger to a promise -/
section
variable {g : Gr} {L : Led} {H : Hp} {a : Addr} {e : Ent} {o : HO} {b : Bool} {t : TS} {σ : St} {K : Ks} {D : Ends}
theorem run_ws (h : Ws g L t σ K) (z : At g L H) (e : Eo g K D) : t D σ H := h H z D e
theorem at_nil {mu : Addr → Prop} : At ⟨H, mu⟩ [] H := ⟨fun _ _ h _ => h, (fun _ h => nomatch h), (fun _ h => nomatch h), .nil⟩
theorem at_cons (z : At g L H) (h : H a = some o) (he : e.In H o) (hn : a ∉ L.map (·.1)) (ho : b = true → (g.H0 a = none ∨ g.mu a)) : At g ((a, e, b) :: L) H := by
  refine ⟨z.old, fun q hq => ?_, fun q hq hb => ?_, ?_⟩
  · rcases List.mem_cons.mp hq with r | r
    · subst r
      exact ⟨o, h, he⟩
    · exact z.led q r
  · rcases List.mem_cons.mp hq with r | r
    · subst r
      exact ho hb
    · exact z.own q r hb
  · rw [List.pairwise_cons]
    exact ⟨fun q hq ee => absurd (List.mem_map.mpr ⟨q, hq, ee.symm⟩) hn, z.nd⟩
theorem at_one {mu : Addr → Prop} (h : H a = some o) : At ⟨H, mu⟩ [(a, .ob o, false)] H := at_cons at_nil h rfl (by simp) (by simp)
/-- one that is only read, before others that are only read -/
theorem at_consF (z : At g L H) (h : H a = some o) (he : e.In H o) (hn : ∀ q ∈ L, q.2.2 = false) : At g ((a, e, false) :: L) H := by
  refine ⟨z.old, fun q hq => ?_, fun q hq hb => ?_, ?_⟩
  · rcases List.mem_cons.mp hq with r | r
    · subst r
      exact ⟨o, h, he⟩
    · exact z.led q r
  · rcases List.mem_cons.mp hq with r | r
    · subst r
      cases hb
    · exact z.own q r hb
  · rw [List.pairwise_cons]
    exact ⟨fun q hq _ => .inr ⟨rfl, hn q hq⟩, z.nd⟩
theorem at_two {mu : Addr → Prop} {a2 : Addr} {o2 : HO} (h : H a = some o) (h2 : H a2 = some o2) (n : a ≠ a2) : At ⟨H, mu⟩ [(a, .ob o, false), (a2, .ob o2, false)] H := at_cons (at_one h2) h rfl (by simpa using n) (by simp)
theorem At.since {H0 : Hp} (z : At ⟨H0, fun _ => False⟩ L H) : Same H0 H := fun b o h => z.old b o h (fun q => q)
/-- a value that is told -/
def kV (R : V → Prop) : Ks := { nx := fun _ _ => R .non, rt := fun v _ => R v }
theorem eo_V {H0 : Hp} {R : V → Prop} {Q : VK} (h : ∀ v H', R v → Same H0 H' → Q v H') : Eo ⟨H0, fun _ => False⟩ (kV R) { nx := fun _ H' => Q .non H', rt := Q } :=
  ⟨fun σ L H k z => h _ _ k z.since, fun v L H k z => h _ _ k z.since, fun _ _ _ k _ => k.elim, fun _ _ _ k _ => k.elim⟩
/-- None, or a number that is told -/
def kO (A : Prop) (R : Int → Prop) : Ks := { nx := fun _ _ => A, rt := fun v _ => (v = .non ∧ A) ∨ ∃ n, v = .int n ∧ R n }
theorem eo_O {H0 : Hp} {A : Prop} {R : Int → Prop} {Q : VK} (h1 : A → ∀ H', Same H0 H' → Q .non H') (h2 : ∀ n, R n → ∀ H', Same H0 H' → Q (.int n) H') : Eo ⟨H0, fun _ => False⟩ (kO A R) { nx := fun _ H' => Q .non H', rt := Q } :=
  ⟨fun σ L H k z => h1 k _ z.since, fun v L H k z => by
    rcases k with ⟨e, k⟩ | ⟨n, e, k⟩
    · subst e
      exact h1 k _ z.since
    · subst e
      exact h2 n k _ z.since, fun _ _ _ k _ => k.elim, fun _ _ _ k _ => k.elim⟩
/-- a new object, told by a relation -/
def kR (R : HO → Prop) : Ks := { nx := fun _ _ => False, rt := fun v L => ∃ (p : Addr) (i : Nat) (o : HO), v = .ref p ∧ L[i]? = some (p, Ent.ob o, true) ∧ R o }
theorem eo_R {H0 : Hp} {R : HO → Prop} {Q : VK} (h : ∀ p H' o, R o → H0 p = none → Same H0 H' → H' p = some o → Q (.ref p) H') : Eo ⟨H0, fun _ => False⟩ (kR R) { nx := fun _ H' => Q .non H', rt := Q } :=
  ⟨fun _ _ _ k _ => k.elim, fun v L H ⟨p, i, o, e, k, r⟩ z => by
    subst e
    refine h p H o r ?_ z.since (z.get k)
    rcases z.own _ (List.mem_of_getElem? k) rfl with q | q
    · exact q
    · exact q.elim, fun _ _ _ k _ => k.elim, fun _ _ _ k _ => k.elim⟩
/-- what is at a place, by an entry -/
def EntAt (e : Ent) (H : Hp) (a : Addr) : Prop := ∃ o, H a = some o ∧ e.In H o
/-- all but one place -/
def Exc (a : Addr) (H H' : Hp) : Prop := ∀ c o, H c = some o → c ≠ a → H' c = some o
theorem At.draw {i : Nat} {e' : Ent} {H' : Hp} (z : At g L H) (k : L[i]? = some (a, e, true)) (s : Exc a H H') (h : EntAt e' H' a) (hmv : e.mov2 = true := by rfl) : At g (L.set i (a, e', true)) H' := by
  obtain ⟨o, h1, h2⟩ := h
  exact z.chg k s h1 h2 hmv
/-- a value, one place changed -/
def kM (a : Addr) (e : Ent) (i : Nat) (R : V → Prop) : Ks := { nx := fun _ _ => False, rt := fun v L => R v ∧ L[i]? = some (a, e, true) }
theorem eo_M {H0 : Hp} {a : Addr} {e : Ent} {i : Nat} {R : V → Prop} {Q : VK} (h : ∀ v H', R v → EntAt e H' a → Exc a H0 H' → Q v H') : Eo ⟨H0, fun c => c = a⟩ (kM a e i R) { nx := fun _ H' => Q .non H', rt := Q } :=
  ⟨fun _ _ _ k _ => k.elim, fun v L H ⟨r, k⟩ z => h v H r (z.look k) fun c o h hn => z.old c o h hn, fun _ _ _ k _ => k.elim, fun _ _ _ k _ => k.elim⟩
/-- a value; a place whose object is written out is told by an entry -/
def kS (a : Addr) (e : Ent) (R : V → Prop) : Ks := { nx := fun _ _ => False, rt := fun v L => R v ∧ ∃ (i : Nat) (o : HO), L[i]? = some (a, Ent.ob o, true) ∧ e.Is o }
theorem eo_S {H0 : Hp} {a : Addr} {e : Ent} {R : V → Prop} {Q : VK} (h : ∀ v H', R v → EntAt e H' a → Exc a H0 H' → Q v H') : Eo ⟨H0, fun c => c = a⟩ (kS a e R) { nx := fun _ H' => Q .non H', rt := Q } :=
  ⟨fun _ _ _ k _ => k.elim, fun v L H ⟨r, i, o, k, he⟩ z => h v H r ⟨o, z.get k, Ent.in_of he⟩ fun c o h hn => z.old c o h hn, fun _ _ _ k _ => k.elim, fun _ _ _ k _ => k.elim⟩
theorem At.ne {i j : Nat} {a2 : Addr} {e2 : Ent} {b2 : Bool} (z : At g L H) (h1 : L[i]? = some (a, e, b)) (h2 : L[j]? = some (a2, e2, b2)) (hij : i ≠ j) (m : e.mov = true ∨ e2.mov = true := by first | exact .inl rfl | exact .inr rfl) (o : b = true ∨ b2 = true := by first | exact .inl rfl | exact .inr rfl) : a ≠ a2 := nd_ne z.nd h1 h2 hij m o
/-- a tuple that stands there -/
theorem At.addT {r : List V} (z : At g L H) (h : H a = some (.tup r)) : At g (L ++ [(a, .ob (.tup r), false)]) H := by
  refine ⟨z.old, fun q hq => ?_, fun q hq hb => ?_, nd_app z.nd fun q hq e => ?_⟩
  · rcases List.mem_append.mp hq with hq | hq
    · exact z.led q hq
    · have e : q = (a, Ent.ob (.tup r), false) := by simpa using hq
      subst e
      exact ⟨_, h, rfl⟩
  · rcases List.mem_append.mp hq with hq | hq
    · exact z.own q hq hb
    · have e : q = (a, Ent.ob (.tup r), false) := by simpa using hq
      subst e
      cases hb
  · refine .inl ⟨?_, rfl⟩
    obtain ⟨o, h1, h2⟩ := z.led q hq
    rw [show q.1 = a from e, h] at h1
    have h1 := Option.some.inj h1
    subst h1
    cases hm : q.2.1.mov with
    | false => rfl
    | true => exact absurd rfl (Ent.mov_ne hm h2 r)
/-- an entry weakened -/
theorem At.weak {i : Nat} {e' : Ent} (z : At g L H) (k : L[i]? = some (a, e, b)) (h : ∀ H o, e.In H o → e'.In H o) (hmv : e.mov2 = true := by rfl) : At g (L.set i (a, e', b)) H := by
  refine ⟨z.old, fun q hq => ?_, fun q hq hb => ?_, nd_set z.nd k (Ent.mov2_mov hmv)⟩
  · rcases List.mem_or_eq_of_mem_set hq with r | r
    · exact z.led q r
    · subst r
      obtain ⟨o, h1, h2⟩ := z.look k
      exact ⟨o, h1, h H o h2⟩
  · rcases List.mem_or_eq_of_mem_set hq with r | r
    · exact z.own q r hb
    · subst r
      exact z.own (a, e, b) (List.mem_of_getElem? k) hb
theorem ws_weak {i : Nat} {e' : Ent} (k : L[i]? = some (a, e, b)) (h : ∀ H o, e.In H o → e'.In H o) (c : Ws g (L.set i (a, e', b)) t σ K) (hmv : e.mov2 = true := by rfl) : Ws g L t σ K := fun H z D eo => c H (z.weak k h hmv) D eo
/-- an entry opened -/
theorem ws_src {i n : Nat} (k : L[i]? = some (a, .src n, b)) (c : ∀ x y z : Int, 0 ≤ y → y < 2147483648 → 0 ≤ z → z ≤ (n : Int) → Ws g (L.set i (a, .ob (.lst [.int x, .int y, .int z]), b)) t σ K) : Ws g L t σ K := fun H z D eo => by
  obtain ⟨o, h1, x, y, zz, e, h2, h3, h4, h5⟩ := z.look k
  subst e
  refine c x y zz h2 h3 h4 h5 H ?_ D eo
  refine ⟨z.old, fun q hq => ?_, fun q hq hb => ?_, nd_set z.nd k rfl⟩
  · rcases List.mem_or_eq_of_mem_set hq with r | r
    · exact z.led q r
    · subst r
      exact ⟨_, h1, rfl⟩
  · rcases List.mem_or_eq_of_mem_set hq with r | r
    · exact z.own q r hb
    · subst r
      exact z.own (a, Ent.src n, b) (List.mem_of_getElem? k) hb
/-- a new object -/
def kN (o : HO) : Ks := { nx := fun _ _ => False, rt := fun v L => ∃ (p : Addr) (i : Nat), v = .ref p ∧ L[i]? = some (p, Ent.ob o, true) }
theorem eo_N {H0 : Hp} {o : HO} {Q : VK} (h : ∀ p H', H0 p = none → Same H0 H' → H' p = some o → Q (.ref p) H') : Eo ⟨H0, fun _ => False⟩ (kN o) { nx := fun _ H' => Q .non H', rt := Q } :=
  ⟨fun _ _ _ k _ => k.elim, fun v L H ⟨p, i, e, k⟩ z => by
    subst e
    refine h p H ?_ z.since (z.get k)
    rcases z.own _ (List.mem_of_getElem? k) rfl with q | q
    · exact q
    · exact q.elim, fun _ _ _ k _ => k.elim, fun _ _ _ k _ => k.elim⟩
/-- an int that a slot holds -/
def slotI (σ : St) (i : Nat) : Int := match σ[i]? with
  | some (some (.int n)) => n
  | _ => 0
end
section
variable {g : Gr} {L : Led} {σ : St} {K : Ks} {t1 : TS} {cT : TT} {tg : TG} {tb : TS}
/-- .. where each turn makes c draws from the source in place j -/
theorem src_le {n m : Nat} {H : Hp} {o : HO} (h : n ≤ m) (x : (Ent.src n).In H o) : (Ent.src m).In H o := by
  obtain ⟨x, y, zz, e1, e2, e3, e4, e5⟩ := x
  exact ⟨x, y, zz, e1, e2, e3, e4, by omega⟩
theorem well_le {n m : Nat} {H : Hp} {o : HO} (h : n ≤ m) (x : (Ent.well n).In H o) : (Ent.well m).In H o := by
  obtain ⟨x, y, zz, e1, e2, e3⟩ := x
  exact ⟨x, y, zz, e1, e2, by omega⟩
theorem wf_rngD (E : Nat → Ent) (hE : ∀ {n m : Nat} {H : Hp} {o : HO}, n ≤ m → (E n).In H o → (E m).In H o) {lo : Int} {n : Nat} (j c : Nat) {a : Addr} {n0 : Nat} (I : Nat → List (Option (Option V)) → Prop) (hj : L[j]? = some (a, E n0, true)) (h0 : ∃ vs, σ = putA σ vs ∧ I 0 vs)
    (hs : ∀ (i : Nat) (x : Int) vs, i < n → x = lo + i → I i vs → Wg g (L.set j (a, E (n0 + c * i), true)) tg (.int x) (putA σ vs) fun σ2 L2 => Ws g L2 tb σ2 { K with nx := fun σ' L' => ∃ vs', (σ' = putA σ vs' ∧ I (i + 1) vs') ∧ ∃ k, k ≤ c ∧ L.set j (a, E (n0 + c * i + k), true) <+: L', ct := fun σ' L' => ∃ vs', (σ' = putA σ vs' ∧ I (i + 1) vs') ∧ ∃ k, k ≤ c ∧ L.set j (a, E (n0 + c * i + k), true) <+: L', bk := K.nx })
    (hd : ∀ vs, I n vs → K.nx (putA σ vs) (L.set j (a, E (n0 + c * n), true))) (hEm : ∀ n, (E n).mov2 = true := by intro _; rfl) : WFor g L (Itr lo n) tg tb σ K := by
  have hjl : j < L.length := (List.getElem?_eq_some_iff.mp hj).1
  have hse : L.set j (a, E (n0 + c * 0), true) = L := by
    rw [Nat.mul_zero, Nat.add_zero]
    apply List.ext_getElem?
    intro q
    by_cases e : j = q
    · subst e
      rw [List.getElem?_set_self hjl, hj]
    · rw [List.getElem?_set_ne e]
  intro H z D e
  refine for_range (lo := lo) (n := n) (fun i σ' H' => ∃ vs, (σ' = putA σ vs ∧ I i vs) ∧ At g (L.set j (a, E (n0 + c * i), true)) H') (by obtain ⟨vs, h1, h2⟩ := h0; exact ⟨vs, ⟨h1, h2⟩, hse.symm ▸ z⟩) ?_ ?_
  · rintro i σ' H' hi ⟨vs, ⟨rfl, k⟩, z⟩
    refine hs i _ vs hi rfl k H' z _ fun σ2 L2 H2 k2 z2 => ?_
    have kk : ∀ σ' L'' H', (∃ vs', (σ' = putA σ vs' ∧ I (i + 1) vs') ∧ ∃ k, k ≤ c ∧ L.set j (a, E (n0 + c * i + k), true) <+: L'') → At g L'' H' → ∃ vs, (σ' = putA σ vs ∧ I (i + 1) vs) ∧ At g (L.set j (a, E (n0 + c * (i + 1)), true)) H' := fun σ' L'' H' ⟨vs', h1, kd, hk, h2⟩ z' => by
      refine ⟨vs', h1, ?_⟩
      have z3 := z'.pre h2
      have z4 := z3.weak (i := j) (e' := E (n0 + c * (i + 1))) (List.getElem?_set_self hjl) (fun _ o ho => hE (by have : c * (i + 1) = c * i + c := Nat.mul_succ c i; omega) ho) (hEm _)
      rw [List.set_set] at z4
      exact z4
    exact k2 H2 z2 _ ⟨kk, e.rt, e.nx, kk⟩
  · rintro σ' H' ⟨vs, ⟨rfl, k⟩, z⟩
    exact e.nx _ _ _ (hd vs k) z
end
/-! ### == and != of data -/
section
variable {K : PySem.W.Frag} {g : Gr} {L : Led} {C : V → Led → Prop} {x y : V} {d e : PyData} {a : Addr}
def DpA (K : PySem.W.Frag) (g : Gr) (L : Led) (x : V) (d : PyData) : Prop := ∀ H, At g L H → Dp K H x d
def DpS (K : PySem.W.Frag) (g : Gr) (L : Led) (xs : List V) (ds : List PyData) : Prop := ∀ H, At g L H → DpAll K H xs ds
theorem dp_non : DpA K g L .non .none := fun _ _ => .non
theorem dp_bl {b : Bool} : DpA K g L (.bl b) (.bool b) := fun _ _ => .bl b
theorem dp_int {n : Int} : DpA K g L (.int n) (.int n) := fun _ _ => .int n
theorem dp_str {z : Str} : DpA K g L (.str z) (.str z) := fun _ _ => .str z
theorem dps_nil : DpS K g L [] [] := fun _ _ => .nil
theorem dps_cons {xs : List V} {ds : List PyData} (h : DpA K g L x d) (t : DpS K g L xs ds) : DpS K g L (x :: xs) (d :: ds) := fun H z => .cons (h H z) (t H z)
theorem dp_tup {xs : List V} {ds : List PyData} (s : SeenT K g L a xs) (t : DpS K g L xs ds) : DpA K g L (.ref a) (.tuple ds) := fun H z => .tup (s.at_ H z) (t H z)
theorem dp_lst {xs : List V} {ds : List PyData} (s : Seen K g L a xs) (t : DpS K g L xs ds) : DpA K g L (.ref a) (.list ds) := fun H z => .lst (s.at_ H z) (t H z)
theorem dps_ints {ns : List Int} : DpS K g L (ns.map V.int) (ns.map PyData.int) := by
  induction ns with
  | nil => exact dps_nil
  | cons n r ih => exact dps_cons dp_int ih
theorem dp_ints {ns : List Int} (s : Seen K g L a (ns.map V.int)) : DpA K g L (.ref a) (.list (ns.map PyData.int)) := dp_lst s dps_ints
theorem eqvAll_ints : ∀ ms ns : List Int, PyData.eqvAll (ms.map PyData.int) (ns.map PyData.int) = decide (ms = ns)
  | [], [] => by simp [PyData.eqvAll]
  | [], _ :: _ => by simp [PyData.eqvAll]
  | _ :: _, [] => by simp [PyData.eqvAll]
  | m :: ms, n :: ns => by
    rw [List.map_cons, List.map_cons]
    unfold PyData.eqvAll
    rw [eqvAll_ints ms ns]
    unfold PyData.eqv
    rw [Bool.eq_iff_iff]
    simp
theorem eqv_ints (ms ns : List Int) : PyData.eqv (.list (ms.map PyData.int)) (.list (ns.map PyData.int)) = decide (ms = ns) := by
  unfold PyData.eqv
  exact eqvAll_ints ms ns
theorem wr_eqD (h1 : DpA K g L x d) (h2 : DpA K g L y e) (s1 : SeqAt.shaped d = true) (s2 : SeqAt.shaped e = true) (c : C (.bl (PyData.eqv d e)) L) : Wp g L (rEqD K x y) C := .now (fun H _ z q => ⟨d, e, h1 H z, h2 H z, s1, s2, q⟩) c
theorem wr_neD (h1 : DpA K g L x d) (h2 : DpA K g L y e) (s1 : SeqAt.shaped d = true) (s2 : SeqAt.shaped e = true) (c : C (.bl (!PyData.eqv d e)) L) : Wp g L (rNeD K x y) C := .now (fun H _ z q => ⟨d, e, h1 H z, h2 H z, s1, s2, q⟩) c
theorem wr_eqLI {a2 : Addr} {ms ns : List Int} (s1 : Seen K g L a (ms.map V.int)) (s2 : Seen K g L a2 (ns.map V.int)) (c : C (.bl (decide (ms = ns))) L) : Wp g L (rEqD K (.ref a) (.ref a2)) C :=
  wr_eqD (dp_ints s1) (dp_ints s2) (PySem.W.shaped_ints _) (PySem.W.shaped_ints _) (by rw [eqv_ints]; exact c)
theorem wr_neLI {a2 : Addr} {ms ns : List Int} (s1 : Seen K g L a (ms.map V.int)) (s2 : Seen K g L a2 (ns.map V.int)) (c : C (.bl (!decide (ms = ns))) L) : Wp g L (rNeD K (.ref a) (.ref a2)) C :=
  wr_neD (dp_ints s1) (dp_ints s2) (PySem.W.shaped_ints _) (PySem.W.shaped_ints _) (by rw [eqv_ints]; exact c)
/-- all, any of a list of bools; sorted, max, min, sum of ints -/
theorem wc_all {bs : List Bool} (s : Seen K g L a (bs.map V.bl)) (c : C (.bl (bs.all id)) L) : Wp g L (rAll K [.ref a]) C := .now (fun H _ z q => ⟨a, bs, rfl, s.at_ H z, q⟩) c
theorem wc_any {bs : List Bool} (s : Seen K g L a (bs.map V.bl)) (c : C (.bl (bs.any id)) L) : Wp g L (rAny K [.ref a]) C := .now (fun H _ z q => ⟨a, bs, rfl, s.at_ H z, q⟩) c
theorem wc_sum {ns : List Int} (s : Seen K g L a (ns.map V.int)) (c : C (.int ns.sum) L) : Wp g L (rSum K [.ref a]) C := .now (fun H _ z q => ⟨a, ns, rfl, s.at_ H z, q⟩) c
theorem wc_sorted {ns : List Int} (s : Seen K g L a (ns.map V.int)) (c : ∀ (ns' : List Int) (p : Addr), ns'.Perm ns → ns'.Pairwise (· ≤ ·) → C (.ref p) (L ++ [(p, .ob (.lst (ns'.map V.int)), true)])) : Wp g L (rSortedI K [.ref a]) C :=
  fun H z Q q => ⟨a, ns, rfl, s.at_ H z, fun ns' p h1 h2 hp => q _ _ _ (c ns' p h1 h2) (z.upd_new hp)⟩
theorem wc_maxL {ns : List Int} (s : Seen K g L a (ns.map V.int)) (h0 : 0 < ns.length) (c : ∀ m : Int, m ∈ ns → (∀ k ∈ ns, k ≤ m) → C (.int m) L) : Wp g L (rMax K [.ref a]) C :=
  fun H z Q q => ⟨a, ns, rfl, s.at_ H z, h0, fun m h1 h2 => q _ _ _ (c m h1 h2) z⟩
end
/-! ### comprehensions over ints whose element and test are functions of the item -/
section
variable {g : Gr} {L : Led} {σ : St} {C : V → Led → Prop} {tt : TT} {te : TE} {i : Nat}
def WLc (g : Gr) (L : Led) (J : It) (tg : TG) (tt : TT) (te : TE) (vs : List Nat) (σ : St) (C : V → Led → Prop) : Prop := ∀ H, At g L H → ∀ Q : VK, (∀ v L' H', C v L' → At g L' H' → Q v H') → ∀ D, H D = none → ∃ W : Nat → Nat → Hp → Prop, (∃ m, W 0 m (upd H D (.lst []))) ∧ ∀ i m H, W i m H →
  (J.stop i H ∧ Q (.ref D) H) ∨ (J.go i H ∧ ∃ Nx : Hp → Prop, (∀ H', Nx H' → ∃ m', m' < m ∧ W (i + 1) m' H') ∧ ∀ x H', J.yld i H x H' → tg x (wipe σ vs) H' fun σ2 H2 => wipe σ2 vs = wipe σ vs ∧ tt σ2 H2 fun b H3 =>
    if b = true then te σ2 H3 fun y H4 => ∃ acc, H4 D = some (.lst acc) ∧ acc.length < sizeLine ∧ Nx (upd H4 D (.lst (acc ++ [y]))) else Nx H3)
theorem wp_lc {wi : TI} {tg : TG} {vs : List Nat} (h : Wp g L (wi σ) fun J L1 => WLc g L1 J tg tt te vs σ C) : Wp g L (tLc wi tg tt te vs σ) C := fun H z Q q => h H z _ fun J L1 H1 k z1 => fun D hD => k H1 z1 Q q D hD
theorem wipe1 (σ : St) (i : Nat) (v : Option V) : wipe ((wipe σ [i]).set i v) [i] = wipe σ [i] := by
  show (((σ.set i none).set i v).set i none) = σ.set i none
  rw [List.set_set, List.set_set]
theorem filter_take_succ {α β : Type} (p : α → Bool) (f : α → β) {xs : List α} {k : Nat} {x : α} (h : xs[k]? = some x) : ((xs.take (k + 1)).filter p).map f = ((xs.take k).filter p).map f ++ (if p x = true then [f x] else []) := by
  rw [List.take_add_one, h]
  simp only [Option.toList, List.filter_append, List.map_append]
  congr 1
  rw [List.filter_cons]
  split <;> simp
/-- the ints lo, lo + 1, .. -/
def rngI (lo : Int) (n : Nat) : List Int := (List.range n).map fun (k : Nat) => lo + (k : Int)
theorem rngI_get {lo : Int} {n k : Nat} (h : k < n) : (rngI lo n)[k]? = some (lo + (k : Int)) := by
  unfold rngI
  rw [List.getElem?_map, List.getElem?_range h]
  rfl
theorem mem_rngI {lo x : Int} {n : Nat} : x ∈ rngI lo n ↔ lo ≤ x ∧ x < lo + (n : Int) := by
  unfold rngI
  rw [List.mem_map]
  constructor
  · rintro ⟨k, hk, rfl⟩
    have := List.mem_range.mp hk
    omega
  · rintro ⟨h1, h2⟩
    exact ⟨(x - lo).toNat, List.mem_range.mpr (by omega), by omega⟩
theorem rngI_len {lo : Int} {n : Nat} : (rngI lo n).length = n := by simp [rngI]
/-- one turn -/
abbrev LcTurn (g : Gr) (L : Led) (i : Nat) (tt : TT) (te : TE) (σ : St) (p : Int → Bool) (f : Int → V) (n : Int) : Prop := ∀ (D : Addr) (acc : List V), Wp g (L ++ [(D, .ob (.lst acc), true)]) (tt ((wipe σ [i]).set i (some (.int n)))) fun b L2 => b = p n ∧
  if b = true then Wp g L2 (te ((wipe σ [i]).set i (some (.int n)))) fun y L3 => y = f n ∧ (L ++ [(D, .ob (.lst acc), true)]) <+: L3 else (L ++ [(D, .ob (.lst acc), true)]) <+: L2
theorem lc_turn {p : Int → Bool} {f : Int → V} {n : Int} {D : Addr} {acc acc' : List V} {H : Hp} {Nx : Hp → Prop} (h : LcTurn g L i tt te σ p f n) (z : At g (L ++ [(D, .ob (.lst acc), true)]) H) (hl : acc.length < 100000)
    (e : acc' = acc ++ (if p n = true then [f n] else [])) (hN : ∀ H', At g (L ++ [(D, .ob (.lst acc'), true)]) H' → Nx H') :
    tt ((wipe σ [i]).set i (some (.int n))) H fun b H3 => if b = true then te ((wipe σ [i]).set i (some (.int n))) H3 fun y H4 => ∃ acc, H4 D = some (.lst acc) ∧ acc.length < sizeLine ∧ Nx (upd H4 D (.lst (acc ++ [y]))) else Nx H3 := by
  have hi : ∀ o : HO, (L ++ [(D, Ent.ob o, true)])[L.length]? = some (D, Ent.ob o, true) := fun o => by simp
  refine h D acc H z _ fun b L2 H2 ⟨eb, k⟩ z2 => ?_
  subst eb
  cases hp : p n with
  | true =>
    rw [hp] at k e
    have k : Wp g L2 _ _ := k
    refine k H2 z2 _ fun y L3 H3 ⟨ey, hpre⟩ z3 => ?_
    have z4 := z3.pre hpre
    refine ⟨acc, z4.get (hi _), Nat.lt_of_lt_of_le hl (by decide), hN _ ?_⟩
    have z5 := z4.upd_chg (o := .lst (acc ++ [y])) (hi _)
    rw [List.set_append_right _ _ (Nat.le_refl _), Nat.sub_self] at z5
    subst ey
    rw [e]
    exact z5
  | false =>
    rw [hp] at k e
    have k : _ <+: L2 := k
    have e2 : acc' = acc := by rw [e]; simp
    rw [e2] at hN
    exact hN _ (z2.pre k)
theorem lc_I {Kf : PySem.W.Frag} {a : Addr} {ns : List Int} (p : Int → Bool) (f : Int → V) (s : Seen Kf g L a (ns.map V.int)) (hl : ns.length ≤ 99999) (hs : ∀ n, n ∈ ns → LcTurn g L i tt te σ p f n)
    (c : ∀ D, C (.ref D) (L ++ [(D, .ob (.lst ((ns.filter p).map f)), true)])) : WLc g L (Itl Kf a) (gName i) tt te [i] σ C := fun H z Q q D hD => by
  have sub : ∀ {D o} {H : Hp}, At g (L ++ [(D, Ent.ob o, true)]) H → At g L H := fun z => z.pre ⟨_, rfl⟩
  refine lc_list (K := Kf) (a := a) (xs := ns.map V.int) (fun k H => At g (L ++ [(D, .ob (.lst (((ns.take k).filter p).map f)), true)]) H) (by simpa using z.upd_new hD) (fun k H _ z => s.at_ H (sub z)) (fun k x H hx z => ?_) fun H z => q _ _ _ (c D) ?_
  · rw [List.getElem?_map] at hx
    cases hn : ns[k]? with
    | none => rw [hn] at hx; cases hx
    | some n =>
      rw [hn] at hx
      have hx : V.int n = x := Option.some.inj hx
      subst hx
      refine ⟨wipe1 σ i _, ?_⟩
      refine lc_turn (hs n (List.mem_of_getElem? hn)) z ?_ (filter_take_succ p f hn) fun H' z' => z'
      have := List.length_filter_le p (ns.take k)
      have := List.length_take_le k ns
      rw [List.length_map]
      have h3 : (ns.take k).length ≤ ns.length := by simp; omega
      omega
  · rw [List.length_map, List.take_length] at z
    exact z
theorem lc_R {lo : Int} {n : Nat} (p : Int → Bool) (f : Int → V) (hl : n ≤ 99999) (hs : ∀ x, lo ≤ x → x < lo + (n : Int) → LcTurn g L i tt te σ p f x)
    (c : ∀ D, C (.ref D) (L ++ [(D, .ob (.lst (((rngI lo n).filter p).map f)), true)])) : WLc g L (Itr lo n) (gName i) tt te [i] σ C := fun H z Q q D hD => by
  refine lc_range (lo := lo) (n := n) (fun k H => At g (L ++ [(D, .ob (.lst ((((rngI lo n).take k).filter p).map f)), true)]) H) (by simpa using z.upd_new hD) (fun k H hk z => ?_) fun H z => q _ _ _ (c D) ?_
  · refine ⟨wipe1 σ i _, ?_⟩
    refine lc_turn (hs _ (by omega) (by omega)) z ?_ (filter_take_succ p f (rngI_get hk)) fun H' z' => z'
    have := List.length_filter_le p ((rngI lo n).take k)
    have h3 : ((rngI lo n).take k).length ≤ n := by simp [rngI]; omega
    rw [List.length_map]
    omega
  · rw [List.take_of_length_le (by rw [rngI_len]; exact Nat.le_refl _)] at z
    exact z
theorem lc_If {Kf : PySem.W.Frag} {a : Addr} {ns : List Int} (p : Int → Bool) (s : Seen Kf g L a (ns.map V.int)) (hl : ns.length ≤ 99999) (hs : ∀ n, n ∈ ns → LcTurn g L i tt te σ p V.int n)
    (c : ∀ D, C (.ref D) (L ++ [(D, .ob (.lst ((ns.filter p).map V.int)), true)])) : WLc g L (Itl Kf a) (gName i) tt te [i] σ C := lc_I p V.int s hl hs c
theorem lc_Rf {lo : Int} {n : Nat} (p : Int → Bool) (hl : n ≤ 99999) (hs : ∀ x, lo ≤ x → x < lo + (n : Int) → LcTurn g L i tt te σ p V.int x)
    (c : ∀ D, C (.ref D) (L ++ [(D, .ob (.lst (((rngI lo n).filter p).map V.int)), true)])) : WLc g L (Itr lo n) (gName i) tt te [i] σ C := lc_R p V.int hl hs c
theorem lc_It {α : Type} (T : α → V) {Kf : PySem.W.Frag} {a : Addr} {ns : List Int} (p : Int → Bool) (h : Int → α) (s : Seen Kf g L a (ns.map V.int)) (hl : ns.length ≤ 99999) (hs : ∀ n, n ∈ ns → LcTurn g L i tt te σ p (fun n => T (h n)) n)
    (c : ∀ D, C (.ref D) (L ++ [(D, .ob (.lst (((ns.filter p).map h).map T)), true)])) : WLc g L (Itl Kf a) (gName i) tt te [i] σ C := lc_I p (fun n => T (h n)) s hl hs fun D => by
  have e : (ns.filter p).map (fun n => T (h n)) = ((ns.filter p).map h).map T := by rw [List.map_map]; rfl
  rw [e]
  exact c D
theorem lc_Rt {α : Type} (T : α → V) {lo : Int} {n : Nat} (p : Int → Bool) (h : Int → α) (hl : n ≤ 99999) (hs : ∀ x, lo ≤ x → x < lo + (n : Int) → LcTurn g L i tt te σ p (fun n => T (h n)) x)
    (c : ∀ D, C (.ref D) (L ++ [(D, .ob (.lst ((((rngI lo n).filter p).map h).map T)), true)])) : WLc g L (Itr lo n) (gName i) tt te [i] σ C := lc_R p (fun n => T (h n)) hl hs fun D => by
  have e : ((rngI lo n).filter p).map (fun n => T (h n)) = (((rngI lo n).filter p).map h).map T := by rw [List.map_map]; rfl
  rw [e]
  exact c D
theorem lc_Im {α : Type} (T : α → V) {Kf : PySem.W.Frag} {a : Addr} {ns : List Int} (h : Int → α) (s : Seen Kf g L a (ns.map V.int)) (hl : ns.length ≤ 99999) (hs : ∀ n, n ∈ ns → LcTurn g L i tt te σ (fun _ => true) (fun n => T (h n)) n)
    (c : ∀ D, C (.ref D) (L ++ [(D, .ob (.lst ((ns.map h).map T)), true)])) : WLc g L (Itl Kf a) (gName i) tt te [i] σ C := lc_It T (fun _ => true) h s hl hs fun D => by
  rw [List.filter_eq_self.mpr (fun _ _ => rfl)]
  exact c D
theorem lc_Rm {α : Type} (T : α → V) {lo : Int} {n : Nat} (h : Int → α) (hl : n ≤ 99999) (hs : ∀ x, lo ≤ x → x < lo + (n : Int) → LcTurn g L i tt te σ (fun _ => true) (fun n => T (h n)) x)
    (c : ∀ D, C (.ref D) (L ++ [(D, .ob (.lst (((rngI lo n).map h).map T)), true)])) : WLc g L (Itr lo n) (gName i) tt te [i] σ C := lc_Rt T (fun _ => true) h hl hs fun D => by
  rw [List.filter_eq_self.mpr (fun _ _ => rfl)]
  exact c D
theorem ws_setLc {y : Nat} {wi : TI} {tg : TG} {vs : List Nat} {K : Ks} (h : Wp g L (wi σ) fun J L1 => WLc g L1 J tg tt te vs σ fun v L2 => K.nx (σ.set y (some v)) L2) : Ws g L (tAsg (tLc wi tg tt te vs) (gName y)) σ K := ws_set (wp_lc h)
end
/-! ### defs that draw from a source -/
section
variable {g : Gr} {L : Led} {H H' : Hp} {a p : Addr} {e : Ent} {o : HO} {b : Bool} {i : Nat}
theorem At.draw_new {e' : Ent} (z : At g L H) (k : L[i]? = some (a, e, true)) (s : Exc a H H') (h : EntAt e' H' a) (n : H p = none) (hp : H' p = some o) (hmv : e.mov2 = true := by rfl) : At g (L.set i (a, e', true) ++ [(p, .ob o, true)]) H' := by
  have z2 := z.draw k s h hmv
  refine ⟨z2.old, fun q hq => ?_, fun q hq => ?_, ?_⟩
  · rcases List.mem_append.mp hq with hq | hq
    · exact z2.led q hq
    · have e : q = (p, Ent.ob o, true) := by simpa using hq
      subst e
      exact ⟨o, hp, rfl⟩
  · rcases List.mem_append.mp hq with hq | hq
    · exact z2.own q hq
    · have e : q = (p, Ent.ob o, true) := by simpa using hq
      subst e
      intro _
      by_cases hmu : g.mu p
      · exact .inr hmu
      · refine .inl ?_
        cases q2 : g.H0 p with
        | none => rfl
        | some u =>
          rw [z.old p u q2 hmu] at n
          cases n
  · refine nd_app z2.nd fun q hq e3 => ?_
    rcases List.mem_or_eq_of_mem_set hq with r | r
    · obtain ⟨u, h1, _⟩ := z.led q r
      rw [e3, n] at h1
      cases h1
    · subst r
      obtain ⟨u, h1, _⟩ := z.look k
      rw [show a = p from e3, n] at h1
      cases h1
theorem src_mono {m k c : Nat} (h : k ≤ c) {H : Hp} {a : Addr} (x : EntAt (.src (m + k)) H a) : EntAt (.src (m + c)) H a := by
  obtain ⟨o, h1, x, y, z, e1, e2, e3, e4, e5⟩ := x
  exact ⟨o, h1, x, y, z, e1, e2, e3, e4, by omega⟩
theorem well_mono {m k c : Nat} (h : k ≤ c) {H : Hp} {a : Addr} (x : EntAt (.well (m + k)) H a) : EntAt (.well (m + c)) H a := by
  obtain ⟨o, h1, x, y, z, e1, e2, e3⟩ := x
  exact ⟨o, h1, x, y, z, e1, e2, by omega⟩
/-- a value, at most c draws -/
def kD (E : Nat → Ent) (a : Addr) (m c : Nat) (R : V → Prop) : Ks := { nx := fun _ _ => False, rt := fun v L => R v ∧ ∃ k, k ≤ c ∧ L[0]? = some (a, E (m + k), true) }
theorem eo_D {E : Nat → Ent} {H0 : Hp} {a : Addr} {m c : Nat} {R : V → Prop} {Q : VK} (mono : ∀ {k : Nat} {H : Hp}, k ≤ c → EntAt (E (m + k)) H a → EntAt (E (m + c)) H a) (h : ∀ v H', R v → EntAt (E (m + c)) H' a → Exc a H0 H' → Q v H') : Eo ⟨H0, fun c => c = a⟩ (kD E a m c R) { nx := fun _ H' => Q .non H', rt := Q } :=
  ⟨fun _ _ _ k _ => k.elim, fun v L H ⟨r, k, hk, e⟩ z => h v H r (mono hk (z.look e)) fun c o h hn => z.old c o h hn, fun _ _ _ k _ => k.elim, fun _ _ _ k _ => k.elim⟩
/-- a new object, at most c draws -/
def kDN (E : Nat → Ent) (a : Addr) (m c : Nat) (R : HO → Prop) : Ks := { nx := fun _ _ => False, rt := fun v L => ∃ (p : Addr) (i : Nat) (o : HO), v = .ref p ∧ L[i + 1]? = some (p, Ent.ob o, true) ∧ R o ∧ ∃ k, k ≤ c ∧ L[0]? = some (a, E (m + k), true) }
theorem eo_DN {E : Nat → Ent} {H0 : Hp} {a : Addr} {m c : Nat} {R : HO → Prop} {Q : VK} (mono : ∀ {k : Nat} {H : Hp}, k ≤ c → EntAt (E (m + k)) H a → EntAt (E (m + c)) H a) (h : ∀ p H' o, R o → H0 p = none → H' p = some o → EntAt (E (m + c)) H' a → Exc a H0 H' → Q (.ref p) H') (hEm : ∀ n, (E n).mov2 = true := by intro _; rfl) : Eo ⟨H0, fun c => c = a⟩ (kDN E a m c R) { nx := fun _ H' => Q .non H', rt := Q } :=
  ⟨fun _ _ _ k _ => k.elim, fun v L H ⟨p, i, o, ev, hp, r, k, hk, e⟩ z => by
    subst ev
    have hn : H0 p = none := by
      rcases z.own _ (List.mem_of_getElem? hp) rfl with q | q
      · exact q
      · exact absurd q (z.ne hp e (by omega) (.inr (Ent.mov2_mov (hEm _))))
    exact h p H o r hn (z.get hp) (mono hk (z.look e)) fun c o h hn => z.old c o h hn, fun _ _ _ k _ => k.elim, fun _ _ _ k _ => k.elim⟩
end
section
variable {K : PySem.W.Frag} {g : Gr} {L : Led} {C : V → Led → Prop} {σ : St} {ta : TE}
theorem wp_lenSet (h : Wp g L (ta σ) fun x L1 => ∃ (a : Addr) (ns : List Int), x = .ref a ∧ Seen K g L1 a (ns.map V.int) ∧ ns.Nodup ∧ ns.length ≤ 4000 ∧ C (.int (ns.length : Nat)) L1) : Wp g L (RZ.tLenSetI K ta σ) C :=
  fun H z Q q => h H z _ fun x L1 H1 ⟨a, ns, e, s, nd, hl, c⟩ z1 => ⟨a, ns, e, s.at_ H1 z1, nd, hl, q _ _ _ c z1⟩
end
/-! ### three comparisons in a chain -/
section
open PySem.Spec PyProof.Rows
variable {X : Cx} {a b c d : Expr} {pos : Pos} {ta tb tc td : TE}
def tChain3 (r r' r'' : R2) (ta tb tc td : TE) : TE := fun σ H Q => ta σ H fun x H1 => tb σ H1 fun y H2 => r x y H2 fun z H3 => ∃ k, z = .bl k ∧
  (if k = true then tc σ H3 fun w H4 => r' y w H4 fun z2 H5 => ∃ k2, z2 = .bl k2 ∧ (if k2 = true then td σ H5 fun u H6 => r'' w u H6 Q else Q (.bl false) H5) else Q (.bl false) H3)
theorem pe_chain3 {op op' op'' : CmpOp} {r r' r'' : R2} (ho : OpR X (compareOp op) r) (ho' : OpR X (compareOp op') r') (ho'' : OpR X (compareOp op'') r'') (ha : PE X a ta) (hb : PE X b tb) (hc : PE X c tc) (hd : PE X d td)
    (hm : lastMarks [op, op', op''] [b, c, d] = false := by with_unfolding_all rfl) : PE X (.Compare a [op, op', op''] [b, c, d] pos) (tChain3 r r' r'' ta tb tc td) := by
  refine ⟨fun pins s σ H Q I h => ?_⟩
  refine Compare_chain (thn (ha.run pins s σ H _ I h) fun v s1 ⟨x, H1, I1, r1, q1⟩ => chain_link (thn (hb.run pins s1 σ H1 _ I1 q1) fun u s2 ⟨y, H2, I2, r2, q2⟩ =>
    thn (ho pins s2 σ H2 x y v u _ I2 r1 r2 q2) fun d s3 ⟨z, H3, I3, r3, k, e, q3⟩ => ?_)) hm
  subst e
  cases r3
  refine wpAny_truthy_bool ?_
  cases k with
  | false => exact ite_ff ⟨.bl false, H3, I3, rfl, q3⟩
  | true =>
    refine ite_tt (chain_link (thn (hc.run pins s3 σ H3 _ I3 q3) fun w' s4 ⟨z', H4, I4, r4, q4⟩ => thn (ho' pins s4 σ H4 y z' u w' _ I4 r2 r4 q4) fun d2 s5 ⟨z2, H5, I5, r5, k2, e2, q5⟩ => ?_))
    subst e2
    cases r5
    refine wpAny_truthy_bool ?_
    cases k2 with
    | false => exact ite_ff ⟨.bl false, H5, I5, rfl, q5⟩
    | true => exact ite_tt (chain_last (thn (hd.run pins s5 σ H5 _ I5 q5) fun w2 s6 ⟨z3, H6, I6, r6, q6⟩ => ho'' pins s6 σ H6 z' z3 w' w2 Q I6 r4 r6 q6))
theorem wp_chain3P {g : Gr} {L : Led} {σ : L2.St} {C : V → Led → Prop} {r r' r'' : R2} (h : Wp g L (ta σ) fun x L1 => Wp g L1 (tb σ) fun y L2 => Wp g L2 (r x y) fun z L3 => ∃ b, z = .bl b ∧ ∃ b2, (b = true → Wp g L3 (tc σ) fun w L4 => Wp g L4 (r' y w) fun c L5 => ∃ k, c = .bl k ∧ ∃ k2, (k = true → Wp g L5 (td σ) fun u L6 => Wp g L6 (r'' w u) fun d L7 => d = .bl k2 ∧ L7 = L3) ∧ (L5 = L3 ∧ b2 = (k && k2))) ∧ C (.bl (b && b2)) L3) : Wp g L (tChain3 r r' r'' ta tb tc td σ) C :=
  fun H a Q q => h H a _ fun x L1 H1 h1 a1 => h1 H1 a1 _ fun y L2 H2 h2 a2 => h2 H2 a2 _ fun z L3 H3 ⟨b, e, b2, k, c⟩ a3 => ⟨b, e, by
    cases b with
    | false => exact q _ L3 H3 c a3
    | true =>
      refine k rfl H3 a3 _ fun w L4 H4 h4 a4 => h4 H4 a4 _ fun z2 L5 H5 ⟨k1, e1, k2, f, hL, hb⟩ a5 => ⟨k1, e1, ?_⟩
      subst hL hb
      cases k1 with
      | false => exact q _ _ H5 c a5
      | true => exact f rfl H5 a5 _ fun u L6 H6 h6 a6 => h6 H6 a6 _ fun d L7 H7 ⟨e7, l7⟩ a7 => q _ _ H7 (by rw [e7, l7]; exact c) a7⟩
end
/-! ### comprehensions over a range whose element draws -/
section
variable {g : Gr} {L : Led} {σ : St} {C : V → Led → Prop} {tt : TT} {te : TE} {i : Nat}
theorem set_self {j : Nat} {x : Addr × Ent × Bool} (hj : L[j]? = some x) : L.set j x = L := by
  apply List.ext_getElem?
  intro q
  by_cases e : j = q
  · subst e
    rw [List.getElem?_set_self (List.getElem?_eq_some_iff.mp hj).1, hj]
  · rw [List.getElem?_set_ne e]
theorem lc_RD (E : Nat → Ent) (hE : ∀ {n m : Nat} {H : Hp} {o : HO}, n ≤ m → (E n).In H o → (E m).In H o) {lo : Int} {n : Nat} (j c : Nat) {a : Addr} {n0 : Nat} (P : Int → Prop) (hj : L[j]? = some (a, E n0, true)) (hl : n ≤ 99999)
    (hs : ∀ (k : Nat) (x : Int), k < n → x = lo + (k : Int) → ∀ (D : Addr) (acc : List V), Wp g (L.set j (a, E (n0 + c * k), true) ++ [(D, .ob (.lst acc), true)]) (tt ((wipe σ [i]).set i (some (.int x)))) fun b L2 => b = true ∧
      Wp g L2 (te ((wipe σ [i]).set i (some (.int x)))) fun y L3 => (∃ v : Int, y = .int v ∧ P v) ∧ ∃ d, d ≤ c ∧ (L.set j (a, E (n0 + c * k + d), true) ++ [(D, .ob (.lst acc), true)]) <+: L3)
    (cc : ∀ (D : Addr) (ys : List Int), ys.length = n → (∀ y ∈ ys, P y) → C (.ref D) (L.set j (a, E (n0 + c * n), true) ++ [(D, .ob (.lst (ys.map V.int)), true)])) (hEm : ∀ n, (E n).mov2 = true := by intro _; rfl) : WLc g L (Itr lo n) (gName i) tt te [i] σ C := fun H z Q q D hD => by
  have hjl : j < L.length := (List.getElem?_eq_some_iff.mp hj).1
  have hi : ∀ (e : Addr × Ent × Bool) (o : HO), (L.set j e ++ [(D, Ent.ob o, true)])[L.length]? = some (D, Ent.ob o, true) := fun e o => by
    rw [List.getElem?_append_right (by rw [List.length_set]; exact Nat.le_refl _), List.length_set, Nat.sub_self]
    rfl
  refine lc_range (lo := lo) (n := n) (fun k H => ∃ ys : List Int, ys.length = k ∧ (∀ y ∈ ys, P y) ∧ At g (L.set j (a, E (n0 + c * k), true) ++ [(D, .ob (.lst (ys.map V.int)), true)]) H) ⟨[], rfl, fun y h => (by cases h), ?_⟩ (fun k H hk ⟨ys, h1, h2, z⟩ => ?_) fun H ⟨ys, h1, h2, z⟩ => q _ _ _ (cc D ys h1 h2) z
  · rw [Nat.mul_zero, Nat.add_zero, set_self hj]
    exact z.upd_new hD
  · refine ⟨wipe1 σ i _, ?_⟩
    refine hs k _ hk rfl D _ H z _ fun b L2 H2 ⟨eb, kk⟩ z2 => ?_
    subst eb
    show te _ _ _
    refine kk H2 z2 _ fun y L3 H3 ⟨⟨v, ey, hv⟩, d, hd, hpre⟩ z3 => ?_
    subst ey
    have z4 := z3.pre hpre
    refine ⟨ys.map V.int, z4.get (hi _ _), by rw [List.length_map, h1]; exact Nat.lt_of_lt_of_le (Nat.lt_of_lt_of_le hk hl) (by decide), ys ++ [v], by simp [h1], fun y hy => ?_, ?_⟩
    · rcases List.mem_append.mp hy with h | h
      · exact h2 y h
      · have : y = v := by simpa using h
        exact this ▸ hv
    · have z5 := z4.upd_chg (o := .lst (ys.map V.int ++ [.int v])) (hi _ _)
      have e1 : (L.set j (a, E (n0 + c * k + d), true) ++ [(D, Ent.ob (.lst (ys.map V.int)), true)]).set L.length (D, Ent.ob (.lst (ys.map V.int ++ [.int v])), true) = L.set j (a, E (n0 + c * k + d), true) ++ [(D, Ent.ob (.lst (ys.map V.int ++ [.int v])), true)] := by
        rw [List.set_append_right _ _ (by rw [List.length_set]; exact Nat.le_refl _), List.length_set, Nat.sub_self]
        rfl
      rw [e1] at z5
      have hj2 : (L.set j (a, E (n0 + c * k + d), true) ++ [(D, Ent.ob (.lst (ys.map V.int ++ [.int v])), true)])[j]? = some (a, E (n0 + c * k + d), true) := by
        rw [List.getElem?_append_left (by rw [List.length_set]; exact hjl), List.getElem?_set_self hjl]
      have z6 := z5.weak (i := j) (e' := E (n0 + c * (k + 1))) hj2 (fun _ o ho => hE (by have : c * (k + 1) = c * k + c := Nat.mul_succ c k; omega) ho) (hEm _)
      rw [List.set_append_left _ _ (by rw [List.length_set]; exact hjl), List.set_set] at z6
      rw [List.map_append]
      exact z6
end
section
variable {g : Gr} {L : Led} {σ : St} {C C' : V → Led → Prop} {tt : TT} {te : TE} {i : Nat}
theorem wlc_mono {J : It} {tg : TG} {vs : List Nat} (h : WLc g L J tg tt te vs σ C') (k : ∀ v L', C' v L' → ∃ L'', C v L'' ∧ ∀ H, At g L' H → At g L'' H) : WLc g L J tg tt te vs σ C :=
  fun H z Q q => h H z Q fun v L' H' c z' => let ⟨L'', c', w⟩ := k v L' c; q v L'' H' c' (w H' z')
theorem lc_RDN (E : Nat → Ent) (hE : ∀ {n m : Nat} {H : Hp} {o : HO}, n ≤ m → (E n).In H o → (E m).In H o) {lo : Int} {n : Nat} (j c N : Nat) {a : Addr} {n0 : Nat} (P : Int → Prop) (hj : L[j]? = some (a, E n0, true)) (hN : n ≤ N) (hl : N ≤ 99999)
    (hs : ∀ (k : Nat) (x : Int), k < n → x = lo + (k : Int) → ∀ (D : Addr) (acc : List V), Wp g (L.set j (a, E (n0 + c * k), true) ++ [(D, .ob (.lst acc), true)]) (tt ((wipe σ [i]).set i (some (.int x)))) fun b L2 => b = true ∧
      Wp g L2 (te ((wipe σ [i]).set i (some (.int x)))) fun y L3 => (∃ v : Int, y = .int v ∧ P v) ∧ ∃ d, d ≤ c ∧ (L.set j (a, E (n0 + c * k + d), true) ++ [(D, .ob (.lst acc), true)]) <+: L3)
    (cc : ∀ (D : Addr) (ys : List Int), ys.length ≤ N → (∀ y ∈ ys, P y) → C (.ref D) (L.set j (a, E (n0 + c * N), true) ++ [(D, .ob (.lst (ys.map V.int)), true)])) (hEm : ∀ n, (E n).mov2 = true := by intro _; rfl) : WLc g L (Itr lo n) (gName i) tt te [i] σ C := by
  have hjl : j < L.length := (List.getElem?_eq_some_iff.mp hj).1
  refine wlc_mono (C' := fun v L' => ∃ D ys, v = .ref D ∧ ys.length = n ∧ (∀ y ∈ ys, P y) ∧ L' = L.set j (a, E (n0 + c * n), true) ++ [(D, .ob (.lst (ys.map V.int)), true)]) (lc_RD E hE j c P hj (by omega) hs (fun D ys h1 h2 => ⟨D, ys, rfl, h1, h2, rfl⟩) hEm) ?_
  rintro v L' ⟨D, ys, rfl, h1, h2, rfl⟩
  refine ⟨_, cc D ys (by omega) h2, fun H z => ?_⟩
  have hj2 : (L.set j (a, E (n0 + c * n), true) ++ [(D, Ent.ob (.lst (ys.map V.int)), true)])[j]? = some (a, E (n0 + c * n), true) := by
    rw [List.getElem?_append_left (by rw [List.length_set]; exact hjl), List.getElem?_set_self hjl]
  have z6 := z.weak (i := j) (e' := E (n0 + c * N)) hj2 (fun _ o ho => hE (by have := Nat.mul_le_mul_left c hN; omega) ho) (hEm _)
  rw [List.set_append_left _ _ (by rw [List.length_set]; exact hjl), List.set_set] at z6
  exact z6
end
/-! ### x or y by truth; a list times an int -/
section
variable {K : PySem.W.Frag} {g : Gr} {L : Led} {σ : St} {C : V → Led → Prop} {ta tb : TE}
theorem wp_orTN (h : Wp g L (ta σ) fun x L1 => x = .non ∧ Wp g L1 (tb σ) C) : Wp g L (tOrT K ta tb σ) C :=
  fun H a Q q => h H a _ fun x L1 H1 ⟨e, k⟩ a1 => ⟨false, by subst e; exact rfl, k H1 a1 Q q⟩
theorem wp_orT0 (h : Wp g L (ta σ) fun x L1 => ∃ n : Int, x = .int n ∧ C (.int n) L1) : Wp g L (tOrT K ta (tC (.int 0)) σ) C :=
  fun H a Q q => h H a _ fun x L1 H1 ⟨n, e, c⟩ a1 => ⟨n != 0, by subst e; exact rfl, by
    subst e
    by_cases hn : n = 0
    · subst hn
      exact q _ _ _ c a1
    · rw [if_pos (by simpa using hn)]
      exact q _ _ _ c a1⟩
theorem wr_rep {l : Addr} {k : Int} {xs : List V} {bo : Bool} (i : Nat) (h : L[i]? = some (l, .ob (.lst xs), bo)) (h1 : 0 ≤ k ∧ k < 2 ^ 63) (h2 : xs.length * k.toNat ≤ 100000)
    (c : ∀ p, C (.ref p) (L ++ [(p, .ob (.lst (List.replicate k.toNat xs).flatten), true)])) : Wp g L (rRep (.ref l) (.int k)) C :=
  fun H z Q q => ⟨l, k, xs, rfl, rfl, z.get h, by omega, h1.2, Nat.le_trans h2 (by decide), fun p hp => q _ _ _ (c p) (z.upd_new hp)⟩
end
end Kr

set_option Elab.async false
set_option linter.all false
set_option maxRecDepth 100000
set_option maxHeartbeats 1000000
namespace Kr
open PySem L2
theorem ix_tupK {X : Cx} {Kf : PySem.W.Frag} (hK : X.K = Kf) : IxR X (rIxT Kf) := hK ▸ ix_tup
theorem ix_listK {X : Cx} {Kf : PySem.W.Frag} (hK : X.K = Kf) : IxR X (rIxL Kf) := hK ▸ ix_list
theorem c_lenK {X : Cx} {Kf : PySem.W.Frag} (hK : X.K = Kf) : CallR X (.builtin "len") (rLen Kf) := hK ▸ c_len
theorem pg_tupK {X : Cx} {Kf : PySem.W.Frag} {es : List Expr} {k : Nat} {pos : Pos} {t : TGs} {n : Nat} (hK : X.K = Kf) (hc : X.calm = true) (h : PGs X es t) (hn : (assignEach es X.env).length = n) (hst : (assignEach es X.env).findIdx? (·.1) = none := by rfl) : PG X (.Tuple es k pos) (gTup Kf n t) := hK ▸ pg_tup hc h hn hst
/-! ### what an iterator hands on, item by item -/
structure Iter {α : Type} (g : Gr) (L : Led) (J : It) (tg : TG) (xs : List α) (S : α → St → St) : Prop where
  at_ : ∀ H, At g L H → J.stop xs.length H ∧ ∀ i x, xs[i]? = some x → J.go i H ∧ ∀ v H', J.yld i H v H' → Same H H' ∧ ∀ σ (Q : St → Hp → Prop), Q (S x σ) H' → tg v σ H' Q
/-- several names at once -/
def setL : List Nat → List V → St → St
  | i :: is, v :: vs, σ => setL is vs (σ.set i (some v))
  | _, _, σ => σ
def gNames : List Nat → TGs
  | [] => gNil
  | i :: is => gCons (gName i) (gNames is)
theorem gNames_ok : ∀ (is : List Nat) (vs : List V) {σ : St} {H : Hp} {Q : St → Hp → Prop}, is.length = vs.length → Q (setL is vs σ) H → gNames is vs σ H Q
  | [], [], _, _, _, _, q => ⟨rfl, q⟩
  | [], _ :: _, _, _, _, h, _ => by cases h
  | _ :: _, [], _, _, _, h, _ => by cases h
  | i :: is, v :: vs, σ, H, Q, h, q => ⟨v, vs, rfl, gNames_ok is vs (by simpa using h) q⟩
section
variable {α : Type} {g : Gr} {L : Led} {a : Addr} {i : Nat} {Kf : PySem.W.Frag} {bo : Bool}
theorem same_refl {H : Hp} : Same H H := fun _ _ h => h
theorem iter_rng {lo : Int} {n : Nat} : Iter g L (Itr lo n) (gName i) (rngI lo n) (fun x σ => σ.set i (some (.int x))) := ⟨fun H z => by
  refine ⟨show n ≤ (rngI lo n).length by rw [rngI_len]; exact Nat.le_refl _, fun k x hx => ?_⟩
  have hk : k < n := by
    have := (List.getElem?_eq_some_iff.mp hx).1
    rw [rngI_len] at this
    exact this
  rw [rngI_get hk] at hx
  have hx := Option.some.inj hx
  subst hx
  refine ⟨hk, fun v H' hy => ?_⟩
  obtain ⟨e1, e2⟩ := hy
  subst e1 e2
  exact ⟨same_refl, fun σ Q q => q⟩⟩
theorem iter_list (T : α → V) {xs : List α} (s : Seen Kf g L a (xs.map T)) : Iter g L (Itl Kf a) (gName i) xs (fun x σ => σ.set i (some (T x))) := ⟨fun H z => by
  have hs := s.at_ H z
  refine ⟨⟨_, hs, by rw [List.length_map]; exact Nat.le_refl _⟩, fun k x hx => ?_⟩
  have hx2 : (xs.map T)[k]? = some (T x) := by rw [List.getElem?_map, hx]; rfl
  refine ⟨⟨_, _, hs, hx2⟩, fun v H' hy => ?_⟩
  obtain ⟨e1, e2⟩ := hy
  subst e1
  have e3 := e2 _ hs
  rw [hx2] at e3
  have e3 := Option.some.inj e3
  subst e3
  exact ⟨same_refl, fun σ Q q => q⟩⟩
theorem iter_rev (T : α → V) {xs : List α} {n : Nat} (hn : n = xs.length) (s : Seen Kf g L a (xs.map T)) : Iter g L (Itv Kf a n) (gName i) xs.reverse (fun x σ => σ.set i (some (T x))) := ⟨fun H z => by
  have hs := s.at_ H z
  refine ⟨show n ≤ _ by rw [List.length_reverse, hn]; exact Nat.le_refl _, fun k x hx => ?_⟩
  have hk : k < n := by
    have := (List.getElem?_eq_some_iff.mp hx).1
    rw [List.length_reverse] at this
    omega
  have hx2 : (xs.map T)[n - 1 - k]? = some (T x) := by
    rw [List.getElem?_reverse (by omega)] at hx
    rw [List.getElem?_map, hn, hx]
    rfl
  refine ⟨⟨hk, _, _, hs, hx2⟩, fun v H' hy => ?_⟩
  obtain ⟨e1, e2⟩ := hy
  subst e1
  have e3 := e2 _ hs
  rw [hx2] at e3
  have e3 := Option.some.inj e3
  subst e3
  exact ⟨same_refl, fun σ Q q => q⟩⟩
/-- a list of tuples -/
theorem iter_rows (is : List Nat) (row : α → List V) {xs : List α} {n : Nat} (j : Nat) (hj : L[j]? = some (a, .rows (xs.map row), bo)) (hn : ∀ x, (row x).length = n) (hi : is.length = n) :
    Iter g L (Itl Kf a) (gTup Kf n (gNames is)) xs (fun x σ => setL is (row x) σ) := ⟨fun H z => by
  obtain ⟨o, h1, as, e1, hl, hr⟩ := z.look hj
  subst e1
  rw [List.length_map] at hl
  have hs : SqL Kf H a (as.map V.ref) := SqL.of h1
  refine ⟨⟨_, hs, by rw [List.length_map, hl]; exact Nat.le_refl _⟩, fun k x hx => ?_⟩
  have hk : k < as.length := by
    have := (List.getElem?_eq_some_iff.mp hx).1
    omega
  have hx2 : (as.map V.ref)[k]? = some (.ref as[k]) := by rw [List.getElem?_map, List.getElem?_eq_getElem hk]; rfl
  have hx3 := hr k as[k] (row x) (List.getElem?_eq_getElem hk) (by rw [List.getElem?_map, hx]; rfl)
  refine ⟨⟨_, _, hs, hx2⟩, fun v H' hy => ?_⟩
  obtain ⟨e1, e2⟩ := hy
  subst e1
  have e3 := e2 _ hs
  rw [hx2] at e3
  have e3 := Option.some.inj e3
  subst e3
  exact ⟨same_refl, fun σ Q q => ⟨_, _, rfl, SqT.of hx3, hn x, gNames_ok is (row x) (by rw [hi, hn]) q⟩⟩⟩
theorem iter_revrows (is : List Nat) (row : α → List V) {xs : List α} {n m : Nat} (hm : m = xs.length) (j : Nat) (hj : L[j]? = some (a, .rows (xs.map row), bo)) (hn : ∀ x, (row x).length = n) (hi : is.length = n) :
    Iter g L (Itv Kf a m) (gTup Kf n (gNames is)) xs.reverse (fun x σ => setL is (row x) σ) := ⟨fun H z => by
  obtain ⟨o, h1, as, e1, hl, hr⟩ := z.look hj
  subst e1
  rw [List.length_map] at hl
  have hs : SqL Kf H a (as.map V.ref) := SqL.of h1
  refine ⟨show m ≤ _ by rw [List.length_reverse, hm]; exact Nat.le_refl _, fun k x hx => ?_⟩
  have hk0 : k < m := by
    have := (List.getElem?_eq_some_iff.mp hx).1
    rw [List.length_reverse] at this
    omega
  rw [List.getElem?_reverse (by omega), ← hm] at hx
  have hk : m - 1 - k < as.length := by omega
  have hx2 : (as.map V.ref)[m - 1 - k]? = some (.ref as[m - 1 - k]) := by rw [List.getElem?_map, List.getElem?_eq_getElem hk]; rfl
  have hx3 := hr (m - 1 - k) as[m - 1 - k] (row x) (List.getElem?_eq_getElem hk) (by rw [List.getElem?_map, hx]; rfl)
  refine ⟨⟨hk0, _, _, hs, hx2⟩, fun v H' hy => ?_⟩
  obtain ⟨e1, e2⟩ := hy
  subst e1
  have e3 := e2 _ hs
  rw [hx2] at e3
  have e3 := Option.some.inj e3
  subst e3
  exact ⟨same_refl, fun σ Q q => ⟨_, _, rfl, SqT.of hx3, hn x, gNames_ok is (row x) (by rw [hi, hn]) q⟩⟩⟩
/-- enumerate(list) -/
theorem iter_enum (i1 i2 : Nat) (T : α → V) {xs : List α} (s : Seen Kf g L a (xs.map T)) : Iter g L (Ite Kf a) (gTup Kf 2 (gNames [i1, i2])) xs.zipIdx (fun x σ => (σ.set i1 (some (.int (x.2 : Nat)))).set i2 (some (T x.1))) := ⟨fun H z => by
  have hs := s.at_ H z
  refine ⟨⟨_, hs, by rw [List.length_map, List.length_zipIdx]; exact Nat.le_refl _⟩, fun k x hx => ?_⟩
  rw [List.getElem?_zipIdx] at hx
  cases hq : xs[k]? with
  | none => rw [hq] at hx; cases hx
  | some y =>
    rw [hq] at hx
    have hx : (y, 0 + k) = x := Option.some.inj hx
    subst hx
    have hx2 : (xs.map T)[k]? = some (T y) := by rw [List.getElem?_map, hq]; rfl
    refine ⟨⟨_, _, hs, hx2⟩, fun v H' hy => ?_⟩
    obtain ⟨t, w, e1, e2, e3, e4⟩ := hy
    have e5 := e4 _ hs
    rw [hx2] at e5
    have e5 := Option.some.inj e5
    subst e5 e1 e3
    refine ⟨fun c u h => by rw [upd_ne (ne_of_none h e2)]; exact h, fun σ Q q => ⟨t, _, rfl, SqT.of upd_same, rfl, ?_⟩⟩
    refine gNames_ok [i1, i2] [.int (k : Nat), T y] rfl ?_
    have e6 : (0 + k : Nat) = k := Nat.zero_add k
    have q : Q ((σ.set i1 (some (.int ((0 + k : Nat) : Int)))).set i2 (some (T y))) _ := q
    rw [e6] at q
    exact q⟩
end
/-! ### loops -/
section
variable {α : Type} {g : Gr} {L : Led} {σ : St} {K : Ks} {tg : TG} {tb : TS} {J : It} {xs : List α} {S : α → St → St}
/-- a general word -/
theorem wf_G (I : Nat → St → Led → Prop) (it : ∀ i σ L, I i σ L → Iter g L J tg xs S) (h0 : I 0 σ L)
    (hs : ∀ i x σ L, xs[i]? = some x → I i σ L → Ws g L tb (S x σ) { K with nx := fun σ' L' => ∃ L3, I (i + 1) σ' L3 ∧ L3 <+: L', ct := fun σ' L' => ∃ L3, I (i + 1) σ' L3 ∧ L3 <+: L', bk := K.nx })
    (hd : ∀ σ L, I xs.length σ L → K.nx σ L) : WFor g L J tg tb σ K := fun H z D e => by
  refine ⟨fun i m σ H => i ≤ xs.length ∧ m = xs.length - i ∧ ∃ L, I i σ L ∧ At g L H, ⟨xs.length, Nat.zero_le _, rfl, L, h0, z⟩, ?_⟩
  rintro i m σ H ⟨hi, rfl, L, k, z⟩
  obtain ⟨h1, h2⟩ := (it i σ L k).at_ H z
  by_cases hlt : i < xs.length
  · obtain ⟨h3, h4⟩ := h2 i xs[i] (List.getElem?_eq_getElem hlt)
    refine .inr ⟨h3, fun σ' H' => ∃ L, I (i + 1) σ' L ∧ At g L H', fun σ' H' q => ⟨xs.length - (i + 1), by omega, hlt, rfl, q⟩, fun v H' y => ?_⟩
    obtain ⟨h5, h6⟩ := h4 v H' y
    refine h6 σ _ ?_
    have kk : ∀ σ' L' H', (∃ L3, I (i + 1) σ' L3 ∧ L3 <+: L') → At g L' H' → ∃ L, I (i + 1) σ' L ∧ At g L H' := fun σ' L' H' ⟨L3, hi, hp⟩ z' => ⟨L3, hi, z'.pre hp⟩
    exact hs i xs[i] σ L (List.getElem?_eq_getElem hlt) k H' (z.same h5) _ ⟨kk, e.rt, e.nx, kk⟩
  · have e1 : i = xs.length := by omega
    subst e1
    exact .inl ⟨h1, e.nx _ _ _ (hd σ L k) z⟩
/-- the ledger as at the start -/
theorem wf_S (it : Iter g L J tg xs S) (I : Nat → List (Option (Option V)) → Prop) (h0 : ∃ vs, σ = putA σ vs ∧ I 0 vs)
    (hs : ∀ i x vs, xs[i]? = some x → I i vs → Ws g L tb (S x (putA σ vs)) { K with nx := fun σ' L' => ∃ vs', (σ' = putA σ vs' ∧ I (i + 1) vs') ∧ L <+: L', ct := fun σ' L' => ∃ vs', (σ' = putA σ vs' ∧ I (i + 1) vs') ∧ L <+: L', bk := K.nx })
    (hd : ∀ vs, I xs.length vs → K.nx (putA σ vs) L) : WFor g L J tg tb σ K := by
  obtain ⟨vs0, e0, k0⟩ := h0
  refine wf_G (xs := xs) (S := S) (fun i σ' L' => ∃ vs, (σ' = putA σ vs ∧ I i vs) ∧ L' = L) (fun i σ' L' ⟨vs, _, e⟩ => e ▸ it) ⟨vs0, ⟨e0, k0⟩, rfl⟩ ?_ ?_
  · rintro i x σ' L' hi ⟨vs, ⟨rfl, k⟩, rfl⟩
    intro H3 z3 D e
    have kk : ∀ σ' L'' H', (∃ vs', (σ' = putA σ vs' ∧ I (i + 1) vs') ∧ L' <+: L'') → At g L'' H' → D.nx σ' H' := fun σ' L'' H' ⟨vs', h1, h2⟩ z' => e.nx σ' L'' H' ⟨L', ⟨vs', h1, rfl⟩, h2⟩ z'
    have kc : ∀ σ' L'' H', (∃ vs', (σ' = putA σ vs' ∧ I (i + 1) vs') ∧ L' <+: L'') → At g L'' H' → D.ct σ' H' := fun σ' L'' H' ⟨vs', h1, h2⟩ z' => e.ct σ' L'' H' ⟨L', ⟨vs', h1, rfl⟩, h2⟩ z'
    exact hs i x vs hi k H3 z3 D ⟨kk, e.rt, e.bk, kc⟩
  · rintro σ' L' ⟨vs, ⟨rfl, k⟩, rfl⟩
    exact hd vs k
/-- one own object grows -/
theorem wf_A (j : Nat) {a : Addr} {e0 : Ent} (hj : L[j]? = some (a, e0, true)) (it : ∀ e, Iter g (L.set j (a, e, true)) J tg xs S) (I : Nat → List (Option (Option V)) → Ent → Prop) (h0 : ∃ vs, σ = putA σ vs ∧ I 0 vs e0)
    (hs : ∀ i x vs e, xs[i]? = some x → I i vs e → Ws g (L.set j (a, e, true)) tb (S x (putA σ vs)) { K with nx := fun σ' L' => ∃ vs' e', (σ' = putA σ vs' ∧ I (i + 1) vs' e') ∧ L.set j (a, e', true) <+: L', ct := fun σ' L' => ∃ vs' e', (σ' = putA σ vs' ∧ I (i + 1) vs' e') ∧ L.set j (a, e', true) <+: L', bk := K.nx })
    (hd : ∀ vs e, I xs.length vs e → K.nx (putA σ vs) (L.set j (a, e, true))) : WFor g L J tg tb σ K := by
  obtain ⟨vs0, e0', k0⟩ := h0
  refine wf_G (xs := xs) (S := S) (fun i σ' L' => ∃ vs e, (σ' = putA σ vs ∧ I i vs e) ∧ L' = L.set j (a, e, true)) (fun i σ' L' ⟨vs, e, _, q⟩ => q ▸ it e) ⟨vs0, _, ⟨e0', k0⟩, (set_self hj).symm⟩ ?_ ?_
  · rintro i x σ' L' hi ⟨vs, en, ⟨rfl, k⟩, rfl⟩
    intro H3 z3 D e
    have kk : ∀ σ' L'' H', (∃ vs' e', (σ' = putA σ vs' ∧ I (i + 1) vs' e') ∧ L.set j (a, e', true) <+: L'') → At g L'' H' → D.nx σ' H' := fun σ' L'' H' ⟨vs', e', h1, h2⟩ z' => e.nx σ' L'' H' ⟨_, ⟨vs', e', h1, rfl⟩, h2⟩ z'
    have kc : ∀ σ' L'' H', (∃ vs' e', (σ' = putA σ vs' ∧ I (i + 1) vs' e') ∧ L.set j (a, e', true) <+: L'') → At g L'' H' → D.ct σ' H' := fun σ' L'' H' ⟨vs', e', h1, h2⟩ z' => e.ct σ' L'' H' ⟨_, ⟨vs', e', h1, rfl⟩, h2⟩ z'
    exact hs i x vs en hi k H3 z3 D ⟨kk, e.rt, e.bk, kc⟩
  · rintro σ' L' ⟨vs, en, ⟨rfl, k⟩, rfl⟩
    exact hd vs en k
/-- draws are counted -/
theorem wf_D (E : Nat → Ent) (hE : ∀ {n m : Nat} {H : Hp} {o : HO}, n ≤ m → (E n).In H o → (E m).In H o) (j c : Nat) {a : Addr} {n0 : Nat} (hj : L[j]? = some (a, E n0, true)) (it : ∀ e, Iter g (L.set j (a, e, true)) J tg xs S) (I : Nat → List (Option (Option V)) → Prop) (h0 : ∃ vs, σ = putA σ vs ∧ I 0 vs)
    (hs : ∀ i x vs, xs[i]? = some x → I i vs → Ws g (L.set j (a, E (n0 + c * i), true)) tb (S x (putA σ vs)) { K with nx := fun σ' L' => ∃ vs', (σ' = putA σ vs' ∧ I (i + 1) vs') ∧ ∃ k, k ≤ c ∧ L.set j (a, E (n0 + c * i + k), true) <+: L', ct := fun σ' L' => ∃ vs', (σ' = putA σ vs' ∧ I (i + 1) vs') ∧ ∃ k, k ≤ c ∧ L.set j (a, E (n0 + c * i + k), true) <+: L', bk := K.nx })
    (hd : ∀ vs, I xs.length vs → K.nx (putA σ vs) (L.set j (a, E (n0 + c * xs.length), true))) (hEm : ∀ n, (E n).mov2 = true := by intro _; rfl) : WFor g L J tg tb σ K := fun H z D e => by
  have hjl : j < L.length := (List.getElem?_eq_some_iff.mp hj).1
  have hse : L.set j (a, E (n0 + c * 0), true) = L := by
    rw [Nat.mul_zero, Nat.add_zero]
    exact set_self hj
  obtain ⟨vs0, e0, k0⟩ := h0
  refine ⟨fun i m σ' H' => i ≤ xs.length ∧ m = xs.length - i ∧ ∃ vs, (σ' = putA σ vs ∧ I i vs) ∧ At g (L.set j (a, E (n0 + c * i), true)) H', ⟨xs.length, Nat.zero_le _, rfl, vs0, ⟨e0, k0⟩, hse.symm ▸ z⟩, ?_⟩
  rintro i m σ' H ⟨hi, rfl, vs, ⟨rfl, k⟩, z⟩
  obtain ⟨h1, h2⟩ := (it (E (n0 + c * i))).at_ H z
  by_cases hlt : i < xs.length
  · obtain ⟨h3, h4⟩ := h2 i xs[i] (List.getElem?_eq_getElem hlt)
    refine .inr ⟨h3, fun σ' H' => ∃ vs, (σ' = putA σ vs ∧ I (i + 1) vs) ∧ At g (L.set j (a, E (n0 + c * (i + 1)), true)) H', fun σ' H' q => ⟨xs.length - (i + 1), by omega, hlt, rfl, q⟩, fun v H' y => ?_⟩
    obtain ⟨h5, h6⟩ := h4 v H' y
    refine h6 _ _ ?_
    have kk : ∀ σ' L'' H', (∃ vs', (σ' = putA σ vs' ∧ I (i + 1) vs') ∧ ∃ k, k ≤ c ∧ L.set j (a, E (n0 + c * i + k), true) <+: L'') → At g L'' H' → ∃ vs, (σ' = putA σ vs ∧ I (i + 1) vs) ∧ At g (L.set j (a, E (n0 + c * (i + 1)), true)) H' := fun σ' L'' H' ⟨vs', h1, kd, hk, h2⟩ z' => by
      refine ⟨vs', h1, ?_⟩
      have z3 := z'.pre h2
      have z4 := z3.weak (i := j) (e' := E (n0 + c * (i + 1))) (List.getElem?_set_self hjl) (fun _ o ho => hE (by have : c * (i + 1) = c * i + c := Nat.mul_succ c i; omega) ho) (hEm _)
      rw [List.set_set] at z4
      exact z4
    exact hs i xs[i] vs (List.getElem?_eq_getElem hlt) k H' (z.same h5) _ ⟨kk, e.rt, e.nx, kk⟩
  · have e1 : i = xs.length := by omega
    subst e1
    exact .inl ⟨h1, e.nx _ _ _ (hd vs k) z⟩
/-- draws are counted, and an object of the last turn stays -/
theorem wf_DX (E : Nat → Ent) (hE : ∀ {n m : Nat} {H : Hp} {o : HO}, n ≤ m → (E n).In H o → (E m).In H o) (j c : Nat) {a : Addr} {n0 : Nat} (hj : L[j]? = some (a, E n0, true)) (it : ∀ e, Iter g (L.set j (a, e, true)) J tg xs S) (I : Nat → List (Option (Option V)) → Option (Addr × Ent × Bool) → Prop) (h0 : ∃ vs, σ = putA σ vs ∧ I 0 vs none)
    (hs : ∀ i x vs ex, xs[i]? = some x → I i vs ex → Ws g (L.set j (a, E (n0 + c * i), true)) tb (S x (putA σ vs)) { K with nx := fun σ' L' => ∃ vs' ex', (σ' = putA σ vs' ∧ I (i + 1) vs' ex') ∧ ∃ k, k ≤ c ∧ L.set j (a, E (n0 + c * i + k), true) <+: L' ∧ ∀ x, ex' = some x → ∃ q, L.length ≤ q ∧ L'[q]? = some x, ct := fun σ' L' => ∃ vs' ex', (σ' = putA σ vs' ∧ I (i + 1) vs' ex') ∧ ∃ k, k ≤ c ∧ L.set j (a, E (n0 + c * i + k), true) <+: L' ∧ ∀ x, ex' = some x → ∃ q, L.length ≤ q ∧ L'[q]? = some x, bk := K.nx })
    (hd : ∀ vs ex, I xs.length vs ex → K.nx (putA σ vs) (L.set j (a, E (n0 + c * xs.length), true) ++ ex.toList)) (hEm : ∀ n, (E n).mov2 = true := by intro _; rfl) : WFor g L J tg tb σ K := fun H z D e => by
  have hjl : j < L.length := (List.getElem?_eq_some_iff.mp hj).1
  have hse : L.set j (a, E (n0 + c * 0), true) = L := by
    rw [Nat.mul_zero, Nat.add_zero]
    exact set_self hj
  obtain ⟨vs0, e0, k0⟩ := h0
  refine ⟨fun i m σ' H' => i ≤ xs.length ∧ m = xs.length - i ∧ ∃ vs ex, (σ' = putA σ vs ∧ I i vs ex) ∧ At g (L.set j (a, E (n0 + c * i), true) ++ ex.toList) H', ⟨xs.length, Nat.zero_le _, rfl, vs0, none, ⟨e0, k0⟩, by rw [hse]; simpa using z⟩, ?_⟩
  rintro i m σ' H ⟨hi, rfl, vs, ex, ⟨rfl, k⟩, z0⟩
  have z := z0.pre (L := L.set j (a, E (n0 + c * i), true)) ⟨_, rfl⟩
  obtain ⟨h1, h2⟩ := (it (E (n0 + c * i))).at_ H z
  by_cases hlt : i < xs.length
  · obtain ⟨h3, h4⟩ := h2 i xs[i] (List.getElem?_eq_getElem hlt)
    refine .inr ⟨h3, fun σ' H' => ∃ vs ex, (σ' = putA σ vs ∧ I (i + 1) vs ex) ∧ At g (L.set j (a, E (n0 + c * (i + 1)), true) ++ ex.toList) H', fun σ' H' q => ⟨xs.length - (i + 1), by omega, hlt, rfl, q⟩, fun v H' y => ?_⟩
    obtain ⟨h5, h6⟩ := h4 v H' y
    refine h6 _ _ ?_
    have kk : ∀ σ' L'' H', (∃ vs' ex', (σ' = putA σ vs' ∧ I (i + 1) vs' ex') ∧ ∃ k, k ≤ c ∧ L.set j (a, E (n0 + c * i + k), true) <+: L'' ∧ ∀ x, ex' = some x → ∃ q, L.length ≤ q ∧ L''[q]? = some x) → At g L'' H' → ∃ vs ex, (σ' = putA σ vs ∧ I (i + 1) vs ex) ∧ At g (L.set j (a, E (n0 + c * (i + 1)), true) ++ ex.toList) H' := fun σ' L'' H' ⟨vs', ex', h1, kd, hk, h2, h3⟩ z' => by
      refine ⟨vs', ex', h1, ?_⟩
      have hsub : (L.set j (a, E (n0 + c * i + kd), true) ++ ex'.toList).Sublist L'' := by
        obtain ⟨r, hr⟩ := h2
        subst hr
        refine List.Sublist.append (List.Sublist.refl _) ?_
        cases ex' with
        | none => exact List.nil_sublist _
        | some x =>
          obtain ⟨q, hq, hx⟩ := h3 x rfl
          rw [List.getElem?_append_right (by rw [List.length_set]; exact hq)] at hx
          exact List.singleton_sublist.mpr (List.mem_of_getElem? hx)
      have z3 := z'.sub hsub
      have hg : (L.set j (a, E (n0 + c * i + kd), true) ++ ex'.toList)[j]? = some (a, E (n0 + c * i + kd), true) := by
        rw [List.getElem?_append_left (by rw [List.length_set]; exact hjl), List.getElem?_set_self hjl]
      have z4 := z3.weak (i := j) (e' := E (n0 + c * (i + 1))) hg (fun _ o ho => hE (by have : c * (i + 1) = c * i + c := Nat.mul_succ c i; omega) ho) (hEm _)
      rw [List.set_append_left _ _ (by rw [List.length_set]; exact hjl), List.set_set] at z4
      exact z4
    exact hs i xs[i] vs ex (List.getElem?_eq_getElem hlt) k H' (z.same h5) _ ⟨kk, e.rt, e.nx, kk⟩
  · have e1 : i = xs.length := by omega
    subst e1
    exact .inl ⟨h1, e.nx _ _ _ (hd vs ex k) z0⟩
/-- while: one own object grows -/
theorem ws_whileA {t1 : TS} {cT : TT} (j : Nat) {a : Addr} {e0 : Ent} (hj : L[j]? = some (a, e0, true)) (I : Nat → List (Option (Option V)) → Ent → Prop) (h0 : ∃ m vs, σ = putA σ vs ∧ I m vs e0)
    (hs : ∀ m vs e, I m vs e → Wp g (L.set j (a, e, true)) (cT (putA σ vs)) fun b L1 => if b = true then Ws g L1 t1 (putA σ vs) { K with nx := fun σ' L' => ∃ m' vs' e', m' < m ∧ (σ' = putA σ vs' ∧ I m' vs' e') ∧ L.set j (a, e', true) <+: L', ct := fun σ' L' => ∃ m' vs' e', m' < m ∧ (σ' = putA σ vs' ∧ I m' vs' e') ∧ L.set j (a, e', true) <+: L', bk := K.nx } else K.nx (putA σ vs) L1) :
    Ws g L (tWhile cT t1) σ K := by
  obtain ⟨m0, vs0, h1, h2⟩ := h0
  refine ws_whileN (fun m σ' L' => ∃ vs e, (σ' = putA σ vs ∧ I m vs e) ∧ L' = L.set j (a, e, true)) ⟨m0, vs0, e0, ⟨h1, h2⟩, (set_self hj).symm⟩ ?_
  rintro m σ' L' ⟨vs, en, ⟨rfl, k⟩, rfl⟩
  refine (hs m vs en k).mono fun b L1 q => ?_
  cases b with
  | true =>
    have q : Ws g L1 t1 _ _ := q
    show Ws g L1 t1 _ _
    intro H3 z3 D e
    have kk : ∀ σ' L'' H', (∃ m' vs' e', m' < m ∧ (σ' = putA σ vs' ∧ I m' vs' e') ∧ L.set j (a, e', true) <+: L'') → At g L'' H' → D.nx σ' H' := fun σ' L'' H' ⟨m', vs', e', h0, h1, h2⟩ z' => e.nx σ' L'' H' ⟨m', _, h0, ⟨vs', e', h1, rfl⟩, h2⟩ z'
    have kc : ∀ σ' L'' H', (∃ m' vs' e', m' < m ∧ (σ' = putA σ vs' ∧ I m' vs' e') ∧ L.set j (a, e', true) <+: L'') → At g L'' H' → D.ct σ' H' := fun σ' L'' H' ⟨m', vs', e', h0, h1, h2⟩ z' => e.ct σ' L'' H' ⟨m', _, h0, ⟨vs', e', h1, rfl⟩, h2⟩ z'
    exact q H3 z3 D ⟨kk, e.rt, e.bk, kc⟩
  | false => exact q
end
/-! ### comprehensions -/
section
variable {α : Type} {g : Gr} {L : Led} {σ : St} {C : V → Led → Prop} {tt : TT} {te : TE} {tg : TG} {J : It} {xs : List α} {S : α → St → St} {vs : List Nat}
/-- the list that grows is told by an entry of what it has -/
theorem lc_G {β : Type} (En : List β → Ent) (hmv : ∀ ys, (En ys).mov2 = true) (p : α → Bool) (f : α → β) (it : Iter g L J tg xs S) (hw : ∀ x, wipe (S x (wipe σ vs)) vs = wipe σ vs) (hl : xs.length ≤ 99999)
    (e0 : ∀ H, (En []).In H (.lst []))
    (hs : ∀ x, x ∈ xs → ∀ (D : Addr) (acc : List β), Wp g (L ++ [(D, En acc, true)]) (tt (S x (wipe σ vs))) fun b L2 => b = p x ∧
      if b = true then Wp g L2 (te (S x (wipe σ vs))) fun y L3 => (L ++ [(D, En acc, true)]) <+: L3 ∧ ∀ H, At g L3 H → ∃ ac, H D = some (.lst ac) ∧ ac.length = acc.length ∧ (En (acc ++ [f x])).In (upd H D (.lst (ac ++ [y]))) (.lst (ac ++ [y])) else (L ++ [(D, En acc, true)]) <+: L2)
    (c : ∀ D, C (.ref D) (L ++ [(D, En ((xs.filter p).map f), true)])) : WLc g L J tg tt te vs σ C := fun H z Q q D hD => by
  have hi : ∀ e : Ent, (L ++ [(D, e, true)])[L.length]? = some (D, e, true) := fun o => by simp
  have hsub : ∀ {e : Ent} {H : Hp}, At g (L ++ [(D, e, true)]) H → At g L H := fun z => z.pre ⟨_, rfl⟩
  refine ⟨fun i m H => i ≤ xs.length ∧ m = xs.length - i ∧ At g (L ++ [(D, En (((xs.take i).filter p).map f), true)]) H, ⟨xs.length, Nat.zero_le _, rfl, ?_⟩, ?_⟩
  · refine z.newE (fun c u e => by rw [upd_ne (ne_of_none e hD)]; exact e) hD upd_same ?_
    simpa using e0 _
  rintro i m H ⟨hi0, rfl, z⟩
  obtain ⟨h1, h2⟩ := it.at_ H (hsub z)
  by_cases hlt : i < xs.length
  · have hxi := List.getElem?_eq_getElem hlt
    obtain ⟨h3, h4⟩ := h2 i xs[i] hxi
    refine .inr ⟨h3, fun H' => At g (L ++ [(D, En (((xs.take (i + 1)).filter p).map f), true)]) H', fun H' q => ⟨xs.length - (i + 1), by omega, hlt, rfl, q⟩, fun v H' y => ?_⟩
    obtain ⟨h5, h6⟩ := h4 v H' y
    refine h6 _ _ ⟨hw _, ?_⟩
    have hacc := filter_take_succ p f hxi
    have hlen : (((xs.take i).filter p).map f).length < 100000 := by
      have := List.length_filter_le p (xs.take i)
      have h3 : (xs.take i).length ≤ xs.length := by simp; omega
      rw [List.length_map]
      omega
    generalize ((xs.take i).filter p).map f = acc at z hacc hlen
    refine hs xs[i] (List.mem_of_getElem? hxi) D acc H' (z.same h5) _ fun b L2 H2 ⟨eb, k⟩ z2 => ?_
    subst eb
    cases hp : p xs[i] with
    | true =>
      rw [hp] at k hacc
      have k : Wp g L2 _ _ := k
      refine k H2 z2 _ fun y L3 H3 ⟨hpre, hn⟩ z3 => ?_
      obtain ⟨ac, q1, q2, q3⟩ := hn H3 z3
      have z4 := z3.pre hpre
      refine ⟨ac, q1, by rw [q2]; exact Nat.lt_of_lt_of_le hlen (by decide), ?_⟩
      have z5 := z4.chg (e' := En (acc ++ [f xs[i]])) (H' := upd H3 D (.lst (ac ++ [y]))) (o := .lst (ac ++ [y])) (hi _) (fun c u e z => by rw [upd_ne z]; exact e) upd_same q3 (hmv _)
      rw [List.set_append_right _ _ (Nat.le_refl _), Nat.sub_self] at z5
      rw [hacc]
      exact z5
    | false =>
      rw [hp] at k hacc
      have k : _ <+: L2 := k
      have e2 : ((xs.take (i + 1)).filter p).map f = acc := by rw [hacc]; simp
      show At g _ H2
      rw [e2]
      exact z2.pre k
  · have e1 : i = xs.length := by omega
    subst e1
    rw [List.take_length] at z
    exact .inl ⟨h1, q _ _ _ (c D) z⟩
/-- a list of values -/
theorem lc_V {β : Type} (T : β → V) (p : α → Bool) (f : α → β) (it : Iter g L J tg xs S) (hw : ∀ x, wipe (S x (wipe σ vs)) vs = wipe σ vs) (hl : xs.length ≤ 99999)
    (hs : ∀ x, x ∈ xs → ∀ (D : Addr) (acc : List V), Wp g (L ++ [(D, .ob (.lst acc), true)]) (tt (S x (wipe σ vs))) fun b L2 => b = p x ∧
      if b = true then Wp g L2 (te (S x (wipe σ vs))) fun y L3 => y = T (f x) ∧ (L ++ [(D, .ob (.lst acc), true)]) <+: L3 else (L ++ [(D, .ob (.lst acc), true)]) <+: L2)
    (c : ∀ D, C (.ref D) (L ++ [(D, .ob (.lst (((xs.filter p).map f).map T)), true)])) : WLc g L J tg tt te vs σ C := by
  refine lc_G (fun ys => .ob (.lst (ys.map T))) (fun _ => rfl) p f it hw hl (fun _ => rfl) (fun x hx D acc => ?_) c
  refine (hs x hx D (acc.map T)).mono fun b L2 ⟨e, k⟩ => ⟨e, ?_⟩
  cases b with
  | true =>
    refine Wp.mono (show Wp g L2 _ _ from k) fun y L3 ⟨ey, hp⟩ => ⟨hp, fun H z => ?_⟩
    have hg := (z.pre hp).get (i := L.length) (a := D) (o := .lst (acc.map T)) (b := true) (by simp)
    subst ey
    refine ⟨_, hg, by rw [List.length_map], ?_⟩
    show HO.lst _ = HO.lst _
    rw [List.map_append]
    rfl
  | false => exact k
/-- a list of tuples -/
theorem rows_snoc {rs : List (List V)} {r : List V} {H : Hp} {D p : Addr} (h : (Ent.rows rs).In H (.lst ac)) (hD : H D = some (.lst ac)) (hp : H p = some (.tup r)) : (Ent.rows (rs ++ [r])).In (upd H D (.lst (ac ++ [.ref p]))) (.lst (ac ++ [.ref p])) := by
  obtain ⟨as, e, hl, h3⟩ := h
  have e : ac = as.map V.ref := by injection e
  subst e
  refine ⟨as ++ [p], by simp, by simp [hl], fun k a r' q1 q2 => ?_⟩
  have hne : H a = some (.tup r') → upd H D (.lst (as.map V.ref ++ [.ref p])) a = some (.tup r') := fun h => by
    rw [upd_ne]
    · exact h
    · intro z
      subst z
      rw [hD] at h
      cases h
  apply hne
  by_cases hk : k < as.length
  · rw [List.getElem?_append_left hk] at q1
    rw [List.getElem?_append_left (by omega)] at q2
    exact h3 k a r' q1 q2
  · rw [List.getElem?_append_right (by omega)] at q1
    rw [List.getElem?_append_right (by omega)] at q2
    rw [hl] at q1
    have hk0 : k - rs.length = 0 := by
      have := (List.getElem?_eq_some_iff.mp q1).1
      simp at this
      omega
    rw [hk0] at q1 q2
    have q1 : p = a := by simpa using q1
    have q2 : r = r' := by simpa using q2
    subst q1 q2
    exact hp
theorem lc_T {β : Type} (row : β → List V) (p : α → Bool) (f : α → β) (it : Iter g L J tg xs S) (hw : ∀ x, wipe (S x (wipe σ vs)) vs = wipe σ vs) (hl : xs.length ≤ 99999)
    (hs : ∀ x, x ∈ xs → ∀ (D : Addr) (acc : List (List V)), Wp g (L ++ [(D, .rows acc, true)]) (tt (S x (wipe σ vs))) fun b L2 => b = p x ∧
      if b = true then Wp g L2 (te (S x (wipe σ vs))) fun y L3 => (∃ (q : Addr) (j : Nat) (bo : Bool), y = .ref q ∧ L3[j]? = some (q, .ob (.tup (row (f x))), bo)) ∧ (L ++ [(D, .rows acc, true)]) <+: L3 else (L ++ [(D, .rows acc, true)]) <+: L2)
    (c : ∀ D, C (.ref D) (L ++ [(D, .rows (((xs.filter p).map f).map row), true)])) : WLc g L J tg tt te vs σ C := by
  refine lc_G (fun ys => .rows (ys.map row)) (fun _ => rfl) p f it hw hl (fun _ => ⟨[], rfl, rfl, fun k a r h => by simp at h⟩) (fun x hx D acc => ?_) c
  refine (hs x hx D (acc.map row)).mono fun b L2 ⟨e, k⟩ => ⟨e, ?_⟩
  cases b with
  | true =>
    refine Wp.mono (show Wp g L2 _ _ from k) fun y L3 ⟨⟨q, j, bo, ey, hq⟩, hp⟩ => ⟨hp, fun H z => ?_⟩
    obtain ⟨o, hg, hin⟩ := (z.pre hp).look (i := L.length) (a := D) (e := .rows (acc.map row)) (b := true) (by simp)
    subst ey
    obtain ⟨as, e1, hl1, h3⟩ := hin
    subst e1
    refine ⟨_, hg, by rw [List.length_map, hl1, List.length_map], ?_⟩
    show (Ent.rows ((acc ++ [f x]).map row)).In _ _
    rw [List.map_append]
    exact rows_snoc ⟨as, rfl, hl1, h3⟩ hg (z.get hq)
  | false => exact k
end
/-! ### lists of tuples -/
section
variable {K : PySem.W.Frag} {g : Gr} {L : Led} {σ : St} {C : V → Led → Prop} {a p : Addr} {bo : Bool} {Kz : Ks} {t : TS}
theorem rows_nil {H : Hp} {o : HO} (h : (Ent.ob (.lst [])).In H o) : (Ent.rows []).In H o := ⟨[], h, rfl, fun k a r h => by simp at h⟩
theorem ws_rows (i : Nat) (k : L[i]? = some (a, .ob (.lst []), bo)) (c : Ws g (L.set i (a, .rows [], bo)) t σ Kz) : Ws g L t σ Kz := ws_weak k (fun _ _ h => rows_nil h) c
theorem ty_rows {rs : List (List V)} (i : Nat) (h : L[i]? = some (a, .rows rs, bo)) : ∀ H, At g L H → tyV K "list" (.ref a) H := fun H z => by
  obtain ⟨o, h1, as, e1, _⟩ := z.look h
  subst e1
  exact .inl ⟨rfl, _, SqL.of h1⟩
theorem wr_appT {rs : List (List V)} {r : List V} (i j : Nat) (h : L[i]? = some (a, .rows rs, true)) (hj : L[j]? = some (p, .ob (.tup r), bo)) (hl : rs.length < 100000) (c : C .non (L.set i (a, .rows (rs ++ [r]), true))) : Wp g L (rAppend (.ref a) [.ref p]) C :=
  fun H z Q q => by
    obtain ⟨o, h1, as, e1, hl1, h3⟩ := z.look h
    subst e1
    refine ⟨a, _, .ref p, rfl, rfl, h1, Nat.lt_of_lt_of_le (by rw [List.length_map, hl1]; exact hl) (by decide), q _ _ _ c ?_⟩
    exact z.chg h (fun c u e z => by rw [upd_ne z]; exact e) upd_same (rows_snoc ⟨as, rfl, hl1, h3⟩ h1 (z.get hj))
theorem wc_lenR {rs : List (List V)} (i : Nat) (h : L[i]? = some (a, .rows rs, bo)) (c : C (.int (rs.length : Int)) L) : Wp g L (rLen K [.ref a]) C := .now (fun H _ z q => by
  obtain ⟨o, h1, as, e1, hl1, h3⟩ := z.look h
  subst e1
  exact ⟨a, _, rfl, .inl (SqL.of h1), by rw [List.length_map, hl1]; exact q⟩) c
/-- extend by a list -/
theorem wr_ext {a2 : Addr} {xs ys : List V} {b2 : Bool} (i j : Nat) (h1 : L[i]? = some (a, .ob (.lst xs), true)) (h2 : L[j]? = some (a2, .ob (.lst ys), b2)) (hl : xs.length + ys.length ≤ 100000)
    (c : C .non (L.set i (a, .ob (.lst (xs ++ ys)), true))) : Wp g L (rExtend (.ref a) [.ref a2]) C :=
  fun H z Q q => ⟨a, a2, xs, ys, rfl, rfl, z.get h1, z.get h2, Nat.le_trans hl (by decide), q _ _ _ c (z.upd_chg h1)⟩
/-- iterators -/
theorem wi_rows {te : TE} {T : It → Led → Prop} (j : Nat) (h : Wp g L (te σ) fun x L1 => ∃ (a : Addr) (bo : Bool) (rs : List (List V)), x = .ref a ∧ L1[j]? = some (a, .rows rs, bo) ∧ T (Itl K a) L1) : Wp g L (iList K te σ) T :=
  fun H z Q q => h H z _ fun x L1 H1 ⟨a, bo, rs, e, s, k⟩ z1 => by
    obtain ⟨o, h1, as, e1, _⟩ := z1.look s
    subst e1
    exact ⟨a, e, ⟨_, SqL.of h1⟩, q _ _ _ k z1⟩
theorem wi_enum {tr : TA} {T : It → Led → Prop} (h : Wp g L (tr σ) fun vs L1 => ∃ (a : Addr) (xs : List V), vs = [.ref a] ∧ Seen K g L1 a xs ∧ T (Ite K a) L1) : Wp g L (iEnum K tr σ) T :=
  fun H z Q q => h H z _ fun x L1 H1 ⟨a, xs, e, s, k⟩ z1 => ⟨a, xs, e, s.at_ H1 z1, q _ _ _ k z1⟩
theorem wi_rev {tr : TA} {T : It → Led → Prop} (h : Wp g L (tr σ) fun vs L1 => ∃ (a : Addr) (xs : List V), vs = [.ref a] ∧ Seen K g L1 a xs ∧ T (Itv K a xs.length) L1) : Wp g L (iRev K tr σ) T :=
  fun H z Q q => h H z _ fun x L1 H1 ⟨a, xs, e, s, k⟩ z1 => ⟨a, xs, e, s.at_ H1 z1, q _ _ _ k z1⟩
theorem wi_revrows {tr : TA} {T : It → Led → Prop} (j : Nat) (h : Wp g L (tr σ) fun vs L1 => ∃ (a : Addr) (bo : Bool) (rs : List (List V)), vs = [.ref a] ∧ L1[j]? = some (a, .rows rs, bo) ∧ T (Itv K a rs.length) L1) : Wp g L (iRev K tr σ) T :=
  fun H z Q q => h H z _ fun x L1 H1 ⟨a, bo, rs, e, s, k⟩ z1 => by
    obtain ⟨o, h1, as, e1, hl, _⟩ := z1.look s
    subst e1
    refine ⟨a, _, e, SqL.of h1, ?_⟩
    rw [List.length_map, hl]
    exact q _ _ _ k z1
end
/-! ### promises with lists of tuples -/
section
def kRows (R : List (List V) → Prop) : Ks := { nx := fun _ _ => False, rt := fun v L => ∃ (p : Addr) (i : Nat) (rs : List (List V)), v = .ref p ∧ L[i]? = some (p, Ent.rows rs, true) ∧ R rs }
theorem eo_Rows {H0 : Hp} {R : List (List V) → Prop} {Q : VK} (h : ∀ p H' rs, R rs → H0 p = none → Same H0 H' → EntAt (.rows rs) H' p → Q (.ref p) H') : Eo ⟨H0, fun _ => False⟩ (kRows R) { nx := fun _ H' => Q .non H', rt := Q } :=
  ⟨fun _ _ _ k _ => k.elim, fun v L H ⟨p, i, rs, e, k, r⟩ z => by
    subst e
    refine h p H rs r ?_ z.since (z.look k)
    rcases z.own _ (List.mem_of_getElem? k) rfl with q | q
    · exact q
    · exact q.elim, fun _ _ _ k _ => k.elim, fun _ _ _ k _ => k.elim⟩
theorem At.newEA {g : Gr} {L : Led} {H H' : Hp} {p : Addr} {e : Ent} (h : At g L H) (s : Same H H') (n : H p = none) (he : EntAt e H' p) : At g (L ++ [(p, e, true)]) H' := by
  obtain ⟨o, h1, h2⟩ := he
  exact h.newE s n h1 h2
end
theorem rng_of {lo x : Int} {n i : Nat} (h : (rngI lo n)[i]? = some x) : i < n ∧ x = lo + (i : Int) := by
  have hk : i < n := by
    have := (List.getElem?_eq_some_iff.mp h).1
    rw [rngI_len] at this
    exact this
  rw [rngI_get hk] at h
  exact ⟨hk, (Option.some.inj h).symm⟩
/-! ### x += e -/
theorem ws_aug {g : Gr} {L : Led} {σ : St} {K : Ks} {i : Nat} {m : Int} {f : Int → Int → Int} {te : TE} (h0 : σ[i]? = some (some (.int m))) (h : Wp g L (te σ) fun y L1 => ∃ n : Int, y = .int n ∧ K.nx (σ.set i (some (.int (f m n)))) L1) : Ws g L (tAug i te (ipI f)) σ K :=
  fun H z D e => ⟨_, h0, h H z _ fun y L1 H1 ⟨n, e1, k⟩ z1 => ⟨m, n, rfl, e1, e.nx _ _ _ k z1⟩⟩
/-! ### rows of ints -/
def row2 (x : Int × Int) : List V := [.int x.1, .int x.2]
def row3 (x : Int × Int × Int) : List V := [.int x.1, .int x.2.1, .int x.2.2]
def row4 (x : Int × Int × Int × Int) : List V := [.int x.1, .int x.2.1, .int x.2.2.1, .int x.2.2.2]
theorem app_row2 {xs : List (Int × Int)} {a b : Int} : xs.map row2 ++ [[V.int a, .int b]] = (xs ++ [(a, b)]).map row2 := by rw [List.map_append]; rfl
theorem app_row3 {xs : List (Int × Int × Int)} {a b c : Int} : xs.map row3 ++ [[V.int a, .int b, .int c]] = (xs ++ [(a, b, c)]).map row3 := by rw [List.map_append]; rfl
theorem app_row4 {xs : List (Int × Int × Int × Int)} {a b c d : Int} : xs.map row4 ++ [[V.int a, .int b, .int c, .int d]] = (xs ++ [(a, b, c, d)]).map row4 := by rw [List.map_append]; rfl
theorem app_ints {xs : List Int} {v : Int} : xs.map V.int ++ [V.int v] = (xs ++ [v]).map V.int := by rw [List.map_append]; rfl
/-- the first of a list, or None -/
def headV (ys : List Int) : V := match ys with
  | [] => .non
  | y :: _ => .int y
theorem headV_at (ys : List Int) : atI (ys.map V.int ++ [.non]) 0 = some (headV ys) := by
  cases ys with
  | nil => rfl
  | cons y r => exact at_of (j := 0) (by decide) rfl
end Kr

set_option Elab.async false
set_option linter.all false
set_option maxRecDepth 100000
set_option maxHeartbeats 1000000
/-! ### min(x, default=d), max(x, default=d), min(x) over data -/
namespace L2
open PySem PySem.Spec PyProof.Rows PySem.W
def rMinDf (K : PySem.W.Frag) : List V → List V → Hp → VK → Prop := fun vs zs H Q => ∃ (a : Addr) (xs : List V) (ds : List PyData) (d : V), vs = [.ref a] ∧ zs = [d] ∧ SqL K H a xs ∧ DpAll K H xs ds ∧ AlikeAll ds ∧ PyData.depthAll ds ≤ 60 ∧ (ds = [] → Q d H) ∧
  ∀ (i : Nat) (x : V) (y : PyData) (ys : List PyData), ds = y :: ys → xs[i]? = some x → ds[i]? = some (minD y ys) → Q x H
def rMaxDf (K : PySem.W.Frag) : List V → List V → Hp → VK → Prop := fun vs zs H Q => ∃ (a : Addr) (xs : List V) (ds : List PyData) (d : V), vs = [.ref a] ∧ zs = [d] ∧ SqL K H a xs ∧ DpAll K H xs ds ∧ AlikeAll ds ∧ PyData.depthAll ds ≤ 60 ∧ (ds = [] → Q d H) ∧
  ∀ (i : Nat) (x : V) (y : PyData) (ys : List PyData), ds = y :: ys → xs[i]? = some x → ds[i]? = some (maxD y ys) → Q x H
def rMinDt (K : PySem.W.Frag) : List V → Hp → VK → Prop := fun vs H Q => ∃ (a : Addr) (xs : List V) (y : PyData) (ys : List PyData), vs = [.ref a] ∧ SqL K H a xs ∧ DpAll K H xs (y :: ys) ∧ AlikeAll (y :: ys) ∧ PyData.depthAll (y :: ys) ≤ 60 ∧
  ∀ (i : Nat) (x : V), xs[i]? = some x → (y :: ys)[i]? = some (minD y ys) → Q x H
section
variable {X : Cx}
theorem vals_at {xs : List V} {us : List Value} {i : Nat} {u : Value} (r : Vals xs us) (h : us[i]? = some u) : ∃ x, xs[i]? = some x ∧ RelV x u := by
  cases hx : xs[i]? with
  | none =>
    rw [r.none_of hx] at h
    cases h
  | some x =>
    obtain ⟨v, h1, h2⟩ := r.get hx
    rw [h] at h1
    cases h1
    exact ⟨x, rfl, h2⟩
theorem item_data {h h' : Heap} {its : List Value} {ds : List PyData} {as : List Addr} {i : Nat} {v : Value} {d : PyData} {bs : List Addr} (hr : ReadsAll h its ds as) (hv : its[i]? = some v) (hk : ∀ b o, h.get? b = some o → h'.get? b = some o) (r : Reads h' v d bs) : ds[i]? = some d := by
  obtain ⟨cs, r1, hi, _, _⟩ := readsAll_at hr i v hv
  have r2 := reads_keeps hk r1
  have e := (r2.unique _ _ r).1
  rw [← e, List.getD_eq_getElem?_getD, List.getElem?_eq_getElem hi]
  rfl
theorem cr_minDf (hc : X.calm = true) (hu : X.A.units + 64 < cLine) : CallRK X (.builtin "min") ["default"] (rMinDf X.K) := by
  intro pins s σ H vs zs us ws Q I r1 r2 h
  obtain ⟨a, xs, ds, d, rfl, rfl, hs, hd, ha, hdep, h0, h1⟩ := h
  obtain ⟨its, rv, hl, _⟩ := I.list hs
  obtain ⟨as, hr⟩ := Dp.readsAll I ds xs its hd rv
  rw [Vals.ref1 r1]
  cases r2 with
  | cons rw rr =>
    cases rr
    refine min_list_default (vs := its.toArray) (xs := ds) (I.ok.hd hc) hl.isList (by simpa using hr) ha (by omega) (fun e h' tk hk => ⟨d, H, I.kept hk, rw, h0 e⟩) fun y ys i v h' tk bs e hv hrd hk => ?_
    have hv : its[i]? = some v := by simpa using hv
    obtain ⟨x, hx, rx⟩ := vals_at rv hv
    exact ⟨x, H, I.kept hk, rx, h1 i x y ys e hx (item_data hr hv hk hrd)⟩
theorem cr_maxDf (hc : X.calm = true) (hu : X.A.units + 64 < cLine) : CallRK X (.builtin "max") ["default"] (rMaxDf X.K) := by
  intro pins s σ H vs zs us ws Q I r1 r2 h
  obtain ⟨a, xs, ds, d, rfl, rfl, hs, hd, ha, hdep, h0, h1⟩ := h
  obtain ⟨its, rv, hl, _⟩ := I.list hs
  obtain ⟨as, hr⟩ := Dp.readsAll I ds xs its hd rv
  rw [Vals.ref1 r1]
  cases r2 with
  | cons rw rr =>
    cases rr
    refine max_list_default (vs := its.toArray) (xs := ds) (I.ok.hd hc) hl.isList (by simpa using hr) ha (by omega) (fun e h' tk hk => ⟨d, H, I.kept hk, rw, h0 e⟩) fun y ys i v h' tk bs e hv hrd hk => ?_
    have hv : its[i]? = some v := by simpa using hv
    obtain ⟨x, hx, rx⟩ := vals_at rv hv
    exact ⟨x, H, I.kept hk, rx, h1 i x y ys e hx (item_data hr hv hk hrd)⟩
theorem cr_minDt (hc : X.calm = true) (hu : X.A.units + 64 < cLine) : CallR X (.builtin "min") (rMinDt X.K) := by
  intro pins s σ H vs us Q I r1 h
  obtain ⟨a, xs, y, ys, rfl, hs, hd, ha, hdep, h1⟩ := h
  obtain ⟨its, rv, hl, _⟩ := I.list hs
  obtain ⟨as, hr⟩ := Dp.readsAll I (y :: ys) xs its hd rv
  rw [Vals.ref1 r1]
  refine min_list_data (vs := its.toArray) (x := y) (xs := ys) (I.ok.hd hc) hl.isList (by simpa using hr) ha (by omega) fun i v h' tk bs hv hrd hk => ?_
  have hv : its[i]? = some v := by simpa using hv
  obtain ⟨x, hx, rx⟩ := vals_at rv hv
  exact ⟨x, H, I.kept hk, rx, h1 i x hx (item_data hr hv hk hrd)⟩
end
end L2
namespace Kr
open PySem L2 PySem.W
theorem wp_ckw {g : Gr} {L : Led} {σ : St} {C : V → Led → Prop} {r : List V → List V → Hp → VK → Prop} {tr tk : TA} (h : Wp g L (tr σ) fun vs L1 => Wp g L1 (tk σ) fun zs L2 => Wp g L2 (r vs zs) C) : Wp g L (tCKw r tr tk σ) C :=
  fun H a Q q => h H a _ fun vs L1 H1 h1 a1 => h1 H1 a1 _ fun zs L2 H2 h2 a2 => h2 H2 a2 Q q
/-! ### ints -/
theorem alike_ints (ns : List Int) : AlikeAll (ns.map PyData.int) := by
  refine ⟨fun x hx y hy => ?_, fun x hx => ?_⟩
  · obtain ⟨m, _, rfl⟩ := List.mem_map.mp hx
    obtain ⟨n, _, rfl⟩ := List.mem_map.mp hy
    rfl
  · obtain ⟨m, _, rfl⟩ := List.mem_map.mp hx
    exact fun h => nomatch h
theorem depth_ints : ∀ ns : List Int, PyData.depthAll (ns.map PyData.int) ≤ 60
  | [] => by simp [PyData.depthAll]
  | n :: r => by
    have := depth_ints r
    rw [List.map_cons]
    simp only [PyData.depthAll, PyData.depth]
    omega
theorem foldmin_is : ∀ (r : List Int) (n : Int), r.foldl min n ∈ n :: r ∧ ∀ k ∈ n :: r, r.foldl min n ≤ k
  | [], n => ⟨by simp, fun k hk => by have : k = n := by simpa using hk
                                      subst this; exact Int.le_refl _⟩
  | x :: r, n => by
    obtain ⟨h1, h2⟩ := foldmin_is r (min n x)
    rw [List.foldl_cons]
    refine ⟨?_, fun k hk => ?_⟩
    · rcases List.mem_cons.mp h1 with h | h
      · rw [h]
        rcases Int.le_total n x with q | q
        · rw [Int.min_eq_left q]; simp
        · rw [Int.min_eq_right q]; simp
      · simp [h]
    · have h0 := h2 (min n x) (by simp)
      rcases List.mem_cons.mp hk with h | h
      · omega
      · rcases List.mem_cons.mp h with h | h
        · omega
        · exact h2 k (by simp [h])
theorem foldmax_is : ∀ (r : List Int) (n : Int), r.foldl max n ∈ n :: r ∧ ∀ k ∈ n :: r, k ≤ r.foldl max n
  | [], n => ⟨by simp, fun k hk => by have : k = n := by simpa using hk
                                      subst this; exact Int.le_refl _⟩
  | x :: r, n => by
    obtain ⟨h1, h2⟩ := foldmax_is r (max n x)
    rw [List.foldl_cons]
    refine ⟨?_, fun k hk => ?_⟩
    · rcases List.mem_cons.mp h1 with h | h
      · rw [h]
        rcases Int.le_total n x with q | q
        · rw [Int.max_eq_right q]; simp
        · rw [Int.max_eq_left q]; simp
      · simp [h]
    · have h0 := h2 (max n x) (by simp)
      rcases List.mem_cons.mp hk with h | h
      · omega
      · rcases List.mem_cons.mp h with h | h
        · omega
        · exact h2 k (by simp [h])
section
variable {K : PySem.W.Frag} {g : Gr} {L : Led} {C : V → Led → Prop} {a : Addr} {d : V}
theorem dpAll_ints {H : Hp} : ∀ ns : List Int, DpAll K H (ns.map V.int) (ns.map PyData.int)
  | [] => .nil
  | n :: r => .cons (.int n) (dpAll_ints r)
theorem wc_minDI {ns : List Int} (s : Seen K g L a (ns.map V.int)) (c0 : ns = [] → C d L) (c : ∀ m, m ∈ ns → (∀ k ∈ ns, m ≤ k) → C (.int m) L) : Wp g L (rMinDf K [.ref a] [d]) C :=
  fun H z Q q => ⟨a, ns.map V.int, ns.map PyData.int, d, rfl, rfl, s.at_ H z, dpAll_ints ns, alike_ints ns, depth_ints ns, fun e => q _ _ _ (c0 (List.map_eq_nil_iff.mp e)) z, fun i x y ys e hx hm => by
    cases ns with
    | nil => cases e
    | cons n r =>
      rw [List.map_cons] at e
      injection e with e1 e2
      subst e1 e2
      rw [minD_ints] at hm
      rw [List.getElem?_map] at hx hm
      cases hi : (n :: r)[i]? with
      | none => rw [hi] at hx; cases hx
      | some k =>
        rw [hi] at hx hm
        have hx : V.int k = x := Option.some.inj hx
        have hm : PyData.int k = .int (r.foldl min n) := Option.some.inj hm
        injection hm with hm
        subst hx hm
        obtain ⟨h1, h2⟩ := foldmin_is r n
        exact q _ _ _ (c _ h1 h2) z⟩
theorem wc_maxDI {ns : List Int} (s : Seen K g L a (ns.map V.int)) (c0 : ns = [] → C d L) (c : ∀ m, m ∈ ns → (∀ k ∈ ns, k ≤ m) → C (.int m) L) : Wp g L (rMaxDf K [.ref a] [d]) C :=
  fun H z Q q => ⟨a, ns.map V.int, ns.map PyData.int, d, rfl, rfl, s.at_ H z, dpAll_ints ns, alike_ints ns, depth_ints ns, fun e => q _ _ _ (c0 (List.map_eq_nil_iff.mp e)) z, fun i x y ys e hx hm => by
    cases ns with
    | nil => cases e
    | cons n r =>
      rw [List.map_cons] at e
      injection e with e1 e2
      subst e1 e2
      rw [maxD_ints] at hm
      rw [List.getElem?_map] at hx hm
      cases hi : (n :: r)[i]? with
      | none => rw [hi] at hx; cases hx
      | some k =>
        rw [hi] at hx hm
        have hx : V.int k = x := Option.some.inj hx
        have hm : PyData.int k = .int (r.foldl max n) := Option.some.inj hm
        injection hm with hm
        subst hx hm
        obtain ⟨h1, h2⟩ := foldmax_is r n
        exact q _ _ _ (c _ h1 h2) z⟩
end
/-! ### pairs of ints -/
def dpP (x : Int × Int) : PyData := .tuple [.int x.1, .int x.2]
def ltP (y x : Int × Int) : Prop := y.1 < x.1 ∨ (y.1 = x.1 ∧ y.2 < x.2)
theorem dpP_inj {x y : Int × Int} (h : dpP x = dpP y) : x = y := by
  unfold dpP at h
  simp only [PyData.tuple.injEq, List.cons.injEq, PyData.int.injEq, and_true] at h
  exact Prod.ext h.1 h.2
theorem alike_P (xs : List (Int × Int)) : AlikeAll (xs.map dpP) := by
  refine ⟨fun x hx y hy => ?_, fun x hx => ?_⟩
  · obtain ⟨m, _, rfl⟩ := List.mem_map.mp hx
    obtain ⟨n, _, rfl⟩ := List.mem_map.mp hy
    rfl
  · obtain ⟨m, _, rfl⟩ := List.mem_map.mp hx
    exact fun h => nomatch h
theorem depth_P : ∀ xs : List (Int × Int), PyData.depthAll (xs.map dpP) ≤ 60
  | [] => by simp [PyData.depthAll]
  | n :: r => by
    have := depth_P r
    rw [List.map_cons]
    simp only [PyData.depthAll, PyData.depth, dpP]
    omega
theorem minP_is : ∀ (r : List (Int × Int)) (n : Int × Int), ∃ m, minD (dpP n) (r.map dpP) = dpP m ∧ m ∈ n :: r ∧ ∀ k ∈ n :: r, ¬ ltP k m
  | [], n => ⟨n, rfl, by simp, fun k hk => by
      have : k = n := by simpa using hk
      subst this
      unfold ltP
      omega⟩
  | x :: r, n => by
    have e : minD (dpP n) ((x :: r).map dpP) = minD (dpP (if x.1 < n.1 ∨ (x.1 = n.1 ∧ x.2 < n.2) then x else n)) (r.map dpP) := by
      unfold minD
      rw [List.map_cons, List.foldl_cons]
      congr 1
      unfold dpP
      rw [dataLt_ii]
      by_cases h : x.1 < n.1 ∨ (x.1 = n.1 ∧ x.2 < n.2)
      · rw [if_pos h, if_pos (decide_eq_true h)]
      · rw [if_neg h, if_neg (by simpa using h)]
    rw [e]
    by_cases h : x.1 < n.1 ∨ (x.1 = n.1 ∧ x.2 < n.2)
    · rw [if_pos h]
      obtain ⟨m, h1, h2, h3⟩ := minP_is r x
      refine ⟨m, h1, List.mem_cons_of_mem _ h2, fun k hk => ?_⟩
      rcases List.mem_cons.mp hk with q | q
      · have := h3 x (by simp)
        subst q
        unfold ltP at *
        omega
      · exact h3 k q
    · rw [if_neg h]
      obtain ⟨m, h1, h2, h3⟩ := minP_is r n
      refine ⟨m, h1, ?_, fun k hk => ?_⟩
      · rcases List.mem_cons.mp h2 with q | q
        · simp [q]
        · simp [q]
      · rcases List.mem_cons.mp hk with q | q
        · exact h3 k (by simp [q])
        · rcases List.mem_cons.mp q with q | q
          · have := h3 n (by simp)
            subst q
            unfold ltP at *
            omega
          · exact h3 k (by simp [q])
section
variable {K : PySem.W.Frag} {g : Gr} {L : Led} {C : V → Led → Prop} {a : Addr} {d : V} {bo : Bool}
theorem dpAll_P {H : Hp} : ∀ (as : List Addr) (xs : List (Int × Int)), as.length = xs.length → (∀ (k : Nat) (b : Addr) (r : List V), as[k]? = some b → (xs.map row2)[k]? = some r → H b = some (.tup r)) → DpAll K H (as.map V.ref) (xs.map dpP)
  | [], [], _, _ => .nil
  | [], _ :: _, h, _ => by cases h
  | _ :: _, [], h, _ => by cases h
  | b :: as, x :: xs, h, k => .cons (.tup (SqT.of (k 0 b (row2 x) rfl rfl)) (.cons (.int _) (.cons (.int _) .nil))) (dpAll_P as xs (by simpa using h) fun i c r h1 h2 => k (i + 1) c r h1 h2)
/-- the least of a list of pairs, or the default -/
theorem wc_minDP {xs : List (Int × Int)} (j : Nat) (hj : L[j]? = some (a, .rows (xs.map row2), bo)) (c0 : xs = [] → C d L) (c : ∀ x, x ∈ xs → (∀ y ∈ xs, ¬ ltP y x) → ∀ p, C (.ref p) (L ++ [(p, .ob (.tup (row2 x)), false)])) : Wp g L (rMinDf K [.ref a] [d]) C :=
  fun H z Q q => by
    obtain ⟨o, h1, as, e1, hl, hr⟩ := z.look hj
    subst e1
    refine ⟨a, as.map V.ref, xs.map dpP, d, rfl, rfl, SqL.of h1, dpAll_P as xs (by simpa using hl) hr, alike_P xs, depth_P xs, fun e => q _ _ _ (c0 (List.map_eq_nil_iff.mp e)) z, fun i x y ys e hx hm => ?_⟩
    cases xs with
    | nil => cases e
    | cons n r =>
      rw [List.map_cons] at e
      injection e with e1 e2
      subst e1 e2
      obtain ⟨m, h2, h3, h4⟩ := minP_is r n
      rw [h2, List.getElem?_map] at hm
      cases hi : (n :: r)[i]? with
      | none => rw [hi] at hm; cases hm
      | some k =>
        rw [hi] at hm
        have hm : dpP k = dpP m := Option.some.inj hm
        have hm := dpP_inj hm
        subst hm
        rw [List.getElem?_map] at hx
        cases hb : as[i]? with
        | none => rw [hb] at hx; cases hx
        | some b =>
          rw [hb] at hx
          have hx : V.ref b = x := Option.some.inj hx
          subst hx
          exact q _ _ _ (c k h3 h4 b) (z.addT (hr i b (row2 k) hb (by rw [List.getElem?_map, hi]; rfl)))
theorem wc_minP {xs : List (Int × Int)} (j : Nat) (hj : L[j]? = some (a, .rows (xs.map row2), bo)) (hne : xs ≠ []) (c : ∀ x, x ∈ xs → (∀ y ∈ xs, ¬ ltP y x) → ∀ p, C (.ref p) (L ++ [(p, .ob (.tup (row2 x)), false)])) : Wp g L (rMinDt K [.ref a]) C :=
  fun H z Q q => by
    obtain ⟨o, h1, as, e1, hl, hr⟩ := z.look hj
    subst e1
    cases xs with
    | nil => exact absurd rfl hne
    | cons n r =>
      refine ⟨a, as.map V.ref, dpP n, r.map dpP, rfl, SqL.of h1, dpAll_P as (n :: r) (by simpa using hl) hr, alike_P (n :: r), depth_P (n :: r), fun i x hx hm => ?_⟩
      obtain ⟨m, h2, h3, h4⟩ := minP_is r n
      rw [h2] at hm
      have hm : ((n :: r).map dpP)[i]? = some (dpP m) := hm
      rw [List.getElem?_map] at hm
      cases hi : (n :: r)[i]? with
      | none => rw [hi] at hm; cases hm
      | some k =>
        rw [hi] at hm
        have hm := dpP_inj (Option.some.inj hm)
        subst hm
        rw [List.getElem?_map] at hx
        cases hb : as[i]? with
        | none => rw [hb] at hx; cases hx
        | some b =>
          rw [hb] at hx
          have hx : V.ref b = x := Option.some.inj hx
          subst hx
          exact q _ _ _ (c k h3 h4 b) (z.addT (hr i b (row2 k) hb (by rw [List.getElem?_map, hi]; rfl)))
/-- found.extend([t] * int(..)) of tuples -/
theorem wr_extT {rs : List (List V)} {r : List V} {a2 p : Addr} {ys : List V} {b2 b3 : Bool} (i j k : Nat) (h : L[i]? = some (a, .rows rs, true)) (h2 : L[j]? = some (a2, .ob (.lst ys), b2)) (hy : ys = [.ref p]) (h3 : L[k]? = some (p, .ob (.tup r), b3)) (hl : rs.length < 99999)
    (c : C .non (L.set i (a, .rows (rs ++ [r]), true))) : Wp g L (rExtend (.ref a) [.ref a2]) C :=
  fun H z Q q => by
    obtain ⟨o, h1, as, e1, hl1, h4⟩ := z.look h
    subst e1 hy
    refine ⟨a, a2, _, _, rfl, rfl, h1, z.get h2, Nat.le_trans (show _ ≤ 100000 by rw [List.length_map, hl1]; simp; omega) (by decide), q _ _ _ c ?_⟩
    exact z.chg h (fun c u e z => by rw [upd_ne z]; exact e) upd_same (rows_snoc ⟨as, rfl, hl1, h4⟩ h1 (z.get h3))
theorem wr_extN {rs : List (List V)} {a2 : Addr} {ys : List V} {b2 : Bool} (i j : Nat) (h : L[i]? = some (a, .rows rs, true)) (h2 : L[j]? = some (a2, .ob (.lst ys), b2)) (hy : ys = []) (hl : rs.length < 99999) (c : C .non (L.set i (a, .rows rs, true))) : Wp g L (rExtend (.ref a) [.ref a2]) C :=
  fun H z Q q => by
    obtain ⟨o, h1, as, e1, hl1, h4⟩ := z.look h
    subst e1 hy
    refine ⟨a, a2, _, _, rfl, rfl, h1, z.get h2, Nat.le_trans (show _ ≤ 100000 by rw [List.length_map, hl1]; simp; omega) (by decide), q _ _ _ c ?_⟩
    rw [List.append_nil]
    refine z.chg h (fun c u e z => by rw [upd_ne z]; exact e) upd_same ⟨as, rfl, hl1, fun k b r q1 q2 => ?_⟩
    have q3 := h4 k b r q1 q2
    rw [upd_ne]
    · exact q3
    · intro e
      subst e
      rw [h1] at q3
      cases q3
end
/-! ### a promise: None, or a new pair of ints -/
section
def kP (A : Prop) (R : Int → Int → Prop) : Ks := { nx := fun _ _ => A, rt := fun v L => (v = .non ∧ A) ∨ ∃ (x y : Int) (p : Addr) (i : Nat), v = .ref p ∧ L[i]? = some (p, Ent.ob (.tup [.int x, .int y]), true) ∧ R x y }
theorem eo_P {H0 : Hp} {A : Prop} {R : Int → Int → Prop} {Q : VK} (h1 : A → ∀ H', Same H0 H' → Q .non H') (h2 : ∀ x y p H', R x y → H0 p = none → Same H0 H' → H' p = some (.tup [.int x, .int y]) → Q (.ref p) H') : Eo ⟨H0, fun _ => False⟩ (kP A R) { nx := fun _ H' => Q .non H', rt := Q } :=
  ⟨fun σ L H k z => h1 k _ z.since, fun v L H k z => by
    rcases k with ⟨e, k⟩ | ⟨x, y, p, i, e, k, r⟩
    · subst e
      exact h1 k _ z.since
    · subst e
      refine h2 x y p H r ?_ z.since (z.get k)
      rcases z.own _ (List.mem_of_getElem? k) rfl with q | q
      · exact q
      · exact q.elim, fun _ _ _ k _ => k.elim, fun _ _ _ k _ => k.elim⟩
end
/-! ### a list of pairs compared -/
theorem canLay_P : ∀ xs : List (Int × Int), PyData.canLayAll0 (xs.map dpP) = true
  | [] => by simp [PyData.canLayAll0]
  | x :: r => by
    rw [List.map_cons]
    simp only [PyData.canLayAll0, dpP, PyData.canLay0, canLay_P r, Bool.and_true, Bool.true_and]
theorem shaped_P (xs : List (Int × Int)) : SeqAt.shaped (.list (xs.map dpP)) = true := by
  have h1 := depth_P xs
  have h2 : PyData.depth (.list (xs.map dpP)) ≤ 64 := by simp only [PyData.depth]; omega
  show (PyData.canLay0 (.list (xs.map dpP)) && decide (PyData.depth (.list (xs.map dpP)) ≤ 64)) = true
  rw [Bool.and_eq_true]
  exact ⟨by simp only [PyData.canLay0]; exact canLay_P xs, decide_eq_true h2⟩
section
variable {K : PySem.W.Frag} {g : Gr} {L : Led} {C : V → Led → Prop} {a a2 : Addr} {bo : Bool}
theorem dp_rows {xs : List (Int × Int)} (j : Nat) (hj : L[j]? = some (a, .rows (xs.map row2), bo)) : DpA K g L (.ref a) (.list (xs.map dpP)) := fun H z => by
  obtain ⟨o, h1, as, e1, hl, hr⟩ := z.look hj
  subst e1
  exact .lst (SqL.of h1) (dpAll_P as xs (by simpa using hl) hr)
theorem eqv_P : ∀ xs ys : List (Int × Int), PyData.eqvAll (xs.map dpP) (ys.map dpP) = decide (xs = ys)
  | [], [] => by simp [PyData.eqvAll]
  | [], _ :: _ => by simp [PyData.eqvAll]
  | _ :: _, [] => by simp [PyData.eqvAll]
  | x :: xs, y :: ys => by
    rw [List.map_cons, List.map_cons]
    unfold PyData.eqvAll
    rw [eqv_P xs ys]
    have e : PyData.eqv (dpP x) (dpP y) = decide (x = y) := by
      unfold dpP
      rw [Bool.eq_iff_iff]
      simp only [PyData.eqv, PyData.eqvAll, Bool.and_eq_true, decide_eq_true_eq, beq_iff_eq, and_true]
      exact ⟨fun h => Prod.ext h.1 h.2, fun h => by rw [h]; exact ⟨rfl, rfl⟩⟩
    rw [e, Bool.eq_iff_iff]
    simp
theorem wr_neRN {xs : List (Int × Int)} (j : Nat) (hj : L[j]? = some (a, .rows (xs.map row2), bo)) (s2 : Seen K g L a2 []) (c : C (.bl (!decide (xs = []))) L) : Wp g L (rNeD K (.ref a) (.ref a2)) C :=
  wr_neD (dp_rows j hj) (dp_lst s2 dps_nil) (shaped_P xs) rfl (by
    have e : PyData.eqv (.list (xs.map dpP)) (.list []) = decide (xs = []) := by
      unfold PyData.eqv
      exact eqv_P xs []
    rw [e]
    exact c)
end
theorem eqv_pair (x y : Int) : PyData.eqv (.tuple [.int x, .int y]) (.tuple [.int x, .int y]) = true := by
  simp [PyData.eqv, PyData.eqvAll]
/-! ### several new objects at once -/
theorem At.news {g : Gr} {L E : Led} {H H' : Hp} (z : At g L H) (s : Same H H') (h : ∀ q ∈ E, H q.1 = none ∧ ∃ o, H' q.1 = some o ∧ q.2.1.In H' o) (nd : (E.map (·.1)).Nodup) : At g (L ++ E) H' := by
  refine ⟨fun c o e m => s _ _ (z.old c o e m), fun q hq => ?_, fun q hq hb => ?_, ?_⟩
  · rcases List.mem_append.mp hq with hq | hq
    · obtain ⟨o, h1, h2⟩ := z.led q hq
      exact ⟨o, s _ _ h1, h2.same s⟩
    · exact (h q hq).2
  · rcases List.mem_append.mp hq with hq | hq
    · exact z.own q hq hb
    · by_cases hmu : g.mu q.1
      · exact .inr hmu
      · refine .inl ?_
        cases e : g.H0 q.1 with
        | none => rfl
        | some u =>
          have := (h q hq).1
          rw [z.old q.1 u e hmu] at this
          cases this
  · rw [List.pairwise_append]
    refine ⟨z.nd, ?_, fun x hx y hy e => ?_⟩
    · have := List.nodup_iff_pairwise_ne.mp nd
      rw [List.pairwise_map] at this
      exact this.imp fun hne e => absurd e hne
    · obtain ⟨o, h1, _⟩ := z.led x hx
      rw [e, (h y hy).1] at h1
      cases h1
end Kr

set_option Elab.async false
set_option linter.all false
set_option maxRecDepth 100000
/-! ### more rules -/
namespace Kr
open PySem L2
section
variable {K : PySem.W.Frag} {g : Gr} {L : Led} {C : V → Led → Prop} {a : Addr}
/-- None or a number, told as one value -/
def IsOpt (N : Prop) (S : Int → Prop) (v : V) : Prop := (v = .non ∧ N) ∨ ∃ n : Int, v = .int n ∧ S n
theorem wc_opt {m : Hp → (V → Hp → Prop) → Prop} {N : Prop} {S : Int → Prop} (w : (N → C .non L) → (∀ n : Int, S n → C (.int n) L) → Wp g L m C) (h : ∀ v : V, IsOpt N S v → C v L) : Wp g L m C :=
  w (fun q => h _ (.inl ⟨rfl, q⟩)) (fun n q => h _ (.inr ⟨n, rfl, q⟩))
theorem cut_one (ns : List Int) : cutV (ns.map V.int) (some 1) none = (ns.drop 1).map V.int := by
  unfold cutV
  have h1 : HT.sIx (ns.map V.int).length 0 (some 1) = min 1 ns.length := by
    unfold HT.sIx
    simp
  have h2 : HT.sIx (ns.map V.int).length (ns.map V.int).length none = (ns.map V.int).length := rfl
  rw [h1, h2, List.length_map, ← List.map_drop]
  cases ns with
  | nil => rfl
  | cons n r =>
    simp
    rw [List.take_of_length_le (by simp)]
theorem wr_slO {ms : List Int} (s : Seen K g L a (ms.map V.int)) (c : ∀ p, C (.ref p) (L ++ [(p, .ob (.lst ((ms.drop 1).map V.int)), true)])) : Wp g L (rSlL K (.ref a) (some 1) none) C :=
  wr_slL s (by rw [cut_one]; exact c)
end
end Kr

set_option Elab.async false
set_option linter.all false
set_option maxRecDepth 100000
set_option maxHeartbeats 1000000
/-! ### a list of tuples, item by item by one name -/
namespace Kr
open PySem L2
structure IterN {α : Type} (g : Gr) (L : Led) (J : It) (tg : TG) (xs : List α) (row : α → List V) (S : α → Addr → St → St) : Prop where
  at_ : ∀ H, At g L H → J.stop xs.length H ∧ ∀ i x, xs[i]? = some x → J.go i H ∧ ∀ v H', J.yld i H v H' → Same H H' ∧ ∃ pr : Addr, H' pr = some (.tup (row x)) ∧ ∀ σ (Q : St → Hp → Prop), Q (S x pr σ) H' → tg v σ H' Q
theorem iter_rowsN {α : Type} {g : Gr} {L : Led} {a : Addr} {Kf : PySem.W.Frag} {bo : Bool} (i : Nat) (row : α → List V) {xs : List α} (j : Nat) (hj : L[j]? = some (a, .rows (xs.map row), bo)) :
    IterN g L (Itl Kf a) (gName i) xs row (fun _ pr σ => σ.set i (some (.ref pr))) := ⟨fun H z => by
  obtain ⟨o, h1, as, e1, hl, hr⟩ := z.look hj
  subst e1
  rw [List.length_map] at hl
  have hs : SqL Kf H a (as.map V.ref) := SqL.of h1
  refine ⟨⟨_, hs, by rw [List.length_map, hl]; exact Nat.le_refl _⟩, fun k x hx => ?_⟩
  have hk : k < as.length := by
    have := (List.getElem?_eq_some_iff.mp hx).1
    omega
  have hx2 : (as.map V.ref)[k]? = some (.ref as[k]) := by rw [List.getElem?_map, List.getElem?_eq_getElem hk]; rfl
  have hx3 := hr k as[k] (row x) (List.getElem?_eq_getElem hk) (by rw [List.getElem?_map, hx]; rfl)
  refine ⟨⟨_, _, hs, hx2⟩, fun v H' hy => ?_⟩
  obtain ⟨e1, e2⟩ := hy
  subst e1
  have e3 := e2 _ hs
  rw [hx2] at e3
  have e3 := Option.some.inj e3
  subst e3
  exact ⟨same_refl, as[k], hx3, fun σ Q q => q⟩⟩
section
variable {α : Type} {g : Gr} {L : Led} {σ : St} {K : Ks} {tg : TG} {tb : TS} {J : It} {xs : List α} {row : α → List V} {S : α → Addr → St → St}
theorem wf_GN (I : Nat → St → Led → Prop) (it : ∀ i σ L, I i σ L → IterN g L J tg xs row S) (h0 : I 0 σ L)
    (hs : ∀ i x pr σ L, xs[i]? = some x → I i σ L → Ws g (L ++ [(pr, .ob (.tup (row x)), false)]) tb (S x pr σ) { K with nx := fun σ' L' => ∃ L3, I (i + 1) σ' L3 ∧ L3 <+: L', ct := fun σ' L' => ∃ L3, I (i + 1) σ' L3 ∧ L3 <+: L', bk := K.nx })
    (hd : ∀ σ L, I xs.length σ L → K.nx σ L) : WFor g L J tg tb σ K := fun H z D e => by
  refine ⟨fun i m σ H => i ≤ xs.length ∧ m = xs.length - i ∧ ∃ L, I i σ L ∧ At g L H, ⟨xs.length, Nat.zero_le _, rfl, L, h0, z⟩, ?_⟩
  rintro i m σ H ⟨hi, rfl, L, k, z⟩
  obtain ⟨h1, h2⟩ := (it i σ L k).at_ H z
  by_cases hlt : i < xs.length
  · obtain ⟨h3, h4⟩ := h2 i xs[i] (List.getElem?_eq_getElem hlt)
    refine .inr ⟨h3, fun σ' H' => ∃ L, I (i + 1) σ' L ∧ At g L H', fun σ' H' q => ⟨xs.length - (i + 1), by omega, hlt, rfl, q⟩, fun v H' y => ?_⟩
    obtain ⟨h5, pr, hpr, h6⟩ := h4 v H' y
    refine h6 σ _ ?_
    have kk : ∀ σ' L' H', (∃ L3, I (i + 1) σ' L3 ∧ L3 <+: L') → At g L' H' → ∃ L, I (i + 1) σ' L ∧ At g L H' := fun σ' L' H' ⟨L3, hi, hp⟩ z' => ⟨L3, hi, z'.pre hp⟩
    exact hs i xs[i] pr σ L (List.getElem?_eq_getElem hlt) k H' ((z.same h5).addT hpr) _ ⟨kk, e.rt, e.nx, kk⟩
  · have e1 : i = xs.length := by omega
    subst e1
    exact .inl ⟨h1, e.nx _ _ _ (hd σ L k) z⟩
theorem wf_SN (it : IterN g L J tg xs row S) (I : Nat → List (Option (Option V)) → Prop) (h0 : ∃ vs, σ = putA σ vs ∧ I 0 vs)
    (hs : ∀ i x pr vs, xs[i]? = some x → I i vs → Ws g (L ++ [(pr, .ob (.tup (row x)), false)]) tb (S x pr (putA σ vs)) { K with nx := fun σ' L' => ∃ vs', (σ' = putA σ vs' ∧ I (i + 1) vs') ∧ L <+: L', ct := fun σ' L' => ∃ vs', (σ' = putA σ vs' ∧ I (i + 1) vs') ∧ L <+: L', bk := K.nx })
    (hd : ∀ vs, I xs.length vs → K.nx (putA σ vs) L) : WFor g L J tg tb σ K := by
  obtain ⟨vs0, e0, k0⟩ := h0
  refine wf_GN (xs := xs) (S := S) (fun i σ' L' => ∃ vs, (σ' = putA σ vs ∧ I i vs) ∧ L' = L) (fun i σ' L' ⟨vs, _, e⟩ => e ▸ it) ⟨vs0, ⟨e0, k0⟩, rfl⟩ ?_ ?_
  · rintro i x pr σ' L' hi ⟨vs, ⟨rfl, k⟩, rfl⟩
    intro H3 z3 D e
    have kk : ∀ σ' L'' H', (∃ vs', (σ' = putA σ vs' ∧ I (i + 1) vs') ∧ L' <+: L'') → At g L'' H' → D.nx σ' H' := fun σ' L'' H' ⟨vs', h1, h2⟩ z' => e.nx σ' L'' H' ⟨L', ⟨vs', h1, rfl⟩, h2⟩ z'
    have kc : ∀ σ' L'' H', (∃ vs', (σ' = putA σ vs' ∧ I (i + 1) vs') ∧ L' <+: L'') → At g L'' H' → D.ct σ' H' := fun σ' L'' H' ⟨vs', h1, h2⟩ z' => e.ct σ' L'' H' ⟨L', ⟨vs', h1, rfl⟩, h2⟩ z'
    exact hs i x pr vs hi k H3 z3 D ⟨kk, e.rt, e.bk, kc⟩
  · rintro σ' L' ⟨vs, ⟨rfl, k⟩, rfl⟩
    exact hd vs k
theorem wf_AN (j : Nat) {a : Addr} {e0 : Ent} (hj : L[j]? = some (a, e0, true)) (it : ∀ e, IterN g (L.set j (a, e, true)) J tg xs row S) (I : Nat → List (Option (Option V)) → Ent → Prop) (h0 : ∃ vs, σ = putA σ vs ∧ I 0 vs e0)
    (hs : ∀ i x pr vs e, xs[i]? = some x → I i vs e → Ws g (L.set j (a, e, true) ++ [(pr, .ob (.tup (row x)), false)]) tb (S x pr (putA σ vs)) { K with nx := fun σ' L' => ∃ vs' e', (σ' = putA σ vs' ∧ I (i + 1) vs' e') ∧ L.set j (a, e', true) <+: L', ct := fun σ' L' => ∃ vs' e', (σ' = putA σ vs' ∧ I (i + 1) vs' e') ∧ L.set j (a, e', true) <+: L', bk := K.nx })
    (hd : ∀ vs e, I xs.length vs e → K.nx (putA σ vs) (L.set j (a, e, true))) : WFor g L J tg tb σ K := by
  obtain ⟨vs0, e0', k0⟩ := h0
  refine wf_GN (xs := xs) (S := S) (fun i σ' L' => ∃ vs e, (σ' = putA σ vs ∧ I i vs e) ∧ L' = L.set j (a, e, true)) (fun i σ' L' ⟨vs, e, _, q⟩ => q ▸ it e) ⟨vs0, _, ⟨e0', k0⟩, (set_self hj).symm⟩ ?_ ?_
  · rintro i x pr σ' L' hi ⟨vs, en, ⟨rfl, k⟩, rfl⟩
    intro H3 z3 D e
    have kk : ∀ σ' L'' H', (∃ vs' e', (σ' = putA σ vs' ∧ I (i + 1) vs' e') ∧ L.set j (a, e', true) <+: L'') → At g L'' H' → D.nx σ' H' := fun σ' L'' H' ⟨vs', e', h1, h2⟩ z' => e.nx σ' L'' H' ⟨_, ⟨vs', e', h1, rfl⟩, h2⟩ z'
    have kc : ∀ σ' L'' H', (∃ vs' e', (σ' = putA σ vs' ∧ I (i + 1) vs' e') ∧ L.set j (a, e', true) <+: L'') → At g L'' H' → D.ct σ' H' := fun σ' L'' H' ⟨vs', e', h1, h2⟩ z' => e.ct σ' L'' H' ⟨_, ⟨vs', e', h1, rfl⟩, h2⟩ z'
    exact hs i x pr vs en hi k H3 z3 D ⟨kk, e.rt, e.bk, kc⟩
  · rintro σ' L' ⟨vs, en, ⟨rfl, k⟩, rfl⟩
    exact hd vs en k
end
section
variable {α : Type} {g : Gr} {L : Led} {σ : St} {C : V → Led → Prop} {tt : TT} {te : TE} {tg : TG} {J : It} {xs : List α} {row : α → List V} {S : α → Addr → St → St} {vs : List Nat}
theorem lc_GN {β : Type} (En : List β → Ent) (hmv : ∀ ys, (En ys).mov2 = true) (p : α → Bool) (f : α → β) (it : IterN g L J tg xs row S) (hw : ∀ x pr, wipe (S x pr (wipe σ vs)) vs = wipe σ vs) (hl : xs.length ≤ 99999)
    (e0 : ∀ H, (En []).In H (.lst []))
    (hs : ∀ x pr, x ∈ xs → ∀ (D : Addr) (acc : List β), Wp g (L ++ [(D, En acc, true)] ++ [(pr, .ob (.tup (row x)), false)]) (tt (S x pr (wipe σ vs))) fun b L2 => b = p x ∧
      if b = true then Wp g L2 (te (S x pr (wipe σ vs))) fun y L3 => (L ++ [(D, En acc, true)]) <+: L3 ∧ ∀ H, At g L3 H → ∃ ac, H D = some (.lst ac) ∧ ac.length = acc.length ∧ (En (acc ++ [f x])).In (upd H D (.lst (ac ++ [y]))) (.lst (ac ++ [y])) else (L ++ [(D, En acc, true)]) <+: L2)
    (c : ∀ D, C (.ref D) (L ++ [(D, En ((xs.filter p).map f), true)])) : WLc g L J tg tt te vs σ C := fun H z Q q D hD => by
  have hi : ∀ e : Ent, (L ++ [(D, e, true)])[L.length]? = some (D, e, true) := fun o => by simp
  have hsub : ∀ {e : Ent} {H : Hp}, At g (L ++ [(D, e, true)]) H → At g L H := fun z => z.pre ⟨_, rfl⟩
  refine ⟨fun i m H => i ≤ xs.length ∧ m = xs.length - i ∧ At g (L ++ [(D, En (((xs.take i).filter p).map f), true)]) H, ⟨xs.length, Nat.zero_le _, rfl, ?_⟩, ?_⟩
  · refine z.newE (fun c u e => by rw [upd_ne (ne_of_none e hD)]; exact e) hD upd_same ?_
    simpa using e0 _
  rintro i m H ⟨hi0, rfl, z⟩
  obtain ⟨h1, h2⟩ := it.at_ H (hsub z)
  by_cases hlt : i < xs.length
  · have hxi := List.getElem?_eq_getElem hlt
    obtain ⟨h3, h4⟩ := h2 i xs[i] hxi
    refine .inr ⟨h3, fun H' => At g (L ++ [(D, En (((xs.take (i + 1)).filter p).map f), true)]) H', fun H' q => ⟨xs.length - (i + 1), by omega, hlt, rfl, q⟩, fun v H' y => ?_⟩
    obtain ⟨h5, pr, hpr, h6⟩ := h4 v H' y
    refine h6 _ _ ⟨hw _ _, ?_⟩
    have hacc := filter_take_succ p f hxi
    have hlen : (((xs.take i).filter p).map f).length < 100000 := by
      have := List.length_filter_le p (xs.take i)
      have h3 : (xs.take i).length ≤ xs.length := by simp; omega
      rw [List.length_map]
      omega
    generalize ((xs.take i).filter p).map f = acc at z hacc hlen
    refine hs xs[i] pr (List.mem_of_getElem? hxi) D acc H' ((z.same h5).addT hpr) _ fun b L2 H2 ⟨eb, k⟩ z2 => ?_
    subst eb
    cases hp : p xs[i] with
    | true =>
      rw [hp] at k hacc
      have k : Wp g L2 _ _ := k
      refine k H2 z2 _ fun y L3 H3 ⟨hpre, hn⟩ z3 => ?_
      obtain ⟨ac, q1, q2, q3⟩ := hn H3 z3
      have z4 := z3.pre hpre
      refine ⟨ac, q1, by rw [q2]; exact Nat.lt_of_lt_of_le hlen (by decide), ?_⟩
      have z5 := z4.chg (e' := En (acc ++ [f xs[i]])) (H' := upd H3 D (.lst (ac ++ [y]))) (o := .lst (ac ++ [y])) (hi _) (fun c u e z => by rw [upd_ne z]; exact e) upd_same q3 (hmv _)
      rw [List.set_append_right _ _ (Nat.le_refl _), Nat.sub_self] at z5
      rw [hacc]
      exact z5
    | false =>
      rw [hp] at k hacc
      have k : _ <+: L2 := k
      have e2 : ((xs.take (i + 1)).filter p).map f = acc := by rw [hacc]; simp
      show At g _ H2
      rw [e2]
      exact z2.pre k
  · have e1 : i = xs.length := by omega
    subst e1
    rw [List.take_length] at z
    exact .inl ⟨h1, q _ _ _ (c D) z⟩
theorem lc_VN {β : Type} (T : β → V) (p : α → Bool) (f : α → β) (it : IterN g L J tg xs row S) (hw : ∀ x pr, wipe (S x pr (wipe σ vs)) vs = wipe σ vs) (hl : xs.length ≤ 99999)
    (hs : ∀ x pr, x ∈ xs → ∀ (D : Addr) (acc : List V), Wp g (L ++ [(D, .ob (.lst acc), true)] ++ [(pr, .ob (.tup (row x)), false)]) (tt (S x pr (wipe σ vs))) fun b L2 => b = p x ∧
      if b = true then Wp g L2 (te (S x pr (wipe σ vs))) fun y L3 => y = T (f x) ∧ (L ++ [(D, .ob (.lst acc), true)]) <+: L3 else (L ++ [(D, .ob (.lst acc), true)]) <+: L2)
    (c : ∀ D, C (.ref D) (L ++ [(D, .ob (.lst (((xs.filter p).map f).map T)), true)])) : WLc g L J tg tt te vs σ C := by
  refine lc_GN (fun ys => .ob (.lst (ys.map T))) (fun _ => rfl) p f it hw hl (fun _ => rfl) (fun x pr hx D acc => ?_) c
  refine (hs x pr hx D (acc.map T)).mono fun b L2 ⟨e, k⟩ => ⟨e, ?_⟩
  cases b with
  | true =>
    refine Wp.mono (show Wp g L2 _ _ from k) fun y L3 ⟨ey, hp⟩ => ⟨hp, fun H z => ?_⟩
    have hg := (z.pre hp).get (i := L.length) (a := D) (o := .lst (acc.map T)) (b := true) (by simp)
    subst ey
    refine ⟨_, hg, by rw [List.length_map], ?_⟩
    show HO.lst _ = HO.lst _
    rw [List.map_append]
    rfl
  | false => exact k
theorem lc_TN {β : Type} (rw_ : β → List V) (p : α → Bool) (f : α → β) (it : IterN g L J tg xs row S) (hw : ∀ x pr, wipe (S x pr (wipe σ vs)) vs = wipe σ vs) (hl : xs.length ≤ 99999)
    (hs : ∀ x pr, x ∈ xs → ∀ (D : Addr) (acc : List (List V)), Wp g (L ++ [(D, .rows acc, true)] ++ [(pr, .ob (.tup (row x)), false)]) (tt (S x pr (wipe σ vs))) fun b L2 => b = p x ∧
      if b = true then Wp g L2 (te (S x pr (wipe σ vs))) fun y L3 => (∃ (q : Addr) (j : Nat) (bo : Bool), y = .ref q ∧ L3[j]? = some (q, .ob (.tup (rw_ (f x))), bo)) ∧ (L ++ [(D, .rows acc, true)]) <+: L3 else (L ++ [(D, .rows acc, true)]) <+: L2)
    (c : ∀ D, C (.ref D) (L ++ [(D, .rows (((xs.filter p).map f).map rw_), true)])) : WLc g L J tg tt te vs σ C := by
  refine lc_GN (fun ys => .rows (ys.map rw_)) (fun _ => rfl) p f it hw hl (fun _ => ⟨[], rfl, rfl, fun k a r h => by simp at h⟩) (fun x pr hx D acc => ?_) c
  refine (hs x pr hx D (acc.map rw_)).mono fun b L2 ⟨e, k⟩ => ⟨e, ?_⟩
  cases b with
  | true =>
    refine Wp.mono (show Wp g L2 _ _ from k) fun y L3 ⟨⟨q, j, bo, ey, hq⟩, hp⟩ => ⟨hp, fun H z => ?_⟩
    obtain ⟨o, hg, hin⟩ := (z.pre hp).look (i := L.length) (a := D) (e := .rows (acc.map rw_)) (b := true) (by simp)
    subst ey
    obtain ⟨as, e1, hl1, h3⟩ := hin
    subst e1
    refine ⟨_, hg, by rw [List.length_map, hl1, List.length_map], ?_⟩
    show (Ent.rows ((acc ++ [f x]).map rw_)).In _ _
    rw [List.map_append]
    exact rows_snoc ⟨as, rfl, hl1, h3⟩ hg (z.get hq)
  | false => exact k
end
/-- an item of a list of tuples -/
theorem wr_ixR {K : PySem.W.Frag} {g : Gr} {L : Led} {C : V → Led → Prop} {a : Addr} {bo : Bool} {rs : List (List V)} {r : List V} {k : Int} {jj : Nat} (j : Nat) (hj : L[j]? = some (a, .rows rs, bo)) (hk : ixN rs.length k = some jj) (hr : rs[jj]? = some r) (c : ∀ p, C (.ref p) (L ++ [(p, .ob (.tup r), false)])) : Wp g L (rIxL K (.ref a) (.int k)) C :=
  fun H z Q q => by
    obtain ⟨o, h1, as, e1, hl, hrs⟩ := z.look hj
    subst e1
    have hlt : jj < as.length := by rw [hl]; exact (List.getElem?_eq_some_iff.mp hr).1
    have hx3 := hrs jj as[jj] r (List.getElem?_eq_getElem hlt) hr
    refine ⟨a, as.map V.ref, k, .ref as[jj], rfl, rfl, SqL.of h1, ?_, q _ _ _ (c _) (z.addT hx3)⟩
    unfold atI
    rw [List.length_map, hl, hk]
    show (as.map V.ref)[jj]? = _
    rw [List.getElem?_map, List.getElem?_eq_getElem hlt]
    rfl
end Kr
/-! ### rows of numbers and None as data -/
namespace Kr
open PySem L2
def plV : V → Bool
  | .int _ => true
  | .non => true
  | _ => false
def dV : V → PyData
  | .int n => .int n
  | _ => .none
def dR (r : List V) : PyData := .tuple (r.map dV)
section
variable {K : PySem.W.Frag} {H : Hp}
theorem dp_dV {v : V} (h : plV v = true) : Dp K H v (dV v) := by
  cases v with
  | int n => exact .int n
  | non => exact .non
  | _ => cases h
theorem dpAll_dV : ∀ {r : List V}, r.all plV = true → DpAll K H r (r.map dV)
  | [], _ => .nil
  | v :: r, h => by
    rw [List.all_cons, Bool.and_eq_true] at h
    exact .cons (dp_dV h.1) (dpAll_dV h.2)
theorem eqv_dV {v w : V} (h1 : plV v = true) (h2 : plV w = true) : (dV v).eqv (dV w) = decide (v = w) := by
  cases v with
  | int n =>
    cases w with
    | int m =>
      rw [Bool.eq_iff_iff]
      simp [dV, PyData.eqv]
    | non => simp [dV, PyData.eqv]
    | _ => cases h2
  | non =>
    cases w with
    | int m => simp [dV, PyData.eqv]
    | non => simp [dV, PyData.eqv]
    | _ => cases h2
  | _ => cases h1
theorem eqvAll_dV : ∀ {r q : List V}, r.all plV = true → q.all plV = true → PyData.eqvAll (r.map dV) (q.map dV) = decide (r = q)
  | [], [], _, _ => by simp [PyData.eqvAll]
  | [], _ :: _, _, _ => by simp [PyData.eqvAll]
  | _ :: _, [], _, _ => by simp [PyData.eqvAll]
  | v :: r, w :: q, h1, h2 => by
    rw [List.all_cons, Bool.and_eq_true] at h1 h2
    rw [List.map_cons, List.map_cons]
    unfold PyData.eqvAll
    rw [eqv_dV h1.1 h2.1, eqvAll_dV h1.2 h2.2, Bool.eq_iff_iff]
    simp
theorem eqv_dR {r q : List V} (h1 : r.all plV = true) (h2 : q.all plV = true) : (dR r).eqv (dR q) = decide (r = q) := by
  unfold dR PyData.eqv
  exact eqvAll_dV h1 h2
theorem eqvAll_dR : ∀ {rs qs : List (List V)}, rs.all (fun r => r.all plV) = true → qs.all (fun r => r.all plV) = true → PyData.eqvAll (rs.map dR) (qs.map dR) = decide (rs = qs)
  | [], [], _, _ => by simp [PyData.eqvAll]
  | [], _ :: _, _, _ => by simp [PyData.eqvAll]
  | _ :: _, [], _, _ => by simp [PyData.eqvAll]
  | v :: r, w :: q, h1, h2 => by
    rw [List.all_cons, Bool.and_eq_true] at h1 h2
    rw [List.map_cons, List.map_cons]
    unfold PyData.eqvAll
    rw [eqv_dR h1.1 h2.1, eqvAll_dR h1.2 h2.2, Bool.eq_iff_iff]
    simp
theorem canLay_dV (v : V) : PyData.canLay0 (dV v) = true := by
  cases v <;> simp [dV, PyData.canLay0]
theorem canLayAll_dV : ∀ r : List V, PyData.canLayAll0 (r.map dV) = true
  | [] => by simp [PyData.canLayAll0]
  | v :: r => by
    rw [List.map_cons]
    simp only [PyData.canLayAll0, canLay_dV v, canLayAll_dV r, Bool.and_true]
theorem canLayAll_dR : ∀ rs : List (List V), PyData.canLayAll0 (rs.map dR) = true
  | [] => by simp [PyData.canLayAll0]
  | r :: rs => by
    rw [List.map_cons]
    simp only [PyData.canLayAll0, dR, PyData.canLay0, canLayAll_dV r, canLayAll_dR rs, Bool.and_true]
theorem depth_dV : ∀ r : List V, PyData.depthAll (r.map dV) ≤ 10
  | [] => by simp [PyData.depthAll]
  | v :: r => by
    have := depth_dV r
    have h : PyData.depth (dV v) ≤ 10 := by cases v <;> simp [dV, PyData.depth]
    rw [List.map_cons]
    simp only [PyData.depthAll]
    omega
theorem depth_dR : ∀ rs : List (List V), PyData.depthAll (rs.map dR) ≤ 20
  | [] => by simp [PyData.depthAll]
  | r :: rs => by
    have := depth_dR rs
    have h := depth_dV r
    rw [List.map_cons]
    simp only [PyData.depthAll, dR, PyData.depth]
    omega
theorem shaped_dR (rs : List (List V)) : SeqAt.shaped (.list (rs.map dR)) = true := by
  have h1 := depth_dR rs
  have h2 : PyData.depth (.list (rs.map dR)) ≤ 64 := by simp only [PyData.depth]; omega
  show (PyData.canLay0 (.list (rs.map dR)) && decide (PyData.depth (.list (rs.map dR)) ≤ 64)) = true
  rw [Bool.and_eq_true]
  exact ⟨by simp only [PyData.canLay0]; exact canLayAll_dR rs, decide_eq_true h2⟩
theorem dpAll_dR {H : Hp} : ∀ (as : List Addr) (rs : List (List V)), as.length = rs.length → rs.all (fun r => r.all plV) = true → (∀ (k : Nat) (b : Addr) (r : List V), as[k]? = some b → rs[k]? = some r → H b = some (.tup r)) → DpAll K H (as.map V.ref) (rs.map dR)
  | [], [], _, _, _ => .nil
  | [], _ :: _, h, _, _ => by cases h
  | _ :: _, [], h, _, _ => by cases h
  | a :: as, r :: rs, h, hp, hr => by
    rw [List.all_cons, Bool.and_eq_true] at hp
    exact .cons (.tup (SqT.of (hr 0 a r rfl rfl)) (dpAll_dV hp.1)) (dpAll_dR as rs (by simpa using h) hp.2 fun k b q h1 h2 => hr (k + 1) b q h1 h2)
end
section
variable {K : PySem.W.Frag} {g : Gr} {L : Led} {C : V → Led → Prop} {a a2 : Addr} {bo b2 : Bool}
theorem dp_rowsG {rs : List (List V)} (j : Nat) (hj : L[j]? = some (a, .rows rs, bo)) (hp : rs.all (fun r => r.all plV) = true) : DpA K g L (.ref a) (.list (rs.map dR)) := fun H z => by
  obtain ⟨o, h1, as, e1, hl, hr⟩ := z.look hj
  subst e1
  exact .lst (SqL.of h1) (dpAll_dR as rs hl hp hr)
theorem eqv_rows {rs qs : List (List V)} (h1 : rs.all (fun r => r.all plV) = true) (h2 : qs.all (fun r => r.all plV) = true) : PyData.eqv (.list (rs.map dR)) (.list (qs.map dR)) = decide (rs = qs) := by
  unfold PyData.eqv
  exact eqvAll_dR h1 h2
theorem wr_neRR {rs qs : List (List V)} (i j : Nat) (hi : L[i]? = some (a, .rows rs, bo)) (hj : L[j]? = some (a2, .rows qs, b2)) (h1 : rs.all (fun r => r.all plV) = true) (h2 : qs.all (fun r => r.all plV) = true) (c : C (.bl (!decide (rs = qs))) L) : Wp g L (rNeD K (.ref a) (.ref a2)) C :=
  wr_neD (dp_rowsG i hi h1) (dp_rowsG j hj h2) (shaped_dR rs) (shaped_dR qs) (by rw [eqv_rows h1 h2]; exact c)
theorem wr_eqRR {rs qs : List (List V)} (i j : Nat) (hi : L[i]? = some (a, .rows rs, bo)) (hj : L[j]? = some (a2, .rows qs, b2)) (h1 : rs.all (fun r => r.all plV) = true) (h2 : qs.all (fun r => r.all plV) = true) (c : C (.bl (decide (rs = qs))) L) : Wp g L (rEqD K (.ref a) (.ref a2)) C :=
  wr_eqD (dp_rowsG i hi h1) (dp_rowsG j hj h2) (shaped_dR rs) (shaped_dR qs) (by rw [eqv_rows h1 h2]; exact c)
theorem wr_neRL {rs : List (List V)} (i : Nat) (hi : L[i]? = some (a, .rows rs, bo)) (h1 : rs.all (fun r => r.all plV) = true) (s2 : Seen K g L a2 []) (c : C (.bl (!decide (rs = []))) L) : Wp g L (rNeD K (.ref a) (.ref a2)) C :=
  wr_neD (dp_rowsG i hi h1) (dp_lst s2 dps_nil) (shaped_dR rs) rfl (by
    have e := eqv_rows (rs := rs) (qs := []) h1 rfl
    rw [show PyData.eqv (.list (rs.map dR)) (.list []) = decide (rs = []) from e]
    exact c)
theorem wr_eqRL {rs : List (List V)} (i : Nat) (hi : L[i]? = some (a, .rows rs, bo)) (h1 : rs.all (fun r => r.all plV) = true) (s2 : Seen K g L a2 []) (c : C (.bl (decide (rs = []))) L) : Wp g L (rEqD K (.ref a) (.ref a2)) C :=
  wr_eqD (dp_rowsG i hi h1) (dp_lst s2 dps_nil) (shaped_dR rs) rfl (by
    have e := eqv_rows (rs := rs) (qs := []) h1 rfl
    rw [show PyData.eqv (.list (rs.map dR)) (.list []) = decide (rs = []) from e]
    exact c)
theorem pl_row2 (xs : List (Int × Int)) : (xs.map row2).all (fun r => r.all plV) = true := by
  rw [List.all_eq_true]
  intro r hr
  obtain ⟨x, _, rfl⟩ := List.mem_map.mp hr
  rfl
theorem pl_row3 (xs : List (Int × Int × Int)) : (xs.map row3).all (fun r => r.all plV) = true := by
  rw [List.all_eq_true]
  intro r hr
  obtain ⟨x, _, rfl⟩ := List.mem_map.mp hr
  rfl
theorem pl_row4 (xs : List (Int × Int × Int × Int)) : (xs.map row4).all (fun r => r.all plV) = true := by
  rw [List.all_eq_true]
  intro r hr
  obtain ⟨x, _, rfl⟩ := List.mem_map.mp hr
  rfl
end
end Kr
/-! ### over a tuple -/
namespace Kr
open PySem L2
theorem wi_tup {g : Gr} {L : Led} {σ : St} {T : It → Led → Prop} {Kf : PySem.W.Frag} {tl : TE} (h : Wp g L (tl σ) fun x L1 => ∃ (a : Addr) (xs : List V), x = V.ref a ∧ SeenT Kf g L1 a xs ∧ T (Itt Kf a) L1) : Wp g L (iTup Kf tl σ) T :=
  fun H z Q q => h H z _ fun x L1 H1 ⟨a, xs, e, s, c⟩ z1 => ⟨a, e, ⟨xs, s.at_ H1 z1⟩, q _ _ _ c z1⟩
theorem iter_tup {g : Gr} {L : Led} {a : Addr} {i : Nat} {Kf : PySem.W.Frag} {xs : List V} (s : SeenT Kf g L a xs) : Iter g L (Itt Kf a) (gName i) xs (fun x σ => σ.set i (some x)) := ⟨fun H z => by
  have hs := s.at_ H z
  refine ⟨⟨_, hs, Nat.le_refl _⟩, fun k x hx => ?_⟩
  refine ⟨⟨_, _, hs, hx⟩, fun v H' hy => ?_⟩
  obtain ⟨e1, e2⟩ := hy
  subst e1
  have e3 := e2 _ hs
  rw [hx] at e3
  have e3 := Option.some.inj e3
  subst e3
  exact ⟨same_refl, fun σ Q q => q⟩⟩
end Kr

set_option Elab.async false
set_option linter.all false
set_option maxRecDepth 100000
set_option maxHeartbeats 4000000
/-! ### set(xs) of a list of ints; sorted of it, any number of members -/
namespace Kr
open PySem PySem.Spec PyProof.Rows L2
section
variable {P : Program} {w : World} {A : Around} {E : Value → Shared → Prop} {s : Shared}
theorem call_set_listI {l : Addr} {items : Array Value} (ns : List Int) {Q : Value → Shared → Prop} (hh : A.handled = none) (hl : s.heap.IsList l items) (hit : IntsAre items.toList ns) (hb : ns.length + 1 < scanBound)
    (h : ∀ (h' : Heap) (tk c : Nat), SetR w h' s.heap.objs.size (fun j => decide (j ∈ ns)) c → c ≤ ns.length → (∀ b o, s.heap.get? b = some o → h'.get? b = some o) → Q (.ref s.heap.objs.size) { s with heap := h', toks := tk }) :
    wpAny (model P w) A (call (.type "set") [.ref l]) Q E s := by
  have hisz : items.size = ns.length := by
    have q := IntsAre.length hit
    rw [Array.length_toList] at q
    exact q
  obtain ⟨c, tl, hmro⟩ := F.called_set.mro
  have hmade := F.called_set.made
  have hsub := F.called_set.sub
  refine wpAny_call (codeAny_of_tree ?_)
  show wpAny _ _ (callAny (.type "set") _) _ _ _
  refine wpAny_pure ⟨Code.quiet_builtin _ (by decide +kernel), codeAny_builtin F.entry_type_call ?_⟩
  rw [Around.under_plain (weight_type_call_type "set" [.ref l] []) rfl]
  have h1 := F.called_set.notType
  have h2 := F.called_set.canCreate
  have hct := F.typeCall_set_1 (.ref l)
  repeat (any_goals (first | assumption | wp_step))
  refine codeAny_mono (code_set_led1 (.ref l) (E := E) (Q₁ := fun obj s₁ => obj = .ref s.heap.objs.size ∧ s₁ = { s with heap := s.heap.push { cls := .type "set", dict := none, data := .set #[] 0 (.fresh 0 0 (!w.params.followText "set-order")) } }) ⟨rfl, rfl⟩) fun r s₁ hr => ?_
  cases r with
  | error e => exact hr
  | ok fl =>
    cases fl with
    | ret obj =>
      obtain ⟨rfl, rfl⟩ := hr
      have hS : (s.heap.push { cls := .type "set", dict := none, data := .set #[] 0 (.fresh 0 0 (!w.params.followText "set-order")) }).get? s.heap.objs.size = some { cls := .type "set", dict := none, data := .set #[] 0 (.fresh 0 0 (!w.params.followText "set-order")) } := Heap.get?_push_size _ rfl
      have hT : Shared.TypeIs { s with heap := s.heap.push { cls := .type "set", dict := none, data := .set #[] 0 (.fresh 0 0 (!w.params.followText "set-order")) } } (.ref s.heap.objs.size) "set" := ⟨_, hS, rfl⟩
      have hli := F.called_set.init.lookup
      have hbi := F.called_set.init.bind (.ref s.heap.objs.size)
      repeat (any_goals (first | assumption | wp_step))
      refine codeAny_mono (codeAny_call_builtin (R := wants (fun r s₂ => r = .none ∧ ∃ h' tk c, s₂ = { s with heap := h', toks := tk } ∧ SetR w h' s.heap.objs.size (fun j => decide (j ∈ ns)) c ∧ c ≤ ns.length ∧
          (∀ b o, s.heap.get? b = some o → h'.get? b = some o)) E) F.called_set.init.plain F.entry_set_init (check_set_init_1 hT ?_)) fun r₂ s₂ hr₂ => ?_
      · obtain ⟨ol, hol, hcl, nl, hdl⟩ := hl
        obtain ⟨ocls, odict, odata, oslots⟩ := ol
        simp only at hcl hdl
        subst hcl; subst hdl
        have hol' : (s.heap.push { cls := .type "set", dict := none, data := .set #[] 0 (.fresh 0 0 (!w.params.followText "set-order")) }).get? l = some { cls := .type "list", dict := odict, data := .seq items nl, slots := oslots } := Heap.get?_push_of_some _ hol
        have hsls := F.sub_list_set
        have hslf := F.sub_list_frozenset
        have hne : (Value.type "list" == Value.type "dict") = false := by decide
        have hl1 : (s.heap.push { cls := .type "set", dict := none, data := .set #[] 0 (.fresh 0 0 (!w.params.followText "set-order")) }).IsList l items := ⟨_, hol', rfl, nl, rfl⟩
        unfold Builtin.«set.__init__» noKeywords Builtin.Frozenset.updateFrom
        generalize hPI : pyIter = PI
        wp_walk
        subst hPI
        refine wpAny_pyIter_list hl1 ?_
        refine wpAny_bind (wpAny_runValue ?_)
        have hlS : l < s.heap.objs.size := Heap.lt_size hol
        have hh3 : A.in1.in1.in1.handled = none := by simp [hh]
        have hz1 : (s.heap.push { cls := .type "set", dict := none, data := .set #[] 0 (.fresh 0 0 (!w.params.followText "set-order")) }).objs.size = s.heap.objs.size + 1 := Heap.size_push ..
        have hneI : l ≠ (s.heap.push { cls := .type "set", dict := none, data := .set #[] 0 (.fresh 0 0 (!w.params.followText "set-order")) }).objs.size := by
          rw [Heap.size_push]; exact Nat.ne_of_lt (Nat.lt_succ_of_lt hlS)
        have hSf : s.heap.objs.size ∉ [(s.heap.push { cls := .type "set", dict := none, data := .set #[] 0 (.fresh 0 0 (!w.params.followText "set-order")) }).objs.size, l] := by
          rw [Heap.size_push]; simp only [List.mem_cons, List.mem_singleton, List.not_mem_nil, or_false, not_or]
          exact ⟨Nat.ne_of_lt (Nat.lt_succ_self _), Nat.ne_of_gt hlS⟩
        have hval : ∀ (i : Nat) (v : Value), items[i]? = some v → ∃ k t, ns[i]? = some k ∧ v = .int k t := fun i v hv => by
          have hi : i < ns.length := by rw [← hisz]; exact (Array.getElem?_eq_some_iff.mp hv).1
          obtain ⟨t, e⟩ := PyProof.Rows.IntsAre.int_at hit i v (by rw [Array.getElem?_toList]; exact hv)
          refine ⟨ns[i], t, List.getElem?_eq_getElem hi, ?_⟩
          rw [e, List.getD_eq_getElem?_getD, List.getElem?_eq_getElem hi] <;> rfl
        refine set_update_ints ((Walks.list hh3 _ l hneI items).toS) s.heap.objs.size
          hSf ns hisz hb hval (items.size - 0) 0 _ (by omega) (Nat.zero_le _)
          ⟨⟨_, Heap.get?_push_size _ rfl, rfl, rfl⟩, (hl1.push _)⟩ ?hS0 ?hR
        case hS0 =>
          have hget : ((s.heap.push { cls := .type "set", dict := none, data := .set #[] 0 (.fresh 0 0 (!w.params.followText "set-order")) }).push { cls := .type "list_iterator", data := .fields #[.ref l, .int 0 0] }).get? s.heap.objs.size
              = some { cls := .type "set", dict := none, data := .set #[] 0 (.fresh 0 0 (!w.params.followText "set-order")) } := Heap.get?_push_of_some _ hS
          exact ⟨0, Nat.le_refl 0, setR_new_at hget⟩
        case hR =>
          intro s' c' hm hc' hS'
          obtain ⟨h', g2, d', tk', os'⟩ := s'
          have eg : g2 = s.gens := hm.gens
          have ed : d' = s.drawn := hm.drawn
          have eo : os' = s.os := hm.os
          subst eg; subst ed; subst eo
          show wpAny _ _ _ _ _ _
          refine wpAny_pure ?_
          show wpAny _ _ (ret Value.none) _ _ _
          rw [hisz] at hc'
          refine wpAny_pure ⟨rfl, h', tk', c', rfl, hS', hc', fun b o e => ?_⟩
          have hb0 : b < s.heap.objs.size := Heap.lt_size e
          have hb1 : b ≠ s.heap.objs.size := Nat.ne_of_lt hb0
          have hb2 : b ≠ (s.heap.push { cls := .type "set", dict := none, data := .set #[] 0 (.fresh 0 0 (!w.params.followText "set-order")) }).objs.size := by
            rw [Heap.size_push]; exact Nat.ne_of_lt (Nat.lt_succ_of_lt hb0)
          exact hm.heap b o (by simp only [List.mem_cons, List.mem_singleton, List.not_mem_nil, or_false, not_or]; exact ⟨hb1, hb2⟩) (Heap.get?_push_of_some _ (Heap.get?_push_of_some _ e))
      · cases r₂ with
        | error e => exact hr₂
        | ok fl₂ =>
          cases fl₂ with
          | ret r =>
            obtain ⟨rfl, h', tk, c', rfl, hS', hc', hk'⟩ := hr₂
            repeat (any_goals (first | assumption | wp_step))
            exact h _ _ _ hS' hc' hk'
          | _ => exact hr₂.elim
    | _ => exact hr.elim
/-- sorted(found), any number of members -/
theorem sorted_setO {a : Addr} {S : Int → Bool} {n : Nat} {Q : Value → Shared → Prop} (R : SetR w s.heap a S n) (hh : A.handled = none) (hz : n ≤ sizeLine)
    (hQ : ∀ s' p (out : Array Value) (c : Nat) (ns : List Int), (∀ b o, s.heap.get? b = some o → s'.heap.get? b = some o) → s'.gens = s.gens → s'.os = s.os → s.heap.objs.size ≤ p →
      s'.heap.get? p = some (seqObj "list" out c) → IntsAre out.toList ns → ns.Pairwise (· < ·) → (∀ k, k ∈ ns ↔ S k = true) → ns.length = n → Q (.ref p) s') :
    wpAny (model P w) A (call (.builtin "sorted") [.ref a]) Q E s := by
  obtain ⟨o, es, ep, t, ho, hex, hd, g, nd, hm, hb, hf, hn, hr, hl⟩ := R
  refine Calls.call_function_entry kind_sorted plain_sorted entry_sorted (args_sorted1 _) ?_
  unfold Builtin.«sorted»
  refine wpAny_bind (m := checkCount "sorted" 1 1 _) (wpAny_pure ?_)
  refine wpAny_bind (collect_set (A := A.in1) hh ⟨o, ho, hex.1, hd⟩ hf hb hr hl fun s1 vs k1 hz1 g1 o1 pm => ?_)
  have hvl : vs.length = n := by rw [pm.length_eq, List.length_map, Array.length_toList]; exact hn
  have hI : IntsAre vs (vs.map SrtO.iv) := SrtO.ints_iv fun v hv => by
    obtain ⟨e, he, q⟩ := List.mem_map.mp (pm.mem_iff.mp hv)
    obtain ⟨k, tk, h1, _⟩ := g e he
    exact ⟨k, tk, by rw [← q]; exact h1⟩
  have hkey : ∀ e ∈ es.toList, SrtO.iv e.2 = keyOf e := fun e he => by
    obtain ⟨k, tk, h1, _⟩ := g e he
    unfold keyOf
    rw [h1]
    rfl
  have pk : (vs.map SrtO.iv).Perm (es.toList.map keyOf) := by
    have q := pm.map SrtO.iv
    rw [List.map_map] at q
    have e2 : es.toList.map (SrtO.iv ∘ fun x => x.2) = es.toList.map keyOf := List.map_congr_left fun e he => hkey e he
    rw [← e2]
    exact q
  refine wpAny_bind (wpAny_newList ?_ (by rw [hvl]; exact hz))
  have hoL : (s1.heap.push (seqObj "list" vs.toArray 0)).get? s1.heap.objs.size = some (seqObj "list" vs.toArray 0) := Heap.get?_push_size _ rfl
  refine wpAny_bind (wpAny_holding (wpAny_call_entry PyProof.Rows.slot_list_sort ⟨_, hoL, rfl⟩ PyProof.Rows.entry_list_sort (SrtO.list_sort_ord SrtO.swo_int hoL (by rw [hvl]; exact hz) (fun h2 => SrtO.ints_sortable hI h2) fun out h1 h2 => ⟨_, rfl, ?_⟩) (PyProof.Rows.args_list_sort _)))
  obtain ⟨q1, q2, q3⟩ := SrtO.ints_out hI h1 h2
  obtain ⟨c, hc⟩ := PyProof.Rows.sortedHeap_at (vs := vs) (out := out.toArray) hoL
  have pn : (out.map SrtO.iv).Perm (es.toList.map keyOf) := q2.trans pk
  refine wpAny_pure ⟨_, rfl, hQ _ s1.heap.objs.size out.toArray c (out.map SrtO.iv) (fun b u e => ?_) g1 o1 hz1 hc (by simpa using q1) (lt_of_le_nodup _ q3 (pn.nodup_iff.mpr nd)) (fun k => by rw [pn.mem_iff, ← hm k]) ?_⟩
  · have q := k1 b u e
    have hlt := Heap.lt_size q
    show (sortedHeap (s1.heap.push (seqObj "list" vs.toArray 0)) s1.heap.objs.size vs out.toArray).get? b = some u
    rw [PyProof.Rows.sortedHeap_old (Nat.ne_of_lt hlt) (by rw [size_push']; exact Nat.lt_succ_of_lt hlt)]
    exact Heap.get?_push_of_some _ q
  · rw [pn.length_eq, List.length_map, Array.length_toList]; exact hn
end
section
variable {X : Cx}
def rSetI (K : PySem.W.Frag) (w : World) : List V → Hp → VK → Prop := fun xs H Q => ∃ (l : Addr) (ns : List Int), xs = [V.ref l] ∧ SqL K H l (ns.map V.int) ∧ ns.length ≤ 4000 ∧ ∀ (p : Addr) (c : Nat), H p = none → c ≤ ns.length → Q (.ref p) (upd H p (SetO w p (fun j => decide (j ∈ ns)) c))
theorem cr_setI (hc : X.calm = true) : CallR X (.type "set") (rSetI X.K X.w) := by
  intro pins s σ H xs us Q I r h
  obtain ⟨l, ns, rfl, hq, hl, q⟩ := h
  rw [Vals.ref1 r]
  obtain ⟨its, rv, pl, hz⟩ := I.list hq
  refine call_set_listI ns (I.ok.hd hc) pl.isList (by simpa using RZ.intsAre_vals rv) (by unfold scanBound; omega) fun h' tk c hS hc' hk => ?_
  exact ⟨.ref _, upd H s.heap.objs.size (SetO X.w s.heap.objs.size (fun j => decide (j ∈ ns)) c), I.laid (t' := tk) hk (Nat.le_refl _) (setO_new hS), rfl, q _ c (I.hok.fresh (Nat.le_refl _)) hc'⟩
def rSortedSetO (w : World) : List V → Hp → VK → Prop := fun vs H Q => ∃ (a : Addr) (S : Int → Bool) (n : Nat), vs = [V.ref a] ∧ H a = some (SetO w a S n) ∧ n ≤ 4000 ∧
  ∀ (ns : List Int) (p : Addr), ns.Pairwise (· < ·) → (∀ k : Int, k ∈ ns ↔ S k = true) → ns.length = n → H p = none → Q (.ref p) (upd H p (.lst (ns.map V.int)))
theorem cr_sortedSetO (hc : X.calm = true) : CallR X (.builtin "sorted") (rSortedSetO X.w) := by
  intro pins s σ H vs us Q I r h
  obtain ⟨a, S, n, rfl, ha, h64, q⟩ := h
  have R := setO_get I ha
  rw [Vals.ref1 r]
  refine sorted_setO R (I.ok.hd hc) (by rw [sizeLine_eq]; omega) fun s' p out c ns k g o hp hg hi hs hm hl => ?_
  have hlen : (ns.map V.int).length ≤ sizeLine := by rw [List.length_map, hl, sizeLine_eq]; omega
  have hn : H p = none := I.hok.fresh hp
  have J : Inv X pins σ (upd H p (.lst (ns.map V.int))) { s with heap := s'.heap, gens := s'.gens, drawn := s'.drawn, toks := s'.toks } :=
    I.call (ch := []) (Un.laid k hp hn) (I.hok.laid k hp ⟨hlen, out.toList, c, vals_of_ints hi, hg⟩) (by rw [g]; exact I.bare) (fun _ z => nomatch z)
  have e : s' = { s with heap := s'.heap, gens := s'.gens, drawn := s'.drawn, toks := s'.toks } := by
    cases s'
    cases s
    cases o
    rfl
  rw [e]
  exact ⟨.ref p, _, J, rfl, q ns p hs hm hl hn⟩
end
section
variable {K : PySem.W.Frag} {w : World} {g : Gr} {L : Led} {C : V → Led → Prop} {a : Addr}
theorem wc_set {ns : List Int} (s : Seen K g L a (ns.map V.int)) (hl : ns.length ≤ 4000) (c : ∀ (p : Addr) (n : Nat), n ≤ ns.length → C (.ref p) (L ++ [(p, .ob (SetO w p (fun j => decide (j ∈ ns)) n), true)])) : Wp g L (rSetI K w [.ref a]) C :=
  fun H z Q q => ⟨a, ns, rfl, s.at_ H z, hl, fun p n hp hn => q _ _ _ (c p n hn) (z.upd_new hp)⟩
theorem wc_sortedSet {S : Int → Bool} {n : Nat} {bo : Bool} (i : Nat) (h : L[i]? = some (a, .ob (SetO w a S n), bo)) (hn : n ≤ 4000) (c : ∀ (ns : List Int) (p : Addr), ns.Pairwise (· < ·) → (∀ k : Int, k ∈ ns ↔ S k = true) → ns.length = n → C (.ref p) (L ++ [(p, .ob (.lst (ns.map V.int)), true)])) : Wp g L (rSortedSetO w [.ref a]) C :=
  fun H z Q q => ⟨a, S, n, rfl, z.get h, hn, fun ns p h1 h2 h3 hp => q _ _ _ (c ns p h1 h2 h3) (z.upd_new hp)⟩
end
end Kr

set_option Elab.async false
set_option linter.all false
set_option maxRecDepth 100000
/-! ### None or a number, compared -/
namespace Kr
open PySem L2
def leV (v : V) (hi : Int) : Bool := match v with
  | .int n => decide (n ≤ hi)
  | _ => false
def ltV (v : V) (hi : Int) : Bool := match v with
  | .int n => decide (n < hi)
  | _ => false
section
variable {g : Gr} {L : Led} {C : V → Led → Prop}
theorem wr_leO {v : V} {hi : Int} (h : ∃ n : Int, v = .int n) (c : C (.bl (leV v hi)) L) : Wp g L (rI0 (fun i j => .bl (decide (i ≤ j))) v (.int hi)) C := by
  obtain ⟨n, rfl⟩ := h
  exact wr0 c
theorem wr_ltO {v : V} {hi : Int} (h : ∃ n : Int, v = .int n) (c : C (.bl (ltV v hi)) L) : Wp g L (rI0 (fun i j => .bl (decide (i < j))) v (.int hi)) C := by
  obtain ⟨n, rfl⟩ := h
  exact wr0 c
end
end Kr
namespace Kr
open PySem L2
def inO (v : V) (ns : List Int) : Bool := match v with
  | .int n => decide (n ∈ ns)
  | _ => false
theorem wr_inO {K : PySem.W.Frag} {g : Gr} {L : Led} {C : V → Led → Prop} {a : Addr} {v : V} {ns : List Int} (h : v = .non ∨ ∃ n : Int, v = .int n) (s : Seen K g L a (ns.map V.int)) (c : C (.bl (inO v ns)) L) : Wp g L (rIn K false v (.ref a)) C := by
  rcases h with rfl | ⟨n, rfl⟩
  · refine wr_in s rfl flat_ints ?_
    have e : inV .non (ns.map V.int) = false := by
      unfold inV
      rw [List.any_eq_false]
      intro x hx
      obtain ⟨m, _, rfl⟩ := List.mem_map.mp hx
      simp [eqV]
    rw [e]
    exact c
  · exact wr_inI s c
end Kr

set_option Elab.async false
set_option linter.all false
set_option maxRecDepth 100000
set_option maxHeartbeats 1000000
/-! ### least of a list; something else put into a list of tuples -/
open PySem L2
namespace Kr
section
variable {K : PySem.W.Frag} {g : Gr} {L : Led} {σ : St} {C : V → Led → Prop} {a p : Addr} {bo : Bool}
theorem wp_lst0 (c : ∀ p, C (.ref p) (L ++ [(p, .ob (.lst (([] : List Int).map V.int)), true)])) : Wp g L (tLst tNil σ) C := wp_lst (wa_nil ⟨by simp, c⟩)
theorem wc_minL {ns : List Int} (s : Seen K g L a (ns.map V.int)) (h0 : 0 < ns.length) (c : ∀ m : Int, m ∈ ns → (∀ k ∈ ns, m ≤ k) → C (.int m) L) : Wp g L (rMin K [.ref a]) C :=
  fun H z Q q => ⟨a, ns, rfl, s.at_ H z, h0, fun m h1 h2 => q _ _ _ (c m h1 h2) z⟩
theorem wr_appX {rs : List (List V)} {x : V} (i : Nat) (h : L[i]? = some (a, .rows rs, true)) (hl : rs.length < 100000) (c : ∀ xs : List V, C .non (L.set i (a, .ob (.lst xs), true))) : Wp g L (rAppend (.ref a) [x]) C :=
  fun H z Q q => by
    obtain ⟨o, h1, as, e1, hl1, h3⟩ := z.look h
    subst e1
    refine ⟨a, _, x, rfl, rfl, h1, Nat.lt_of_lt_of_le (by rw [List.length_map, hl1]; exact hl) (by decide), q _ _ _ (c (as.map V.ref ++ [x])) ?_⟩
    exact z.chg h (fun c u e z => by rw [upd_ne z]; exact e) upd_same rfl
theorem wp_bm0 {T : String} {r : V → List V → Hp → VK → Prop} {te : TE} (h : Wp g L (te σ) fun x L1 => (∀ H, At g L1 H → tyV K T x H) ∧ Wp g L1 (r x []) C) : Wp g L (tBM0 K T r te σ) C :=
  fun H z Q q => h H z _ fun x L1 H1 ⟨k, h1⟩ z1 => ⟨k H1 z1, h1 H1 z1 Q q⟩
/-- the last row taken off a list of tuples -/
theorem wr_popR {rs : List (List V)} {r : List V} (i : Nat) (h : L[i]? = some (a, .rows (rs ++ [r]), true)) (c : ∀ p, C (.ref p) (L.set i (a, .rows rs, true) ++ [(p, .ob (.tup r), false)])) : Wp g L (rPop (.ref a) []) C :=
  fun H z Q q => by
    obtain ⟨o, h1, as, e1, hl1, h3⟩ := z.look h
    subst e1
    have hne : as ≠ [] := fun e => by
      subst e
      simp at hl1
    obtain ⟨as0, p, rfl⟩ : ∃ as0 p, as = as0 ++ [p] := ⟨as.dropLast, as.getLast hne, (List.dropLast_concat_getLast hne).symm⟩
    have hl0 : as0.length = rs.length := by simpa using hl1
    have hp : H p = some (.tup r) := h3 as0.length p r (by simp) (by rw [hl0]; simp)
    have hup : ∀ (c : Addr) (u : List V) (w : HO), H c = some (.tup u) → upd H a w c = some (.tup u) := fun c u w e => by
      rw [upd_ne (fun z => by
        subst z
        rw [h1] at e
        cases e)]
      exact e
    refine ⟨a, _, .ref p, rfl, rfl, h1, by simp, q _ _ _ (c p) ?_⟩
    rw [show ((as0 ++ [p]).map V.ref).dropLast = as0.map V.ref by simp]
    have z2 := z.chg (e' := .rows rs) h (fun c u e z => by rw [upd_ne z]; exact e) (upd_same (o := .lst (as0.map V.ref))) ⟨as0, rfl, hl0, fun k c u hk hu => hup _ _ _ (h3 k c u (by rw [List.getElem?_append_left (List.getElem?_eq_some_iff.mp hk).1]; exact hk) (by rw [List.getElem?_append_left (List.getElem?_eq_some_iff.mp hu).1]; exact hu))⟩
    exact z2.addT (hup _ _ _ hp)
theorem wr_popM {α : Type} {rs : List α} {x : α} {f : α → List V} (i : Nat) (h : L[i]? = some (a, .rows ((rs ++ [x]).map f), true)) (c : ∀ p, C (.ref p) (L.set i (a, .rows (rs.map f), true) ++ [(p, .ob (.tup (f x)), false)])) : Wp g L (rPop (.ref a) []) C :=
  wr_popR i (by rw [h, List.map_append]; rfl) c
end
/-! ### enumerate of a list of tuples, with a target in a target -/
section
variable {α : Type} {g : Gr} {L : Led} {a : Addr} {i : Nat} {Kf : PySem.W.Frag} {bo : Bool} {K : PySem.W.Frag} {σ : St}
theorem iter_enumR (i1 : Nat) (is : List Nat) (row : α → List V) {xs : List α} {n : Nat} (j : Nat) (hj : L[j]? = some (a, .rows (xs.map row), bo)) (hn : ∀ x, (row x).length = n) (hi : is.length = n) :
    Iter g L (Ite Kf a) (gTup Kf 2 (gCons (gName i1) (gCons (gTup Kf n (gNames is)) gNil))) xs.zipIdx (fun x σ => setL is (row x.1) (σ.set i1 (some (.int (x.2 : Nat))))) := ⟨fun H z => by
  obtain ⟨o, h1, as, e1, hl, hr⟩ := z.look hj
  subst e1
  rw [List.length_map] at hl
  have hs : SqL Kf H a (as.map V.ref) := SqL.of h1
  refine ⟨⟨_, hs, by rw [List.length_map, List.length_zipIdx, hl]; exact Nat.le_refl _⟩, fun k x hx => ?_⟩
  rw [List.getElem?_zipIdx] at hx
  cases hq : xs[k]? with
  | none => rw [hq] at hx; cases hx
  | some y =>
    rw [hq] at hx
    have hx : (y, 0 + k) = x := Option.some.inj hx
    subst hx
    have hk : k < as.length := by
      have := (List.getElem?_eq_some_iff.mp hq).1
      omega
    have hx2 : (as.map V.ref)[k]? = some (.ref as[k]) := by rw [List.getElem?_map, List.getElem?_eq_getElem hk]; rfl
    have hx3 := hr k as[k] (row y) (List.getElem?_eq_getElem hk) (by rw [List.getElem?_map, hq]; rfl)
    refine ⟨⟨_, _, hs, hx2⟩, fun v H' hy => ?_⟩
    obtain ⟨t, w, e1, e2, e3, e4⟩ := hy
    have e5 := e4 _ hs
    rw [hx2] at e5
    have e5 := Option.some.inj e5
    subst e5 e1 e3
    have hx4 : upd H t (.tup [.int (k : Nat), .ref as[k]]) as[k] = some (.tup (row y)) := by rw [upd_ne (ne_of_none hx3 e2)]; exact hx3
    refine ⟨fun c u h => by rw [upd_ne (ne_of_none h e2)]; exact h, fun σ Q q => ⟨t, _, rfl, SqT.of upd_same, rfl, ?_⟩⟩
    have e6 : (0 + k : Nat) = k := Nat.zero_add k
    have q : Q (setL is (row y) (σ.set i1 (some (.int ((0 + k : Nat) : Int))))) _ := q
    rw [e6] at q
    exact ⟨_, _, rfl, _, _, rfl, _, _, rfl, SqT.of hx4, hn y, gNames_ok is (row y) (by rw [hi, hn]) ⟨rfl, q⟩⟩⟩
theorem wi_enumR {tr : TA} {T : It → Led → Prop} (j : Nat) (h : Wp g L (tr σ) fun vs L1 => ∃ (a : Addr) (bo : Bool) (rs : List (List V)), vs = [.ref a] ∧ L1[j]? = some (a, .rows rs, bo) ∧ T (Ite K a) L1) : Wp g L (iEnum K tr σ) T :=
  fun H z Q q => h H z _ fun x L1 H1 ⟨a, bo, rs, e, s, k⟩ z1 => by
    obtain ⟨o, h1, as, e1, _⟩ := z1.look s
    subst e1
    exact ⟨a, _, e, SqL.of h1, q _ _ _ k z1⟩
theorem room65 {k : Nat} {A : Around} (r : Room k A) : A.units + 65 < cLine := by have := r.un; omega
/-- None is no tuple of a list -/
theorem wr_inRN {C : V → Led → Prop} {rs : List (List V)} (i : Nat) (hi : L[i]? = some (a, .rows rs, bo)) (h1 : rs.all (fun r => r.all plV) = true) (c : C (.bl false) L) : Wp g L (rInD K .non (.ref a)) C :=
  .now (fun H _ z q => ⟨_, _, dp_non H z, dp_rowsG i hi h1 H z, rfl, shaped_dR rs, by
    have e : ((rs.map dR).any fun z => PyData.eqv z .none) = false := by
      rw [List.any_eq_false]
      intro x hx
      obtain ⟨r, _, rfl⟩ := List.mem_map.mp hx
      unfold dR
      simp [PyData.eqv]
    rw [e]
    exact q⟩) c
end
end Kr

set_option Elab.async false
set_option linter.all false
set_option maxRecDepth 100000
set_option maxHeartbeats 1000000
/-! ### a comprehension over a few written items, turn by turn; lists of lists -/
open PySem L2
namespace Kr
section
variable {α : Type} {g : Gr} {L : Led} {σ : St} {C : V → Led → Prop} {tt : TT} {te : TE} {tg : TG} {J : It} {S : α → St → St} {vs : List Nat}
/-- what is left to do: the items that are left, what the list at D has, the ledger -/
def Un (g : Gr) (J : It) (tg : TG) (tt : TT) (te : TE) (vs : List Nat) (σ : St) (S : α → St → St) (C : V → Led → Prop) (xs0 : List α) (D : Addr) (j : Nat) : List α → List V → Led → Prop
  | [], _, L => Iter g L J tg xs0 S ∧ C (.ref D) L
  | x :: r, acc, L => Iter g L J tg xs0 S ∧ Wp g L (tt (S x (wipe σ vs))) fun b L2 => if b = true then Wp g L2 (te (S x (wipe σ vs))) fun y L3 => L3[j]? = some (D, .ob (.lst acc), true) ∧ acc.length < 100000 ∧ Un g J tg tt te vs σ S C xs0 D j r (acc ++ [y]) (L3.set j (D, .ob (.lst (acc ++ [y])), true)) else L2[j]? = some (D, .ob (.lst acc), true) ∧ Un g J tg tt te vs σ S C xs0 D j r acc L2
variable {xs0 r : List α} {x : α} {D : Addr} {j : Nat} {acc : List V}
theorem un_cons (it : Iter g L J tg xs0 S) (h : Wp g L (tt (S x (wipe σ vs))) fun b L2 => if b = true then Wp g L2 (te (S x (wipe σ vs))) fun y L3 => L3[j]? = some (D, .ob (.lst acc), true) ∧ acc.length < 100000 ∧ Un g J tg tt te vs σ S C xs0 D j r (acc ++ [y]) (L3.set j (D, .ob (.lst (acc ++ [y])), true)) else L2[j]? = some (D, .ob (.lst acc), true) ∧ Un g J tg tt te vs σ S C xs0 D j r acc L2) : Un g J tg tt te vs σ S C xs0 D j (x :: r) acc L := ⟨it, h⟩
theorem un_nil (it : Iter g L J tg xs0 S) (h : C (.ref D) L) : Un g J tg tt te vs σ S C xs0 D j [] acc L := ⟨it, h⟩
theorem un_nf {xs : List α} {acc' : List V} {L' : Led} (e1 : acc = acc') (e2 : L = L') (h : Un g J tg tt te vs σ S C xs0 D j xs acc' L') : Un g J tg tt te vs σ S C xs0 D j xs acc L := by
  subst e1 e2
  exact h
theorem Un.it : ∀ {xs : List α} {acc : List V} {L : Led}, Un g J tg tt te vs σ S C xs0 D j xs acc L → Iter g L J tg xs0 S
  | [], _, _, h => h.1
  | _ :: _, _, _, h => h.1
theorem lc_U {xs : List α} (it0 : Iter g L J tg xs S) (hw : ∀ x, wipe (S x (wipe σ vs)) vs = wipe σ vs) (h : ∀ D, Un g J tg tt te vs σ S C xs D L.length xs [] (L ++ [(D, .ob (.lst []), true)])) : WLc g L J tg tt te vs σ C := fun H z Q q D hD => by
  refine ⟨fun i m H => i ≤ xs.length ∧ m = xs.length - i ∧ ∃ acc L', L'[L.length]? = some (D, .ob (.lst acc), true) ∧ At g L' H ∧ Un g J tg tt te vs σ S C xs D L.length (xs.drop i) acc L', ⟨xs.length, Nat.zero_le _, rfl, [], L ++ [(D, .ob (.lst []), true)], by simp, z.upd_new hD, (by rw [List.drop_zero]; exact h D)⟩, ?_⟩
  rintro i m H ⟨hi0, rfl, acc, L', hj, z, u⟩
  obtain ⟨h1, h2⟩ := u.it.at_ H z
  by_cases hlt : i < xs.length
  · have hxi := List.getElem?_eq_getElem hlt
    obtain ⟨h3, h4⟩ := h2 i xs[i] hxi
    refine .inr ⟨h3, fun H' => ∃ acc L', L'[L.length]? = some (D, .ob (.lst acc), true) ∧ At g L' H' ∧ Un g J tg tt te vs σ S C xs D L.length (xs.drop (i + 1)) acc L', fun H' q => ⟨xs.length - (i + 1), by omega, hlt, rfl, q⟩, fun v H' y => ?_⟩
    obtain ⟨h5, h6⟩ := h4 v H' y
    refine h6 _ _ ⟨hw _, ?_⟩
    rw [List.drop_eq_getElem_cons hlt] at u
    obtain ⟨_, u⟩ := u
    refine u H' (z.same h5) _ fun b L2 H2 k z2 => ?_
    cases b with
    | true =>
      have k : Wp g L2 _ _ := k
      show te _ _ _
      refine k H2 z2 _ fun y L3 H3 ⟨k1, k2, k3⟩ z3 => ?_
      refine ⟨acc, z3.get k1, Nat.lt_of_lt_of_le k2 (by decide), _, _, ?_, z3.upd_chg (o := .lst (acc ++ [y])) k1, k3⟩
      exact List.getElem?_set_self (List.getElem?_eq_some_iff.mp k1).1
    | false => exact ⟨acc, L2, k.1, z2, k.2⟩
  · have e1 : i = xs.length := by omega
    subst e1
    rw [List.drop_length] at u
    exact .inl ⟨h1, q _ _ _ u.2 z⟩
end
section
variable {g : Gr} {L : Led} {σ : St} {C : V → Led → Prop} {a : Addr} {i : Nat} {Kf : PySem.W.Frag}
/-- a list whose items are any values -/
theorem iter_listV {xs : List V} (s : Seen Kf g L a xs) : Iter g L (Itl Kf a) (gName i) xs (fun x σ => σ.set i (some x)) := ⟨fun H z => by
  obtain ⟨h1, h2⟩ := (iter_list (i := i) id (xs := xs) (by rw [List.map_id]; exact s)).at_ H z
  exact ⟨h1, h2⟩⟩
theorem wg_unl {N : St → Led → Prop} {n : Nat} {u : TGs} {xs : List V} (s : Seen Kf g L a xs) (hn : xs.length = n) (h : Wgs g L u xs σ N) : Wg g L (gUnl Kf n u) (.ref a) σ N := fun H z Q q => ⟨a, xs, rfl, s.at_ H z, hn, h H z Q q⟩
theorem wr_catL {a2 : Addr} {xs ys zs : List V} {b1 b2 : Bool} (i j : Nat) (h1 : L[i]? = some (a, .ob (.lst xs), b1)) (h2 : L[j]? = some (a2, .ob (.lst ys), b2)) (e : xs ++ ys = zs) (hl : xs.length + ys.length ≤ 100000)
    (c : ∀ p, C (.ref p) (L ++ [(p, .ob (.lst zs), true)])) : Wp g L (rCat (.ref a) (.ref a2)) C := by
  subst e
  exact wr_cat i j h1 h2 hl c
theorem wr_slLL {xs zs : List V} {lo hi : Option Int} (s : Seen Kf g L a xs) (e : cutV xs lo hi = zs) (c : ∀ p, C (.ref p) (L ++ [(p, .ob (.lst zs), true)])) : Wp g L (rSlL Kf (.ref a) lo hi) C := by
  subst e
  exact wr_slL s c
end
theorem pi_listK {X : Cx} {tg e : Expr} {te : TE} {Kf : PySem.W.Frag} (hK : X.K = Kf) (he : PE X e te) : PI X tg e (iList Kf te) := hK ▸ pi_list he
/-! ### unpacking of a list or a tuple -/
def gOr (t1 t2 : TG) : TG := fun v σ H Q => t1 v σ H Q ∨ t2 v σ H Q
theorem pg_or {X : Cx} {tg : Expr} {t1 t2 : TG} (h1 : PG X tg t1) (h2 : PG X tg t2) : PG X tg (gOr t1 t2) := ⟨fun pins s σ H v u Q I r hw => hw.elim (fun h => h1.run pins s σ H v u Q I r h) (fun h => h2.run pins s σ H v u Q I r h)⟩
theorem wg_seq {g : Gr} {L : Led} {σ : St} {Kf Kf' : PySem.W.Frag} {N : St → Led → Prop} {n n' : Nat} {u : TGs} {a : Addr} {xs : List V} (hs : g.H0 a = some (.tup xs) ∨ g.H0 a = some (.lst xs)) (hm : ¬ g.mu a) (hn : xs.length = n) (hn' : xs.length = n') (h : Wgs g L u xs σ N) : Wg g L (gOr (gTup Kf n u) (gUnl Kf' n' u)) (.ref a) σ N :=
  fun H z Q q => by
    rcases hs with e | e
    · exact .inl ⟨a, xs, rfl, SqT.of (z.old _ _ e hm), hn, h H z Q q⟩
    · exact .inr ⟨a, xs, rfl, SqL.of (z.old _ _ e hm), hn', h H z Q q⟩
/-! ### a list of tuples and one tuple more -/
section
variable {g : Gr} {L : Led} {C : V → Led → Prop} {a a2 p : Addr} {b1 b2 b3 : Bool}
theorem wr_catRT {rs : List (List V)} {r : List V} (i j k : Nat) (h : L[i]? = some (a, .rows rs, b1)) (h2 : L[j]? = some (a2, .ob (.lst [.ref p]), b2)) (h3 : L[k]? = some (p, .ob (.tup r), b3)) (hl : rs.length ≤ 99999) (c : ∀ q, C (.ref q) (L ++ [(q, .rows (rs ++ [r]), true)])) : Wp g L (rCat (.ref a) (.ref a2)) C :=
  fun H z Q q => by
    obtain ⟨o, h1, as, e1, hl1, h4⟩ := z.look h
    subst e1
    refine ⟨a, a2, _, _, rfl, rfl, h1, z.get h2, Nat.le_trans (by rw [List.length_map, hl1]; simp; omega : _ ≤ 100000) (by decide), fun s hs => q _ _ _ (c s) ?_⟩
    have up : ∀ (c : Addr) (u : HO), H c = some u → upd H s (.lst (as.map V.ref ++ [.ref p])) c = some u := fun c u e => by rw [upd_ne (ne_of_none e hs)]; exact e
    refine z.newE up hs upd_same ⟨as ++ [p], by simp, by simp [hl1], fun k' c' u hk hu => ?_⟩
    by_cases q1 : k' < as.length
    · rw [List.getElem?_append_left q1] at hk
      rw [List.getElem?_append_left (by omega)] at hu
      exact up _ _ (h4 k' c' u hk hu)
    · rw [List.getElem?_append_right (by omega)] at hk
      rw [List.getElem?_append_right (by omega), ← hl1] at hu
      have e0 : k' - as.length = 0 := by
        have := (List.getElem?_eq_some_iff.mp hk).1
        simp at this
        omega
      rw [e0] at hk hu
      have hk : p = c' := Option.some.inj hk
      have hu : r = u := Option.some.inj hu
      subst hk hu
      exact up _ _ (z.get h3)
end
/-! ### None, or a new tuple of a number and a number or None -/
section
def kW {β : Type} (row : β → List V) (A : Prop) (R : β → Prop) : Ks := { nx := fun _ _ => A, rt := fun v L => (v = .non ∧ A) ∨ ∃ (x : β) (p : Addr) (i : Nat), v = .ref p ∧ L[i]? = some (p, Ent.ob (.tup (row x)), true) ∧ R x }
theorem eo_W {β : Type} {row : β → List V} {H0 : Hp} {A : Prop} {R : β → Prop} {Q : VK} (h1 : A → ∀ H', Same H0 H' → Q .non H') (h2 : ∀ x p H', R x → H0 p = none → Same H0 H' → H' p = some (.tup (row x)) → Q (.ref p) H') : Eo ⟨H0, fun _ => False⟩ (kW row A R) { nx := fun _ H' => Q .non H', rt := Q } :=
  ⟨fun σ L H k z => h1 k _ z.since, fun v L H k z => by
    rcases k with ⟨e, k⟩ | ⟨x, p, i, e, k, r⟩
    · subst e
      exact h1 k _ z.since
    · subst e
      refine h2 x p H r ?_ z.since (z.get k)
      rcases z.own _ (List.mem_of_getElem? k) rfl with q | q
      · exact q
      · exact q.elim, fun _ _ _ e _ => e.elim, fun _ _ _ e _ => e.elim⟩
end
/-! ### loops: two own objects grow; a name that gets a new object in each turn -/
section
variable {α : Type} {g : Gr} {L : Led} {σ : St} {K : Ks} {tg : TG} {tb : TS} {J : It} {xs : List α} {S : α → St → St}
theorem wf_Gs (I : Nat → St → Led → Prop) (it : ∀ i σ L, I i σ L → Iter g L J tg xs S) (h0 : I 0 σ L)
    (hs : ∀ i x σ L, xs[i]? = some x → I i σ L → Ws g L tb (S x σ) { K with nx := fun σ' L' => ∃ L3, I (i + 1) σ' L3 ∧ L3.Sublist L', ct := fun σ' L' => ∃ L3, I (i + 1) σ' L3 ∧ L3.Sublist L', bk := K.nx })
    (hd : ∀ σ L, I xs.length σ L → K.nx σ L) : WFor g L J tg tb σ K := fun H z D e => by
  refine ⟨fun i m σ H => i ≤ xs.length ∧ m = xs.length - i ∧ ∃ L, I i σ L ∧ At g L H, ⟨xs.length, Nat.zero_le _, rfl, L, h0, z⟩, ?_⟩
  rintro i m σ H ⟨hi, rfl, L, k, z⟩
  obtain ⟨h1, h2⟩ := (it i σ L k).at_ H z
  by_cases hlt : i < xs.length
  · obtain ⟨h3, h4⟩ := h2 i xs[i] (List.getElem?_eq_getElem hlt)
    refine .inr ⟨h3, fun σ' H' => ∃ L, I (i + 1) σ' L ∧ At g L H', fun σ' H' q => ⟨xs.length - (i + 1), by omega, hlt, rfl, q⟩, fun v H' y => ?_⟩
    obtain ⟨h5, h6⟩ := h4 v H' y
    refine h6 σ _ ?_
    have kk : ∀ σ' L' H', (∃ L3, I (i + 1) σ' L3 ∧ L3.Sublist L') → At g L' H' → ∃ L, I (i + 1) σ' L ∧ At g L H' := fun σ' L' H' ⟨L3, hi, hp⟩ z' => ⟨L3, hi, z'.sub hp⟩
    exact hs i xs[i] σ L (List.getElem?_eq_getElem hlt) k H' (z.same h5) _ ⟨kk, e.rt, e.nx, kk⟩
  · have e1 : i = xs.length := by omega
    subst e1
    exact .inl ⟨h1, e.nx _ _ _ (hd σ L k) z⟩
theorem wf_A2 (j j2 : Nat) {a a2 : Addr} {e0 e02 : Ent} (hj : L[j]? = some (a, e0, true)) (hj2 : L[j2]? = some (a2, e02, true)) (hne : j ≠ j2) (it : ∀ e e2, Iter g ((L.set j (a, e, true)).set j2 (a2, e2, true)) J tg xs S) (I : Nat → List (Option (Option V)) → Ent → Ent → Prop) (h0 : ∃ vs, σ = putA σ vs ∧ I 0 vs e0 e02)
    (hs : ∀ i x vs e e2, xs[i]? = some x → I i vs e e2 → Ws g ((L.set j (a, e, true)).set j2 (a2, e2, true)) tb (S x (putA σ vs)) { K with nx := fun σ' L' => ∃ vs' e' e2', (σ' = putA σ vs' ∧ I (i + 1) vs' e' e2') ∧ (L.set j (a, e', true)).set j2 (a2, e2', true) <+: L', ct := fun σ' L' => ∃ vs' e' e2', (σ' = putA σ vs' ∧ I (i + 1) vs' e' e2') ∧ (L.set j (a, e', true)).set j2 (a2, e2', true) <+: L', bk := K.nx })
    (hd : ∀ vs e e2, I xs.length vs e e2 → K.nx (putA σ vs) ((L.set j (a, e, true)).set j2 (a2, e2, true))) : WFor g L J tg tb σ K := by
  obtain ⟨vs0, e0', k0⟩ := h0
  have hL : (L.set j (a, e0, true)).set j2 (a2, e02, true) = L := by
    rw [set_self hj, set_self hj2]
  refine wf_G (xs := xs) (S := S) (fun i σ' L' => ∃ vs e e2, (σ' = putA σ vs ∧ I i vs e e2) ∧ L' = (L.set j (a, e, true)).set j2 (a2, e2, true)) (fun i σ' L' ⟨vs, e, e2, _, q⟩ => q ▸ it e e2) ⟨vs0, _, _, ⟨e0', k0⟩, hL.symm⟩ ?_ ?_
  · rintro i x σ' L' hi ⟨vs, en, en2, ⟨rfl, k⟩, rfl⟩
    intro H3 z3 D e
    have kk : ∀ σ' L'' H', (∃ vs' e' e2', (σ' = putA σ vs' ∧ I (i + 1) vs' e' e2') ∧ (L.set j (a, e', true)).set j2 (a2, e2', true) <+: L'') → At g L'' H' → D.nx σ' H' := fun σ' L'' H' ⟨vs', e', e2', h1, h2⟩ z' => e.nx σ' L'' H' ⟨_, ⟨vs', e', e2', h1, rfl⟩, h2⟩ z'
    have kc : ∀ σ' L'' H', (∃ vs' e' e2', (σ' = putA σ vs' ∧ I (i + 1) vs' e' e2') ∧ (L.set j (a, e', true)).set j2 (a2, e2', true) <+: L'') → At g L'' H' → D.ct σ' H' := fun σ' L'' H' ⟨vs', e', e2', h1, h2⟩ z' => e.ct σ' L'' H' ⟨_, ⟨vs', e', e2', h1, rfl⟩, h2⟩ z'
    exact hs i x vs en en2 hi k H3 z3 D ⟨kk, e.rt, e.bk, kc⟩
  · rintro σ' L' ⟨vs, en, en2, ⟨rfl, k⟩, rfl⟩
    exact hd vs en en2 k
theorem sub_one {L0 L' : Led} {e : Addr × Ent × Bool} (h : L0 <+: L') (hq : ∃ q, L0.length ≤ q ∧ L'[q]? = some e) : (L0 ++ [e]).Sublist L' := by
  obtain ⟨r, rfl⟩ := h
  obtain ⟨q, h1, h2⟩ := hq
  rw [List.getElem?_append_right h1] at h2
  exact List.Sublist.append (List.Sublist.refl _) (List.singleton_sublist.mpr (List.mem_of_getElem? h2))
theorem wf_X1 (L0 : Led) (x0 : Addr × Ent × Bool) (hL : L = L0 ++ [x0]) (it : ∀ e, Iter g (L0 ++ [e]) J tg xs S) (I : Nat → List (Option (Option V)) → (Addr × Ent × Bool) → Prop) (h0 : ∃ vs, σ = putA σ vs ∧ I 0 vs x0)
    (hs : ∀ i x vs e, xs[i]? = some x → I i vs e → Ws g (L0 ++ [e]) tb (S x (putA σ vs)) { K with nx := fun σ' L' => ∃ vs' e', (σ' = putA σ vs' ∧ I (i + 1) vs' e') ∧ L0 <+: L' ∧ ∃ q, L0.length ≤ q ∧ L'[q]? = some e', ct := fun σ' L' => ∃ vs' e', (σ' = putA σ vs' ∧ I (i + 1) vs' e') ∧ L0 <+: L' ∧ ∃ q, L0.length ≤ q ∧ L'[q]? = some e', bk := K.nx })
    (hd : ∀ vs e, I xs.length vs e → K.nx (putA σ vs) (L0 ++ [e])) : WFor g L J tg tb σ K := by
  obtain ⟨vs0, e0', k0⟩ := h0
  subst hL
  refine wf_Gs (xs := xs) (S := S) (fun i σ' L' => ∃ vs e, (σ' = putA σ vs ∧ I i vs e) ∧ L' = L0 ++ [e]) (fun i σ' L' ⟨vs, e, _, q⟩ => q ▸ it e) ⟨vs0, _, ⟨e0', k0⟩, rfl⟩ ?_ ?_
  · rintro i x σ' L' hi ⟨vs, en, ⟨rfl, k⟩, rfl⟩
    intro H3 z3 D e
    have kk : ∀ σ' L'' H', (∃ vs' e', (σ' = putA σ vs' ∧ I (i + 1) vs' e') ∧ L0 <+: L'' ∧ ∃ q, L0.length ≤ q ∧ L''[q]? = some e') → At g L'' H' → D.nx σ' H' := fun σ' L'' H' ⟨vs', e', h1, h2, h3⟩ z' => e.nx σ' L'' H' ⟨_, ⟨vs', e', h1, rfl⟩, sub_one h2 h3⟩ z'
    have kc : ∀ σ' L'' H', (∃ vs' e', (σ' = putA σ vs' ∧ I (i + 1) vs' e') ∧ L0 <+: L'' ∧ ∃ q, L0.length ≤ q ∧ L''[q]? = some e') → At g L'' H' → D.ct σ' H' := fun σ' L'' H' ⟨vs', e', h1, h2, h3⟩ z' => e.ct σ' L'' H' ⟨_, ⟨vs', e', h1, rfl⟩, sub_one h2 h3⟩ z'
    exact hs i x vs en hi k H3 z3 D ⟨kk, e.rt, e.bk, kc⟩
  · rintro σ' L' ⟨vs, en, ⟨rfl, k⟩, rfl⟩
    exact hd vs en k
end
end Kr
/-! ### a comprehension over a list of ints, with draws and a test -/
namespace Kr
open PySem L2
section
variable {g : Gr} {L : Led} {σ : St} {C C' : V → Led → Prop} {tt : TT} {te : TE} {i : Nat}
theorem lc_ID (E : Nat → Ent) (hE : ∀ {n m : Nat} {H : Hp} {o : HO}, n ≤ m → (E n).In H o → (E m).In H o) {Kf : PySem.W.Frag} {b : Addr} {ns : List Int} {bo : Bool} (j c N m : Nat) {a : Addr} {n0 : Nat} (P : Int → Prop) (hj : L[j]? = some (a, E n0, true)) (hm : L[m]? = some (b, .ob (.lst (ns.map V.int)), bo)) (hmj : m ≠ j) (hN : ns.length ≤ N) (hl : N ≤ 99999)
    (hs : ∀ (k : Nat) (x : Int), ns[k]? = some x → ∀ (D : Addr) (acc : List V), Wp g (L.set j (a, E (n0 + c * k), true) ++ [(D, .ob (.lst acc), true)]) (tt ((wipe σ [i]).set i (some (.int x)))) fun b L2 => if b = true then
      Wp g L2 (te ((wipe σ [i]).set i (some (.int x)))) (fun y L3 => (∃ v : Int, y = .int v ∧ P v) ∧ ∃ d, d ≤ c ∧ (L.set j (a, E (n0 + c * k + d), true) ++ [(D, .ob (.lst acc), true)]) <+: L3) else (L.set j (a, E (n0 + c * k), true) ++ [(D, .ob (.lst acc), true)]) <+: L2)
    (cc : ∀ (D : Addr) (ys : List Int), ys.length ≤ N → (∀ y ∈ ys, P y) → C (.ref D) (L.set j (a, E (n0 + c * N), true) ++ [(D, .ob (.lst (ys.map V.int)), true)])) (hEm : ∀ n, (E n).mov2 = true := by intro _; rfl) : WLc g L (Itl Kf b) (gName i) tt te [i] σ C := fun H z Q q D hD => by
  have hjl : j < L.length := (List.getElem?_eq_some_iff.mp hj).1
  have hi : ∀ (e : Addr × Ent × Bool) (o : HO), (L.set j e ++ [(D, Ent.ob o, true)])[L.length]? = some (D, Ent.ob o, true) := fun e o => by
    rw [List.getElem?_append_right (by rw [List.length_set]; exact Nat.le_refl _), List.length_set, Nat.sub_self]
    rfl
  have weak : ∀ {k k' : Nat} {ys : List V} {H : Hp}, k ≤ k' → At g (L.set j (a, E k, true) ++ [(D, .ob (.lst ys), true)]) H → At g (L.set j (a, E k', true) ++ [(D, .ob (.lst ys), true)]) H := fun {k k' ys H} hk z => by
    have hj2 : (L.set j (a, E k, true) ++ [(D, Ent.ob (.lst ys), true)])[j]? = some (a, E k, true) := by
      rw [List.getElem?_append_left (by rw [List.length_set]; exact hjl), List.getElem?_set_self hjl]
    have z6 := z.weak (i := j) (e' := E k') hj2 (fun _ o ho => hE hk ho) (hEm _)
    rw [List.set_append_left _ _ (by rw [List.length_set]; exact hjl), List.set_set] at z6
    exact z6
  refine lc_list (K := Kf) (a := b) (xs := ns.map V.int) (fun k H => ∃ ys : List Int, ys.length ≤ k ∧ (∀ y ∈ ys, P y) ∧ At g (L.set j (a, E (n0 + c * k), true) ++ [(D, .ob (.lst (ys.map V.int)), true)]) H) ⟨[], Nat.le_refl _, fun y h => (by cases h), ?_⟩ (fun k H _ ⟨ys, _, _, z⟩ => ?_) (fun k x H hx ⟨ys, h1, h2, z⟩ => ?_) fun H ⟨ys, h1, h2, z⟩ => ?_
  · rw [Nat.mul_zero, Nat.add_zero, set_self hj]
    exact z.upd_new hD
  · refine (seen (K := Kf) (xs := ns.map V.int) (bo := bo) m ?_).at_ H z
    have hml : m < L.length := (List.getElem?_eq_some_iff.mp hm).1
    rw [List.getElem?_append_left (by rw [List.length_set]; exact hml), List.getElem?_set_ne (Ne.symm hmj), hm]
  · rw [List.getElem?_map] at hx
    obtain ⟨n, hn, rfl⟩ := Option.map_eq_some_iff.mp hx
    have hk : k < ns.length := (List.getElem?_eq_some_iff.mp hn).1
    refine ⟨wipe1 σ i _, ?_⟩
    refine hs k n hn D _ H z _ fun b L2 H2 kk z2 => ?_
    cases b with
    | false =>
      have kk : _ <+: L2 := kk
      exact ⟨ys, by omega, h2, weak (by have : c * (k + 1) = c * k + c := Nat.mul_succ c k; omega) (z2.pre kk)⟩
    | true =>
      show te _ _ _
      refine kk H2 z2 _ fun y L3 H3 ⟨⟨v, ey, hv⟩, d, hd, hpre⟩ z3 => ?_
      subst ey
      have z4 := z3.pre hpre
      refine ⟨ys.map V.int, z4.get (hi _ _), by rw [List.length_map]; exact Nat.lt_of_lt_of_le (show ys.length < 99999 + 1 by omega) (by decide), ys ++ [v], by simp; omega, fun y hy => ?_, ?_⟩
      · rcases List.mem_append.mp hy with h | h
        · exact h2 y h
        · have : y = v := by simpa using h
          exact this ▸ hv
      · have z5 := z4.upd_chg (o := .lst (ys.map V.int ++ [.int v])) (hi _ _)
        have e1 : (L.set j (a, E (n0 + c * k + d), true) ++ [(D, Ent.ob (.lst (ys.map V.int)), true)]).set L.length (D, Ent.ob (.lst (ys.map V.int ++ [.int v])), true) = L.set j (a, E (n0 + c * k + d), true) ++ [(D, Ent.ob (.lst (ys.map V.int ++ [.int v])), true)] := by
          rw [List.set_append_right _ _ (by rw [List.length_set]; exact Nat.le_refl _), List.length_set, Nat.sub_self]
          rfl
        rw [e1] at z5
        rw [List.map_append]
        exact weak (by have : c * (k + 1) = c * k + c := Nat.mul_succ c k; omega) z5
  · rw [List.length_map] at h1 z
    exact q _ _ _ (cc D ys (by omega) h2) (weak (by have := Nat.mul_le_mul_left c hN; omega) z)
end
end Kr

set_option Elab.async false
set_option linter.all false
set_option maxRecDepth 100000
namespace Kr
open PySem L2
/-! ### a result that is None or a new list of ints -/
def kWL (A : Prop) (R : List Int → Prop) : Ks := { nx := fun _ _ => A, rt := fun v L => (v = .non ∧ A) ∨ ∃ (x : List Int) (p : Addr) (i : Nat), v = .ref p ∧ L[i]? = some (p, Ent.ob (.lst (x.map V.int)), true) ∧ R x }
theorem eo_WL {H0 : Hp} {A : Prop} {R : List Int → Prop} {Q : VK} (h1 : A → ∀ H', Same H0 H' → Q .non H') (h2 : ∀ x p H', R x → H0 p = none → Same H0 H' → H' p = some (.lst (x.map V.int)) → Q (.ref p) H') : Eo ⟨H0, fun _ => False⟩ (kWL A R) { nx := fun _ H' => Q .non H', rt := Q } :=
  ⟨fun _ _ _ hA z => h1 hA _ z.since, fun v L H' hk z => by
    rcases hk with ⟨rfl, hA⟩ | ⟨x, p, i, rfl, hi, hR⟩
    · exact h1 hA _ z.since
    · exact h2 x p H' hR (by
        rcases z.own _ (List.mem_of_getElem? hi) rfl with q | q
        · exact q
        · exact q.elim) z.since (z.get hi), fun _ _ _ hk _ => hk.elim, fun _ _ _ hk _ => hk.elim⟩
end Kr
namespace Kr
open PySem L2
theorem ws_par3 {g : Gr} {L : Led} {σ : St} {K : Ks} {i j l : Nat} {tr : TA} (h : Wp g L (tr σ) fun vs L1 => ∃ u v w, vs = [u, v, w] ∧ K.nx (((σ.set i (some u)).set j (some v)).set l (some w)) L1) : Ws g L (tPar3 i j l tr) σ K :=
  fun H z D e => h H z _ fun vs L1 H1 ⟨u, v, w, e1, k⟩ z1 => ⟨u, v, w, e1, e.nx _ _ _ k z1⟩
end Kr

namespace Kr
open PySem L2
/-! ### None, or a new tuple of a number and a new list of ints -/
def kPL (A : Prop) (R : Int → List Int → Prop) : Ks := { nx := fun _ _ => A, rt := fun v L => (v = .non ∧ A) ∨ ∃ (d : Int) (ns : List Int) (q p : Addr) (i j : Nat), v = .ref p ∧ i ≠ j ∧ L[i]? = some (q, Ent.ob (.lst (ns.map V.int)), true) ∧ L[j]? = some (p, Ent.ob (.tup [.int d, .ref q]), true) ∧ R d ns }
theorem eo_PL {H0 : Hp} {A : Prop} {R : Int → List Int → Prop} {Q : VK} (h1 : A → ∀ H', Same H0 H' → Q .non H') (h2 : ∀ d ns q p H', R d ns → q ≠ p → H0 q = none → H0 p = none → Same H0 H' → H' q = some (.lst (ns.map V.int)) → H' p = some (.tup [.int d, .ref q]) → Q (.ref p) H') :
    Eo ⟨H0, fun _ => False⟩ (kPL A R) { nx := fun _ H' => Q .non H', rt := Q } :=
  ⟨fun _ _ _ hA z => h1 hA _ z.since, fun v L H' hk z => by
    rcases hk with ⟨rfl, hA⟩ | ⟨d, ns, q, p, i, j, rfl, hij, e1, e2, hR⟩
    · exact h1 hA _ z.since
    · have nn : ∀ {l : Nat} {c : Addr} {u : Ent}, L[l]? = some (c, u, true) → H0 c = none := fun hc => by
        rcases z.own _ (List.mem_of_getElem? hc) rfl with w | w
        · exact w
        · exact w.elim
      exact h2 d ns q p H' hR (z.ne e1 e2 hij (.inl rfl)) (nn e1) (nn e2) z.since (z.get e1) (z.get e2), fun _ _ _ hk _ => hk.elim, fun _ _ _ hk _ => hk.elim⟩
end Kr

namespace Kr
open PySem L2
theorem wr_eqRN {K : PySem.W.Frag} {g : Gr} {L : Led} {C : V → Led → Prop} {a a2 : Addr} {bo : Bool} {xs : List (Int × Int)} (j : Nat) (hj : L[j]? = some (a, .rows (xs.map row2), bo)) (s2 : Seen K g L a2 []) (c : C (.bl (decide (xs = []))) L) : Wp g L (rEqD K (.ref a) (.ref a2)) C :=
  wr_eqD (dp_rows j hj) (dp_lst s2 dps_nil) (shaped_P xs) rfl (by
    have e : PyData.eqv (.list (xs.map dpP)) (.list []) = decide (xs = []) := by
      unfold PyData.eqv
      exact eqv_P xs []
    rw [e]
    exact c)
end Kr

set_option Elab.async false
set_option linter.all false
set_option maxRecDepth 100000
set_option maxHeartbeats 4000000
namespace Kr
open PySem L2 PySem.W
/-! ### zip of two lists -/
section
variable {K Kf : PySem.W.Frag} {g : Gr} {L : Led} {σ : St} {C : V → Led → Prop} {a b p : Addr} {bo : Bool} {α β : Type}
theorem wi_zip {tr : TA} {T : It → Led → Prop} (h : Wp g L (tr σ) fun vs L1 => ∃ (a b : Addr) (xs ys : List V), vs = [.ref a, .ref b] ∧ Seen K g L1 a xs ∧ Seen K g L1 b ys ∧ T (Itz K a b) L1) : Wp g L (iZip K tr σ) T :=
  fun H z Q q => h H z _ fun vs L1 H1 ⟨a, b, xs, ys, e, s1, s2, k⟩ z1 => ⟨a, b, xs, ys, e, s1.at_ H1 z1, s2.at_ H1 z1, q _ _ _ k z1⟩
theorem iter_zip (i1 i2 : Nat) (T : α → V) (T2 : β → V) {xs : List α} {ys : List β} (s : Seen Kf g L a (xs.map T)) (s2 : Seen Kf g L b (ys.map T2)) : Iter g L (Itz Kf a b) (gTup Kf 2 (gNames [i1, i2])) (xs.zip ys) (fun x σ => (σ.set i1 (some (T x.1))).set i2 (some (T2 x.2))) := ⟨fun H z => by
  have hs := s.at_ H z
  have hs2 := s2.at_ H z
  refine ⟨⟨_, _, hs, hs2, by rw [List.length_map, List.length_map, List.length_zip]; omega⟩, fun k x hx => ?_⟩
  obtain ⟨x, y⟩ := x
  rw [List.getElem?_zip_eq_some] at hx
  obtain ⟨q1, q2⟩ := hx
  have hx2 : (xs.map T)[k]? = some (T x) := by rw [List.getElem?_map, q1]; rfl
  have hy2 : (ys.map T2)[k]? = some (T2 y) := by rw [List.getElem?_map, q2]; rfl
  refine ⟨⟨_, _, _, _, hs, hs2, hx2, hy2⟩, fun v H' hy => ?_⟩
  obtain ⟨t, w, w2, e1, e2, e3, e4, e5⟩ := hy
  have e6 := e4 _ hs
  have e7 := e5 _ hs2
  rw [hx2] at e6
  rw [hy2] at e7
  have e6 := Option.some.inj e6
  have e7 := Option.some.inj e7
  subst e6 e7 e1 e3
  refine ⟨fun c u h => by rw [upd_ne (ne_of_none h e2)]; exact h, fun σ Q q => ⟨t, _, rfl, SqT.of upd_same, rfl, ?_⟩⟩
  exact gNames_ok [i1, i2] [T x, T2 y] rfl q⟩
/-! ### a slice of a tuple -/
theorem wr_slT {xs zs : List V} {lo hi : Option Int} {n : Nat} (s : SeenT K g L a xs) (hn : xs.length = n) (hw : ¬ (HT.sIx n 0 lo = 0 ∧ HT.sIx n n hi = n)) (e : cutV xs lo hi = zs) (c : ∀ p, C (.ref p) (L ++ [(p, .ob (.tup zs), true)])) : Wp g L (rSlT K (.ref a) lo hi) C := by
  subst e hn
  exact fun H z Q q => ⟨a, xs, rfl, s.at_ H z, hw, fun p hp => q _ _ _ (c p) (z.upd_new hp)⟩
/-! ### (rows + [None]): what stands first -/
theorem wr_catH {rs : List (List V)} {a2 : Addr} {b1 b2 : Bool} (i j : Nat) (h1 : L[i]? = some (a, .rows rs, b1)) (h2 : L[j]? = some (a2, .ob (.lst [.non]), b2)) (hl : rs.length < 99999)
    (c0 : rs = [] → ∀ p, C (.ref p) (L ++ [(p, .ob (.lst [.non]), true)])) (c1 : ∀ r rest, rs = r :: rest → ∀ (a0 : Addr) (zs : List V) (p : Addr), C (.ref p) ((L ++ [(a0, .ob (.tup r), false)]) ++ [(p, .ob (.lst (.ref a0 :: zs)), true)])) : Wp g L (rCat (.ref a) (.ref a2)) C :=
  fun H z Q q => by
    obtain ⟨o, ho, as, e1, hl1, h3⟩ := z.look h1
    subst e1
    refine ⟨a, a2, _, _, rfl, rfl, ho, z.get h2, Nat.le_trans (show (as.map V.ref).length + 1 ≤ 100000 by rw [List.length_map, hl1]; omega) (by decide), fun p hp => ?_⟩
    cases rs with
    | nil =>
      have : as = [] := List.length_eq_zero_iff.mp (by simpa using hl1)
      subst this
      exact q _ _ _ (c0 rfl p) (z.upd_new hp)
    | cons r rest =>
      cases as with
      | nil => cases hl1
      | cons a0 as =>
        have ht := h3 0 a0 r rfl rfl
        exact q _ _ _ (c1 r rest rfl a0 _ p) ((z.addT ht).upd_new hp)
/-! ### None, or a tuple of two ints that stands there -/
def kPT (A : Prop) (R : Int → Int → Prop) : Ks := { nx := fun _ _ => False, rt := fun v L => (v = .non ∧ A) ∨ ∃ (x y : Int) (p : Addr) (i : Nat) (bo : Bool), v = .ref p ∧ L[i]? = some (p, Ent.ob (.tup [.int x, .int y]), bo) ∧ R x y }
theorem eo_PT {H0 : Hp} {A : Prop} {R : Int → Int → Prop} {Q : VK} (h1 : A → ∀ H', Same H0 H' → Q .non H') (h2 : ∀ x y p H', R x y → Same H0 H' → H' p = some (.tup [.int x, .int y]) → Q (.ref p) H') : Eo ⟨H0, fun _ => False⟩ (kPT A R) { nx := fun _ H' => Q .non H', rt := Q } :=
  ⟨fun σ L H k z => k.elim, fun v L H k z => by
    rcases k with ⟨e, k⟩ | ⟨x, y, p, i, bo, e, k, r⟩
    · subst e
      exact h1 k _ z.since
    · subst e
      exact h2 x y p H r z.since (z.get k), fun _ _ _ k _ => k.elim, fun _ _ _ k _ => k.elim⟩
end
/-! ### the least of a list of triples -/
def dpT (x : Int × Int × Int) : PyData := .tuple [.int x.1, .int x.2.1, .int x.2.2]
def ltT (y x : Int × Int × Int) : Prop := y.1 < x.1 ∨ (y.1 = x.1 ∧ (y.2.1 < x.2.1 ∨ (y.2.1 = x.2.1 ∧ y.2.2 < x.2.2)))
instance (y x : Int × Int × Int) : Decidable (ltT y x) := by unfold ltT; infer_instance
theorem ltT_trans {x y z : Int × Int × Int} (h : ¬ ltT z y) (k : ltT x y) : ¬ ltT z x := by
  unfold ltT at *
  omega
theorem ltT_le {x y z : Int × Int × Int} (h : ¬ ltT z x) (k : ¬ ltT x y) : ¬ ltT z y := by
  unfold ltT at *
  omega
theorem ltT_irrefl {x : Int × Int × Int} : ¬ ltT x x := by
  unfold ltT
  omega
theorem dpT_inj {x y : Int × Int × Int} (h : dpT x = dpT y) : x = y := by
  unfold dpT at h
  simp only [PyData.tuple.injEq, List.cons.injEq, PyData.int.injEq, and_true] at h
  exact Prod.ext h.1 (Prod.ext h.2.1 h.2.2)
open PyProof.Rows in
theorem dataLt_iii (x y : Int × Int × Int) : dataLt (dpT x) (dpT y) = decide (ltT x y) := by
  unfold dpT
  rw [dataLt_tuple, dataLt_cons (by simp [alike]), dataLt_cons (by simp [alike]), dataLt_cons (by simp [alike]), dataLt_int, dataLt_int, dataLt_int]
  have e : PyProof.Rows.lexLt itemOrd (keyToksAll []) (keyToksAll []) = false := lex_irrefl _
  rw [e]
  simp only [PyData.eqv, beq_iff_eq]
  unfold ltT
  by_cases h1 : x.1 = y.1 <;> by_cases h2 : x.2.1 = y.2.1 <;> by_cases h3 : x.2.2 = y.2.2 <;> simp [h1, h2, h3]
theorem alike_T (xs : List (Int × Int × Int)) : AlikeAll (xs.map dpT) := by
  refine ⟨fun x hx y hy => ?_, fun x hx => ?_⟩
  · obtain ⟨m, _, rfl⟩ := List.mem_map.mp hx
    obtain ⟨n, _, rfl⟩ := List.mem_map.mp hy
    rfl
  · obtain ⟨m, _, rfl⟩ := List.mem_map.mp hx
    exact fun h => nomatch h
theorem depth_T : ∀ xs : List (Int × Int × Int), PyData.depthAll (xs.map dpT) ≤ 60
  | [] => by simp [PyData.depthAll]
  | n :: r => by
    have := depth_T r
    rw [List.map_cons]
    simp only [PyData.depthAll, PyData.depth, dpT]
    omega
theorem minT_is : ∀ (r : List (Int × Int × Int)) (n : Int × Int × Int), ∃ m, minD (dpT n) (r.map dpT) = dpT m ∧ m ∈ n :: r ∧ ∀ k ∈ n :: r, ¬ ltT k m
  | [], n => ⟨n, rfl, by simp, fun k hk => by
      have : k = n := by simpa using hk
      subst this
      exact ltT_irrefl⟩
  | x :: r, n => by
    have e : minD (dpT n) ((x :: r).map dpT) = minD (dpT (if ltT x n then x else n)) (r.map dpT) := by
      unfold minD
      rw [List.map_cons, List.foldl_cons]
      congr 1
      rw [dataLt_iii]
      by_cases h : ltT x n
      · rw [if_pos h, if_pos (decide_eq_true h)]
      · rw [if_neg h, if_neg (by simpa using h)]
    rw [e]
    by_cases h : ltT x n
    · rw [if_pos h]
      obtain ⟨m, h1, h2, h3⟩ := minT_is r x
      refine ⟨m, h1, List.mem_cons_of_mem _ h2, fun k hk => ?_⟩
      rcases List.mem_cons.mp hk with q | q
      · have := h3 x (by simp)
        subst q
        unfold ltT at *
        omega
      · exact h3 k q
    · rw [if_neg h]
      obtain ⟨m, h1, h2, h3⟩ := minT_is r n
      refine ⟨m, h1, ?_, fun k hk => ?_⟩
      · rcases List.mem_cons.mp h2 with q | q
        · simp [q]
        · simp [q]
      · rcases List.mem_cons.mp hk with q | q
        · exact h3 k (by simp [q])
        · rcases List.mem_cons.mp q with q | q
          · have := h3 n (by simp)
            subst q
            unfold ltT at *
            omega
          · exact h3 k (by simp [q])
section
variable {K : PySem.W.Frag} {g : Gr} {L : Led} {C : V → Led → Prop} {a : Addr} {d : V} {bo : Bool}
theorem dpAll_T {H : Hp} : ∀ (as : List Addr) (xs : List (Int × Int × Int)), as.length = xs.length → (∀ (k : Nat) (b : Addr) (r : List V), as[k]? = some b → (xs.map row3)[k]? = some r → H b = some (.tup r)) → DpAll K H (as.map V.ref) (xs.map dpT)
  | [], [], _, _ => .nil
  | [], _ :: _, h, _ => by cases h
  | _ :: _, [], h, _ => by cases h
  | b :: as, x :: xs, h, k => .cons (.tup (SqT.of (k 0 b (row3 x) rfl rfl)) (.cons (.int _) (.cons (.int _) (.cons (.int _) .nil)))) (dpAll_T as xs (by simpa using h) fun i c r h1 h2 => k (i + 1) c r h1 h2)
theorem wc_minT {xs : List (Int × Int × Int)} (j : Nat) (hj : L[j]? = some (a, .rows (xs.map row3), bo)) (hne : xs ≠ []) (c : ∀ x, x ∈ xs → (∀ y ∈ xs, ¬ ltT y x) → ∀ p, C (.ref p) (L ++ [(p, .ob (.tup (row3 x)), false)])) : Wp g L (rMinDt K [.ref a]) C :=
  fun H z Q q => by
    obtain ⟨o, h1, as, e1, hl, hr⟩ := z.look hj
    subst e1
    cases xs with
    | nil => exact absurd rfl hne
    | cons n r =>
      refine ⟨a, as.map V.ref, dpT n, r.map dpT, rfl, SqL.of h1, dpAll_T as (n :: r) (by simpa using hl) hr, alike_T (n :: r), depth_T (n :: r), fun i x hx hm => ?_⟩
      obtain ⟨m, h2, h3, h4⟩ := minT_is r n
      rw [h2] at hm
      have hm : ((n :: r).map dpT)[i]? = some (dpT m) := hm
      rw [List.getElem?_map] at hm
      cases hi : (n :: r)[i]? with
      | none => rw [hi] at hm; cases hm
      | some k =>
        rw [hi] at hm
        have hm := dpT_inj (Option.some.inj hm)
        subst hm
        rw [List.getElem?_map] at hx
        cases hb : as[i]? with
        | none => rw [hb] at hx; cases hx
        | some b =>
          rw [hb] at hx
          have hx : V.ref b = x := Option.some.inj hx
          subst hx
          exact q _ _ _ (c k h3 h4 b) (z.addT (hr i b (row3 k) hb (by rw [List.getElem?_map, hi]; rfl)))
end
theorem atI_cons0 {x : V} {xs : List V} : atI (x :: xs) 0 = some x := by simp [atI, ixN]
/-- max(list, default=z): one value -/
theorem wc_maxDW {K : PySem.W.Frag} {g : Gr} {L : Led} {C : V → Led → Prop} {a : Addr} {ns : List Int} {z0 : Int} (s : Seen K g L a (ns.map V.int)) (c : ∀ w : Int, ((ns = [] ∧ w = z0) ∨ w ∈ ns) → (∀ k ∈ ns, k ≤ w) → C (.int w) L) : Wp g L (rMaxDf K [.ref a] [.int z0]) C :=
  wc_maxDI s (fun h => c z0 (.inl ⟨h, rfl⟩) (by rw [h]; simp)) (fun m hm hM => c m (.inr hm) hM)
end Kr

set_option Elab.async false
set_option linter.all false
set_option maxRecDepth 100000
set_option maxHeartbeats 1000000
/-! ### for archives: old objects, classes as values, calls with keyword-only parameters -/
namespace Kr
open PySem L2
section
variable {g : Gr} {L : Led} {H : Hp} {a : Addr} {o : HO} {t : TS} {σ : St} {K : Ks}
/-- an object that stood at the entry -/
theorem At.addOld (z : At g L H) (h : g.H0 a = some o) (hm : ¬ g.mu a) : At g (L ++ [(a, .ob o, false)]) H := by
  refine ⟨z.old, fun q hq => ?_, fun q hq hb => ?_, nd_app z.nd fun q hq e => ?_⟩
  · rcases List.mem_append.mp hq with hq | hq
    · exact z.led q hq
    · have e : q = (a, Ent.ob o, false) := by simpa using hq
      subst e
      exact ⟨_, z.old a o h hm, rfl⟩
  · rcases List.mem_append.mp hq with hq | hq
    · exact z.own q hq hb
    · have e : q = (a, Ent.ob o, false) := by simpa using hq
      subst e
      cases hb
  · refine .inr ⟨?_, rfl⟩
    cases hb : q.2.2 with
    | false => rfl
    | true =>
      rcases z.own q hq hb with y | y
      · rw [show q.1 = a from e, h] at y
        cases y
      · rw [show q.1 = a from e] at y
        exact absurd y hm
theorem ws_old (h : g.H0 a = some o) (hm : ¬ g.mu a) (c : Ws g (L ++ [(a, .ob o, false)]) t σ K) : Ws g L t σ K := fun H z D e => c H (z.addOld h hm) D e
theorem wp_old {α : Type} {m : Hp → (α → Hp → Prop) → Prop} {C : α → Led → Prop} (h : g.H0 a = some o) (hm : ¬ g.mu a) (c : Wp g (L ++ [(a, .ob o, false)]) m C) : Wp g L m C := fun H z Q q => c H (z.addOld h hm) Q q
end
section
variable {X : Cx} {x : Str} {pos : Pos} {C : Addr}
theorem pe_cls (hg : Gl X x) (hm : X.mg x = some (.ref C)) (hd : (x == ("__debug__" : Str)) = false := by decide) : PE X (.Name x pos) (tC (.ref C)) := pe_glob hg hm rfl hd
theorem pe_tylist (hg : Gl X "list") (hm : X.mg "list" = none) : PE X (.Name "list" pos) (tC (.ty "list")) := pe_bltn hg hm (by decide +kernel) rfl
def rIsC (C : Addr) : List V → Hp → VK → Prop := fun xs H Q => ∃ a dx fs, xs = [.ref a, .ref C] ∧ H a = some (.ins C dx fs) ∧ Q (.bl true) H
theorem c_isC (c : C8.InsC X.K C) : CallR X (.builtin "isinstance") (rIsC C) := C8.call_isC c
end
section
variable {Kf : PySem.W.Frag} {g : Gr} {L : Led} {C : V → Led → Prop} {σ : St} {a : Addr} {ta tb : TE}
theorem wc_isC {D dx : Addr} {fs : List (Str × V)} {bo : Bool} (i : Nat) (h : L[i]? = some (a, .ob (.ins D dx fs), bo)) (c : C (.bl true) L) : Wp g L (rIsC D [.ref a, .ref D]) C :=
  .now (fun H _ z q => ⟨a, dx, fs, rfl, z.get h, q⟩) c
theorem wc_isi_list {xs : List V} {bo : Bool} (i : Nat) (h : L[i]? = some (a, .ob (.lst xs), bo)) (c : C (.bl true) L) : Wp g L (rIsi Kf [.ref a, .ty "list"]) C :=
  .now (fun H _ z q => ⟨.ref a, .ty "list", _, _, true, rfl, .ty _, .base (.lst (z.get h)), kit_ty (by decide +kernel), q⟩) c
theorem rgV_eq (i j : Int) : rgV i j = (rngI i (j - i).toNat).map V.int := by
  unfold rgV rngI
  rw [List.map_map]
  rfl
theorem wp_listRg2 (h : Wp g L (ta σ) fun x L1 => Wp g L1 (tb σ) fun y L2 => ∃ i j : Int, x = .int i ∧ y = .int j ∧ RgOk i j ∧ ∀ p, C (.ref p) (L2 ++ [(p, .ob (.lst ((rngI i (j - i).toNat).map V.int)), true)])) : Wp g L (tLstRg (tRg2 ta tb) σ) C :=
  fun H z Q q => h H z _ fun x L1 H1 h1 z1 => h1 H1 z1 _ fun y L2 H2 ⟨i, j, e1, e2, ok, c⟩ z2 => ⟨i, j, e1, e2, ok, fun p hp => by
    rw [rgV_eq]
    exact q _ _ _ (c p) (z2.upd_new hp)⟩
theorem wp_listRg1 (h : Wp g L (ta σ) fun y L2 => ∃ j : Int, y = .int j ∧ RgOk 0 j ∧ ∀ p, C (.ref p) (L2 ++ [(p, .ob (.lst ((rngI 0 j.toNat).map V.int)), true)])) : Wp g L (tLstRg (tRg1 ta) σ) C :=
  fun H z Q q => h H z _ fun y L2 H2 ⟨j, e2, ok, c⟩ z2 => ⟨j, e2, ok, fun p hp => by
    rw [rgV_eq, Int.sub_zero]
    exact q _ _ _ (c p) (z2.upd_new hp)⟩
end
/-! ### classes whose __init__ has keyword-only parameters -/
structure InitFnK (K : PySem.W.Frag) (mg : Str → Option Value) (x : Str) (C : Addr) (qual : Str) (st : Stmt) (kwd : List (Str × V)) : Prop where
  mg : mg x = some (.ref C)
  ex : ∃ f fd, Mk K C f ∧ FunD K "__init__" qual (defArgs st) (defBody st) (defScope st) [] kwd f fd
structure OkCK (P : Program) (w : World) (K : PySem.W.Frag) (mg : Str → Option Value) (base : Heap) (x : Str) (C : Addr) (k : Nat) (qual : Str) (st : Stmt) (kwd : List (Str × V)) (ps : List Str) (sp : Sp) : Prop where
  ex : ∃ f fd, mg x = some (.ref C) ∧ Mk K C f ∧ FunD K "__init__" qual (defArgs st) (defBody st) (defScope st) [] kwd f fd ∧ FnOk P w K mg base CX0 k f fd ps sp
section
variable {P : Program} {w : World} {K : PySem.W.Frag} {mg : Str → Option Value} {base : Heap}
theorem OkCK.of {C : Addr} {x qual : Str} {st : Stmt} {kwd : List (Str × V)} {N ps : List Str} {k : Nat} {sp : Sp} (T : InitFnK K mg x C qual st kwd) (S : FnScope N ps (defScope st))
    (len : ∀ vs H Q E, sp vs H Q E → vs.length = ps.length) (body : BodyOk P w K mg base qual st N k sp) : OkCK P w K mg base x C (k + 1) qual st kwd ps sp := by
  obtain ⟨f, fd, h1, F⟩ := T.ex
  refine ⟨f, fd, T.mg, h1, F, F.ok S len fun cdv A outer s H vs Q E hr hsp => ?_⟩
  obtain ⟨t, h, q⟩ := body f cdv A outer s H vs Q E hr hsp
  exact ⟨t, h.nox, q⟩
theorem initFnK_mk {x : Str} {C : Addr} {qual : Str} {st : Stmt} {f D : Addr} {oc : Value} {od an : Option Addr} {osl : Array (Option Value)} {doc pm cdv ct : Value} {n1 n2 n3 n4 : Str} (hm : mg x = some (.ref C)) (mk : PySem.W.makesIn K C = true) (kc : PySem.W.keepIn K (.ref C) = true)
    (a : PySem.W.findIn K (.ref C) "__init__" = some (some (.ref f))) (i : PySem.W.isFn K (.ref f) = true)
    (l : K.lookup f = some ⟨oc, od, .func (PySem.W.fnOf "__init__" qual (defArgs st) (defBody st) (defScope st) .none (.ref D) doc pm an cdv ct), osl⟩) (c : PySem.W.codeIn K cdv qual = true) (k : PySem.W.keepIn K (.ref f) = true)
    (d1 : PySem.W.nsIn K D n1 = some (some .none)) (d2 : PySem.W.nsIn K D n2 = some (some .none)) (d3 : PySem.W.nsIn K D n3 = some (some .none)) (d4 : PySem.W.nsIn K D n4 = some (some .none)) : InitFnK K mg x C qual st [(n1, .non), (n2, .non), (n3, .non), (n4, .non)] :=
  ⟨hm, f, _, ⟨mk, a, i, kc⟩, ⟨_, _, _, _, _, _, _, _, _, _, rfl, l, c, .inl ⟨rfl, rfl⟩, .inr ⟨D, rfl, fun q hq => by
    simp only [List.mem_cons, List.not_mem_nil, or_false] at hq
    rcases hq with rfl | rfl | rfl | rfl
    · exact ⟨_, d1, rfl⟩
    · exact ⟨_, d2, rfl⟩
    · exact ⟨_, d3, rfl⟩
    · exact ⟨_, d4, rfl⟩⟩⟩, k⟩
end
/-- positional values, then for each keyword-only parameter its keyword's value or its default -/
def mixL {α : Type} (mv ws : List α) : List (Nat ⊕ Nat) → List α
  | [] => []
  | .inl i :: q => (ws[i]?).toList ++ mixL mv ws q
  | .inr j :: q => (mv[j]?).toList ++ mixL mv ws q
def mix {α : Type} (perm : List (Nat ⊕ Nat)) (us mv ws : List α) : List α := us ++ mixL mv ws perm
theorem opt_vals {zs : List V} {ws : List Value} (r : Vals zs ws) (i : Nat) : Vals (zs[i]?).toList (ws[i]?).toList := by
  cases h : zs[i]? with
  | none => rw [r.none_of h]; exact .nil
  | some x =>
    obtain ⟨u, h1, h2⟩ := r.get h
    rw [h1]
    exact .cons h2 .nil
theorem mix_vals {mz zs : List V} {mv ws : List Value} (r2 : Vals mz mv) (r3 : Vals zs ws) : ∀ perm : List (Nat ⊕ Nat), Vals (mixL mz zs perm) (mixL mv ws perm)
  | [] => .nil
  | .inl i :: q => Vals.append (opt_vals r3 i) (mix_vals r2 r3 q)
  | .inr i :: q => Vals.append (opt_vals r2 i) (mix_vals r2 r3 q)
theorem mix_rel (perm : List (Nat ⊕ Nat)) {vs mz zs : List V} {us mv ws : List Value} (r1 : Vals vs us) (r2 : Vals mz mv) (r3 : Vals zs ws) : Vals (mix perm vs mz zs) (mix perm us mv ws) :=
  Vals.append r1 (mix_vals r2 r3 perm)
section
variable {X : Cx} {k n : Nat} {x : Str} {ps ks : List Str} {sp : Sp} {p pos : Pos} {e : Expr} {es : List Expr} {t tk : TA} {C : Addr} {st : Stmt} {qual : Str} {kwd ms : List (Str × V)} {kws : List Keyword}
theorem pe_ocK (perm : List (Nat ⊕ Nat)) (O : OkCK X.prog X.w X.K X.mg X.base x C k qual st kwd ps sp) (hr : Room (k + 1) X.A) (hg : Gl X x) (ha : PA X (e :: es) t) (hkw : PK X kws tk) (hk : kwd ≠ []) (hms : ∀ q ∈ ms, q ∈ kwd)
    (hb : ∀ (D : Addr) (doc pm : Value) (an : Option Addr) (cdv ct : Value) (us mv ws : List Value), us.length = n + 1 → mv.length = ms.length → ws.length = ks.length →
      KwChain D ((ms.map (·.1)).zip mv) (bindArgs (PySem.W.fnOf "__init__" qual (defArgs st) (defBody st) (defScope st) .none (.ref D) doc pm an cdv ct) ⟨us, ks.zip ws⟩) (ps.zip (mix perm us mv ws)))
    (hall : (backToKw pos (keywordEach kws X.env)).all (·.1.isSome) = true := by rfl) (hks : (backToKw pos (keywordEach kws X.env)).filterMap (·.1) = ks := by rfl) (hdb : (x == ("__debug__" : Str)) = false := by decide)
    (he : starEach (e :: es) X.env = (false, eval e X.env) :: starEach es X.env := by rfl) (hpl : ((backTo pos (starEach (e :: es) X.env)).any (·.1) || (backToKw pos (keywordEach kws X.env)).any (·.1.isNone)) = false := by rfl) :
    PE X (.Call (.Name x p) (e :: es) kws pos) (tMakeK C n ks.length sp (fun vs zs => mix perm vs (ms.map (·.2)) zs) E0 t tk) := by
  obtain ⟨f, fd, h1, M, F, O⟩ := O.ex
  obtain ⟨mv, kb⟩ := F.kbinds0 (ps := ps) (n + 1) ks ms (fun us mv ws => mix perm us mv ws) hk hms (fun r1 r2 r3 => mix_rel perm r1 r2 r3) hb
  exact pe_makeK M O hr hg h1 kb pass0 ha hkw hall hks hdb he hpl
end
theorem wp_makeK {g : Gr} {L : Led} {σ : St} {D : V → Led → Prop} {C : Addr} {n m : Nat} {sp : Sp} {gV : List V → List V → List V} {E : XK} {t tk : TA}
    (h : Wp g L (t σ) fun vs L1 => Wp g L1 (tk σ) fun zs L2 => vs.length = n ∧ zs.length = m ∧ ∀ H2, At g L2 H2 → ∀ Q : V → Hp → Prop, (∀ v L' H', D v L' → At g L' H' → Q v H') → ∀ x dx, H2 x = none → H2 dx = none → dx ≠ x →
      sp (gV (.ref x :: vs) zs) (upd (upd H2 dx (.own x)) x (.ins C dx [])) (fun v H3 => v = .non ∧ Q (.ref x) H3) E) : Wp g L (tMakeK C n m sp gV E t tk σ) D :=
  fun H z Q q => h H z _ fun vs L1 H1 h1 z1 => h1 H1 z1 _ fun zs L2 H2 ⟨e1, e2, k⟩ z2 => ⟨e1, e2, fun x dx hx hdx hne => k H2 z2 Q q x dx hx hdx hne⟩
end Kr
namespace Kr
open PySem L2
theorem pe_fldK {X : Cx} {Kf : PySem.W.Frag} {e : Expr} {f : Str} {pos : Pos} {ta : TE} (hK : X.K = Kf) (he : PE X e ta) (hb : attributeBase e f X.env (eval e X.env) = eval e X.env) : PE X (.Attribute e f pos) (tFld Kf ta f) := hK ▸ pe_fld he hb
end Kr
namespace Kr
open PySem L2
theorem At.draw_news {g : Gr} {L E : Led} {H H' : Hp} {a : Addr} {e e' : Ent} {i : Nat} (z : At g L H) (k : L[i]? = some (a, e, true)) (s : Exc a H H') (h : EntAt e' H' a) (hE : ∀ q ∈ E, H q.1 = none ∧ ∃ o, H' q.1 = some o ∧ q.2.1.In H' o) (nd : (E.map (·.1)).Nodup) (hmv : e.mov2 = true := by rfl) : At g (L.set i (a, e', true) ++ E) H' := by
  have z2 := z.draw k s h hmv
  refine ⟨z2.old, fun q hq => ?_, fun q hq hb => ?_, ?_⟩
  · rcases List.mem_append.mp hq with hq | hq
    · exact z2.led q hq
    · exact (hE q hq).2
  · rcases List.mem_append.mp hq with hq | hq
    · exact z2.own q hq hb
    · by_cases hmu : g.mu q.1
      · exact .inr hmu
      · refine .inl ?_
        cases e : g.H0 q.1 with
        | none => rfl
        | some u =>
          have := (hE q hq).1
          rw [z.old q.1 u e hmu] at this
          cases this
  · rw [List.pairwise_append]
    refine ⟨z2.nd, ?_, fun x hx y hy e2 => ?_⟩
    · have := List.nodup_iff_pairwise_ne.mp nd
      rw [List.pairwise_map] at this
      exact this.imp fun hne e => absurd e hne
    · have hn := (hE y hy).1
      rcases List.mem_or_eq_of_mem_set hx with r | r
      · obtain ⟨o, h1, _⟩ := z.led x r
        rw [e2, hn] at h1
        cases h1
      · subst r
        obtain ⟨o, h1, _⟩ := z.look k
        rw [show a = y.1 from e2, hn] at h1
        cases h1
theorem wr_catI {g : Gr} {L : Led} {C : V → Led → Prop} {a a2 : Addr} {xs ys : List Int} {b1 b2 : Bool} (i j : Nat) (h1 : L[i]? = some (a, .ob (.lst (xs.map V.int)), b1)) (h2 : L[j]? = some (a2, .ob (.lst (ys.map V.int)), b2)) (hl : xs.length + ys.length ≤ 100000)
    (c : ∀ p, C (.ref p) (L ++ [(p, .ob (.lst ((xs ++ ys).map V.int)), true)])) : Wp g L (rCat (.ref a) (.ref a2)) C :=
  wr_cat i j h1 h2 (by rw [List.length_map, List.length_map]; exact hl) (by rw [← List.map_append]; exact c)
end Kr

set_option Elab.async false
set_option linter.all false
set_option maxRecDepth 100000
/-! ### == and != by an own __eq__, both answers; != of tuples and lists whose items are equal -/
namespace Kq
open PySem PySem.SeqAt AutoSeq1 MeetsSeq MeetsSeq2 MeetsSeq3 SeqRoads2
section
variable {prog : Program} {w : World} {A : Around} {E : Value → Shared → Prop} {s : Shared} {K : PySem.W.Frag} {x C f : Addr} {b : Value} {ox : Obj} {od : Option Obj}
theorem bound_ne {M : Model} {args : List Value} {Q : Option Value → Shared → Prop} (X : K.In s.heap) (I : PySem.W.InstAt s.heap x ox C od) (hn : PySem.W.findIn K (.ref C) "__ne__" = some (some (.builtin "object.__ne__")))
    (h : wpAny M A (call (.builtin "object.__ne__") (.ref x :: args)) (fun v => Q (some v)) E s) : wpAny M A (callSpecialIfBound? (.ref x) "__ne__" args) Q E s := by
  simp only [callSpecialIfBound?, bindSpecialIfBound?]
  refine wpAny_holding (wpAny_bind (wpAny_bind (wpAny_bind (I.type.here ((PySem.W.looks_findIn X hn).here ?_)))))
  refine wpAny_bind (wpAny_askSetting (wpAny_ite ?_))
  have ends : wpAny M A (call (.builtin "object.__ne__") ([.ref x] ++ args) >>= fun v => pure (some v)) Q E s := wpAny_bind (wpAny_mono h (fun _ _ q => wpAny_pure q) fun _ _ q => q)
  split
  · exact wpAny_bind (wpAny_of_eq (F.cmp_object.ne.bind _) (wpAny_pure ends))
  · exact wpAny_tryCatch (wpAny_bind (wpAny_of_eq (F.cmp_object.ne.bind _) (wpAny_pure ends)))
theorem body_ne {Q : Fin → Shared → Prop} (hu : A.units < cLine) (X : K.In s.heap) (I : PySem.W.InstAt s.heap x ox C od) (he : PySem.W.findIn K (.ref C) "__eq__" = some (some (.ref f))) (hf : PySem.W.isFn K (.ref f) = true)
    (h : wpAny (model prog w) A (call (.ref f) [.ref x, b]) (fun v s' => ∃ r, v = .bool r ∧ Q (.done (.ret (.bool (!r)))) s') E s) : wpAny (model prog w) A (Builtin.«object.__ne__» ⟨[.ref x, b], []⟩) Q E s := by
  unfold Builtin.«object.__ne__»
  repeat (first
    | with_reducible refine wpAny_cRoomFor hu ?_
    | (refine wpAny_bind (m := callSpecialIfBound? (.ref x) (Str.ofString "__eq__") [b])
        (PySem.W.ifBound_K X I he hf (wpAny_mono h (fun v s' q => by
          obtain ⟨r, rfl, q⟩ := q
          repeat (first | exact q | exact wpAny_pure q | exact wpAny_truthy_bool q | (refine wpAny_bind (m := truthy (.bool _)) (wpAny_truthy_bool ?_)) | wp_step)) fun _ _ z => z)))
    | wp_step)
theorem rc_ne {Q : Value → Shared → Prop} (hu : A.units + 1 < cLine) (X : K.In s.heap) (I : PySem.W.InstAt s.heap x ox C od) (hb : PySem.W.Looks (model prog w) s.heap (typeOf b) (.ref C))
    (hn : PySem.W.findIn K (.ref C) "__ne__" = some (some (.builtin "object.__ne__"))) (he : PySem.W.findIn K (.ref C) "__eq__" = some (some (.ref f))) (hf : PySem.W.isFn K (.ref f) = true) (hm : PySem.W.mroIn K C (.type "object") = some true)
    (h : wpAny (model prog w) A.in1 (call (.ref f) [.ref x, b]) (fun v s' => ∃ r, v = .bool r ∧ Q (.bool (!r)) s') E s) : wpAny (model prog w) A (richCompare .NotEq (.ref x) b) Q E s := by
  have one : wpAny (model prog w) A (tryCompare (.ref x) "__ne__" b) (fun r s' => ∃ v, r = some v ∧ Q v s') E s := by
    unfold tryCompare
    refine wpAny_bind (bound_ne X I hn (wpAny_call (codeAny_call_builtin F.cmp_object.ne.plain F.cmpEntry_ne (PySem.W.check_slot F.cmpKind_ne F.cmpSplit_ne (I.type.andThen (PySem.W.looks_mroIn X hm)) (F.cmpArgs_ne _ _)
      (body_ne (A := A.in1) (b := b) hu X I he hf (wpAny_mono h (fun v s' q => ?_) fun _ _ z => z))))))
    obtain ⟨r, rfl, q⟩ := q
    first | exact ⟨r, rfl, wpAny_pure ⟨_, rfl, q⟩⟩ | exact ⟨r, rfl, wpAny_pure (wpAny_pure ⟨_, rfl, q⟩)⟩
  unfold richCompare
  simp only [oneThing_ref, cmpInfo_NotEq]
  refine wpAny_holding (wpAny_bind (wpAny_cRoomFor (Nat.lt_of_succ_lt hu) ?_))
  refine wpAny_bind (I.type.here (wpAny_bind (hb.here ?_)))
  rw [if_neg (by simp)]
  refine wpAny_bind (wpAny_pure ?_)
  simp only [Bool.false_eq_true, if_false]
  refine wpAny_bind (wpAny_mono one (fun r s' z => ?_) fun _ _ z => z)
  obtain ⟨v, rfl, q⟩ := z
  exact wpAny_pure q
end
end Kq

namespace Kq
open PySem PySem.SeqAt AutoSeq1 MeetsSeq MeetsSeq2 MeetsSeq3 SeqRoads2
section
variable {prog : Program} {w : World} {A : Around} {R : Result → Shared → Prop}
/-- the items of two lists, one after the other, all equal: != says no -/
theorem items_ne (p q : Addr) (N : Nat) (J : Nat → Shared → Prop) (it : GQ.ListI prog w A (fun e s' => R (.error e) s') p q N J) (fin : ∀ s, J N s → R (.ok (.ret (.bool false))) s) :
    ∀ (k i : Nat), N - i = k → i ≤ N → ∀ s, J i s → wpAny (model prog w) A.in1 (Builtin.«list.__eq__.loop» ⟨[.ref p, .ref q, rawInt i, rawInt 3], []⟩) (GQ.FinOf prog w A R) (fun e s' => R (.error e) s') s
  | 0, i, hk, hi, s, h => by
    obtain ⟨us, vs, n1, n2, g1, g2, z1, z2, _⟩ := it _ _ h
    have ei : i = N := by omega
    have done : R (.ok (.ret (.bool false))) s := fin s (ei ▸ h)
    rcases s with ⟨s1, s2, s3, s4, s5⟩
    wp_walk using wpAny_loadPart' g1, wpAny_loadPart' g2
    have o1 : us[((i : Nat) : Int).toNat]? = none := by simp; omega
    have o2 : vs[((i : Nat) : Int).toNat]? = none := by simp; omega
    rw [o1, o2]
    wp_walk using wpAny_loadPart' g1, wpAny_loadPart' g2
    show R (.ok (.ret (.bool (us.size != vs.size)))) _
    rw [z1, z2]
    simpa using done
  | k + 1, i, hk, hi, s, h => by
    obtain ⟨us, vs, n1, n2, g1, g2, z1, z2, one⟩ := it _ _ h
    have l1 : i < us.size := by omega
    have l2 : i < vs.size := by omega
    have now := one l1 l2
    rcases s with ⟨s1, s2, s3, s4, s5⟩
    wp_walk using wpAny_loadPart' g1, wpAny_loadPart' g2
    have o1 : us[((i : Nat) : Int).toNat]? = some us[i] := by simp [l1]
    have o2 : vs[((i : Nat) : Int).toNat]? = some vs[i] := by simp [l2]
    have nx : ((i : Int) + 1) = ((i + 1 : Nat) : Int) := by omega
    rw [o1, o2]
    refine wpAny_bind (wpAny_mono now (fun r t z => ?_) fun _ _ z => z)
    obtain ⟨rfl, z⟩ := z
    have more := items_ne p q N J it fin k (i + 1) (by omega) (by omega) t z
    rcases t with ⟨t1, t2, t3, t4, t5⟩
    wp_walk
    rw [nx]
    exact ⟨plainId_quiet plain_eq_loop _, codeAny_builtin entry_eq_loop (by rw [Around.under_plainId plain_eq_loop _]; exact more)⟩
theorem lists_ne (p q : Addr) (N : Nat) (J : Nat → Shared → Prop) (it : GQ.ListI prog w A (fun e s' => R (.error e) s') p q N J) (fin : ∀ s, J N s → R (.ok (.ret (.bool false))) s) {s : Shared} (h : J 0 s) :
    wpAny (model prog w) A.in1 (Builtin.«list.__ne__» ⟨[.ref p, .ref q], []⟩) (GQ.FinOf prog w A R) (fun e s' => R (.error e) s') s := by
  obtain ⟨us, vs, n1, n2, g1, g2, z1, z2, _⟩ := it _ _ h
  have more := items_ne (A := A) (R := R) p q N J it fin _ 0 rfl (Nat.zero_le _) s h
  rcases s with ⟨s1, s2, s3, s4, s5⟩
  have sb := AutoSeq1.sub_list_list
  have zz : ¬ (us.size != vs.size) = true := by simp [z1, z2]
  wp_walk using wpAny_loadPart' g1, wpAny_loadPart' g2
  exact ⟨plainId_quiet plain_eq_loop _, codeAny_builtin entry_eq_loop (by rw [Around.under_plainId plain_eq_loop _]; exact more)⟩
theorem tups_ne (p q : Addr) (us vs : Array Value) (n1 n2 : Nat) (d1 d2 : Option Addr) (q1 q2 : Array (Option Value)) (zz : us.size = vs.size) (J : Nat → Shared → Prop)
    (one : ∀ i (l1 : i < us.size) (l2 : i < vs.size) s, J i s → wpAny (model prog w) A.in1 (eqBool us[i] vs[i]) (fun r s' => r = true ∧ J (i + 1) s') (fun e s' => R (.error e) s') s)
    (fin : ∀ s, J us.size s → R (.ok (.ret (.bool false))) s) {s : Shared} (g1 : s.heap.get? p = some { cls := .type "tuple", dict := d1, data := .seq us n1, slots := q1 }) (g2 : s.heap.get? q = some { cls := .type "tuple", dict := d2, data := .seq vs n2, slots := q2 }) (h : J 0 s) :
    wpAny (model prog w) A.in1 (Builtin.«tuple.__ne__» ⟨[.ref p, .ref q], []⟩) (GQ.FinOf prog w A R) (fun e s' => R (.error e) s') s := by
  have sb := AutoSeq1.sub_tuple_tuple
  have zl : (us.toList.zip vs.toList).length = us.size := by simp [zz]
  have hh := h
  rcases s with ⟨s1, s2, s3, s4, s5⟩
  wp_walk using wpAny_loadPart' g1, wpAny_loadPart' g2, wpAny_forIn_list _ (fun rest b t => b.1 = none ∧ ∃ i, rest = (us.toList.zip vs.toList).drop i ∧ i ≤ us.size ∧ J i t) _
  case turn =>
    rintro ⟨y, x⟩ rest b t ⟨nb, i, er, hi, hJ⟩
    have hlt : i < (us.toList.zip vs.toList).length := Decidable.byContradiction fun c => by
      rw [List.drop_of_length_le (by omega)] at er
      cases er
    have l1 : i < us.size := by omega
    have l2 : i < vs.size := by omega
    rw [List.drop_eq_getElem_cons hlt] at er
    injection er with e1 e2
    obtain rfl : y = us[i] := by simpa using congrArg Prod.fst e1
    obtain rfl : x = vs[i] := by simpa using congrArg Prod.snd e1
    refine wpAny_bind (wpAny_mono (one i l1 l2 t hJ) (fun r t2 z => ?_) fun _ _ z => z)
    obtain ⟨rfl, z⟩ := z
    wp_walk
    exact ⟨rfl, i + 1, e2, l1, z⟩
  case fin =>
    rintro ⟨b1, b2⟩ t ⟨nb, i, er, hi, hJ⟩
    simp only at nb
    subst nb
    have ei : i = us.size := Decidable.byContradiction fun c => by
      have hlt : i < (us.toList.zip vs.toList).length := by omega
      rw [List.drop_eq_getElem_cons hlt] at er
      cases er
    have done : R (.ok (.ret (.bool false))) t := fin t (ei ▸ hJ)
    wp_walk
    simpa [Builtin.Tuple.tupleCompareSizes, zz] using done
  case h => exact ⟨rfl, 0, rfl, Nat.zero_le _, hh⟩
end
section
variable {prog : Program} {w : World} {A : Around} {E : Value → Shared → Prop} {s : Shared}
theorem rc_lists_ne {p q : Addr} {N : Nat} {Q : Value → Shared → Prop} (hu : A.units < cLine) (J : Nat → Shared → Prop) (it : GQ.ListI prog w A E p q N J) (fin : ∀ s, J N s → Q (.bool false) s) (h : J 0 s) : wpAny (model prog w) A (richCompare .NotEq (.ref p) (.ref q)) Q E s := by
  obtain ⟨us, vs, n1, n2, g1, g2, _⟩ := it _ _ h
  exact wpAny_richCompare_same_room (op := .NotEq) ⟨_, g1, rfl⟩ ⟨_, g2, rfl⟩ F.slot_list_ne (GQ.call_here F.slot_list_ne ⟨_, g1, rfl⟩ F.entry_list_ne (F.args_list_ne_2 _ _) (lists_ne (R := wants (fun v t => v ≠ .notImplemented ∧ Q v t) E) p q N J it (fun t z => ⟨(fun x => nomatch x), fin t z⟩) h)) hu
theorem rc_tups_ne {p q : Addr} {us vs : Array Value} {Q : Value → Shared → Prop} (zz : us.size = vs.size) (hu : A.units < cLine) (J : Nat → Shared → Prop) (hp : s.heap.IsTuple p us) (hq : s.heap.IsTuple q vs)
    (one : ∀ i (l1 : i < us.size) (l2 : i < vs.size) s, J i s → wpAny (model prog w) A.in1 (eqBool us[i] vs[i]) (fun r s' => r = true ∧ J (i + 1) s') E s) (fin : ∀ s, J us.size s → Q (.bool false) s) (h : J 0 s) : wpAny (model prog w) A (richCompare .NotEq (.ref p) (.ref q)) Q E s := by
  obtain ⟨⟨c1, d1, x1, q1⟩, g1, k1, n1, y1⟩ := id hp
  obtain ⟨⟨c2, d2, x2, q2⟩, g2, k2, n2, y2⟩ := id hq
  simp only at k1 y1 k2 y2
  subst k1 y1 k2 y2
  exact wpAny_richCompare_same_room (op := .NotEq) ⟨_, g1, rfl⟩ ⟨_, g2, rfl⟩ F.slot_tuple_ne (GQ.call_here F.slot_tuple_ne ⟨_, g1, rfl⟩ F.entry_tuple_ne (F.args_tuple_ne_2 _ _) (tups_ne (R := wants (fun v t => v ≠ .notImplemented ∧ Q v t) E) p q us vs n1 n2 d1 d2 q1 q2 zz J one (fun t z => ⟨(fun x => nomatch x), fin t z⟩) g1 g2 h)) hu
end
end Kq
namespace L2
open PySem PySem.Spec PyProof.Rows
section
variable {X : Cx} {n : Nat} {D : Eqv}
/-- x != y of lists, of tuples, whose items are equal -/
def rNeG (D : Eqv) : R2 := fun x y H Q => D x y H ∧ ∀ H', Ext H H' → Q (.bl false) H'
theorem op_neL (hD : Mon D) (h : EqG X n D) (hr : Room (n + 1) X.A) : OpR X (compareOp .NotEq) (rNeG (DList D)) := by
  intro pins s σ H x y v u Q I rx ry hq
  obtain ⟨⟨a, b, xs, ys, rfl, rfl, ha, hb, p⟩, q⟩ := hq
  cases rx
  cases ry
  have sb : Sub X (n + 1) X.A := ⟨hr, rfl⟩
  show wpAny (model X.prog X.w) X.A (richCompare .NotEq (.ref a) (.ref b)) (EP X pins σ Q) X.xe s
  refine Kq.rc_lists_ne (N := xs.length) hr.units0 (fun _ t => LoopI X pins σ H t) (fun i t z => ?_) (fun t z => ?_) ⟨H, I, Ext.rfl'⟩
  · obtain ⟨H1, I1, e1⟩ := id z
    obtain ⟨y1, us, k1, r1, g1⟩ := I1.hok a _ (e1 _ _ ha)
    obtain ⟨y2, vs, k2, r2, g2⟩ := I1.hok b _ (e1 _ _ hb)
    exact ⟨us.toArray, vs.toArray, k1, k2, g1, g2, by rw [List.size_toArray, ← r1.length], by rw [List.size_toArray, ← r2.length, ← p.1], fun l1 l2 => turnG hD h sb p r1 r2 i l1 l2 t z⟩
  · obtain ⟨H1, I1, e1⟩ := z
    exact ⟨.bl false, H1, I1, rfl, q H1 e1⟩
theorem op_neT (hD : Mon D) (h : EqG X n D) (hr : Room (n + 1) X.A) : OpR X (compareOp .NotEq) (rNeG (DTup X.K D)) := by
  intro pins s σ H x y v u Q I rx ry hq
  obtain ⟨⟨a, b, xs, ys, rfl, rfl, ha, hb, p⟩, q⟩ := hq
  cases rx
  cases ry
  have sb : Sub X (n + 1) X.A := ⟨hr, rfl⟩
  obtain ⟨us, r1, g1, y1⟩ := I.tuple ha
  obtain ⟨vs, r2, g2, y2⟩ := I.tuple hb
  have zz : us.toArray.size = vs.toArray.size := by rw [List.size_toArray, List.size_toArray, ← r1.length, ← r2.length]; exact p.1
  show wpAny (model X.prog X.w) X.A (richCompare .NotEq (.ref a) (.ref b)) (EP X pins σ Q) X.xe s
  refine Kq.rc_tups_ne zz hr.units0 (fun _ t => LoopI X pins σ H t) g1 g2 (fun i l1 l2 t z => turnG hD h sb p r1 r2 i l1 l2 t z) (fun t z => ?_) ⟨H, I, Ext.rfl'⟩
  obtain ⟨H1, I1, e1⟩ := z
  exact ⟨.bl false, H1, I1, rfl, q H1 e1⟩
/-- x == y, x != y of instances by the own __eq__ -/
def rOwn (C : Addr) (neg : Bool) (sp : Sp) : R2 := fun x y H Q => ∃ (a c dx dy : Addr) (fs gs : List (Str × V)), x = .ref a ∧ y = .ref c ∧ H a = some (.ins C dx fs) ∧ H c = some (.ins C dy gs) ∧ sp [.ref a, .ref c] H (fun v H' => ∃ r : Bool, v = .bl r ∧ Q (.bl (r != neg)) H') E0
theorem own_call {A : Around} {f : Addr} {fd : FuncData} {ps : List Str} {sp : Sp} {pins : List (Addr × Obj)} {σ : St} {H : Hp} {s : Shared} {a b : Addr} {Q : VK} (F : FnOk X.prog X.w X.K X.mg X.base CX0 n f fd ps sp) (hb : Binds X.K fd ps []) (sb : Sub X n A) (I : Inv X pins σ H s)
    (hsp : sp [.ref a, .ref b] H Q E0) : wpAny (model X.prog X.w) A (call (.ref f) [.ref a, .ref b]) (EP X pins σ Q) X.xe s := by
  have e0 : Env0 X.prog X.w X.K X.mg X.base A X.stack s H := by
    have e := I.env0
    exact ⟨by rw [sb.fr]; exact e.frames, e.mod, e.bs, e.bsz, e.funs, e.frf, e.hok, e.bare⟩
  have hl := F.len _ _ _ _ hsp
  have r2 : Vals [V.ref a, V.ref b] [Value.ref a, Value.ref b] := .cons rfl (.cons rfl .nil)
  refine wpAny_call (codeAny_mono (F.run A X.stack s H ⟨[.ref a, .ref b], []⟩ [.ref a, .ref b] [.ref a, .ref b] _ E0 sb.room e0 (by
    have z := hb s [.ref a, .ref b] I.kIn (by simpa using hl)
    simpa using z) r2 hsp) fun r t hq => ?_)
  cases r with
  | error e => exact pass0 pins σ H s e t I hq
  | ok fl =>
    cases fl with
    | ret z => exact I.after hq
    | next => exact False.elim hq
    | brk => exact False.elim hq
    | cont => exact False.elim hq
theorem op_ownEq {C f : Addr} {fd : FuncData} {ps : List Str} {sp : Sp} (F : FnOk X.prog X.w X.K X.mg X.base CX0 n f fd ps sp) (he : PySem.W.findIn X.K (.ref C) "__eq__" = some (some (.ref f))) (hf : PySem.W.isFn X.K (.ref f) = true) (hb : Binds X.K fd ps []) (hr : Room n X.A) :
    OpR X (compareOp .Eq) (rOwn C false sp) := by
  intro pins s σ H x y v u Q I rx ry hq
  obtain ⟨a, c, dx, dy, fs, gs, rfl, rfl, ha, hc, hsp⟩ := hq
  cases rx
  cases ry
  obtain ⟨m1, J1, _⟩ := ins_get I.hok ha
  obtain ⟨m2, J2, _⟩ := ins_get I.hok hc
  obtain ⟨o1, J1, _⟩ := J1.look
  obtain ⟨o2, J2, _⟩ := J2.look
  obtain ⟨m, hF⟩ := I.fr
  refine PySem.W.cmp_K (op := .Eq) (tb := .ref C) hr.units0 hF I.ok.mod.kin J1 J2.type (by simp [PySem.W.notFirst]) he hf ?_
  refine wpAny_mono (own_call F hb ⟨hr, rfl⟩ I hsp) (fun z t q => ?_) fun _ _ z => z
  obtain ⟨v, H', I', rz, r, rfl, q⟩ := q
  cases rz
  refine ⟨.bl (r != false), H', I', ?_, q⟩
  cases r <;> rfl
theorem op_ownNe {C f : Addr} {fd : FuncData} {ps : List Str} {sp : Sp} (F : FnOk X.prog X.w X.K X.mg X.base CX0 n f fd ps sp) (he : PySem.W.findIn X.K (.ref C) "__eq__" = some (some (.ref f))) (hf : PySem.W.isFn X.K (.ref f) = true) (hb : Binds X.K fd ps [])
    (hn : PySem.W.findIn X.K (.ref C) "__ne__" = some (some (.builtin "object.__ne__"))) (hm : PySem.W.mroIn X.K C (.type "object") = some true) (hr : Room (n + 1) X.A) : OpR X (compareOp .NotEq) (rOwn C true sp) := by
  intro pins s σ H x y v u Q I rx ry hq
  obtain ⟨a, c, dx, dy, fs, gs, rfl, rfl, ha, hc, hsp⟩ := hq
  cases rx
  cases ry
  obtain ⟨m1, J1, _⟩ := ins_get I.hok ha
  obtain ⟨m2, J2, _⟩ := ins_get I.hok hc
  obtain ⟨o1, J1, _⟩ := J1.look
  obtain ⟨o2, J2, _⟩ := J2.look
  have sb : Sub X (n + 1) X.A := ⟨hr, rfl⟩
  show wpAny (model X.prog X.w) X.A (richCompare .NotEq (.ref a) (.ref c)) (EP X pins σ Q) X.xe s
  refine Kq.rc_ne sb.in1.room.units0 I.kIn J1 J2.type hn he hf hm ?_
  refine wpAny_mono (own_call F hb sb.in1 I hsp) (fun z t q => ?_) fun _ _ z => z
  obtain ⟨v, H', I', rz, r, rfl, q⟩ := q
  cases rz
  exact ⟨r, rfl, .bl (!r), H', I', rfl, by cases r <;> exact q⟩
end
end L2
namespace Kr
open PySem L2
structure NeC (K : PySem.W.Frag) (C : Addr) : Prop where
  ne : PySem.W.findIn K (.ref C) "__ne__" = some (some (.builtin "object.__ne__"))
  mro : PySem.W.mroIn K C (.type "object") = some true
section
variable {X : Cx} {C : Addr} {k : Nat} {qual : Str} {st : Stmt} {ps : List Str} {sp : Sp}
theorem op_eqO (O : OkM X.prog X.w X.K X.mg X.base C k "__eq__" qual st ps sp) (hr : Room k X.A) : OpR X (compareOp .Eq) (rOwn C false sp) := by
  obtain ⟨f, fd, M, _, hb, F⟩ := O.ex
  exact op_ownEq F M.1 M.2 hb hr
theorem op_neO (O : OkM X.prog X.w X.K X.mg X.base C k "__eq__" qual st ps sp) (N : NeC X.K C) (hr : Room (k + 1) X.A) : OpR X (compareOp .NotEq) (rOwn C true sp) := by
  obtain ⟨f, fd, M, _, hb, F⟩ := O.ex
  exact op_ownNe F M.1 M.2 hb N.ne N.mro hr
/-- equal: flat values, or instances of one class with the same fields, of which P tells -/
def RSame (C : Addr) (P : List (Str × V) → Prop) (a b : Addr) (H : Hp) : Prop := ∃ (dx dy : Addr) (fs : List (Str × V)), P fs ∧ H a = some (.ins C dx fs) ∧ H b = some (.ins C dy fs)
def DOwn (C : Addr) (P : List (Str × V) → Prop) : Eqv := fun x y H => DFlat x y H ∨ DIns C (RSame C P) x y H
theorem mon_own {P : List (Str × V) → Prop} : Mon (DOwn C P) := mon_flat.or (mon_ins fun a b H H' e ⟨dx, dy, fs, p, h1, h2⟩ => ⟨dx, dy, fs, p, e _ _ h1, e _ _ h2⟩)
theorem eqG_own {P : List (Str × V) → Prop} (O : OkM X.prog X.w X.K X.mg X.base C k "__eq__" qual st ps sp) (hsp : ∀ (a b dx dy : Addr) (fs : List (Str × V)) (H : Hp) (Q : VK) (E : XK), P fs → H a = some (.ins C dx fs) → H b = some (.ins C dy fs) → (∀ H', Ext H H' → Q (.bl true) H') → sp [.ref a, .ref b] H Q E) : EqG X k (DOwn C P) := by
  obtain ⟨f, fd, M, _, hb, F⟩ := O.ex
  exact (eqG_flat.mono (Nat.zero_le _)).or (eqG_ins (R := RSame C P) (F.imp fun vs H Q E q => by
    obtain ⟨a, b, rfl, ⟨dx, dy, fs, p, h1, h2⟩, q⟩ := q
    exact hsp a b dx dy fs H Q E p h1 h2 q) M.1 M.2 hb pass0)
end
/-! over a ledger -/
section
variable {g : Gr} {L : Led} {C : V → Led → Prop} {K : PySem.W.Frag} {Cl : Addr} {P : List (Str × V) → Prop}
theorem At.ext {H H' : Hp} (h : At g L H) (e : Ext H H') : At g L H' := h.same e
inductive EqL (Cl : Addr) (P : List (Str × V) → Prop) (L : Led) : V → V → Prop
  | flat {x y : V} (h1 : flatV x = true) (h2 : flatV y = true) (h : eqV x y = true) : EqL Cl P L x y
  | ins {a b dx dy : Addr} {fs : List (Str × V)} {b1 b2 : Bool} (i j : Nat) (p : P fs) (h1 : L[i]? = some (a, .ob (.ins Cl dx fs), b1)) (h2 : L[j]? = some (b, .ob (.ins Cl dy fs), b2)) : EqL Cl P L (.ref a) (.ref b)
theorem EqL.own {H : Hp} {x y : V} (z : At g L H) (h : EqL Cl P L x y) : DOwn Cl P x y H := by
  cases h with
  | flat h1 h2 h => exact .inl ⟨h1, h2, h⟩
  | ins i j p h1 h2 => exact .inr ⟨_, _, _, _, _, _, rfl, rfl, z.get h1, z.get h2, _, _, _, p, z.get h1, z.get h2⟩
inductive EqLs (Cl : Addr) (P : List (Str × V) → Prop) (L : Led) : List V → List V → Prop
  | nil : EqLs Cl P L [] []
  | cons {x y : V} {xs ys : List V} (h : EqL Cl P L x y) (k : EqLs Cl P L xs ys) : EqLs Cl P L (x :: xs) (y :: ys)
theorem EqLs.prs {H : Hp} {xs ys : List V} (z : At g L H) (h : EqLs Cl P L xs ys) : Prs (DOwn Cl P) xs ys H := by
  induction h with
  | nil => exact Prs.nil
  | cons h k ih => exact Prs.cons (h.own z) ih
theorem wr_neTO {a b : Addr} {xs ys : List V} {b1 b2 : Bool} (i j : Nat) (h1 : L[i]? = some (a, .ob (.tup xs), b1)) (h2 : L[j]? = some (b, .ob (.tup ys), b2)) (e : EqLs Cl P L xs ys) (c : C (.bl false) L) : Wp g L (rNeG (DTup K (DOwn Cl P)) (.ref a) (.ref b)) C :=
  fun H z Q q => ⟨⟨a, b, xs, ys, rfl, rfl, .inl (.inl (z.get h1)), .inl (.inl (z.get h2)), e.prs z⟩, fun H' x => q _ _ _ c (z.ext x)⟩
end
end Kr
namespace Kr
open PySem L2
section
variable {g : Gr} {L : Led} {C : V → Led → Prop} {K : PySem.W.Frag} {Cl : Addr}
theorem wr_ownO {neg : Bool} {sp : Sp} {a c dx dy : Addr} {fs gs : List (Str × V)} {b1 b2 : Bool} (i j : Nat) (h1 : L[i]? = some (a, .ob (.ins Cl dx fs), b1)) (h2 : L[j]? = some (c, .ob (.ins Cl dy gs), b2))
    (h : Wp g L (fun H Q => sp [.ref a, .ref c] H Q E0) fun v L' => ∃ r : Bool, v = .bl r ∧ C (.bl (r != neg)) L') : Wp g L (rOwn Cl neg sp (.ref a) (.ref c)) C :=
  fun H z Q q => ⟨a, c, dx, dy, fs, gs, rfl, rfl, z.get h1, z.get h2, h H z _ fun v L' H' ⟨r, e, k⟩ z' => ⟨r, e, q _ _ _ k z'⟩⟩
theorem eqV_self (n : Int) : eqV (.int n) (.int n) = true := by simp [eqV]
end
end Kr

namespace Kr
open PySem L2
/-! lists of which each item is the same object, or a list of the same numbers -/
def DSame : Eqv := fun x y _ => ∃ a : Addr, x = .ref a ∧ y = .ref a
def DLin : Eqv := fun x y H => DSame x y H ∨ DList DFlat x y H
theorem mon_lin : Mon DLin := Mon.or (fun _ _ _ _ _ d => d) (mon_list mon_flat)
section
variable {X : Cx}
theorem eqG_same : EqG X 0 DSame := by
  intro A pins s σ H x y u v sb I rx ry d
  obtain ⟨a, rfl, rfl⟩ := d
  cases rx
  cases ry
  exact SeqAt.EqAt.same (A := A) (s := s) (.ref a) X.prog X.w X.xe _ ⟨rfl, H, I, Ext.rfl'⟩
theorem eqG_lin : EqG X 1 DLin := (eqG_same.mono (by decide)).or (eqG_list mon_flat eqG_flat)
end
section
variable {g : Gr} {L : Led} {C : V → Led → Prop}
inductive LinL (L : Led) : V → V → Prop
  | same (a : Addr) : LinL L (.ref a) (.ref a)
  | nums {a b : Addr} {ns : List Int} {b1 b2 : Bool} (i j : Nat) (h1 : L[i]? = some (a, .ob (.lst (ns.map V.int)), b1)) (h2 : L[j]? = some (b, .ob (.lst (ns.map V.int)), b2)) : LinL L (.ref a) (.ref b)
theorem prs_ints {H : Hp} : ∀ ns : List Int, Prs DFlat (ns.map V.int) (ns.map V.int) H
  | [] => Prs.nil
  | n :: r => Prs.cons ⟨rfl, rfl, eqV_self n⟩ (prs_ints r)
theorem LinL.own {H : Hp} {x y : V} (z : At g L H) (h : LinL L x y) : DLin x y H := by
  cases h with
  | same a => exact .inl ⟨a, rfl, rfl⟩
  | nums i j h1 h2 => exact .inr ⟨_, _, _, _, rfl, rfl, z.get h1, z.get h2, prs_ints _⟩
inductive LinLs (L : Led) : List V → List V → Prop
  | nil : LinLs L [] []
  | cons {x y : V} {xs ys : List V} (h : LinL L x y) (k : LinLs L xs ys) : LinLs L (x :: xs) (y :: ys)
theorem LinLs.prs {H : Hp} {xs ys : List V} (z : At g L H) (h : LinLs L xs ys) : Prs DLin xs ys H := by
  induction h with
  | nil => exact Prs.nil
  | cons h k ih => exact Prs.cons (h.own z) ih
theorem wr_eqLO {a b : Addr} {xs ys : List V} {b1 b2 : Bool} (i j : Nat) (h1 : L[i]? = some (a, .ob (.lst xs), b1)) (h2 : L[j]? = some (b, .ob (.lst ys), b2)) (e : LinLs L xs ys) (c : C (.bl true) L) : Wp g L (rEqG (DList DLin) (.ref a) (.ref b)) C :=
  fun H z Q q => ⟨⟨a, b, xs, ys, rfl, rfl, z.get h1, z.get h2, e.prs z⟩, fun H' x => q _ _ _ c (z.ext x)⟩
end
end Kr

set_option Elab.async false
set_option linter.all false
set_option maxRecDepth 100000
set_option maxHeartbeats 4000000
/-! ### lists of instances -/
namespace Kr
open PySem L2 PySem.W
/-- no own instance stands in the ledger -/
def FreeI (L : Led) : Prop := L.all (fun q => !(q.2.2 && q.2.1.insq)) = true
theorem freeI_app {L : Led} {x : Addr × Ent × Bool} (h : FreeI L) (hx : x.2.1.insq = false) : FreeI (L ++ [x]) := by
  unfold FreeI at *
  rw [List.all_append, h]
  simp [hx]
/-- an instance is no longer one's own -/
theorem At.free {g : Gr} {L : Led} {H : Hp} {i : Nat} {a : Addr} {e : Ent} {b : Bool} (z : At g L H) (k : L[i]? = some (a, e, b)) : At g (L.set i (a, e, false)) H := by
  refine ⟨z.old, fun q hq => ?_, fun q hq hb => ?_, ?_⟩
  · rcases List.mem_or_eq_of_mem_set hq with r | r
    · exact z.led q r
    · subst r
      obtain ⟨o, h1, h2⟩ := z.look k
      exact ⟨o, h1, h2⟩
  · rcases List.mem_or_eq_of_mem_set hq with r | r
    · exact z.own q r hb
    · subst r
      cases hb
  · rw [List.pairwise_iff_getElem]
    intro p q hp hq hpq ee
    have hp' : p < L.length := by simpa using hp
    have hq' : q < L.length := by simpa using hq
    by_cases h1 : i = p
    · subst h1
      rw [List.getElem_set_self, List.getElem_set_ne (by omega)] at ee ⊢
      rcases nd_at z.nd (x := (a, e, b)) k (List.getElem?_eq_getElem hq') (by omega) ee with w | w
      · exact .inl w
      · exact .inr ⟨rfl, w.2⟩
    · by_cases h2 : i = q
      · subst h2
        rw [List.getElem_set_self, List.getElem_set_ne (by omega)] at ee ⊢
        rcases nd_at z.nd (y := (a, e, b)) (List.getElem?_eq_getElem hp') k (by omega) ee with w | w
        · exact .inl w
        · exact .inr ⟨w.1, rfl⟩
      · rw [List.getElem_set_ne h1, List.getElem_set_ne h2] at ee ⊢
        exact List.pairwise_iff_getElem.mp z.nd p q hp' hq' hpq ee
theorem ws_free {g : Gr} {L : Led} {σ : St} {K : Ks} {t : TS} {a : Addr} {e : Ent} {b : Bool} (i : Nat) (k : L[i]? = some (a, e, b)) (c : Ws g (L.set i (a, e, false)) t σ K) : Ws g L t σ K := fun H z D eo => c H (z.free k) D eo
theorem wp_free {α : Type} {g : Gr} {L : Led} {m : Hp → (α → Hp → Prop) → Prop} {C : α → Led → Prop} {a : Addr} {e : Ent} {b : Bool} (i : Nat) (k : L[i]? = some (a, e, b)) (c : Wp g (L.set i (a, e, false)) m C) : Wp g L m C := fun H z Q q => c H (z.free k) Q q
/-- an instance that stands there -/
theorem At.addI {g : Gr} {L : Led} {H : Hp} {a Cl dx : Addr} {fs : List (Str × V)} (z : At g L H) (h : H a = some (.ins Cl dx fs)) (hf : FreeI L) : At g (L ++ [(a, .ob (.ins Cl dx fs), false)]) H := by
  refine ⟨z.old, fun q hq => ?_, fun q hq hb => ?_, nd_app z.nd fun q hq e => ?_⟩
  · rcases List.mem_append.mp hq with hq | hq
    · exact z.led q hq
    · have e : q = (a, Ent.ob (.ins Cl dx fs), false) := by simpa using hq
      subst e
      exact ⟨_, h, rfl⟩
  · rcases List.mem_append.mp hq with hq | hq
    · exact z.own q hq hb
    · have e : q = (a, Ent.ob (.ins Cl dx fs), false) := by simpa using hq
      subst e
      cases hb
  · refine .inr ⟨?_, rfl⟩
    obtain ⟨o, h1, h2⟩ := z.led q hq
    rw [show q.1 = a from e, h] at h1
    have h1 := Option.some.inj h1
    subst h1
    cases hb : q.2.2 with
    | false => rfl
    | true =>
      have hq2 := List.all_eq_true.mp hf q hq
      rw [hb] at hq2
      have hq3 : q.2.1.insq = false := by simpa using hq2
      exact absurd rfl (Ent.insq_ne hq3 h2 Cl dx fs)
structure IterI {α : Type} (g : Gr) (L : Led) (J : It) (tg : TG) (xs : List α) (Cl : Addr) (row : α → List (Str × V)) (S : α → Addr → St → St) : Prop where
  at_ : ∀ H, At g L H → J.stop xs.length H ∧ ∀ i x, xs[i]? = some x → J.go i H ∧ ∀ v H', J.yld i H v H' → Same H H' ∧ ∃ pr dx : Addr, H' pr = some (.ins Cl dx (row x)) ∧ ∀ σ (Q : St → Hp → Prop), Q (S x pr σ) H' → tg v σ H' Q
theorem iter_inss {α : Type} {g : Gr} {L : Led} {a Cl : Addr} {Kf : PySem.W.Frag} {bo : Bool} (i : Nat) (row : α → List (Str × V)) {xs : List α} (j : Nat) (hj : L[j]? = some (a, .inss Cl (xs.map row), bo)) :
    IterI g L (Itl Kf a) (gName i) xs Cl row (fun _ pr σ => σ.set i (some (.ref pr))) := ⟨fun H z => by
  obtain ⟨o, h1, as, e1, hl, hr⟩ := z.look hj
  subst e1
  rw [List.length_map] at hl
  have hs : SqL Kf H a (as.map V.ref) := SqL.of h1
  refine ⟨⟨_, hs, by rw [List.length_map, hl]; exact Nat.le_refl _⟩, fun k x hx => ?_⟩
  have hk : k < as.length := by
    have := (List.getElem?_eq_some_iff.mp hx).1
    omega
  have hx2 : (as.map V.ref)[k]? = some (.ref as[k]) := by rw [List.getElem?_map, List.getElem?_eq_getElem hk]; rfl
  obtain ⟨dx, hx3⟩ := hr k as[k] (row x) (List.getElem?_eq_getElem hk) (by rw [List.getElem?_map, hx]; rfl)
  refine ⟨⟨_, _, hs, hx2⟩, fun v H' hy => ?_⟩
  obtain ⟨e1, e2⟩ := hy
  subst e1
  have e3 := e2 _ hs
  rw [hx2] at e3
  have e3 := Option.some.inj e3
  subst e3
  exact ⟨same_refl, as[k], dx, hx3, fun σ Q q => q⟩⟩
theorem wi_inss {K : PySem.W.Frag} {g : Gr} {L : Led} {σ : St} {te : TE} {T : It → Led → Prop} (j : Nat) (h : Wp g L (te σ) fun x L1 => ∃ (a : Addr) (bo : Bool) (Cl : Addr) (fss : List (List (Str × V))), x = .ref a ∧ L1[j]? = some (a, .inss Cl fss, bo) ∧ T (Itl K a) L1) : Wp g L (iList K te σ) T :=
  fun H z Q q => h H z _ fun x L1 H1 ⟨a, bo, Cl, fss, e, s, k⟩ z1 => by
    obtain ⟨o, h1, as, e1, _⟩ := z1.look s
    subst e1
    exact ⟨a, e, ⟨_, SqL.of h1⟩, q _ _ _ k z1⟩
section
variable {α : Type} {g : Gr} {L : Led} {σ : St} {K : Ks} {tg : TG} {tb : TS} {J : It} {xs : List α} {row : α → List (Str × V)} {Cl : Addr} {S : α → Addr → St → St}
theorem wf_GI (I : Nat → St → Led → Prop) (hfr : ∀ i σ L, I i σ L → FreeI L) (it : ∀ i σ L, I i σ L → IterI g L J tg xs Cl row S) (h0 : I 0 σ L)
    (hs : ∀ i x pr dx σ L, xs[i]? = some x → I i σ L → Ws g (L ++ [(pr, .ob (.ins Cl dx (row x)), false)]) tb (S x pr σ) { K with nx := fun σ' L' => ∃ L3, I (i + 1) σ' L3 ∧ L3 <+: L', ct := fun σ' L' => ∃ L3, I (i + 1) σ' L3 ∧ L3 <+: L', bk := K.nx })
    (hd : ∀ σ L, I xs.length σ L → K.nx σ L) : WFor g L J tg tb σ K := fun H z D e => by
  refine ⟨fun i m σ H => i ≤ xs.length ∧ m = xs.length - i ∧ ∃ L, I i σ L ∧ At g L H, ⟨xs.length, Nat.zero_le _, rfl, L, h0, z⟩, ?_⟩
  rintro i m σ H ⟨hi, rfl, L, k, z⟩
  obtain ⟨h1, h2⟩ := (it i σ L k).at_ H z
  by_cases hlt : i < xs.length
  · obtain ⟨h3, h4⟩ := h2 i xs[i] (List.getElem?_eq_getElem hlt)
    refine .inr ⟨h3, fun σ' H' => ∃ L, I (i + 1) σ' L ∧ At g L H', fun σ' H' q => ⟨xs.length - (i + 1), by omega, hlt, rfl, q⟩, fun v H' y => ?_⟩
    obtain ⟨h5, pr, dx, hpr, h6⟩ := h4 v H' y
    refine h6 σ _ ?_
    have kk : ∀ σ' L' H', (∃ L3, I (i + 1) σ' L3 ∧ L3 <+: L') → At g L' H' → ∃ L, I (i + 1) σ' L ∧ At g L H' := fun σ' L' H' ⟨L3, hi, hp⟩ z' => ⟨L3, hi, z'.pre hp⟩
    exact hs i xs[i] pr dx σ L (List.getElem?_eq_getElem hlt) k H' ((z.same h5).addI hpr (hfr i σ L k)) _ ⟨kk, e.rt, e.nx, kk⟩
  · have e1 : i = xs.length := by omega
    subst e1
    exact .inl ⟨h1, e.nx _ _ _ (hd σ L k) z⟩
theorem wf_SI (hfr : FreeI L) (it : IterI g L J tg xs Cl row S) (I : Nat → List (Option (Option V)) → Prop) (h0 : ∃ vs, σ = putA σ vs ∧ I 0 vs)
    (hs : ∀ i x pr dx vs, xs[i]? = some x → I i vs → Ws g (L ++ [(pr, .ob (.ins Cl dx (row x)), false)]) tb (S x pr (putA σ vs)) { K with nx := fun σ' L' => ∃ vs', (σ' = putA σ vs' ∧ I (i + 1) vs') ∧ L <+: L', ct := fun σ' L' => ∃ vs', (σ' = putA σ vs' ∧ I (i + 1) vs') ∧ L <+: L', bk := K.nx })
    (hd : ∀ vs, I xs.length vs → K.nx (putA σ vs) L) : WFor g L J tg tb σ K := by
  obtain ⟨vs0, e0, k0⟩ := h0
  refine wf_GI (xs := xs) (S := S) (fun i σ' L' => ∃ vs, (σ' = putA σ vs ∧ I i vs) ∧ L' = L) (fun i σ' L' ⟨vs, _, e⟩ => e ▸ hfr) (fun i σ' L' ⟨vs, _, e⟩ => e ▸ it) ⟨vs0, ⟨e0, k0⟩, rfl⟩ ?_ ?_
  · rintro i x pr dx σ' L' hi ⟨vs, ⟨rfl, k⟩, rfl⟩
    intro H3 z3 D e
    have kk : ∀ σ' L'' H', (∃ vs', (σ' = putA σ vs' ∧ I (i + 1) vs') ∧ L' <+: L'') → At g L'' H' → D.nx σ' H' := fun σ' L'' H' ⟨vs', h1, h2⟩ z' => e.nx σ' L'' H' ⟨L', ⟨vs', h1, rfl⟩, h2⟩ z'
    have kc : ∀ σ' L'' H', (∃ vs', (σ' = putA σ vs' ∧ I (i + 1) vs') ∧ L' <+: L'') → At g L'' H' → D.ct σ' H' := fun σ' L'' H' ⟨vs', h1, h2⟩ z' => e.ct σ' L'' H' ⟨L', ⟨vs', h1, rfl⟩, h2⟩ z'
    exact hs i x pr dx vs hi k H3 z3 D ⟨kk, e.rt, e.bk, kc⟩
  · rintro σ' L' ⟨vs, ⟨rfl, k⟩, rfl⟩
    exact hd vs k
theorem wf_AI (j : Nat) {a : Addr} {e0 : Ent} (hj : L[j]? = some (a, e0, true)) (it : ∀ e, IterI g (L.set j (a, e, true)) J tg xs Cl row S) (I : Nat → List (Option (Option V)) → Ent → Prop) (hfr : ∀ i vs e, I i vs e → FreeI (L.set j (a, e, true))) (h0 : ∃ vs, σ = putA σ vs ∧ I 0 vs e0)
    (hs : ∀ i x pr dx vs e, xs[i]? = some x → I i vs e → Ws g (L.set j (a, e, true) ++ [(pr, .ob (.ins Cl dx (row x)), false)]) tb (S x pr (putA σ vs)) { K with nx := fun σ' L' => ∃ vs' e', (σ' = putA σ vs' ∧ I (i + 1) vs' e') ∧ L.set j (a, e', true) <+: L', ct := fun σ' L' => ∃ vs' e', (σ' = putA σ vs' ∧ I (i + 1) vs' e') ∧ L.set j (a, e', true) <+: L', bk := K.nx })
    (hd : ∀ vs e, I xs.length vs e → K.nx (putA σ vs) (L.set j (a, e, true))) : WFor g L J tg tb σ K := by
  obtain ⟨vs0, e0', k0⟩ := h0
  refine wf_GI (xs := xs) (S := S) (fun i σ' L' => ∃ vs e, (σ' = putA σ vs ∧ I i vs e) ∧ L' = L.set j (a, e, true)) (fun i σ' L' ⟨vs, e, k, q⟩ => q ▸ hfr i vs e k.2) (fun i σ' L' ⟨vs, e, _, q⟩ => q ▸ it e) ⟨vs0, _, ⟨e0', k0⟩, (set_self hj).symm⟩ ?_ ?_
  · rintro i x pr dx σ' L' hi ⟨vs, en, ⟨rfl, k⟩, rfl⟩
    intro H3 z3 D e
    have kk : ∀ σ' L'' H', (∃ vs' e', (σ' = putA σ vs' ∧ I (i + 1) vs' e') ∧ L.set j (a, e', true) <+: L'') → At g L'' H' → D.nx σ' H' := fun σ' L'' H' ⟨vs', e', h1, h2⟩ z' => e.nx σ' L'' H' ⟨_, ⟨vs', e', h1, rfl⟩, h2⟩ z'
    have kc : ∀ σ' L'' H', (∃ vs' e', (σ' = putA σ vs' ∧ I (i + 1) vs' e') ∧ L.set j (a, e', true) <+: L'') → At g L'' H' → D.ct σ' H' := fun σ' L'' H' ⟨vs', e', h1, h2⟩ z' => e.ct σ' L'' H' ⟨_, ⟨vs', e', h1, rfl⟩, h2⟩ z'
    exact hs i x pr dx vs en hi k H3 z3 D ⟨kk, e.rt, e.bk, kc⟩
  · rintro σ' L' ⟨vs, en, ⟨rfl, k⟩, rfl⟩
    exact hd vs en k
end
section
variable {α : Type} {g : Gr} {L : Led} {σ : St} {C : V → Led → Prop} {tt : TT} {te : TE} {tg : TG} {J : It} {xs : List α} {row : α → List (Str × V)} {Cl : Addr} {S : α → Addr → St → St} {vs : List Nat}
theorem lc_GI {β : Type} (En : List β → Ent) (hmv : ∀ ys, (En ys).mov2 = true) (p : α → Bool) (f : α → β) (hfr : FreeI L) (it : IterI g L J tg xs Cl row S) (hw : ∀ x pr, wipe (S x pr (wipe σ vs)) vs = wipe σ vs) (hl : xs.length ≤ 99999)
    (e0 : ∀ H, (En []).In H (.lst []))
    (hs : ∀ x pr dx, x ∈ xs → ∀ (D : Addr) (acc : List β), Wp g (L ++ [(D, En acc, true)] ++ [(pr, .ob (.ins Cl dx (row x)), false)]) (tt (S x pr (wipe σ vs))) fun b L2 => b = p x ∧
      if b = true then Wp g L2 (te (S x pr (wipe σ vs))) fun y L3 => (L ++ [(D, En acc, true)]) <+: L3 ∧ ∀ H, At g L3 H → ∃ ac, H D = some (.lst ac) ∧ ac.length = acc.length ∧ (En (acc ++ [f x])).In (upd H D (.lst (ac ++ [y]))) (.lst (ac ++ [y])) else (L ++ [(D, En acc, true)]) <+: L2)
    (c : ∀ D, C (.ref D) (L ++ [(D, En ((xs.filter p).map f), true)])) : WLc g L J tg tt te vs σ C := fun H z Q q D hD => by
  have hi : ∀ e : Ent, (L ++ [(D, e, true)])[L.length]? = some (D, e, true) := fun o => by simp
  have hsub : ∀ {e : Ent} {H : Hp}, At g (L ++ [(D, e, true)]) H → At g L H := fun z => z.pre ⟨_, rfl⟩
  refine ⟨fun i m H => i ≤ xs.length ∧ m = xs.length - i ∧ At g (L ++ [(D, En (((xs.take i).filter p).map f), true)]) H, ⟨xs.length, Nat.zero_le _, rfl, ?_⟩, ?_⟩
  · refine z.newE (fun c u e => by rw [upd_ne (ne_of_none e hD)]; exact e) hD upd_same ?_
    simpa using e0 _
  rintro i m H ⟨hi0, rfl, z⟩
  obtain ⟨h1, h2⟩ := it.at_ H (hsub z)
  by_cases hlt : i < xs.length
  · have hxi := List.getElem?_eq_getElem hlt
    obtain ⟨h3, h4⟩ := h2 i xs[i] hxi
    refine .inr ⟨h3, fun H' => At g (L ++ [(D, En (((xs.take (i + 1)).filter p).map f), true)]) H', fun H' q => ⟨xs.length - (i + 1), by omega, hlt, rfl, q⟩, fun v H' y => ?_⟩
    obtain ⟨h5, pr, dx, hpr, h6⟩ := h4 v H' y
    refine h6 _ _ ⟨hw _ _, ?_⟩
    have hacc := filter_take_succ p f hxi
    have hlen : (((xs.take i).filter p).map f).length < 100000 := by
      have := List.length_filter_le p (xs.take i)
      have h3 : (xs.take i).length ≤ xs.length := by simp; omega
      rw [List.length_map]
      omega
    generalize ((xs.take i).filter p).map f = acc at z hacc hlen
    refine hs xs[i] pr dx (List.mem_of_getElem? hxi) D acc H' ((z.same h5).addI hpr (freeI_app hfr (Ent.mov2_insq (hmv acc)))) _ fun b L2 H2 ⟨eb, k⟩ z2 => ?_
    subst eb
    cases hp : p xs[i] with
    | true =>
      rw [hp] at k hacc
      have k : Wp g L2 _ _ := k
      refine k H2 z2 _ fun y L3 H3 ⟨hpre, hn⟩ z3 => ?_
      obtain ⟨ac, q1, q2, q3⟩ := hn H3 z3
      have z4 := z3.pre hpre
      refine ⟨ac, q1, by rw [q2]; exact Nat.lt_of_lt_of_le hlen (by decide), ?_⟩
      have z5 := z4.chg (e' := En (acc ++ [f xs[i]])) (H' := upd H3 D (.lst (ac ++ [y]))) (o := .lst (ac ++ [y])) (hi _) (fun c u e z => by rw [upd_ne z]; exact e) upd_same q3 (hmv _)
      rw [List.set_append_right _ _ (Nat.le_refl _), Nat.sub_self] at z5
      rw [hacc]
      exact z5
    | false =>
      rw [hp] at k hacc
      have k : _ <+: L2 := k
      have e2 : ((xs.take (i + 1)).filter p).map f = acc := by rw [hacc]; simp
      show At g _ H2
      rw [e2]
      exact z2.pre k
  · have e1 : i = xs.length := by omega
    subst e1
    rw [List.take_length] at z
    exact .inl ⟨h1, q _ _ _ (c D) z⟩
theorem lc_VI {β : Type} (T : β → V) (p : α → Bool) (f : α → β) (hfr : FreeI L) (it : IterI g L J tg xs Cl row S) (hw : ∀ x pr, wipe (S x pr (wipe σ vs)) vs = wipe σ vs) (hl : xs.length ≤ 99999)
    (hs : ∀ x pr dx, x ∈ xs → ∀ (D : Addr) (acc : List V), Wp g (L ++ [(D, .ob (.lst acc), true)] ++ [(pr, .ob (.ins Cl dx (row x)), false)]) (tt (S x pr (wipe σ vs))) fun b L2 => b = p x ∧
      if b = true then Wp g L2 (te (S x pr (wipe σ vs))) fun y L3 => y = T (f x) ∧ (L ++ [(D, .ob (.lst acc), true)]) <+: L3 else (L ++ [(D, .ob (.lst acc), true)]) <+: L2)
    (c : ∀ D, C (.ref D) (L ++ [(D, .ob (.lst (((xs.filter p).map f).map T)), true)])) : WLc g L J tg tt te vs σ C := by
  refine lc_GI (fun ys => .ob (.lst (ys.map T))) (fun _ => rfl) p f hfr it hw hl (fun _ => rfl) (fun x pr dx hx D acc => ?_) c
  refine (hs x pr dx hx D (acc.map T)).mono fun b L2 ⟨e, k⟩ => ⟨e, ?_⟩
  cases b with
  | true =>
    refine Wp.mono (show Wp g L2 _ _ from k) fun y L3 ⟨ey, hp⟩ => ⟨hp, fun H z => ?_⟩
    have hg := (z.pre hp).get (i := L.length) (a := D) (o := .lst (acc.map T)) (b := true) (by simp)
    subst ey
    refine ⟨_, hg, by rw [List.length_map], ?_⟩
    show HO.lst _ = HO.lst _
    rw [List.map_append]
    rfl
  | false => exact k
theorem lc_TI {β : Type} (rw_ : β → List V) (p : α → Bool) (f : α → β) (hfr : FreeI L) (it : IterI g L J tg xs Cl row S) (hw : ∀ x pr, wipe (S x pr (wipe σ vs)) vs = wipe σ vs) (hl : xs.length ≤ 99999)
    (hs : ∀ x pr dx, x ∈ xs → ∀ (D : Addr) (acc : List (List V)), Wp g (L ++ [(D, .rows acc, true)] ++ [(pr, .ob (.ins Cl dx (row x)), false)]) (tt (S x pr (wipe σ vs))) fun b L2 => b = p x ∧
      if b = true then Wp g L2 (te (S x pr (wipe σ vs))) fun y L3 => (∃ (q : Addr) (j : Nat) (bo : Bool), y = .ref q ∧ L3[j]? = some (q, .ob (.tup (rw_ (f x))), bo)) ∧ (L ++ [(D, .rows acc, true)]) <+: L3 else (L ++ [(D, .rows acc, true)]) <+: L2)
    (c : ∀ D, C (.ref D) (L ++ [(D, .rows (((xs.filter p).map f).map rw_), true)])) : WLc g L J tg tt te vs σ C := by
  refine lc_GI (fun ys => .rows (ys.map rw_)) (fun _ => rfl) p f hfr it hw hl (fun _ => ⟨[], rfl, rfl, fun k a r h => by simp at h⟩) (fun x pr dx hx D acc => ?_) c
  refine (hs x pr dx hx D (acc.map rw_)).mono fun b L2 ⟨e, k⟩ => ⟨e, ?_⟩
  cases b with
  | true =>
    refine Wp.mono (show Wp g L2 _ _ from k) fun y L3 ⟨⟨q, j, bo, ey, hq⟩, hp⟩ => ⟨hp, fun H z => ?_⟩
    obtain ⟨o, hg, hin⟩ := (z.pre hp).look (i := L.length) (a := D) (e := .rows (acc.map rw_)) (b := true) (by simp)
    subst ey
    obtain ⟨as, e1, hl1, h3⟩ := hin
    subst e1
    refine ⟨_, hg, by rw [List.length_map, hl1, List.length_map], ?_⟩
    show (Ent.rows ((acc ++ [f x]).map rw_)).In _ _
    rw [List.map_append]
    exact rows_snoc ⟨as, rfl, hl1, h3⟩ hg (z.get hq)
  | false => exact k
end

/-! ### a comprehension that makes instances -/
theorem inss_snoc {Cl : Addr} {fss : List (List (Str × V))} {fs : List (Str × V)} {H : Hp} {D p dx : Addr} {ac : List V} (h : (Ent.inss Cl fss).In H (.lst ac)) (hD : H D = some (.lst ac)) (hp : H p = some (.ins Cl dx fs)) : (Ent.inss Cl (fss ++ [fs])).In (upd H D (.lst (ac ++ [.ref p]))) (.lst (ac ++ [.ref p])) := by
  obtain ⟨as, e, hl, h3⟩ := h
  have e : ac = as.map V.ref := by injection e
  subst e
  refine ⟨as ++ [p], by simp, by simp [hl], fun k a r' q1 q2 => ?_⟩
  have hne : (∃ dx, H a = some (.ins Cl dx r')) → ∃ dx, upd H D (.lst (as.map V.ref ++ [.ref p])) a = some (.ins Cl dx r') := fun ⟨dx, h⟩ => ⟨dx, by
    rw [upd_ne]
    · exact h
    · intro z
      subst z
      rw [hD] at h
      cases h⟩
  apply hne
  by_cases hk : k < as.length
  · rw [List.getElem?_append_left hk] at q1
    rw [List.getElem?_append_left (by omega)] at q2
    exact h3 k a r' q1 q2
  · have hk2 : k = as.length := by
      have := (List.getElem?_eq_some_iff.mp q1).1
      simp at this
      omega
    subst hk2
    rw [List.getElem?_append_right (Nat.le_refl _), Nat.sub_self] at q1
    rw [hl, List.getElem?_append_right (Nat.le_refl _), Nat.sub_self] at q2
    have q1 : some p = some a := q1
    have q2 : some fs = some r' := q2
    cases q1
    cases q2
    exact ⟨dx, hp⟩
section
variable {α : Type} {g : Gr} {L : Led} {σ : St} {C : V → Led → Prop} {tt : TT} {te : TE} {tg : TG} {J : It} {xs : List α} {S : α → St → St} {vs : List Nat}
theorem lc_NI {β : Type} (Cl : Addr) (row : β → List (Str × V)) (p : α → Bool) (f : α → β) (it : Iter g L J tg xs S) (hw : ∀ x, wipe (S x (wipe σ vs)) vs = wipe σ vs) (hl : xs.length ≤ 99999)
    (hs : ∀ x, x ∈ xs → ∀ (D : Addr) (acc : List (List (Str × V))), Wp g (L ++ [(D, .inss Cl acc, true)]) (tt (S x (wipe σ vs))) fun b L2 => b = p x ∧
      if b = true then Wp g L2 (te (S x (wipe σ vs))) fun y L3 => (∃ (q dx : Addr) (j : Nat) (bo : Bool), y = .ref q ∧ L3[j]? = some (q, .ob (.ins Cl dx (row (f x))), bo)) ∧ (L ++ [(D, .inss Cl acc, true)]) <+: L3 else (L ++ [(D, .inss Cl acc, true)]) <+: L2)
    (c : ∀ D, C (.ref D) (L ++ [(D, .inss Cl (((xs.filter p).map f).map row), true)])) : WLc g L J tg tt te vs σ C := by
  refine lc_G (fun ys => .inss Cl (ys.map row)) (fun _ => rfl) p f it hw hl (fun _ => ⟨[], rfl, rfl, fun k a r h => by simp at h⟩) (fun x hx D acc => ?_) c
  refine (hs x hx D (acc.map row)).mono fun b L2 ⟨e, k⟩ => ⟨e, ?_⟩
  cases b with
  | true =>
    refine Wp.mono (show Wp g L2 _ _ from k) fun y L3 ⟨⟨q, dx, j, bo, ey, hq⟩, hp⟩ => ⟨hp, fun H z => ?_⟩
    obtain ⟨o, hg, hin⟩ := (z.pre hp).look (i := L.length) (a := D) (e := .inss Cl (acc.map row)) (b := true) (by simp)
    subst ey
    obtain ⟨as, e1, hl1, h3⟩ := hin
    subst e1
    refine ⟨_, hg, by rw [List.length_map, hl1, List.length_map], ?_⟩
    show (Ent.inss Cl ((acc ++ [f x]).map row)).In _ _
    rw [List.map_append]
    exact inss_snoc ⟨as, rfl, hl1, h3⟩ hg (z.get hq)
  | false => exact k
end
/-! ### len, compare -/
section
variable {K : PySem.W.Frag} {g : Gr} {L : Led} {C : V → Led → Prop} {a b Cl : Addr} {bo bo2 : Bool}
theorem wc_lenI {fss : List (List (Str × V))} (i : Nat) (h : L[i]? = some (a, .inss Cl fss, bo)) (c : C (.int (fss.length : Int)) L) : Wp g L (rLen K [.ref a]) C := .now (fun H _ z q => by
  obtain ⟨o, h1, as, e1, hl1, h3⟩ := z.look h
  subst e1
  exact ⟨a, _, rfl, .inl (SqL.of h1), by rw [List.length_map, hl1]; exact q⟩) c
/-- lists of instances with the same attributes -/
theorem wr_neLO {P : List (Str × V) → Prop} {fss : List (List (Str × V))} (i j : Nat) (h1 : L[i]? = some (a, .inss Cl fss, bo)) (h2 : L[j]? = some (b, .inss Cl fss, bo2)) (hP : ∀ fs ∈ fss, P fs) (c : C (.bl false) L) : Wp g L (rNeG (DList (DOwn Cl P)) (.ref a) (.ref b)) C :=
  fun H z Q q => by
    obtain ⟨o, e1, as, ea, hl, h3⟩ := z.look h1
    obtain ⟨o2, e2, bs, eb, hl2, h4⟩ := z.look h2
    subst ea eb
    refine ⟨⟨a, b, _, _, rfl, rfl, e1, e2, by rw [List.length_map, List.length_map, hl, hl2], fun k x y q1 q2 => .inr ?_⟩, fun H' e => q _ _ _ c (z.ext e)⟩
    rw [List.getElem?_map] at q1 q2
    cases ha : as[k]? with
    | none => rw [ha] at q1; cases q1
    | some a1 =>
      cases hb : bs[k]? with
      | none => rw [hb] at q2; cases q2
      | some b1 =>
        rw [ha] at q1
        rw [hb] at q2
        have q1 : V.ref a1 = x := Option.some.inj q1
        have q2 : V.ref b1 = y := Option.some.inj q2
        subst q1 q2
        have hk : k < fss.length := by rw [← hl]; exact (List.getElem?_eq_some_iff.mp ha).1
        obtain ⟨dx, w1⟩ := h3 k a1 _ ha (List.getElem?_eq_getElem hk)
        obtain ⟨dy, w2⟩ := h4 k b1 _ hb (List.getElem?_eq_getElem hk)
        exact ⟨a1, b1, dx, dy, _, _, rfl, rfl, w1, w2, dx, dy, _, hP _ (List.getElem_mem hk), w1, w2⟩
/-- a new list of instances -/
theorem At.newInss {H H' : Hp} {p : Addr} {fss : List (List (Str × V))} (z : At g L H) (s : Same H H') (n : H p = none) (h : EntAt (.inss Cl fss) H' p) : At g (L ++ [(p, .inss Cl fss, true)]) H' := by
  obtain ⟨o, h1, h2⟩ := h
  exact z.newE s n h1 h2
def kInss (Cl : Addr) (R : List (List (Str × V)) → Prop) : Ks := { nx := fun _ _ => False, rt := fun v L => ∃ (fss : List (List (Str × V))) (p : Addr) (i : Nat), v = .ref p ∧ L[i]? = some (p, Ent.inss Cl fss, true) ∧ R fss }
theorem eo_Inss {H0 : Hp} {R : List (List (Str × V)) → Prop} {Q : VK} (h : ∀ p H' fss, R fss → H0 p = none → Same H0 H' → EntAt (.inss Cl fss) H' p → Q (.ref p) H') : Eo ⟨H0, fun _ => False⟩ (kInss Cl R) { nx := fun _ H' => Q .non H', rt := Q } :=
  ⟨fun _ _ _ hA _ => hA.elim, fun v L H' hk z => by
    obtain ⟨fss, p, i, rfl, hi, hR⟩ := hk
    refine h p H' fss hR ?_ z.since (z.look hi)
    rcases z.own _ (List.mem_of_getElem? hi) rfl with q | q
    · exact q
    · exact q.elim, fun _ _ _ hk _ => hk.elim, fun _ _ _ hk _ => hk.elim⟩
end
/-! ### None, or a triple that stands there -/
def kWT (A : Prop) (R : Int × Int × Int → Prop) : Ks := { nx := fun _ _ => False, rt := fun v L => (v = .non ∧ A) ∨ ∃ (x : Int × Int × Int) (p : Addr) (i : Nat) (bo : Bool), v = .ref p ∧ L[i]? = some (p, Ent.ob (.tup (row3 x)), bo) ∧ R x }
theorem eo_WT {H0 : Hp} {A : Prop} {R : Int × Int × Int → Prop} {Q : VK} (h1 : A → ∀ H', Same H0 H' → Q .non H') (h2 : ∀ x p H', R x → Same H0 H' → H' p = some (.tup (row3 x)) → Q (.ref p) H') : Eo ⟨H0, fun _ => False⟩ (kWT A R) { nx := fun _ H' => Q .non H', rt := Q } :=
  ⟨fun σ L H k z => k.elim, fun v L H k z => by
    rcases k with ⟨e, k⟩ | ⟨x, p, i, bo, e, k, r⟩
    · subst e
      exact h1 k _ z.since
    · subst e
      exact h2 x p H r z.since (z.get k), fun _ _ _ k _ => k.elim, fun _ _ _ k _ => k.elim⟩
section
variable {K : PySem.W.Frag} {g : Gr} {L : Led} {C : V → Led → Prop} {a : Addr} {d : V} {bo : Bool}
/-- the least of a list of triples, or the default -/
theorem wc_minDT {xs : List (Int × Int × Int)} (j : Nat) (hj : L[j]? = some (a, .rows (xs.map row3), bo)) (c0 : xs = [] → C d L) (c : ∀ x, x ∈ xs → (∀ y ∈ xs, ¬ ltT y x) → ∀ p, C (.ref p) (L ++ [(p, .ob (.tup (row3 x)), false)])) : Wp g L (rMinDf K [.ref a] [d]) C :=
  fun H z Q q => by
    obtain ⟨o, h1, as, e1, hl, hr⟩ := z.look hj
    subst e1
    refine ⟨a, as.map V.ref, xs.map dpT, d, rfl, rfl, SqL.of h1, dpAll_T as xs (by simpa using hl) hr, alike_T xs, depth_T xs, fun e => q _ _ _ (c0 (List.map_eq_nil_iff.mp e)) z, fun i x y ys e hx hm => ?_⟩
    cases xs with
    | nil => cases e
    | cons n r =>
      rw [List.map_cons] at e
      injection e with e1 e2
      subst e1 e2
      obtain ⟨m, h2, h3, h4⟩ := minT_is r n
      rw [h2, List.getElem?_map] at hm
      cases hi : (n :: r)[i]? with
      | none => rw [hi] at hm; cases hm
      | some k =>
        rw [hi] at hm
        have hm : dpT k = dpT m := Option.some.inj hm
        have hm := dpT_inj hm
        subst hm
        rw [List.getElem?_map] at hx
        cases hb : as[i]? with
        | none => rw [hb] at hx; cases hx
        | some b =>
          rw [hb] at hx
          have hx : V.ref b = x := Option.some.inj hx
          subst hx
          exact q _ _ _ (c k h3 h4 b) (z.addT (hr i b (row3 k) hb (by rw [List.getElem?_map, hi]; rfl)))
end
/-- the least is one -/
theorem ltT_uniq {xs : List (Int × Int × Int)} {x y : Int × Int × Int} (hx : x ∈ xs) (hy : y ∈ xs) (h1 : ∀ z ∈ xs, ¬ ltT z x) (h2 : ∀ z ∈ xs, ¬ ltT z y) : x = y := by
  have a := h1 y hy
  have b := h2 x hx
  unfold ltT at a b
  exact Prod.ext (by omega) (Prod.ext (by omega) (by omega))
section
variable {K : PySem.W.Frag} {g : Gr} {L : Led} {C : V → Led → Prop} {a b Cl : Addr} {bo bo2 : Bool}
theorem ty_inss {fss : List (List (Str × V))} (i : Nat) (h : L[i]? = some (a, .inss Cl fss, bo)) : ∀ H, At g L H → tyV K "list" (.ref a) H := fun H z => by
  obtain ⟨o, h1, as, e1, _⟩ := z.look h
  subst e1
  exact .inl ⟨rfl, _, SqL.of h1⟩
theorem wr_clearI {fss : List (List (Str × V))} (i : Nat) (h : L[i]? = some (a, .inss Cl fss, true)) (c : C .non (L.set i (a, .ob (.lst []), true))) : Wp g L (rClear (.ref a) []) C := fun H z Q q => by
  obtain ⟨o, h1, as, e1, _⟩ := z.look h
  subst e1
  exact ⟨a, _, rfl, rfl, h1, q _ _ _ c (z.upd_chg h)⟩
/-- an empty list of instances, and [] -/
theorem wr_neLO0 {P : List (Str × V) → Prop} {fss : List (List (Str × V))} (i j : Nat) (h1 : L[i]? = some (a, .inss Cl fss, bo)) (h2 : L[j]? = some (b, .ob (.lst []), bo2)) (he : fss = []) (c : C (.bl false) L) : Wp g L (rNeG (DList (DOwn Cl P)) (.ref a) (.ref b)) C :=
  fun H z Q q => by
    obtain ⟨o, e1, as, ea, hl, h3⟩ := z.look h1
    subst ea he
    have : as = [] := List.length_eq_zero_iff.mp hl
    subst this
    exact ⟨⟨a, b, _, _, rfl, rfl, e1, z.get h2, Prs.nil⟩, fun H' e => q _ _ _ c (z.ext e)⟩
end
/-- a row: an int, and None or an int -/
def rowO (p : Int × Option Int) : List V := [.int p.1, match p.2 with | none => .non | some n => .int n]
theorem lc_RDX {g : Gr} {L : Led} {σ : St} {C : V → Led → Prop} {tt : TT} {te : TE} {i : Nat} (E : Nat → Ent) (hE : ∀ {n m : Nat} {H : Hp} {o : HO}, n ≤ m → (E n).In H o → (E m).In H o) {lo : Int} {n : Nat} (j c N : Nat) {a : Addr} {n0 : Nat} (P : Int → Prop) (hj : L[j]? = some (a, E n0, true)) (hN : n ≤ N) (hl : N ≤ 99999)
    (hs : ∀ (k : Nat) (x : Int), k < n → x = lo + (k : Int) → ∀ (D : Addr) (acc : List V), Wp g (L.set j (a, E (n0 + c * k), true) ++ [(D, .ob (.lst acc), true)]) (tt ((wipe σ [i]).set i (some (.int x)))) fun b L2 => b = true ∧
      Wp g L2 (te ((wipe σ [i]).set i (some (.int x)))) fun y L3 => (∃ v : Int, y = .int v ∧ P v) ∧ ∃ d, d ≤ c ∧ (L.set j (a, E (n0 + c * k + d), true) ++ [(D, .ob (.lst acc), true)]) <+: L3)
    (cc : ∀ (D : Addr) (ys : List Int), ys.length = n → (∀ y ∈ ys, P y) → C (.ref D) (L.set j (a, E (n0 + c * N), true) ++ [(D, .ob (.lst (ys.map V.int)), true)])) (hEm : ∀ n, (E n).mov2 = true := by intro _; rfl) : WLc g L (Itr lo n) (gName i) tt te [i] σ C := by
  have hjl : j < L.length := (List.getElem?_eq_some_iff.mp hj).1
  refine wlc_mono (C' := fun v L' => ∃ D ys, v = .ref D ∧ ys.length = n ∧ (∀ y ∈ ys, P y) ∧ L' = L.set j (a, E (n0 + c * n), true) ++ [(D, .ob (.lst (ys.map V.int)), true)]) (lc_RD E hE j c P hj (by omega) hs (fun D ys h1 h2 => ⟨D, ys, rfl, h1, h2, rfl⟩) hEm) ?_
  rintro v L' ⟨D, ys, rfl, h1, h2, rfl⟩
  refine ⟨_, cc D ys h1 h2, fun H z => ?_⟩
  have hj2 : (L.set j (a, E (n0 + c * n), true) ++ [(D, Ent.ob (.lst (ys.map V.int)), true)])[j]? = some (a, E (n0 + c * n), true) := by
    rw [List.getElem?_append_left (by rw [List.length_set]; exact hjl), List.getElem?_set_self hjl]
  have z6 := z.weak (i := j) (e' := E (n0 + c * N)) hj2 (fun _ o ho => hE (by have := Nat.mul_le_mul_left c hN; omega) ho) (hEm _)
  rw [List.set_append_left _ _ (by rw [List.length_set]; exact hjl), List.set_set] at z6
  exact z6
end Kr

set_option Elab.async false
set_option linter.all false
set_option maxRecDepth 100000
/-! powers, plain -/
namespace Ma
theorem pow_pos {b : Int} (h : 2 ≤ b) (k : Nat) : 1 ≤ b ^ k := by
  induction k with
  | zero => simp
  | succ k ih =>
    rw [Int.pow_succ]
    have : b ^ k * 1 ≤ b ^ k * b := Int.mul_le_mul_of_nonneg_left (by omega) (by omega)
    omega
theorem pow_step {b : Int} (h : 2 ≤ b) (k : Nat) : 2 * b ^ k ≤ b ^ (k + 1) := by
  rw [Int.pow_succ, Int.mul_comm]
  exact Int.mul_le_mul_of_nonneg_left h (by have := pow_pos h k; omega)
theorem pow_mono {b : Int} (h : 2 ≤ b) {i j : Nat} (hij : i ≤ j) : b ^ i ≤ b ^ j := by
  induction j with
  | zero => have : i = 0 := by omega
            subst this; exact Int.le_refl _
  | succ j ih =>
    by_cases e : i = j + 1
    · subst e; exact Int.le_refl _
    · have := ih (by omega)
      have := pow_step h j
      have := pow_pos h j
      omega
theorem pow_lt {b : Int} (h : 2 ≤ b) {i j : Nat} (hij : i < j) : b ^ i < b ^ j := by
  have h1 := pow_mono h (show i + 1 ≤ j by omega)
  have h2 := pow_step h i
  have h3 := pow_pos h i
  omega
theorem pow_inj {b : Int} (h : 2 ≤ b) {i j : Nat} (e : b ^ i = b ^ j) : i = j := by
  rcases Nat.lt_trichotomy i j with q | q | q
  · have := pow_lt h q; omega
  · exact q
  · have := pow_lt h q; omega
theorem pow_lt_iff {b : Int} (h : 2 ≤ b) {i j : Nat} (e : b ^ i < b ^ j) : i < j := by
  rcases Nat.lt_or_ge i j with q | q
  · exact q
  · have := pow_mono h q; omega
theorem two_le_pow {b : Int} (h : 2 ≤ b) (k : Nat) : 2 ^ k ≤ b ^ k := by
  induction k with
  | zero => simp
  | succ k ih =>
    have := pow_step h k
    rw [Int.pow_succ]
    omega
theorem pow_small {b : Int} (h : 2 ≤ b) {k : Nat} (hk : b ^ k ≤ 10 ^ 61) : k < 210 := by
  rcases Nat.lt_or_ge k 210 with q | q
  · exact q
  · have h1 := two_le_pow h k
    have h2 := pow_mono (b := 2) (by decide) q
    have h3 : (10 : Int) ^ 61 < 2 ^ 210 := by decide
    omega
theorem pow_le_big {b : Int} {k : Nat} (h1 : 2 ≤ b) (h2 : b ≤ 1000) (hk : k ≤ 30) : b ^ k ≤ 10 ^ 90 := by
  have key : ∀ k : Nat, b ^ k ≤ 1000 ^ k := fun k => by
    induction k with
    | zero => simp
    | succ k ih =>
      rw [Int.pow_succ, Int.pow_succ]
      have := pow_pos h1 k
      have h3 : b ^ k * b ≤ b ^ k * 1000 := Int.mul_le_mul_of_nonneg_left h2 (by omega)
      have h4 : b ^ k * 1000 ≤ 1000 ^ k * 1000 := Int.mul_le_mul_of_nonneg_right ih (by decide)
      omega
  have h3 := key k
  have h4 := pow_mono (b := 1000) (by decide) hk
  have h5 : (1000 : Int) ^ 30 = 10 ^ 90 := by decide
  omega
theorem pow_le_30 {b : Int} {k : Nat} (h1 : 2 ≤ b) (h2 : b ≤ 1000) (hk : k ≤ 9) : b ^ k ≤ 10 ^ 27 := by
  have key : ∀ k : Nat, b ^ k ≤ 1000 ^ k := fun k => by
    induction k with
    | zero => simp
    | succ k ih =>
      rw [Int.pow_succ, Int.pow_succ]
      have := pow_pos h1 k
      have h3 : b ^ k * b ≤ b ^ k * 1000 := Int.mul_le_mul_of_nonneg_left h2 (by omega)
      have h4 : b ^ k * 1000 ≤ 1000 ^ k * 1000 := Int.mul_le_mul_of_nonneg_right ih (by decide)
      omega
  have h3 := key k
  have h4 := pow_mono (b := 1000) (by decide) hk
  have h5 : (1000 : Int) ^ 9 = 10 ^ 27 := by decide
  omega
theorem top_big {b m : Int} {k : Nat} (h : 2 ≤ b) (hm : m ≤ 10 ^ 60) (hk : (k = 0 ∨ b ^ k ≤ m) ∧ m < b ^ (k + 1) ∧ k < 210) : -(10 ^ 200) ≤ b ^ k ∧ b ^ k ≤ 10 ^ 200 := by
  have h1 := pow_pos h k
  rcases hk.1 with q | q
  · subst q
    simp
  · omega
def IsPow (b u : Int) : Prop := ∃ j : Nat, u = b ^ j
theorem IsPow.one (b : Int) : IsPow b 1 := ⟨0, by simp⟩
theorem IsPow.mul {b u : Int} (h : IsPow b u) : IsPow b (u * b) := by
  obtain ⟨j, e⟩ := h
  exact ⟨j + 1, by rw [e, Int.pow_succ]⟩
theorem IsPow.pos {b u : Int} (hb : 2 ≤ b) (h : IsPow b u) : 1 ≤ u := by
  obtain ⟨j, e⟩ := h
  rw [e]
  exact pow_pos hb j
theorem IsPow.next {b u v : Int} (hb : 2 ≤ b) (hu : IsPow b u) (hv : IsPow b v) (h : u < v) : u * b ≤ v := by
  obtain ⟨i, rfl⟩ := hu
  obtain ⟨j, rfl⟩ := hv
  rw [← Int.pow_succ]
  exact pow_mono hb (pow_lt_iff hb h)
/-- the greatest power up to m -/
def IsTop (b m u : Int) : Prop := IsPow b u ∧ u ≤ m ∧ m < u * b
theorem IsTop.uniq {b m u v : Int} (hb : 2 ≤ b) (hu : IsTop b m u) (hv : IsTop b m v) : u = v := by
  obtain ⟨p1, l1, g1⟩ := hu
  obtain ⟨p2, l2, g2⟩ := hv
  rcases Int.lt_trichotomy u v with q | q | q
  · have := p1.next hb p2 q; omega
  · exact q
  · have := p2.next hb p1 q; omega
/-- the least factor -/
def IsFac (b age loss F : Int) : Prop := (age ≤ 1 ∧ F = 1) ∨ (1 < age ∧ ∃ u, IsTop b (loss + 1) u ∧ 2 ≤ F ∧ (F - 2) * u < age - 1 ∧ age - 1 ≤ (F - 1) * u)
/-- the least power that is enough for an age -/
def IsSafe (b f age v : Int) : Prop := IsPow b v ∧ age ≤ (f - 1) * v + 1 ∧ ∀ u, IsPow b u → age ≤ (f - 1) * u + 1 → v ≤ u
theorem ceil_ok {a u : Int} (hu : 1 ≤ u) (ha : 1 ≤ a) : 2 ≤ (a + u - 1) / u + 1 ∧ ((a + u - 1) / u + 1 - 2) * u < a ∧ a ≤ ((a + u - 1) / u + 1 - 1) * u := by
  have h0 := Int.mul_ediv_add_emod (a + u - 1) u
  have h1 := Int.emod_nonneg (a + u - 1) (show u ≠ 0 by omega)
  have h2 := Int.emod_lt_of_pos (a + u - 1) (show 0 < u by omega)
  generalize (a + u - 1) / u = q at *
  generalize (a + u - 1) % u = r at *
  have e1 : (q + 1 - 2) * u = u * q - u := by rw [show q + 1 - 2 = q - 1 by omega, Int.sub_mul, Int.mul_comm]; omega
  have e2 : (q + 1 - 1) * u = u * q := by rw [show q + 1 - 1 = q by omega, Int.mul_comm]
  rw [e1, e2]
  refine ⟨?_, by omega, by omega⟩
  rcases Int.lt_or_le q 1 with z | z
  · have : u * q ≤ u * 0 := Int.mul_le_mul_of_nonneg_left (by omega) (by omega)
    omega
  · omega
theorem fac_pos {b age loss F : Int} (h : IsFac b age loss F) : 1 ≤ F ∧ (F = 1 → age ≤ 1) := by
  rcases h with ⟨h1, e⟩ | ⟨h1, u, _, h2, _⟩
  · omega
  · omega
/-- the law k70, in numbers -/
theorem fac_none {b age loss F v : Int} (hb : 2 ≤ b) (hF : IsFac b age loss F) (h : 1000000 < F) (hv : IsSafe b 1000000 age v) : loss < v - 1 := by
  rcases hF with ⟨_, e⟩ | ⟨h1, u, ⟨p, l, gt⟩, _, h3, h4⟩
  · omega
  · obtain ⟨pv, a1, _⟩ := hv
    have hu := p.pos hb
    have k1 : (1000000 + 1 - 2) * u ≤ (F - 2) * u := Int.mul_le_mul_of_nonneg_right (by omega) (by omega)
    rcases Int.lt_or_le u v with q | q
    · have := p.next hb pv q; omega
    · have : (1000000 - 1) * v ≤ (1000000 - 1) * u := Int.mul_le_mul_of_nonneg_left q (by decide)
      omega
theorem fac_some {b age loss F v : Int} (hb : 2 ≤ b) (hF : IsFac b age loss F) (hl : 0 ≤ loss) (hv : IsSafe b F age v) : v - 1 ≤ loss := by
  rcases hF with ⟨h1, e⟩ | ⟨h1, u, ⟨p, l, gt⟩, _, h3, h4⟩
  · subst e
    have := hv.2.2 1 (IsPow.one b) (by omega)
    omega
  · have := hv.2.2 u p (by omega)
    omega
theorem fac_less {b age loss F v : Int} (hb : 2 ≤ b) (hF : IsFac b age loss F) (h : 1 < F) (hv : IsSafe b (F - 1) age v) : loss < v - 1 := by
  rcases hF with ⟨_, e⟩ | ⟨h1, u, ⟨p, l, gt⟩, _, h3, h4⟩
  · omega
  · obtain ⟨pv, a1, _⟩ := hv
    have hu := p.pos hb
    rcases Int.lt_or_le u v with q | q
    · have := p.next hb pv q; omega
    · have k1 : (F - 1 - 1) * v ≤ (F - 1 - 1) * u := Int.mul_le_mul_of_nonneg_left q (by omega)
      have e : F - 1 - 1 = F - 2 := by omega
      rw [e] at k1 a1
      omega
theorem fac_age {b age loss F u : Int} (hb : 2 ≤ b) (hF : IsFac b age loss F) (hu : IsTop b (loss + 1) u) : age ≤ (F - 1) * u + 1 ∧ (1 < F → (F - 1 - 1) * u + 1 < age) := by
  rcases hF with ⟨h1, e⟩ | ⟨h1, u', hu', _, h3, h4⟩
  · subst e
    omega
  · have := hu.uniq hb hu'
    subst this
    have e : F - 1 - 1 = F - 2 := by omega
    rw [e]
    omega
theorem fac_uniq {b age loss F G : Int} (hb : 2 ≤ b) (hF : IsFac b age loss F) (hG : IsFac b age loss G) : F = G := by
  rcases hF with ⟨h1, e⟩ | ⟨h1, u, hu, f2, h3, h4⟩
  · rcases hG with ⟨_, e'⟩ | ⟨h1', _⟩
    · omega
    · omega
  · rcases hG with ⟨_, e'⟩ | ⟨h1', v, hv, g2, h3', h4'⟩
    · omega
    · have e := hu.uniq hb hv
      subst e
      have up := hu.1.pos hb
      rcases Int.lt_trichotomy F G with q | q | q
      · have : (F - 1) * u ≤ (G - 2) * u := Int.mul_le_mul_of_nonneg_right (by omega) (by omega)
        omega
      · exact q
      · have : (G - 1) * u ≤ (F - 2) * u := Int.mul_le_mul_of_nonneg_right (by omega) (by omega)
        omega
end Ma

set_option Elab.async false
set_option linter.all false
set_option maxRecDepth 100000
/-! units, parents, chains, plain -/
namespace Ma
/-- the greatest power of b that divides n, by fuel -/
def unitN (b : Int) : Nat → Int → Int
  | 0, _ => 1
  | k + 1, n => if n % b = 0 then b * unitN b k (n / b) else 1
def unitF (b n : Int) : Int := unitN b n.toNat n
theorem unitN_pow (b : Int) : ∀ (k : Nat) (n : Int), IsPow b (unitN b k n)
  | 0, _ => IsPow.one b
  | k + 1, n => by
    unfold unitN
    split
    · rw [Int.mul_comm]
      exact (unitN_pow b k _).mul
    · exact IsPow.one b
theorem unitN_dvd (b : Int) : ∀ (k : Nat) (n : Int), unitN b k n ∣ n
  | 0, n => Int.one_dvd n
  | k + 1, n => by
    unfold unitN
    split
    · rename_i h
      have e : n = b * (n / b) := by
        have := Int.mul_ediv_add_emod n b
        omega
      have := unitN_dvd b k (n / b)
      have q := Int.mul_dvd_mul (Int.dvd_refl b) this
      rw [← e] at q
      exact q
    · exact Int.one_dvd n
theorem div_lt {b n : Int} (hb : 2 ≤ b) (hn : 1 ≤ n) (h : n % b = 0) : 1 ≤ n / b ∧ n / b < n := by
  have e : n = b * (n / b) := by
    have := Int.mul_ediv_add_emod n b
    omega
  have h1 : 1 ≤ n / b := by
    rcases Int.lt_or_le (n / b) 1 with q | q
    · have : b * (n / b) ≤ b * 0 := Int.mul_le_mul_of_nonneg_left (by omega) (by omega)
      omega
    · exact q
  have : 2 * (n / b) ≤ b * (n / b) := Int.mul_le_mul_of_nonneg_right hb (by omega)
  omega
theorem unitN_not {b : Int} (hb : 2 ≤ b) : ∀ (k : Nat) (n : Int), 1 ≤ n → n.toNat ≤ k → ¬ (unitN b k n * b ∣ n)
  | 0, n, h1, h2 => by omega
  | k + 1, n, h1, h2 => by
    unfold unitN
    split
    · rename_i h
      have d := div_lt hb h1 h
      have ih := unitN_not hb k (n / b) d.1 (by omega)
      intro q
      apply ih
      have e : n = b * (n / b) := by
        have := Int.mul_ediv_add_emod n b
        omega
      rw [e, Int.mul_assoc] at q
      have e2 : b * (n / b) / b = n / b := Int.mul_ediv_cancel_left _ (by omega)
      rw [e2] at q
      exact Int.dvd_of_mul_dvd_mul_left (by omega) q
    · rename_i h
      rw [Int.one_mul]
      intro q
      exact h (Int.emod_eq_zero_of_dvd q)
/-- what a unit is -/
def IsUnit (b n u : Int) : Prop := IsPow b u ∧ u ∣ n ∧ ¬ (u * b ∣ n)
theorem unitF_is {b n : Int} (hb : 2 ≤ b) (hn : 1 ≤ n) : IsUnit b n (unitF b n) := ⟨unitN_pow b _ _, unitN_dvd b _ _, unitN_not hb _ _ hn (Nat.le_refl _)⟩
theorem pow_dvd {b u v : Int} (hb : 2 ≤ b) (hu : IsPow b u) (hv : IsPow b v) (h : u ≤ v) : u ∣ v := by
  obtain ⟨i, rfl⟩ := hu
  obtain ⟨j, rfl⟩ := hv
  have hij : i ≤ j := by
    rcases Nat.lt_or_ge j i with q | q
    · have := pow_lt hb q
      omega
    · exact q
  obtain ⟨d, rfl⟩ := Nat.le.dest hij
  exact ⟨b ^ d, by rw [Int.pow_add]⟩
theorem IsUnit.uniq {b n u v : Int} (hb : 2 ≤ b) (hu : IsUnit b n u) (hv : IsUnit b n v) : u = v := by
  rcases Int.lt_trichotomy u v with q | q | q
  · exact absurd (Int.dvd_trans (pow_dvd hb hu.1.mul hv.1 (hu.1.next hb hv.1 q)) hv.2.1) hu.2.2
  · exact q
  · exact absurd (Int.dvd_trans (pow_dvd hb hv.1.mul hu.1 (hv.1.next hb hu.1 q)) hu.2.1) hv.2.2
theorem IsUnit.eq {b n u : Int} (hb : 2 ≤ b) (hn : 1 ≤ n) (hu : IsUnit b n u) : u = unitF b n := hu.uniq hb (unitF_is hb hn)
theorem unitF_pos {b n : Int} (hb : 2 ≤ b) : 1 ≤ unitF b n := (unitN_pow b _ _).pos hb
theorem unitF_pow {b n : Int} : IsPow b (unitF b n) := unitN_pow b _ _
theorem unitF_dvd {b n : Int} : unitF b n ∣ n := unitN_dvd b _ _
theorem unitF_le {b n : Int} (hn : 1 ≤ n) : unitF b n ≤ n := Int.le_of_dvd (by omega) unitF_dvd
/-- a power divides n exactly if it is at most the unit -/
theorem dvd_iff {b n u : Int} (hb : 2 ≤ b) (hn : 1 ≤ n) (hu : IsPow b u) : u ∣ n ↔ u ≤ unitF b n := by
  constructor
  · intro h
    rcases Int.lt_or_le (unitF b n) u with q | q
    · have := unitF_is hb hn
      exact absurd (Int.dvd_trans (pow_dvd hb this.1.mul hu (this.1.next hb hu q)) h) this.2.2
    · exact q
  · intro h
    exact Int.dvd_trans (pow_dvd hb hu unitF_pow h) unitF_dvd
/-- the parent -/
def parF (b n : Int) : Int := n / (unitF b n * b) * (unitF b n * b)
theorem ub_pos {b n : Int} (hb : 2 ≤ b) : 2 ≤ unitF b n * b := by
  have h1 : 1 * b ≤ unitF b n * b := Int.mul_le_mul_of_nonneg_right (unitF_pos hb) (by omega)
  omega
theorem parF_le {b n : Int} (hb : 2 ≤ b) : parF b n ≤ n ∧ n < parF b n + unitF b n * b := by
  have h := ub_pos (b := b) (n := n) hb
  have h0 := Int.mul_ediv_add_emod n (unitF b n * b)
  have h1 := Int.emod_nonneg n (show unitF b n * b ≠ 0 by omega)
  have h2 := Int.emod_lt_of_pos n (show 0 < unitF b n * b by omega)
  unfold parF
  rw [Int.mul_comm] at h0
  omega
theorem parF_dvd {b n : Int} : unitF b n * b ∣ parF b n := ⟨n / (unitF b n * b), by unfold parF; rw [Int.mul_comm]⟩
theorem parF_lt {b n : Int} (hb : 2 ≤ b) (hn : 1 ≤ n) : parF b n < n := by
  have h := (parF_le (n := n) hb).1
  have : parF b n ≠ n := fun e => (unitF_is hb hn).2.2 (by have := parF_dvd (b := b) (n := n); rw [e] at this; exact this)
  omega
theorem parF_nonneg {b n : Int} (hb : 2 ≤ b) (hn : 0 ≤ n) : 0 ≤ parF b n := by
  unfold parF
  have := ub_pos (b := b) (n := n) hb
  exact Int.mul_nonneg (Int.ediv_nonneg hn (by omega)) (by omega)
/-- n lies at least a unit above its parent -/
theorem parF_gap {b n : Int} (hb : 2 ≤ b) (hn : 1 ≤ n) : parF b n + unitF b n ≤ n := by
  have h1 : unitF b n ∣ n - parF b n := Int.dvd_sub unitF_dvd (Int.dvd_trans ⟨b, rfl⟩ parF_dvd)
  have h2 := parF_lt hb hn
  have := Int.le_of_dvd (by omega) h1
  omega
/-- the chain, by fuel -/
def chainN (b : Int) : Nat → Int → List Int
  | 0, n => [n]
  | k + 1, n => if n ≤ 0 then [n] else n :: chainN b k (parF b n)
def chainF (b n : Int) : List Int := chainN b n.toNat n
theorem chainN_fuel {b : Int} (hb : 2 ≤ b) : ∀ (k j : Nat) (n : Int), n.toNat ≤ k → n.toNat ≤ j → chainN b k n = chainN b j n
  | 0, 0, n, _, _ => rfl
  | 0, j + 1, n, h, _ => by
    unfold chainN
    rw [if_pos (by omega)]
  | k + 1, 0, n, _, h => by
    unfold chainN
    rw [if_pos (by omega)]
  | k + 1, j + 1, n, h1, h2 => by
    unfold chainN
    split
    · rfl
    · have := parF_lt (b := b) (n := n) hb (by omega)
      rw [chainN_fuel hb k j (parF b n) (by omega) (by omega)]
theorem chainF_zero (b : Int) : chainF b 0 = [0] := rfl
theorem chainF_pos {b n : Int} (hb : 2 ≤ b) (hn : 1 ≤ n) : chainF b n = n :: chainF b (parF b n) := by
  have hk : ∃ k, n.toNat = k + 1 := ⟨n.toNat - 1, by omega⟩
  obtain ⟨k, e⟩ := hk
  unfold chainF
  rw [e]
  show (if n ≤ 0 then [n] else n :: chainN b k (parF b n)) = _
  rw [if_neg (by omega)]
  have := parF_lt hb hn
  have := parF_nonneg (b := b) (n := n) hb (by omega)
  rw [chainN_fuel hb k (parF b n).toNat (parF b n) (by omega) (Nat.le_refl _)]
theorem chainF_len {b : Int} (hb : 2 ≤ b) : ∀ (d j k : Nat) (n : Int), k = j + d → 0 ≤ n → b ^ j ∣ n → n < b ^ k → (chainF b n).length ≤ d + 1
  | 0, j, k, n, e, h0, hd, hl => by
    have hz : n = 0 := by
      have e2 : k = j := by omega
      subst e2
      rcases Int.lt_or_le 0 n with q | q
      · have := Int.le_of_dvd q hd
        omega
      · omega
    subst hz
    simp [chainF_zero]
  | d + 1, j, k, n, e, h0, hd, hl => by
    by_cases hz : n = 0
    · subst hz
      simp [chainF_zero]
    · rw [chainF_pos hb (by omega), List.length_cons]
      obtain ⟨i, hi⟩ := unitF_pow (b := b) (n := n)
      have hji : b ^ j ≤ b ^ i := by
        rw [← hi]
        exact (dvd_iff hb (by omega) ⟨j, rfl⟩).mp hd
      have hij : j ≤ i := by
        rcases Nat.lt_or_ge i j with q | q
        · have := pow_lt hb q
          omega
        · exact q
      have hd2 : b ^ (j + 1) ∣ parF b n := by
        have h1 := parF_dvd (b := b) (n := n)
        rw [hi, ← Int.pow_succ] at h1
        exact Int.dvd_trans (pow_dvd hb ⟨_, rfl⟩ ⟨_, rfl⟩ (pow_mono hb (by omega))) h1
      have hp := parF_lt (b := b) (n := n) hb (by omega)
      have := chainF_len hb d (j + 1) k (parF b n) (by omega) (parF_nonneg hb h0) hd2 (by omega)
      omega
theorem chainF_small {b n : Int} (hb : 2 ≤ b) (h0 : 0 ≤ n) (h : n ≤ 10 ^ 61) : (chainF b n).length ≤ 211 := by
  refine chainF_len hb 210 0 210 n rfl h0 (by simp) ?_
  have h1 := two_le_pow hb 210
  have h2 : (10 : Int) ^ 61 < 2 ^ 210 := by decide
  omega
/-- membership in a chain is to lie in the block -/
theorem mem_chain {b : Int} (hb : 2 ≤ b) : ∀ (k : Nat) (n m : Int), n.toNat ≤ k → 0 ≤ n → 1 ≤ m → (m ∈ chainF b n ↔ m ≤ n ∧ n < m + unitF b m)
  | 0, n, m, hk, h0, hm => by
    have hz : n = 0 := by omega
    subst hz
    rw [chainF_zero]
    simp
    omega
  | k + 1, n, m, hk, h0, hm => by
    by_cases hz : n = 0
    · subst hz
      rw [chainF_zero]
      simp
      omega
    · rw [chainF_pos hb (by omega), List.mem_cons]
      have hp := parF_lt (b := b) (n := n) hb (by omega)
      have hp0 := parF_nonneg (b := b) (n := n) hb h0
      have ih := mem_chain hb k (parF b n) m (by omega) hp0 hm
      rw [ih]
      have hu := unitF_pos (b := b) (n := m) hb
      have hun := unitF_pos (b := b) (n := n) hb
      have hle := parF_le (b := b) (n := n) hb
      constructor
      · rintro (e | ⟨h1, h2⟩)
        · subst e
          omega
        · refine ⟨by omega, ?_⟩
          -- the block of m is a multiple of its unit; n lies below the next multiple of unit n * b
          rcases Int.lt_or_le n (m + unitF b m) with q | q
          · exact q
          · exfalso
            -- parent < m + um ≤ n, and um is a power: um ≤ un (else un * b ∣ um, and then parent's next multiple ...)
            rcases Int.lt_or_le (unitF b n) (unitF b m) with r | r
            · have hn := unitF_pow (b := b) (n := n)
              have hm' := unitF_pow (b := b) (n := m)
              have dv : unitF b n * b ∣ unitF b m := pow_dvd hb hn.mul hm' (hn.next hb hm' r)
              have dm : unitF b n * b ∣ m + unitF b m := Int.dvd_add (Int.dvd_trans dv unitF_dvd) dv
              have dd : unitF b n * b ∣ m + unitF b m - parF b n := Int.dvd_sub dm parF_dvd
              have := Int.le_of_dvd (by omega) dd
              omega
            · -- um ≤ un: parent is a multiple of un * b, so of um * b; m ≤ parent < m + um, m multiple of um: parent = m
              have hn := unitF_pow (b := b) (n := n)
              have hm' := unitF_pow (b := b) (n := m)
              have dp : unitF b m * b ∣ parF b n := Int.dvd_trans (Int.mul_dvd_mul (pow_dvd hb hm' hn r) (Int.dvd_refl b)) parF_dvd
              have dq : unitF b m ∣ parF b n - m := Int.dvd_sub (Int.dvd_trans ⟨b, rfl⟩ dp) unitF_dvd
              have e : parF b n = m := by
                rcases Int.lt_or_le 0 (parF b n - m) with z | z
                · have := Int.le_of_dvd z dq
                  omega
                · omega
              exact (unitF_is hb hm).2.2 (e ▸ dp)
      · rintro ⟨h1, h2⟩
        by_cases e : m = n
        · exact .inl e
        · refine .inr ⟨?_, by omega⟩
          -- m < n < m + um: um > un (else n - m would be a multiple of um)
          have hn := unitF_pow (b := b) (n := n)
          have hm' := unitF_pow (b := b) (n := m)
          rcases Int.lt_or_le (unitF b n) (unitF b m) with r | r
          · have dv : unitF b n * b ∣ m := Int.dvd_trans (pow_dvd hb hn.mul hm' (hn.next hb hm' r)) unitF_dvd
            have dd : unitF b n * b ∣ m - parF b n := Int.dvd_sub dv parF_dvd
            rcases Int.lt_or_le (parF b n) m with z | z
            · have := Int.le_of_dvd (by omega) dd
              omega
            · exact z
          · exfalso
            have dd : unitF b m ∣ n - m := Int.dvd_sub (Int.dvd_trans (pow_dvd hb hm' hn r) unitF_dvd) unitF_dvd
            have := Int.le_of_dvd (by omega) dd
            omega
theorem zero_mem_chain {b : Int} (hb : 2 ≤ b) : ∀ (k : Nat) (n : Int), n.toNat ≤ k → 0 ≤ n → (0 : Int) ∈ chainF b n
  | 0, n, hk, h0 => by
    have hz : n = 0 := by omega
    subst hz
    simp [chainF_zero]
  | k + 1, n, hk, h0 => by
    by_cases hz : n = 0
    · subst hz
      simp [chainF_zero]
    · rw [chainF_pos hb (by omega)]
      have hp := parF_lt (b := b) (n := n) hb (by omega)
      exact List.mem_cons_of_mem _ (zero_mem_chain hb k (parF b n) (by omega) (parF_nonneg hb h0))
theorem chain_nonneg {b : Int} (hb : 2 ≤ b) : ∀ (k : Nat) (n : Int), n.toNat ≤ k → 0 ≤ n → ∀ m ∈ chainF b n, 0 ≤ m ∧ m ≤ n
  | 0, n, hk, h0, m, h => by
    have hz : n = 0 := by omega
    subst hz
    simp [chainF_zero] at h
    omega
  | k + 1, n, hk, h0, m, h => by
    by_cases hz : n = 0
    · subst hz
      simp [chainF_zero] at h
      omega
    · rw [chainF_pos hb (by omega)] at h
      have hp := parF_lt (b := b) (n := n) hb (by omega)
      rcases List.mem_cons.mp h with e | e
      · omega
      · have := chain_nonneg hb k (parF b n) (by omega) (parF_nonneg hb h0) m e
        omega
/-- in_chain as the program asks it -/
def inCh (b n m : Int) : Bool := decide (m = 0) || (decide (m ≤ n) && decide (n < m + unitF b m))
theorem inCh_iff {b n m : Int} (hb : 2 ≤ b) (hn : 0 ≤ n) (hm : 0 ≤ m) : inCh b n m = true ↔ m ∈ chainF b n := by
  unfold inCh
  by_cases e : m = 0
  · subst e
    simp [zero_mem_chain hb n.toNat n (Nat.le_refl _) hn]
  · rw [mem_chain hb n.toNat n m (Nat.le_refl _) hn (by omega)]
    simp [e]
/-- two blocks are nested or disjoint -/
theorem blocks {b m n : Int} (hb : 2 ≤ b) (hm : 1 ≤ m) (hn : 1 ≤ n) (h1 : m < n + unitF b n) (h2 : n < m + unitF b m) : (m ≤ n ∧ n + unitF b n ≤ m + unitF b m) ∨ (n ≤ m ∧ m + unitF b m ≤ n + unitF b n) := by
  have key : ∀ m n : Int, 1 ≤ m → 1 ≤ n → m < n + unitF b n → n < m + unitF b m → unitF b m ≤ unitF b n → n ≤ m ∧ m + unitF b m ≤ n + unitF b n := by
    intro m n hm hn h1 h2 hu
    have dv : unitF b m ∣ unitF b n := pow_dvd hb unitF_pow unitF_pow hu
    have d1 : unitF b m ∣ n := Int.dvd_trans dv unitF_dvd
    have d2 : unitF b m ∣ n - m := Int.dvd_sub d1 unitF_dvd
    have d3 : unitF b m ∣ n + unitF b n - m := Int.dvd_sub (Int.dvd_add d1 dv) unitF_dvd
    constructor
    · rcases Int.lt_or_le 0 (n - m) with q | q
      · have := Int.le_of_dvd q d2
        omega
      · omega
    · have := Int.le_of_dvd (by omega) d3
      omega
  rcases Int.lt_or_le (unitF b n) (unitF b m) with q | q
  · exact .inl (key n m hn hm h2 h1 (by omega))
  · exact .inr (key m n hm hn h1 h2 q)
theorem k02_a {b x N : Int} (h : ¬ inCh b x N = (decide (N ≤ x) && decide (x < N + unitF b N))) (hN : 1 ≤ N) : False := by
  apply h
  unfold inCh
  rw [decide_eq_false (show ¬ N = 0 by omega)]
  rfl
theorem k02_b {b x N : Int} (h : ¬ decide (N ∈ chainF b x) = (decide (N ≤ x) && decide (x < N + unitF b N))) (hb : 2 ≤ b) (hx : 0 ≤ x) (hN : 1 ≤ N) : False := by
  apply h
  rw [Bool.eq_iff_iff]
  simp [mem_chain hb x.toNat x N (Nat.le_refl _) hx hN]
/-- kept, as the program asks it -/
def keptB (b f n t : Int) : Bool := decide (n ≤ t) && (decide (n = 0) || decide (t ≤ n + f * unitF b n))
/-- how a parent outlives its child -/
theorem life_step {b f n : Int} (hb : 2 ≤ b) (hf : 1 ≤ f) (hn : 1 ≤ n) (hp : 1 ≤ parF b n) : n + f * unitF b n ≤ parF b n + f * unitF b (parF b n) ∧ (2 ≤ f → n + f * unitF b n < parF b n + f * unitF b (parF b n)) := by
  have hu := unitF_pos (b := b) (n := n) hb
  have h1 := (dvd_iff hb hp (unitF_pow (b := b) (n := n)).mul).mp parF_dvd
  have hl := parF_le (b := b) (n := n) hb
  -- n - parent ≤ (b - 1) * unit
  have hgap : n - parF b n ≤ unitF b n * b - unitF b n := by
    have d1 : unitF b n ∣ parF b n + unitF b n * b - n := Int.dvd_sub (Int.dvd_add (Int.dvd_trans ⟨b, rfl⟩ parF_dvd) ⟨b, rfl⟩) unitF_dvd
    have := Int.le_of_dvd (by omega) d1
    omega
  have h2 : f * (unitF b n * b) ≤ f * unitF b (parF b n) := Int.mul_le_mul_of_nonneg_left h1 (by omega)
  have h3 : f * (unitF b n * b) = f * unitF b n * b := by rw [Int.mul_assoc]
  generalize unitF b n = u at *
  -- (f - 1) * (b - 1) * u ≥ 0
  have e : f * u * b - f * u - (u * b - u) = (f - 1) * ((b - 1) * u) := by
    rw [Int.sub_mul, Int.sub_mul, Int.mul_sub, Int.one_mul, Int.one_mul, Int.mul_assoc, Int.mul_comm u b]
  have h4 : 0 ≤ (b - 1) * u := Int.mul_nonneg (by omega) (by omega)
  have h5 : 0 ≤ (f - 1) * ((b - 1) * u) := Int.mul_nonneg (by omega) h4
  constructor
  · omega
  · intro hf2
    have h6 : 1 * u ≤ (b - 1) * u := Int.mul_le_mul_of_nonneg_right (by omega) (by omega)
    have h7 : 1 * ((b - 1) * u) ≤ (f - 1) * ((b - 1) * u) := Int.mul_le_mul_of_nonneg_right (by omega) h4
    omega
/-- the last time -/
def lastF (b f n : Int) : Int := n + f * unitF b n
theorem keptB_pos {b f n t : Int} (hn : 1 ≤ n) (ht : n ≤ t) : keptB b f n t = decide (t ≤ n + f * unitF b n) := by
  unfold keptB
  rw [decide_eq_true ht, decide_eq_false (show ¬ n = 0 by omega)]
  rfl
theorem keptB_zero {b f t : Int} (ht : 0 ≤ t) : keptB b f 0 t = true := by
  unfold keptB
  rw [decide_eq_true ht]
  rfl
theorem chain_kept {b f t : Int} (hb : 2 ≤ b) (hf : 1 ≤ f) : ∀ (k : Nat) (n : Int), n.toNat ≤ k → 0 ≤ n → keptB b f n t = true → ∀ m ∈ chainF b n, keptB b f m t = true
  | 0, n, hk, h0, h, m, hm => by
    have hz : n = 0 := by omega
    subst hz
    simp [chainF_zero] at hm
    rw [hm]
    exact h
  | k + 1, n, hk, h0, h, m, hm => by
    by_cases hz : n = 0
    · subst hz
      simp [chainF_zero] at hm
      rw [hm]
      exact h
    · rw [chainF_pos hb (by omega)] at hm
      have hp := parF_lt (b := b) (n := n) hb (by omega)
      have hp0 := parF_nonneg (b := b) (n := n) hb h0
      rcases List.mem_cons.mp hm with e | e
      · rw [e]
        exact h
      · refine chain_kept hb hf k (parF b n) (by omega) hp0 ?_ m e
        have hnt : n ≤ t := by
          unfold keptB at h
          rw [Bool.and_eq_true] at h
          exact of_decide_eq_true h.1
        by_cases hz2 : parF b n = 0
        · rw [hz2]
          exact keptB_zero (by omega)
        · rw [keptB_pos (by omega) (by omega)] at *
          have := (life_step hb hf (n := n) (by omega) (by omega)).1
          have h := of_decide_eq_true h
          exact decide_eq_true (by omega)
/-- the last times along a chain, without 0, ascend -/
theorem ends_up {b f : Int} (hb : 2 ≤ b) (hf : 1 ≤ f) : ∀ (k : Nat) (n : Int), n.toNat ≤ k → 1 ≤ n → ((chainF b n).dropLast.map (lastF b f)).Pairwise (· ≤ ·) ∧ (2 ≤ f → ((chainF b n).dropLast.map (lastF b f)).Pairwise (· < ·)) ∧ ∀ m ∈ (chainF b n).dropLast, lastF b f n ≤ lastF b f m
  | 0, n, hk, h0 => by omega
  | k + 1, n, hk, h0 => by
    rw [chainF_pos hb h0]
    have hp := parF_lt (b := b) (n := n) hb h0
    have hp0 := parF_nonneg (b := b) (n := n) hb (by omega)
    by_cases hz : parF b n = 0
    · rw [hz, chainF_zero]
      simp
    · have ih := ends_up hb hf k (parF b n) (by omega) (by omega)
      have hs := life_step hb hf (n := n) h0 (by omega)
      have hne : chainF b (parF b n) ≠ [] := by
        rw [chainF_pos hb (by omega)]
        simp
      have hd : (n :: chainF b (parF b n)).dropLast = n :: (chainF b (parF b n)).dropLast := by
        cases hc : chainF b (parF b n) with
        | nil => exact absurd hc hne
        | cons x r => rfl
      rw [hd, List.map_cons]
      have hle : ∀ m ∈ (chainF b (parF b n)).dropLast, lastF b f n ≤ lastF b f m := fun m hm => by
        have := ih.2.2 m hm
        unfold lastF at *
        omega
      refine ⟨?_, fun h2 => ?_, ?_⟩
      · rw [List.pairwise_cons]
        refine ⟨fun x hx => ?_, ih.1⟩
        obtain ⟨m, hm, rfl⟩ := List.mem_map.mp hx
        exact hle m hm
      · rw [List.pairwise_cons]
        refine ⟨fun x hx => ?_, ih.2.1 h2⟩
        obtain ⟨m, hm, rfl⟩ := List.mem_map.mp hx
        have := ih.2.2 m hm
        have := hs.2 h2
        unfold lastF at *
        omega
      · intro m hm
        rcases List.mem_cons.mp hm with e | e
        · rw [e]
          exact Int.le_refl _
        · exact hle m e
theorem drop_pos {b : Int} (hb : 2 ≤ b) : ∀ (k : Nat) (n : Int), n.toNat ≤ k → 0 ≤ n → ∀ m ∈ (chainF b n).dropLast, 1 ≤ m
  | 0, n, hk, h0, m, hm => by
    have hz : n = 0 := by omega
    subst hz
    simp [chainF_zero] at hm
  | k + 1, n, hk, h0, m, hm => by
    by_cases hz : n = 0
    · subst hz
      simp [chainF_zero] at hm
    · rw [chainF_pos hb (by omega)] at hm
      have hp := parF_lt (b := b) (n := n) hb (by omega)
      have hp0 := parF_nonneg (b := b) (n := n) hb h0
      have hne : chainF b (parF b n) ≠ [] := by
        by_cases hz2 : parF b n = 0
        · rw [hz2, chainF_zero]
          simp
        · rw [chainF_pos hb (by omega)]
          simp
      have hd : (n :: chainF b (parF b n)).dropLast = n :: (chainF b (parF b n)).dropLast := by
        cases hc : chainF b (parF b n) with
        | nil => exact absurd hc hne
        | cons x r => rfl
      rw [hd] at hm
      rcases List.mem_cons.mp hm with e | e
      · omega
      · exact drop_pos hb k (parF b n) (by omega) hp0 m e
end Ma

set_option Elab.async false
set_option linter.all false
set_option maxRecDepth 100000
/-! sizes, plain -/
namespace Ma
def sizeF (b n w : Int) : Int := if n = 0 then w else min w (n - parF b n)
/-- the digits' sizes, by fuel -/
def digN (b w : Int) : Nat → Int → Int → Int
  | 0, _, _ => 0
  | k + 1, n, p => if n ≤ 0 then 0 else min w (n % b * p) + digN b w k (n / b) (p * b)
def digF (b w n p : Int) : Int := digN b w n.toNat n p
theorem div_small {b n : Int} (hb : 2 ≤ b) (hn : 1 ≤ n) : 0 ≤ n / b ∧ n / b < n := by
  have h0 : 0 ≤ n / b := Int.ediv_nonneg (by omega) (by omega)
  have e := Int.mul_ediv_add_emod n b
  have h1 := Int.emod_nonneg n (show b ≠ 0 by omega)
  have h2 : 2 * (n / b) ≤ b * (n / b) := Int.mul_le_mul_of_nonneg_right hb h0
  omega
theorem digN_fuel {b w : Int} (hb : 2 ≤ b) : ∀ (k j : Nat) (n p : Int), n.toNat ≤ k → n.toNat ≤ j → digN b w k n p = digN b w j n p
  | 0, 0, n, p, _, _ => rfl
  | 0, j + 1, n, p, h, _ => by
    unfold digN
    rw [if_pos (by omega)]
  | k + 1, 0, n, p, _, h => by
    unfold digN
    rw [if_pos (by omega)]
  | k + 1, j + 1, n, p, h1, h2 => by
    unfold digN
    split
    · rfl
    · have := div_small (b := b) (n := n) hb (by omega)
      rw [digN_fuel hb k j (n / b) (p * b) (by omega) (by omega)]
theorem digF_zero {b w n p : Int} (h : n ≤ 0) : digF b w n p = 0 := by
  unfold digF
  have e : n.toNat = 0 := by omega
  rw [e]
  rfl
theorem digF_pos {b w n p : Int} (hb : 2 ≤ b) (hn : 1 ≤ n) : digF b w n p = min w (n % b * p) + digF b w (n / b) (p * b) := by
  obtain ⟨k, e⟩ : ∃ k, n.toNat = k + 1 := ⟨n.toNat - 1, by omega⟩
  have hd := div_small (b := b) (n := n) hb hn
  unfold digF
  rw [e]
  show (if n ≤ 0 then 0 else min w (n % b * p) + digN b w k (n / b) (p * b)) = _
  rw [if_neg (by omega), digN_fuel hb k (n / b).toNat (n / b) (p * b) (by omega) (Nat.le_refl _)]
theorem dig_turn {b w n x p tot : Int} (hb : 2 ≤ b) (hx : 1 ≤ x) (hn : 0 ≤ n) (h : 0 ≤ x ∧ x ≤ n ∧ 1 ≤ p ∧ (0 < x → p * x ≤ n) ∧ tot + digF b w x p = w + digF b w n 1) :
    0 ≤ x / b ∧ x / b ≤ n ∧ 1 ≤ p * b ∧ (0 < x / b → p * b * (x / b) ≤ n) ∧ tot + min w (x % b * p) + digF b w (x / b) (p * b) = w + digF b w n 1 := by
  obtain ⟨h1, h2, h3, h4, h5⟩ := h
  have hd := div_small (b := b) (n := x) hb hx
  have hpb : p * 1 ≤ p * b := Int.mul_le_mul_of_nonneg_left (by omega) (by omega)
  refine ⟨hd.1, by omega, by omega, fun _ => ?_, ?_⟩
  · have e := Int.mul_ediv_add_emod x b
    have h6 := Int.emod_nonneg x (show b ≠ 0 by omega)
    have h7 : p * (b * (x / b)) ≤ p * x := Int.mul_le_mul_of_nonneg_left (by omega) (by omega)
    rw [Int.mul_assoc]
    have := h4 (by omega)
    omega
  · rw [digF_pos hb hx] at h5
    omega
/-- units of multiples of the base -/
theorem unit_mul {b m : Int} (hb : 2 ≤ b) (hm : 1 ≤ m) : unitF b (b * m) = b * unitF b m := by
  have hbm : 1 * m ≤ b * m := Int.mul_le_mul_of_nonneg_right (by omega) (by omega)
  refine ((IsUnit.eq hb (by omega) ⟨?_, ?_, ?_⟩)).symm
  · rw [Int.mul_comm]
    exact unitF_pow.mul
  · exact Int.mul_dvd_mul (Int.dvd_refl b) unitF_dvd
  · intro q
    rw [Int.mul_assoc] at q
    exact (unitF_is hb hm).2.2 (Int.dvd_of_mul_dvd_mul_left (by omega) q)
theorem unit_one {b n : Int} (hb : 2 ≤ b) (hn : 1 ≤ n) (h : ¬ n % b = 0) : unitF b n = 1 := by
  refine ((IsUnit.eq hb hn ⟨IsPow.one b, Int.one_dvd n, ?_⟩)).symm
  rw [Int.one_mul]
  exact fun q => h (Int.emod_eq_zero_of_dvd q)
theorem par_mul {b m : Int} (hb : 2 ≤ b) (hm : 1 ≤ m) : parF b (b * m) = b * parF b m := by
  unfold parF
  rw [unit_mul hb hm, Int.mul_assoc b (unitF b m) b, Int.mul_ediv_mul_of_pos _ _ (by omega)]
  rw [Int.mul_comm b (unitF b m * b), ← Int.mul_assoc, Int.mul_comm]
/-- one digit less -/
theorem dig_par {b w : Int} (hb : 2 ≤ b) (hw : 0 ≤ w) : ∀ (k : Nat) (n p : Int), n.toNat ≤ k → 1 ≤ n → 1 ≤ p → digF b w n p = min w ((n - parF b n) * p) + digF b w (parF b n) p
  | 0, n, p, hk, hn, hp => by omega
  | k + 1, n, p, hk, hn, hp => by
    have e := Int.mul_ediv_add_emod n b
    have hm0 : min w 0 = 0 := by
      rw [Int.min_def]
      split <;> omega
    by_cases hz : n % b = 0
    · have hd := div_lt hb hn hz
      have en : n = b * (n / b) := by omega
      have ih := dig_par hb hw k (n / b) (p * b) (by omega) hd.1 (by have : p * 1 ≤ p * b := Int.mul_le_mul_of_nonneg_left (by omega) (by omega); omega)
      rw [digF_pos hb hn, hz, Int.zero_mul, ih]
      have ep : parF b n = b * parF b (n / b) := by
        have q := par_mul hb hd.1
        rw [← en] at q
        exact q
      have e1 : (n / b - parF b (n / b)) * (p * b) = (n - parF b n) * p := by
        rw [ep]
        have e3 : n - b * parF b (n / b) = b * (n / b - parF b (n / b)) := by rw [Int.mul_sub, ← en]
        rw [e3, Int.mul_comm p b, ← Int.mul_assoc, Int.mul_comm (n / b - parF b (n / b)) b]
      rw [e1, ep]
      have hp0 := parF_nonneg (b := b) (n := n / b) hb (by omega)
      by_cases hz2 : parF b (n / b) = 0
      · rw [hz2, Int.mul_zero, digF_zero (by omega), digF_zero (by omega)]
        omega
      · have hb1 : b * 1 ≤ b * parF b (n / b) := Int.mul_le_mul_of_nonneg_left (by omega) (by omega)
        rw [digF_pos (n := b * parF b (n / b)) hb (by omega), Int.mul_emod_right, Int.zero_mul, Int.mul_ediv_cancel_left _ (by omega)]
        omega
    · have eu := unit_one hb hn hz
      have ep : parF b n = b * (n / b) := by
        unfold parF
        rw [eu, Int.one_mul, Int.mul_comm]
      have hd := div_small (b := b) (n := n) hb hn
      rw [digF_pos hb hn, ep]
      have e1 : n - b * (n / b) = n % b := by omega
      rw [e1]
      congr 1
      by_cases hz2 : n / b = 0
      · rw [hz2, Int.mul_zero, digF_zero (by omega), digF_zero (by omega)]
      · have hb1 : b * 1 ≤ b * (n / b) := Int.mul_le_mul_of_nonneg_left (by omega) (by omega)
        rw [digF_pos (n := b * (n / b)) hb (by omega), Int.mul_emod_right, Int.zero_mul, Int.mul_ediv_cancel_left _ (by omega)]
        omega
theorem chain_sum' {b w : Int} (hb : 2 ≤ b) (hw : 0 ≤ w) : ∀ (k : Nat) (n : Int), n.toNat ≤ k → 0 ≤ n → ((chainF b n).map (fun m => sizeF b m w)).sum = w + digF b w n 1
  | 0, n, hk, h0 => by
    have hz : n = 0 := by omega
    subst hz
    rw [chainF_zero, digF_zero (by omega)]
    simp [sizeF]
  | k + 1, n, hk, h0 => by
    by_cases hz : n = 0
    · subst hz
      rw [chainF_zero, digF_zero (by omega)]
      simp [sizeF]
    · have hp := parF_lt (b := b) (n := n) hb (by omega)
      have hp0 := parF_nonneg (b := b) (n := n) hb h0
      rw [chainF_pos hb (by omega), List.map_cons, List.sum_cons, chain_sum' hb hw k (parF b n) (by omega) hp0, dig_par hb hw n.toNat n 1 (Nat.le_refl _) (by omega) (by omega)]
      unfold sizeF
      rw [if_neg hz, Int.mul_one]
      omega
theorem chain_sum {b w n : Int} (hb : 2 ≤ b) (hw : 1 ≤ w) (h0 : 0 ≤ n) : ((chainF b n).map (fun m => sizeF b m w)).sum = w + digF b w n 1 := chain_sum' hb (by omega) n.toNat n (Nat.le_refl _) h0
theorem chain_big {b w : Int} (hb : 2 ≤ b) : ∀ (k : Nat) (n : Int), n.toNat ≤ k → 0 ≤ n → n ≤ w → ((chainF b n).map (fun m => sizeF b m w)).sum = n + w
  | 0, n, hk, h0, hw => by
    have hz : n = 0 := by omega
    subst hz
    rw [chainF_zero]
    simp [sizeF]
  | k + 1, n, hk, h0, hw => by
    by_cases hz : n = 0
    · subst hz
      rw [chainF_zero]
      simp [sizeF]
    · have hp := parF_lt (b := b) (n := n) hb (by omega)
      have hp0 := parF_nonneg (b := b) (n := n) hb h0
      rw [chainF_pos hb (by omega), List.map_cons, List.sum_cons, chain_big hb k (parF b n) (by omega) hp0 (by omega)]
      unfold sizeF
      rw [if_neg hz, Int.min_def]
      split <;> omega
end Ma

namespace Ma
/-! ### the newest kept number up to a state -/
def newN (b f t : Int) : Nat → Int
  | 0 => 0
  | k + 1 => if keptB b f ((k : Int) + 1) t = true then (k : Int) + 1 else newN b f t k
def newF (b f s t : Int) : Int := newN b f t s.toNat
def IsNew (b f s t r : Int) : Prop := 0 ≤ r ∧ r ≤ s ∧ keptB b f r t = true ∧ ∀ n, r < n → n ≤ s → ¬ keptB b f n t = true
theorem newN_is {b f t : Int} (ht : 0 ≤ t) : ∀ k : Nat, IsNew b f k t (newN b f t k)
  | 0 => ⟨Int.le_refl _, Int.le_refl _, keptB_zero ht, fun n h1 h2 => by
    have : newN b f t 0 = 0 := rfl
    rw [this] at h1
    exfalso
    simp at h2
    omega⟩
  | k + 1 => by
    unfold newN
    by_cases h : keptB b f ((k : Int) + 1) t = true
    · rw [if_pos h]
      exact ⟨by omega, by simp, h, fun n h1 h2 => by exfalso; simp at h2; omega⟩
    · rw [if_neg h]
      obtain ⟨h1, h2, h3, h4⟩ := newN_is (b := b) (f := f) ht k
      refine ⟨h1, by simp; omega, h3, fun n q1 q2 => ?_⟩
      simp at q2
      by_cases e : n = (k : Int) + 1
      · rw [e]
        exact h
      · exact h4 n q1 (by omega)
theorem newF_is {b f s t : Int} (hs : 0 ≤ s) (ht : 0 ≤ t) : IsNew b f s t (newF b f s t) := by
  have h := newN_is (b := b) (f := f) ht s.toNat
  have e : ((s.toNat : Nat) : Int) = s := by omega
  rw [e] at h
  exact h
theorem IsNew.uniq {b f s t r q : Int} (h : IsNew b f s t r) (k : IsNew b f s t q) : r = q := by
  obtain ⟨a1, a2, a3, a4⟩ := h
  obtain ⟨b1, b2, b3, b4⟩ := k
  rcases Int.lt_trichotomy r q with h | h | h
  · exact absurd b3 (a4 q h b2)
  · exact h
  · exact absurd a3 (b4 r h a2)
theorem IsNew.eq {b f s t r : Int} (ht : 0 ≤ t) (h : IsNew b f s t r) : r = newF b f s t :=
  h.uniq (newF_is (by have := h.1; have := h.2.1; omega) ht)
theorem keptB_chain {b f n t : Int} (hn : 1 ≤ n) : (decide (0 < n) && (decide (n ≤ t) && decide (t ≤ n + f * unitF b n))) = keptB b f n t := by
  unfold keptB
  rw [decide_eq_true (show 0 < n by omega), decide_eq_false (show ¬ n = 0 by omega)]
  simp
/-! the walk through the powers -/
def downF (s u : Int) : Int := s / u * u
theorem down_le {s u : Int} (hu : 1 ≤ u) : downF s u ≤ s ∧ s < downF s u + u := by
  unfold downF
  have h1 := Int.mul_ediv_add_emod s u
  have h2 := Int.emod_nonneg s (show u ≠ 0 by omega)
  have h3 := Int.emod_lt_of_pos s (show 0 < u by omega)
  rw [Int.mul_comm] at h1
  omega
theorem down_nonneg {s u : Int} (hs : 0 ≤ s) (hu : 1 ≤ u) : 0 ≤ downF s u :=
  Int.mul_nonneg (Int.ediv_nonneg hs (by omega)) (by omega)
theorem down_dvd {s u : Int} : u ∣ downF s u := ⟨s / u, by unfold downF; rw [Int.mul_comm]⟩
theorem down_max {s u n : Int} (hu : 1 ≤ u) (hd : u ∣ n) (hn : n ≤ s) : n ≤ downF s u := by
  obtain ⟨c, rfl⟩ := hd
  unfold downF
  rw [Int.mul_comm u c] at hn ⊢
  exact Int.mul_le_mul_of_nonneg_right ((Int.le_ediv_iff_mul_le (by omega)).mpr hn) (by omega)
/-- what the loop over the first i powers has found -/
def NewI (b f s t : Int) (i : Nat) (r : Int) : Prop := 0 ≤ r ∧ r ≤ s ∧ keptB b f r t = true ∧ ∀ j : Nat, j < i → t - downF s (b ^ j) ≤ f * b ^ j → downF s (b ^ j) ≤ r
theorem NewI.zero {b f s t : Int} (hs : 0 ≤ s) (ht : 0 ≤ t) : NewI b f s t 0 0 := ⟨by omega, hs, keptB_zero ht, fun j h => absurd h (by omega)⟩
theorem down_kept {b f s t : Int} {j : Nat} (hb : 2 ≤ b) (hf : 1 ≤ f) (hs : 0 ≤ s) (hst : s ≤ t) (h : t - downF s (b ^ j) ≤ f * b ^ j) : keptB b f (downF s (b ^ j)) t = true := by
  have hu := pow_pos hb j
  have h1 := down_nonneg hs hu
  have h2 := down_le (s := s) hu
  by_cases e : downF s (b ^ j) = 0
  · rw [e]
    exact keptB_zero (by omega)
  · rw [keptB_pos (by omega) (by omega)]
    refine decide_eq_true ?_
    have h3 := (dvd_iff hb (n := downF s (b ^ j)) (by omega) ⟨j, rfl⟩).mp down_dvd
    have h4 : f * b ^ j ≤ f * unitF b (downF s (b ^ j)) := Int.mul_le_mul_of_nonneg_left h3 (by omega)
    omega
theorem NewI.yes {b f s t r : Int} {i : Nat} (hb : 2 ≤ b) (hf : 1 ≤ f) (hs : 0 ≤ s) (hst : s ≤ t) (hI : NewI b f s t i r) (h : t - downF s (b ^ i) ≤ f * b ^ i) : NewI b f s t (i + 1) (max r (downF s (b ^ i))) := by
  obtain ⟨h1, h2, h3, h4⟩ := hI
  have q1 := down_le (s := s) (pow_pos hb i)
  have q2 := down_nonneg hs (pow_pos hb i)
  have q3 := down_kept hb hf hs hst h
  refine ⟨by omega, by omega, ?_, fun j hj hk => ?_⟩
  · rcases Int.le_total r (downF s (b ^ i)) with z | z
    · rw [Int.max_eq_right z]
      exact q3
    · rw [Int.max_eq_left z]
      exact h3
  · by_cases e : j = i
    · subst e
      exact Int.le_max_right _ _
    · have := h4 j (by omega) hk
      omega
theorem NewI.no {b f s t r : Int} {i : Nat} (hI : NewI b f s t i r) (h : ¬ t - downF s (b ^ i) ≤ f * b ^ i) : NewI b f s t (i + 1) r := by
  obtain ⟨h1, h2, h3, h4⟩ := hI
  refine ⟨h1, h2, h3, fun j hj hk => ?_⟩
  by_cases e : j = i
  · subst e
    exact absurd hk h
  · exact h4 j (by omega) hk
theorem NewI.done {b f s t r : Int} {k : Nat} (hb : 2 ≤ b) (hf : 1 ≤ f) (hst : s ≤ t) (hk : s < b ^ (k + 1)) (hI : NewI b f s t (k + 1) r) : r = newF b f s t := by
  obtain ⟨h1, h2, h3, h4⟩ := hI
  refine IsNew.eq (by omega) ⟨h1, h2, h3, fun n q1 q2 q3 => ?_⟩
  obtain ⟨j, hj⟩ := unitF_pow (b := b) (n := n)
  have hle := unitF_le (b := b) (n := n) (by omega)
  rw [keptB_pos (by omega) (by omega)] at q3
  have q3 := of_decide_eq_true q3
  have hd := down_max (s := s) (unitF_pos (b := b) (n := n) hb) unitF_dvd q2
  rw [hj] at hd q3 hle
  have hlt : j < k + 1 := pow_lt_iff hb (by omega)
  have := h4 j hlt (by omega)
  omega
/-! the greatest of a list of the kept numbers -/
theorem max_new {b f s t m : Int} {ns : List Int} (h1 : m ∈ ns) (h2 : ∀ k ∈ ns, k ≤ m) (h0 : 0 ≤ m) (ht : 0 ≤ t) (hin : ∀ n, 0 ≤ n → n ≤ s → keptB b f n t = true → n ∈ ns) (hm : m ≤ s) (hk : keptB b f m t = true) : m = newF b f s t :=
  IsNew.eq ht ⟨h0, hm, hk, fun n q1 q2 q3 => by have := h2 n (hin n (by omega) q2 q3); omega⟩
theorem mem_rng {lo n : Int} {k : Nat} : n ∈ Kr.rngI lo k ↔ lo ≤ n ∧ n < lo + k := by
  unfold Kr.rngI
  simp only [List.mem_map, List.mem_range]
  constructor
  · rintro ⟨i, hi, rfl⟩
    omega
  · intro h
    exact ⟨(n - lo).toNat, by omega, by omega⟩
theorem mem_kept {b f t s m : Int} {n : Nat} : m ∈ ((Kr.rngI 0 n).filter (fun m => keptB b f m t)).filter (fun m => decide (m ≤ s)) ↔ (0 ≤ m ∧ m < n) ∧ keptB b f m t = true ∧ m ≤ s := by
  rw [List.mem_filter, List.mem_filter, mem_rng]
  simp only [decide_eq_true_eq, Int.zero_add, and_assoc]
theorem kept_some {b f t s : Int} {n : Nat} (h1 : 0 < n) (h2 : 0 ≤ s) (ht : 0 ≤ t) : 0 < (((Kr.rngI 0 n).filter (fun m => keptB b f m t)).filter (fun m => decide (m ≤ s))).length :=
  List.length_pos_of_mem (a := 0) (mem_kept.mpr ⟨by omega, keptB_zero ht, h2⟩)
theorem kept_len {b f t : Int} {n : Nat} : ((Kr.rngI 0 n).filter (fun m => keptB b f m t)).length ≤ n := by
  have := List.length_filter_le (fun m => keptB b f m t) (Kr.rngI 0 n)
  rw [Kr.rngI_len] at this
  exact this
theorem kept_max {b f t s m : Int} {n : Nat} (h2 : 0 ≤ s) (ht : 0 ≤ t) (hn : s < n) (hm : m ∈ ((Kr.rngI 0 n).filter (fun m => keptB b f m t)).filter (fun m => decide (m ≤ s))) (hM : ∀ k ∈ ((Kr.rngI 0 n).filter (fun m => keptB b f m t)).filter (fun m => decide (m ≤ s)), k ≤ m) : m = newF b f s t := by
  have h := mem_kept.mp hm
  exact max_new hm hM h.1.1 ht (fun k h0 h1 h3 => mem_kept.mpr ⟨by omega, h3, h1⟩) h.2.2 h.2.1
end Ma

set_option Elab.async false
set_option linter.all false
set_option maxRecDepth 100000
namespace Ma
/-! ### finite sums -/
def sumN (f : Nat → Int) : Nat → Int
  | 0 => 0
  | n + 1 => sumN f n + f n
theorem sumN_congr {f h : Nat → Int} : ∀ {n : Nat}, (∀ i, i < n → f i = h i) → sumN f n = sumN h n
  | 0, _ => rfl
  | n + 1, k => by rw [sumN, sumN, sumN_congr fun i hi => k i (by omega), k n (by omega)]
theorem sumN_add (f h : Nat → Int) : ∀ n : Nat, sumN (fun i => f i + h i) n = sumN f n + sumN h n
  | 0 => rfl
  | n + 1 => by rw [sumN, sumN, sumN, sumN_add f h n]; omega
theorem sumN_zero {f : Nat → Int} {n : Nat} (h : ∀ i, i < n → f i = 0) : sumN f n = 0 := by
  rw [sumN_congr (h := fun _ => 0) h]
  clear h
  induction n with
  | zero => rfl
  | succ n ih => rw [sumN, ih]; rfl
theorem sumN_swap (F : Nat → Nat → Int) (n : Nat) : ∀ m : Nat, sumN (fun i => sumN (fun j => F i j) m) n = sumN (fun j => sumN (fun i => F i j) n) m
  | 0 => by rw [sumN]; exact sumN_zero fun _ _ => rfl
  | m + 1 => by
    rw [sumN, ← sumN_swap F n m, ← sumN_add]
    exact sumN_congr fun _ _ => rfl
theorem sumN_one {f : Nat → Int} {n m : Nat} (hm : m < n) (h : ∀ i, i < n → i ≠ m → f i = 0) : sumN f n = f m := by
  induction n with
  | zero => omega
  | succ n ih =>
    rw [sumN]
    by_cases e : m = n
    · subst e
      rw [sumN_zero fun i hi => h i (by omega) (by omega)]
      omega
    · rw [ih (by omega) fun i hi hn => h i (by omega) hn, h n (by omega) (by omega)]
      omega
theorem sumN_plus (f : Nat → Int) (n : Nat) : ∀ m : Nat, sumN f (n + m) = sumN f n + sumN (fun i => f (n + i)) m
  | 0 => by rw [Nat.add_zero, sumN]; omega
  | m + 1 => by rw [← Nat.add_assoc, sumN, sumN, sumN_plus f n m]; omega
theorem sumN_le {f h : Nat → Int} : ∀ {n : Nat}, (∀ i, i < n → f i ≤ h i) → sumN f n ≤ sumN h n
  | 0, _ => Int.le_refl _
  | n + 1, k => by
    have := sumN_le (n := n) fun i hi => k i (by omega)
    have := k n (by omega)
    rw [sumN, sumN]
    omega
theorem sumN_mul (c : Int) (f : Nat → Int) : ∀ n : Nat, sumN (fun i => c * f i) n = c * sumN f n
  | 0 => by rw [sumN, sumN]; omega
  | n + 1 => by rw [sumN, sumN, sumN_mul c f n, Int.mul_add]
theorem sum_rng (f : Int → Int) (lo : Int) : ∀ n : Nat, ((Kr.rngI lo n).map f).sum = sumN (fun i => f (lo + i)) n
  | 0 => rfl
  | n + 1 => by
    have e : Kr.rngI lo (n + 1) = Kr.rngI lo n ++ [lo + (n : Int)] := by
      unfold Kr.rngI
      rw [List.range_succ, List.map_append]
      rfl
    rw [e, List.map_append, List.sum_append, sum_rng f lo n, sumN]
    simp
/-! ### sizes of digits -/
theorem div_is {n u q : Int} (hu : 0 < u) (h1 : q * u ≤ n) (h2 : n < q * u + u) : n / u = q := by
  have h3 : q ≤ n / u := (Int.le_ediv_iff_mul_le hu).mpr h1
  have h4 : n / u < q + 1 := (Int.ediv_lt_iff_lt_mul hu).mpr (by rw [Int.add_mul]; omega)
  omega
def tri : Nat → Int
  | 0 => 0
  | n + 1 => tri n + (n + 1)
theorem tri_eq : ∀ n : Nat, (n : Int) * (n + 1) = 2 * tri n
  | 0 => rfl
  | n + 1 => by
    have := tri_eq n
    rw [tri]
    have e : ((n + 1 : Nat) : Int) = n + 1 := by omega
    rw [e]
    grind
/-- the sum of min w (d * u) for d from 1 to m -/
def dsum (u w : Int) (m : Nat) : Int := sumN (fun d => min w (((d : Int) + 1) * u)) m
theorem dsum_small {u w : Int} (hu : 1 ≤ u) : ∀ m : Nat, (m : Int) * u ≤ w → dsum u w m = u * tri m
  | 0, _ => by rw [dsum, sumN, tri]; omega
  | m + 1, h => by
    have e : ((m + 1 : Nat) : Int) = m + 1 := by omega
    rw [e, Int.add_mul] at h
    have h2 : (m : Int) * u ≤ w := by omega
    have ih := dsum_small hu m h2
    unfold dsum at *
    rw [sumN, ih, tri, Int.mul_add, Int.min_eq_right (by rw [Int.add_mul]; omega)]
    grind
theorem dsum_split {u w : Int} {s : Nat} (hu : 1 ≤ u) (hs : w < ((s : Int) + 1) * u) : ∀ m : Nat, dsum u w (s + m) = dsum u w s + m * w
  | 0 => by rw [Nat.add_zero]; omega
  | m + 1 => by
    have ih := dsum_split hu hs m
    unfold dsum at *
    rw [← Nat.add_assoc, sumN, ih]
    have h1 : ((s : Int) + 1) * u ≤ (((s + m : Nat) : Int) + 1) * u := Int.mul_le_mul_of_nonneg_right (by omega) (by omega)
    rw [Int.min_eq_left (by omega)]
    have e : ((m + 1 : Nat) : Int) = m + 1 := by omega
    rw [e, Int.add_mul]
    omega
theorem digits_eq {u w m : Int} (hu : 1 ≤ u) (hw : 0 ≤ w) (hm : 0 ≤ m) : u * min m (w / u) * (min m (w / u) + 1) / 2 + (m - min m (w / u)) * w = dsum u w m.toNat := by
  have hq0 : 0 ≤ w / u := Int.ediv_nonneg hw (by omega)
  have e0 := Int.mul_ediv_add_emod w u
  have e1 := Int.emod_nonneg w (show u ≠ 0 by omega)
  have e2 := Int.emod_lt_of_pos w (show 0 < u by omega)
  obtain ⟨s, hs⟩ : ∃ s : Nat, (s : Int) = min m (w / u) := ⟨(min m (w / u)).toNat, by omega⟩
  rw [← hs]
  have ht := tri_eq s
  have e3 : u * (s : Int) * ((s : Int) + 1) = 2 * (u * tri s) := by grind
  rw [e3, Int.mul_ediv_cancel_left _ (by decide)]
  have hsu : (s : Int) * u ≤ w := by
    have : (s : Int) * u ≤ (w / u) * u := Int.mul_le_mul_of_nonneg_right (by omega) (by omega)
    rw [Int.mul_comm (w / u)] at this
    omega
  rw [← dsum_small hu s hsu]
  by_cases h : m ≤ w / u
  · have e : (s : Int) = m := by omega
    rw [show m.toNat = s by omega, e]
    simp
  · have e : (s : Int) = w / u := by omega
    have hlt : w < ((s : Int) + 1) * u := by rw [e, Int.add_mul, Int.mul_comm]; omega
    have := dsum_split hu hlt (m.toNat - s)
    rw [show s + (m.toNat - s) = m.toNat by omega] at this
    rw [this, show ((m.toNat - s : Nat) : Int) = m - s by omega]
/-- the sum of min w (k % b * u) for k from 1 to c -/
def usum (b u w : Int) (c : Nat) : Int := sumN (fun k => min w ((((k : Int) + 1) % b) * u)) c
theorem dsum_succ (u w : Int) (m : Nat) : dsum u w (m + 1) = dsum u w m + min w (((m : Int) + 1) * u) := rfl
theorem usum_eq {b u w : Int} (hb : 2 ≤ b) (hw : 0 ≤ w) : ∀ c : Nat, usum b u w c = ((c : Int) / b) * dsum u w (b - 1).toNat + dsum u w ((c : Int) % b).toNat
  | 0 => by
    rw [show ((0 : Nat) : Int) = 0 from rfl, Int.zero_ediv, Int.zero_emod]
    simp [usum, dsum, sumN]
  | c + 1 => by
    have ih := usum_eq (u := u) hb hw c
    have hus : usum b u w (c + 1) = usum b u w c + min w ((((c : Int) + 1) % b) * u) := rfl
    rw [hus, ih]
    have e0 := Int.mul_ediv_add_emod (c : Int) b
    have e1 := Int.emod_nonneg (c : Int) (show b ≠ 0 by omega)
    have e2 := Int.emod_lt_of_pos (c : Int) (show 0 < b by omega)
    have ec : ((c + 1 : Nat) : Int) = c + 1 := by omega
    rw [ec]
    by_cases h : (c : Int) % b = b - 1
    · have hq : ((c : Int) + 1) / b = (c : Int) / b + 1 := div_is (by omega) (by rw [Int.add_mul, Int.mul_comm]; omega) (by rw [Int.add_mul, Int.mul_comm]; omega)
      have hr : ((c : Int) + 1) % b = 0 := by
        have := Int.mul_ediv_add_emod ((c : Int) + 1) b
        rw [hq, Int.mul_add] at this
        omega
      rw [hq, hr, h, Int.add_mul]
      have : min w (0 * u) = 0 := by rw [Int.zero_mul]; omega
      rw [this, show (0 : Int).toNat = 0 from rfl]
      have : dsum u w 0 = 0 := rfl
      rw [this]
      omega
    · have hq : ((c : Int) + 1) / b = (c : Int) / b := div_is (by omega) (by rw [Int.mul_comm]; omega) (by rw [Int.mul_comm]; omega)
      have hr : ((c : Int) + 1) % b = (c : Int) % b + 1 := by
        have := Int.mul_ediv_add_emod ((c : Int) + 1) b
        rw [hq] at this
        omega
      rw [hq, hr, show ((c : Int) % b + 1).toNat = ((c : Int) % b).toNat + 1 by omega, dsum_succ, show ((((c : Int) % b).toNat : Nat) : Int) = (c : Int) % b by omega]
      omega
/-- what the place of a unit tells of a number -/
def cF (b u w n : Int) : Int := if u ∣ n then min w ((n / u % b) * u) else 0
theorem usum_step {b u w n : Int} (hb : 2 ≤ b) (hu : 1 ≤ u) (hn : 0 ≤ n) : usum b u w ((n + 1) / u).toNat = usum b u w (n / u).toNat + cF b u w (n + 1) := by
  have e0 := Int.mul_ediv_add_emod n u
  have e1 := Int.emod_nonneg n (show u ≠ 0 by omega)
  have e2 := Int.emod_lt_of_pos n (show 0 < u by omega)
  have hq0 : 0 ≤ n / u := Int.ediv_nonneg hn (by omega)
  unfold cF
  by_cases h : u ∣ n + 1
  · rw [if_pos h]
    have h1 : n % u = u - 1 := by
      have h2 := Int.emod_eq_zero_of_dvd h
      rcases Int.lt_or_le (n % u) (u - 1) with q | q
      · have h3 : (n + 1) % u = n % u + 1 := by
          have := (Int.ediv_emod_unique (a := n + 1) (b := u) (r := n % u + 1) (q := n / u) (by omega)).mpr ⟨by omega, by omega, by omega⟩
          exact this.2
        omega
      · omega
    have hq : (n + 1) / u = n / u + 1 := div_is (by omega) (by rw [Int.add_mul, Int.mul_comm]; omega) (by rw [Int.add_mul, Int.mul_comm]; omega)
    rw [hq, show (n / u + 1).toNat = (n / u).toNat + 1 by omega]
    show usum b u w (n / u).toNat + min w (((((n / u).toNat : Nat) : Int) + 1) % b * u) = _
    rw [show (((n / u).toNat : Nat) : Int) = n / u by omega]
  · rw [if_neg h]
    have h1 : n % u < u - 1 := by
      rcases Int.lt_or_le (n % u) (u - 1) with q | q
      · exact q
      · exact absurd ⟨n / u + 1, by rw [Int.mul_add]; omega⟩ h
    have hq : (n + 1) / u = n / u := div_is (by omega) (by rw [Int.mul_comm]; omega) (by rw [Int.mul_comm]; omega)
    rw [hq]
    omega
theorem usum_sum {b u w lo : Int} (hb : 2 ≤ b) (hu : 1 ≤ u) (hl : 0 ≤ lo) : ∀ n : Nat, sumN (fun i => cF b u w (lo + 1 + i)) n = usum b u w ((lo + n) / u).toNat - usum b u w (lo / u).toNat
  | 0 => by
    rw [sumN, show ((0 : Nat) : Int) = 0 from rfl, Int.add_zero]
    omega
  | n + 1 => by
    rw [sumN, usum_sum hb hu hl n, show lo + ((n + 1 : Nat) : Int) = lo + n + 1 by omega, usum_step hb hu (by omega), show lo + 1 + (n : Int) = lo + n + 1 by omega]
    omega
theorem cF_unit {b w n : Int} (hb : 2 ≤ b) (hn : 1 ≤ n) : cF b (unitF b n) w n = sizeF b n w := by
  unfold cF sizeF
  rw [if_pos unitF_dvd, if_neg (by omega)]
  congr 1
  have hu := unitF_pos (n := n) hb
  obtain ⟨k, hk⟩ := unitF_dvd (b := b) (n := n)
  unfold parF
  have e1 : n / unitF b n = k := div_is (by omega) (by rw [Int.mul_comm, ← hk]; exact Int.le_refl _) (by rw [Int.mul_comm, ← hk]; omega)
  have e2 : n / (unitF b n * b) = k / b := by
    rw [← Int.ediv_ediv_of_nonneg (by omega), e1]
  rw [e1, e2]
  have e3 := Int.mul_ediv_add_emod k b
  generalize unitF b n = u at *
  rw [hk]
  grind
theorem cF_other {b u w n : Int} (hb : 2 ≤ b) (hn : 1 ≤ n) (hw : 0 ≤ w) (hp : IsPow b u) (h : u ≠ unitF b n) : cF b u w n = 0 := by
  unfold cF
  by_cases hd : u ∣ n
  · rw [if_pos hd]
    have hle := (dvd_iff hb hn hp).mp hd
    have hu := hp.pos hb
    have h2 := hp.next hb (unitF_pow (b := b) (n := n)) (by omega)
    have h3 : u * b ∣ n := (dvd_iff hb hn hp.mul).mpr h2
    obtain ⟨k, hk⟩ := h3
    have e : n / u % b = 0 := by
      rw [hk, Int.mul_assoc, Int.mul_ediv_cancel_left _ (by omega)]
      exact Int.mul_emod_right b k
    rw [e, Int.zero_mul]
    omega
  · rw [if_neg hd]
theorem unit_exp {b n : Int} {k : Nat} (hb : 2 ≤ b) (hn : 1 ≤ n) (h : n < b ^ (k + 1)) : ∃ m, m < k + 1 ∧ unitF b n = b ^ m := by
  obtain ⟨m, hm⟩ := unitF_pow (b := b) (n := n)
  refine ⟨m, ?_, hm⟩
  have := unitF_le (b := b) hn
  exact pow_lt_iff hb (by omega)
/-- with a condition on the unit -/
theorem cF_sumP {b w n : Int} {k : Nat} (p : Int → Bool) (hb : 2 ≤ b) (hn : 1 ≤ n) (hw : 0 ≤ w) (h : n < b ^ (k + 1)) : sumN (fun j => if p (b ^ j) then cF b (b ^ j) w n else 0) (k + 1) = if p (unitF b n) then sizeF b n w else 0 := by
  obtain ⟨m, hm, e⟩ := unit_exp hb hn h
  rw [sumN_one hm fun i hi hne => ?_]
  · rw [← e, cF_unit hb hn]
  · rw [cF_other hb hn hw ⟨i, rfl⟩ (fun q => hne (pow_inj hb (by rw [q, e])))]
    split <;> rfl
theorem cF_sum {b w n : Int} {k : Nat} (hb : 2 ≤ b) (hn : 1 ≤ n) (hw : 0 ≤ w) (h : n < b ^ (k + 1)) : sumN (fun j => cF b (b ^ j) w n) (k + 1) = sizeF b n w := cF_sumP (fun _ => true) hb hn hw h
/-- a level's share of a range -/
def levF (b u w first last : Int) : Int := if last < max first 1 then 0 else usum b u w (last / u).toNat - usum b u w ((max first 1 - 1) / u).toNat
theorem levF_sum {b u w first last : Int} (hb : 2 ≤ b) (hu : 1 ≤ u) : levF b u w first last = sumN (fun i => cF b u w (max first 1 + i)) (last - max first 1 + 1).toNat := by
  unfold levF
  split
  · rw [show (last - max first 1 + 1).toNat = 0 by omega]
    rfl
  · have := usum_sum (w := w) hb hu (lo := max first 1 - 1) (by omega) (last - max first 1 + 1).toNat
    rw [show max first 1 - 1 + (((last - max first 1 + 1).toNat : Nat) : Int) = last by omega] at this
    rw [← this]
    exact sumN_congr fun i _ => by rw [show max first 1 - 1 + 1 + (i : Int) = max first 1 + i by omega]
/-- the sizes of a range -/
def rangeF (b w first after : Int) : Int := sumN (fun i => sizeF b (first + i) w) (after - first).toNat
theorem range_levels {b w first after : Int} {k : Nat} (hb : 2 ≤ b) (hw : 0 ≤ w) (h0 : 0 ≤ first) (h1 : first ≤ after) (hk : after < b ^ (k + 1)) :
    (if first = 0 ∧ 0 < after then w else 0) + sumN (fun j => levF b (b ^ j) w first (after - 1)) (k + 1) = rangeF b w first after := by
  rw [sumN_congr (h := fun j => sumN (fun i => cF b (b ^ j) w (max first 1 + i)) (after - 1 - max first 1 + 1).toNat) fun j _ => levF_sum hb (pow_pos hb j), ← sumN_swap]
  rw [sumN_congr (h := fun i => sizeF b (max first 1 + i) w) fun i hi => cF_sum hb (by omega) hw (by omega)]
  unfold rangeF
  by_cases h : first = 0
  · subst h
    by_cases h2 : after = 0
    · subst h2
      rw [if_neg (by omega), show ((0 : Int) - 1 - max 0 1 + 1).toNat = 0 by omega, show ((0 : Int) - 0).toNat = 0 by omega]
      rfl
    · rw [if_pos (by omega), show (after - 0).toNat = 1 + (after - 1).toNat by omega, sumN_plus, show max (0 : Int) 1 = 1 from rfl, show (after - 1 - 1 + 1).toNat = (after - 1).toNat by omega]
      have e : sumN (fun i => sizeF b (0 + (i : Int)) w) 1 = w := by
        simp [sumN, sizeF]
      rw [e]
      congr 1
      exact sumN_congr fun i _ => by rw [show (0 : Int) + ((1 + i : Nat) : Int) = 1 + i by omega]
  · rw [if_neg (by omega), show max first 1 = first by omega, show (after - 1 - first + 1).toNat = (after - first).toNat by omega]
    omega
theorem range_add {b w x y z : Int} (h1 : x ≤ y) (h2 : y ≤ z) : rangeF b w x y + rangeF b w y z = rangeF b w x z := by
  unfold rangeF
  rw [show (z - x).toNat = (y - x).toNat + (z - y).toNat by omega, sumN_plus]
  congr 1
  exact sumN_congr fun i _ => by rw [show x + (((y - x).toNat + i : Nat) : Int) = y + i by omega]
/-- the sizes of what is kept -/
def spaceF (b f w t : Int) : Int := w + sumN (fun i => if keptB b f (1 + i) t then sizeF b (1 + i) w else 0) t.toNat
theorem space_levels {b f w t : Int} {k : Nat} (hb : 2 ≤ b) (hf : 1 ≤ f) (hw : 0 ≤ w) (ht : 0 ≤ t) (hk : t < b ^ (k + 1)) : w + sumN (fun j => levF b (b ^ j) w (t - f * b ^ j) t) (k + 1) = spaceF b f w t := by
  unfold spaceF
  congr 1
  have key : ∀ j : Nat, levF b (b ^ j) w (t - f * b ^ j) t = sumN (fun i => if decide (t ≤ (1 + i) + f * b ^ j) then cF b (b ^ j) w (1 + i) else 0) t.toNat := fun j => by
    have hp := pow_pos hb j
    have hfp : 1 * b ^ j ≤ f * b ^ j := Int.mul_le_mul_of_nonneg_right hf (by omega)
    rw [levF_sum hb hp]
    by_cases h : t = 0
    · subst h
      rw [show (0 - max (0 - f * b ^ j) 1 + 1).toNat = 0 by omega]
      rfl
    · have hm : max (t - f * b ^ j) 1 ≤ t := by omega
      rw [show t.toNat = (max (t - f * b ^ j) 1 - 1).toNat + (t - max (t - f * b ^ j) 1 + 1).toNat by omega, sumN_plus, sumN_zero (n := (max (t - f * b ^ j) 1 - 1).toNat), Int.zero_add]
      · refine sumN_congr fun i hi => ?_
        rw [if_pos (by rw [decide_eq_true_eq]; omega), show 1 + (((max (t - f * b ^ j) 1 - 1).toNat + i : Nat) : Int) = max (t - f * b ^ j) 1 + i by omega]
      · intro i hi
        rw [if_neg (by rw [decide_eq_true_eq]; omega)]
  rw [sumN_congr fun j _ => key j, ← sumN_swap]
  refine sumN_congr fun i hi => ?_
  rw [cF_sumP (fun u => decide (t ≤ (1 + i) + f * u)) hb (by omega) hw (by omega), keptB_pos (by omega) (by omega)]
end Ma
namespace Ma
theorem dsum_bd {u w : Int} (hu : 1 ≤ u) (hw : 0 ≤ w) : ∀ m : Nat, 0 ≤ dsum u w m ∧ dsum u w m ≤ m * w
  | 0 => by simp [dsum, sumN]
  | m + 1 => by
    have ih := dsum_bd hu hw m
    have hp : 0 ≤ ((m : Int) + 1) * u := Int.mul_nonneg (by omega) (by omega)
    have e : ((m + 1 : Nat) : Int) * w = m * w + w := by rw [show ((m + 1 : Nat) : Int) = m + 1 by omega, Int.add_mul, Int.one_mul]
    rw [dsum_succ, e]
    generalize ((m : Int) + 1) * u = z at *
    omega
theorem dsum_big {u w m : Int} (hu : 1 ≤ u) (hw : 0 ≤ w) (hm : 0 ≤ m) (hm2 : m ≤ 1000) : 0 ≤ dsum u w m.toNat ∧ dsum u w m.toNat ≤ 1000 * w := by
  have h := dsum_bd hu hw m.toNat
  have : ((m.toNat : Nat) : Int) * w ≤ 1000 * w := Int.mul_le_mul_of_nonneg_right (by omega) hw
  omega
theorem up_to_eq {b u w last : Int} (hb : 2 ≤ b) (hw : 0 ≤ w) (hu : 1 ≤ u) (hl : 0 ≤ last) : last / u / b * dsum u w (b - 1).toNat + dsum u w (last / u % b).toNat = usum b u w (last / u).toNat := by
  have h := usum_eq (u := u) hb hw (last / u).toNat
  have hq : 0 ≤ last / u := Int.ediv_nonneg hl (by omega)
  rw [show (((last / u).toNat : Nat) : Int) = last / u by omega] at h
  exact h.symm
theorem levF_zero {b u w first last : Int} (h : last < max first 1) : levF b u w first last = 0 := if_pos h
theorem levF_some {b u w first last : Int} (h : ¬ last < max first 1) : levF b u w first last = usum b u w (last / u).toNat - usum b u w ((max first 1 - 1) / u).toNat := if_neg h
end Ma
namespace Ma
/-! ### for law k50 -/
theorem k50_sum {b w x y : Int} {n : Nat} (h : n = (y - x).toNat) : ((Kr.rngI x n).map (fun m => sizeF b m w)).sum = rangeF b w x y := by
  rw [sum_rng, h]
  rfl
/-- the sizes of the digits from 1 to b - 1 -/
theorem k50_digits {b u w : Int} {n : Nat} (h : n = (b - 1).toNat) : ((Kr.rngI 1 n).map (fun d => min w (d * u))).sum = dsum u w (b - 1).toNat := by
  rw [sum_rng, h]
  unfold dsum
  exact sumN_congr fun i _ => by rw [Int.add_comm]
def blockF (b w : Int) (D : Nat) (i : Nat) : Int := sumN (fun j => dsum (b ^ j) w (b - 1).toNat * b ^ (D - 1 - j)) i
theorem lev_block {b w : Int} {D j : Nat} (hb : 2 ≤ b) (hw : 0 ≤ w) (hj : j < D) : levF b (b ^ j) w 0 (b ^ D - 1) = dsum (b ^ j) w (b - 1).toNat * b ^ (D - 1 - j) := by
  have hp := pow_pos hb j
  have hpD := pow_lt hb hj
  have e1 : b ^ D = b ^ (D - 1 - j) * b * b ^ j := by
    rw [← Int.pow_succ, ← Int.pow_add]
    congr 1
    omega
  have hr := pow_pos hb (D - 1 - j)
  rw [levF_some (by omega), show max (0 : Int) 1 - 1 = 0 from rfl, Int.zero_ediv]
  have hu0 : usum b (b ^ j) w (0 : Int).toNat = 0 := rfl
  have e2 : (b ^ D - 1) / b ^ j = b ^ (D - 1 - j) * b - 1 := div_is (by omega) (by rw [Int.sub_mul, ← e1]; omega) (by rw [Int.sub_mul, ← e1]; omega)
  have hrb : b ^ (D - 1 - j) * 2 ≤ b ^ (D - 1 - j) * b := Int.mul_le_mul_of_nonneg_left hb (by omega)
  rw [hu0, e2, usum_eq hb hw]
  generalize hR : b ^ (D - 1 - j) = R at *
  rw [show (((R * b - 1).toNat : Nat) : Int) = R * b - 1 by omega]
  have e3 : (R * b - 1) / b = R - 1 := div_is (by omega) (by rw [Int.sub_mul]; omega) (by rw [Int.sub_mul]; omega)
  have e4 : (R * b - 1) % b = b - 1 := by
    have := Int.mul_ediv_add_emod (R * b - 1) b
    rw [e3, Int.mul_sub, Int.mul_comm b R] at this
    omega
  rw [e3, e4]
  grind
theorem k50_block {b w : Int} {D : Nat} (hb : 2 ≤ b) (hw : 0 ≤ w) : rangeF b w 0 (b ^ D) = w + blockF b w D D := by
  have hp := pow_pos hb D
  rw [← range_levels (k := D) hb hw (by omega) (by omega) (pow_lt hb (by omega)), if_pos (by omega), sumN]
  unfold blockF
  rw [sumN_congr fun j hj => lev_block hb hw hj]
  have e : levF b (b ^ D) w 0 (b ^ D - 1) = 0 := by
    rw [levF_sum hb hp, sumN_zero fun i hi => ?_]
    unfold cF
    rw [if_neg]
    intro hd
    have := Int.le_of_dvd (by omega) hd
    omega
  omega
theorem range_none {b w x : Int} : rangeF b w x x = 0 := by
  unfold rangeF
  rw [Int.sub_self]
  rfl
end Ma
namespace Ma
theorem k50_turn {b w d z t : Int} {i n : Nat} (hz : z = 0 + (i : Int)) (hd : i < d.toNat) (hn : n = (b - 1).toNat) (h : t = blockF b w d.toNat i) : t + ((Kr.rngI 1 n).map (fun x => min w (x * b ^ z.toNat))).sum * b ^ (d - 1 - z).toNat = blockF b w d.toNat (i + 1) := by
  rw [k50_digits hn, h, show z.toNat = i by omega, show (d - 1 - z).toNat = d.toNat - 1 - i by omega]
  rfl
end Ma
namespace Ma
/-! ### the space by the size of a full one -/
theorem sizeF_mono {b n w v : Int} (h : w ≤ v) : sizeF b n w ≤ sizeF b n v := by
  unfold sizeF
  split <;> omega
theorem sizeF_bd {b n w : Int} (hb : 2 ≤ b) (hn : 0 ≤ n) (hw : 0 ≤ w) : 0 ≤ sizeF b n w ∧ sizeF b n w ≤ w := by
  unfold sizeF
  split
  · omega
  · have := parF_lt (b := b) (n := n) hb (by omega)
    omega
theorem space_mono {b f w v t : Int} (h : w ≤ v) : spaceF b f w t ≤ spaceF b f v t := by
  unfold spaceF
  have := sumN_le (n := t.toNat) (f := fun i => if keptB b f (1 + i) t then sizeF b (1 + i) w else 0) (h := fun i => if keptB b f (1 + i) t then sizeF b (1 + i) v else 0) fun i _ => by
    split
    · exact sizeF_mono h
    · omega
  omega
theorem sumN_bd {f : Nat → Int} {w : Int} : ∀ {n : Nat}, (∀ i, i < n → 0 ≤ f i ∧ f i ≤ w) → 0 ≤ sumN f n ∧ sumN f n ≤ n * w
  | 0, _ => by simp [sumN]
  | n + 1, h => by
    have ih := sumN_bd (n := n) fun i hi => h i (by omega)
    have := h n (by omega)
    have e : ((n + 1 : Nat) : Int) * w = n * w + w := by rw [show ((n + 1 : Nat) : Int) = n + 1 by omega, Int.add_mul, Int.one_mul]
    rw [sumN, e]
    omega
theorem space_bd {b f w t : Int} (hb : 2 ≤ b) (hw : 0 ≤ w) (ht : 0 ≤ t) : w ≤ spaceF b f w t ∧ spaceF b f w t ≤ w + t * w := by
  unfold spaceF
  have := sumN_bd (w := w) (n := t.toNat) (f := fun i => if keptB b f (1 + i) t then sizeF b (1 + i) w else 0) fun i _ => by
    have := sizeF_bd (b := b) (n := 1 + i) (w := w) hb (by omega) hw
    split
    · exact this
    · omega
  rw [show ((t.toNat : Nat) : Int) = t by omega] at this
  omega
theorem space_zero {b f w : Int} : spaceF b f w 0 = w := by
  unfold spaceF
  rw [show (0 : Int).toNat = 0 from rfl, sumN]
  omega
end Ma
namespace Ma
theorem full_uniq {b f t m n k : Int} (h1 : spaceF b f n t ≤ m) (h2 : m < spaceF b f (n + 1) t) (h3 : spaceF b f k t ≤ m) (h4 : m < spaceF b f (k + 1) t) : n = k := by
  rcases Int.lt_trichotomy n k with h | h | h
  · have := space_mono (b := b) (f := f) (t := t) (show n + 1 ≤ k by omega)
    omega
  · exact h
  · have := space_mono (b := b) (f := f) (t := t) (show k + 1 ≤ n by omega)
    omega
end Ma

namespace Ma
/-! ### losses -/
def lossF (b f t age : Int) : Int := t - age - newF b f (t - age) t
theorem fmul {f u : Int} : f * u = (f - 1) * u + u := by
  have h : (f - 1 + 1) * u = (f - 1) * u + 1 * u := Int.add_mul _ _ _
  rw [Int.sub_add_cancel, Int.one_mul] at h
  exact h
theorem loss_le {b f t age v : Int} (hb : 2 ≤ b) (hf : 1 ≤ f) (hv : IsPow b v) (ha : age ≤ (f - 1) * v + 1) (h0 : 0 ≤ age) (ht : age ≤ t) : lossF b f t age ≤ v - 1 := by
  unfold lossF
  obtain ⟨j, rfl⟩ := hv
  have hu := pow_pos hb j
  have h1 := down_le (s := t - age) hu
  have h2 := down_nonneg (s := t - age) (by omega) hu
  have hn := newF_is (b := b) (f := f) (s := t - age) (t := t) (by omega) (by omega)
  have e := fmul (f := f) (u := b ^ j)
  have hk := down_kept (b := b) (f := f) (s := t - age) (t := t) (j := j) hb hf (by omega) (by omega) (by omega)
  rcases Int.lt_or_le (newF b f (t - age) t) (downF (t - age) (b ^ j)) with q | q
  · exact absurd hk (hn.2.2.2 _ q h1.1)
  · omega
theorem loss_nonneg {b f t age : Int} (h0 : 0 ≤ age) (ht : age ≤ t) : 0 ≤ lossF b f t age := by
  have hn := newF_is (b := b) (f := f) (s := t - age) (t := t) (by omega) (by omega)
  unfold lossF
  have := hn.2.1
  omega
theorem loss_at {b f age v : Int} (hb : 2 ≤ b) (hf : 1 ≤ f) (hv : IsPow b v) (h0 : 0 ≤ age) (hm : ∀ u, IsPow b u → u < v → (f - 1) * u + 1 < age) : newF b f (v - 1) (age + v - 1) = 0 := by
  have hv1 := hv.pos hb
  refine (IsNew.eq (by omega) ⟨by omega, by omega, keptB_zero (by omega), fun n q1 q2 q3 => ?_⟩).symm
  have hu := unitF_pos (b := b) (n := n) hb
  have hle := unitF_le (b := b) (n := n) (by omega)
  have hd := unitF_dvd (b := b) (n := n)
  have hp := unitF_pow (b := b) (n := n)
  have hvd := pow_dvd hb hp hv (by omega)
  have h1 := Int.le_of_dvd (show 0 < v - n by omega) (Int.dvd_sub hvd hd)
  have h2 := hm _ hp (by omega)
  have e := fmul (f := f) (u := unitF b n)
  rw [keptB_pos (by omega) (by omega)] at q3
  have q3 := of_decide_eq_true q3
  omega
theorem loss_at' {b f age v : Int} (hb : 2 ≤ b) (hf : 1 ≤ f) (hv : IsPow b v) (h0 : 0 ≤ age) (hm : ∀ u, IsPow b u → u < v → (f - 1) * u + 1 < age) : lossF b f (age + v - 1) age = v - 1 := by
  unfold lossF
  have e : age + v - 1 - age = v - 1 := by omega
  rw [e, loss_at hb hf hv h0 hm]
  omega
theorem IsSafe.below {b f age v : Int} (h : IsSafe b f age v) : ∀ u, IsPow b u → u < v → (f - 1) * u + 1 < age := fun u hu hlt => by
  rcases Int.lt_or_le ((f - 1) * u + 1) age with q | q
  · exact q
  · have := h.2.2 u hu q
    omega
/-- the greatest of the losses at the times up to 100 -/
theorem k19_pow {b : Int} (h1 : 2 ≤ b) (h2 : b ≤ 4) : ∃ v, IsPow b v ∧ 61 ≤ v ∧ v ≤ 81 := by
  have h : b = 2 ∨ b = 3 ∨ b = 4 := by omega
  rcases h with rfl | rfl | rfl
  · exact ⟨64, ⟨6, by decide⟩, by decide, by decide⟩
  · exact ⟨81, ⟨4, by decide⟩, by decide, by decide⟩
  · exact ⟨64, ⟨3, by decide⟩, by decide, by decide⟩
theorem k19_due {b f y v m : Int} {n : Nat} (h1 : 2 ≤ b) (h2 : b ≤ 4) (hf : 1 ≤ f) (h0 : 0 ≤ y) (hy : y ≤ 12) (hn : y + n = 101) (hs : IsSafe b f y (v + 1))
    (hm : m ∈ (Kr.rngI y n).map (fun t => lossF b f t y)) (hM : ∀ k ∈ (Kr.rngI y n).map (fun t => lossF b f t y), k ≤ m) : v = m := by
  obtain ⟨t, ht, rfl⟩ := List.mem_map.mp hm
  have ht := mem_rng.mp ht
  have hu := loss_le (t := t) h1 hf hs.1 hs.2.1 h0 ht.1
  have hv : v + 1 ≤ 81 := by
    rcases Int.lt_or_le 1 f with q | q
    · obtain ⟨u, hp, q1, q2⟩ := k19_pow h1 h2
      have h3 : 1 * u ≤ (f - 1) * u := Int.mul_le_mul_of_nonneg_right (by omega) (by omega)
      have := hs.2.2 u hp (by omega)
      omega
    · obtain rfl : f = 1 := by omega
      have h3 := hs.2.1
      simp at h3
      have := hs.2.2 1 (IsPow.one b) (by simp; omega)
      omega
  have hv0 := hs.1.pos h1
  have ha := loss_at' h1 hf hs.1 h0 hs.below
  have := hM _ (List.mem_map.mpr ⟨y + (v + 1) - 1, mem_rng.mpr ⟨by omega, by omega⟩, rfl⟩)
  rw [ha] at this
  omega
theorem k19_inf {b y m : Int} {n : Nat} (h1 : 2 ≤ b) (h2 : b ≤ 4) (h0 : 2 ≤ y) (hy : y ≤ 12) (hn : y + n = 101)
    (hM : ∀ k ∈ (Kr.rngI y n).map (fun t => lossF b 1 t y), k ≤ m) : 60 ≤ m := by
  obtain ⟨v, hp, q1, q2⟩ := k19_pow h1 h2
  have ha := loss_at' (b := b) (f := 1) (age := y) h1 (by decide) hp (by omega) (fun u hu hl => by simp; omega)
  have := hM _ (List.mem_map.mpr ⟨y + v - 1, mem_rng.mpr ⟨by omega, by omega⟩, rfl⟩)
  rw [ha] at this
  omega
end Ma

namespace Ma
/-! ### for law k20 -/
theorem top_ex {b : Int} (hb : 2 ≤ b) : ∀ (k : Nat) (x : Int), 1 ≤ x → x.toNat ≤ k → ∃ u, IsTop b x u
  | 0, x, h1, h2 => by omega
  | k + 1, x, h1, h2 => by
    rcases Int.lt_or_le x b with h | h
    · exact ⟨1, IsPow.one b, h1, by omega⟩
    · have e := Int.mul_ediv_add_emod x b
      have m1 := Int.emod_nonneg x (show b ≠ 0 by omega)
      have m2 := Int.emod_lt_of_pos x (show 0 < b by omega)
      have q1 : 1 ≤ x / b := (Int.le_ediv_iff_mul_le (by omega)).mpr (by omega)
      have q2 : 2 * (x / b) ≤ b * (x / b) := Int.mul_le_mul_of_nonneg_right hb (by omega)
      obtain ⟨u, hp, h3, h4⟩ := top_ex hb k (x / b) q1 (by omega)
      refine ⟨u * b, hp.mul, ?_, ?_⟩
      · have := Int.mul_le_mul_of_nonneg_right h3 (show 0 ≤ b by omega)
        rw [Int.mul_comm (x / b) b] at this
        omega
      · have := Int.mul_le_mul_of_nonneg_right (show x / b + 1 ≤ u * b by omega) (show 0 ≤ b by omega)
        rw [Int.add_mul, Int.mul_comm (x / b) b] at this
        omega
theorem safe_small {b f y v : Int} (hb : 2 ≤ b) (hb2 : b ≤ 1000) (hf : 1 ≤ f) (hy : 0 ≤ y) (h : IsSafe b f y v) : v ≤ 1000 * y + 1000 := by
  rcases Int.lt_or_le 1 y with h1 | h1
  · rcases Int.lt_or_le 1 f with q | q
    · obtain ⟨u, hp, h3, h4⟩ := top_ex hb _ y (by omega) (Nat.le_refl _)
      have hu := hp.pos hb
      have a1 : 1 * (u * b) ≤ (f - 1) * (u * b) := Int.mul_le_mul_of_nonneg_right (by omega) (Int.mul_nonneg (by omega) (by omega))
      have a2 := h.2.2 _ hp.mul (by omega)
      have a3 : u * b ≤ u * 1000 := Int.mul_le_mul_of_nonneg_left hb2 (by omega)
      omega
    · obtain rfl : f = 1 := by omega
      have := h.2.1
      simp at this
      omega
  · have a1 : 0 * 1 ≤ (f - 1) * 1 := Int.mul_le_mul_of_nonneg_right (by omega) (by decide)
    have := h.2.2 1 (IsPow.one b) (by omega)
    omega
/-- the first powers -/
def powJ (b : Int) (k : Nat) : List Int := (List.range k).map fun i => b ^ i
theorem powJ_succ (b : Int) (k : Nat) : (powJ b (k + 1)).map (α := Int) (β := Int) id = powJ b k ++ [b ^ k] := by
  unfold powJ
  rw [List.range_succ]
  simp
theorem powJ_next (b : Int) (k : Nat) : powJ b (k + 1) = powJ b k ++ [b ^ k] := by
  have := powJ_succ b k
  simpa using this
theorem powJ_len (b : Int) (k : Nat) : (powJ b k).length = k := by
  unfold powJ
  simp
theorem powJ_get {b : Int} {k i : Nat} (h : i < k) : (powJ b k)[i]? = some (b ^ i) := by
  unfold powJ
  rw [List.getElem?_map, List.getElem?_range h]
  rfl
theorem mem_powJ {b x : Int} {k : Nat} : x ∈ powJ b k ↔ ∃ i, i < k ∧ x = b ^ i := by
  unfold powJ
  rw [List.mem_map]
  constructor
  · rintro ⟨i, hi, rfl⟩
    exact ⟨i, List.mem_range.mp hi, rfl⟩
  · rintro ⟨i, hi, rfl⟩
    exact ⟨i, List.mem_range.mpr hi, rfl⟩
/-- the powers up to a number -/
def IsPows (b m : Int) (k : Nat) : Prop := 1 ≤ k ∧ (k = 1 ∨ b ^ (k - 1) ≤ m) ∧ m < b ^ k ∧ k ≤ 210
theorem IsPows.done {b m : Int} {k : Nat} (hb : 2 ≤ b) (hm : m ≤ 10 ^ 60) (h1 : k = 0 ∨ b ^ (k - 1) ≤ max 1 m) (h2 : ¬ b ^ k ≤ max 1 m) : IsPows b m k := by
  have hk : 1 ≤ k := by
    rcases Nat.eq_zero_or_pos k with h | h
    · subst h
      simp at h2
      omega
    · exact h
  obtain ⟨j, rfl⟩ : ∃ j, k = j + 1 := ⟨k - 1, by omega⟩
  simp only [Nat.add_sub_cancel] at h1 ⊢
  have h1 : b ^ j ≤ max 1 m := h1.resolve_left (by omega)
  refine ⟨hk, ?_, by omega, ?_⟩
  · rcases Nat.eq_zero_or_pos j with h | h
    · subst h
      exact .inl rfl
    · have := pow_lt hb h
      rw [Int.pow_zero] at this
      exact .inr (by simp only [Nat.add_sub_cancel]; omega)
  · have := pow_small hb (k := j) (by omega)
    omega
theorem IsPows.mem {b m u : Int} {k : Nat} (hb : 2 ≤ b) (h : IsPows b m k) (hu : IsPow b u) (hm : u ≤ m) : u ∈ powJ b k := by
  obtain ⟨i, rfl⟩ := hu
  obtain ⟨_, _, h3, _⟩ := h
  exact mem_powJ.mpr ⟨i, pow_lt_iff hb (by omega), rfl⟩
theorem safe_div {b f y v : Int} (hb : 2 ≤ b) (h : IsSafe b f y v) : 1 < v → (f - 1) * (v / b) + 1 < y := fun h1 => by
  obtain ⟨j, hj⟩ := h.1
  cases j with
  | zero =>
    rw [Int.pow_zero] at hj
    omega
  | succ j =>
    have e : v / b = b ^ j := by
      rw [hj, Int.pow_succ, Int.mul_ediv_cancel _ (by omega)]
    rw [e]
    refine h.below _ ⟨j, rfl⟩ ?_
    rw [hj]
    exact pow_lt hb (Nat.lt_succ_self j)
theorem div_small2 {b v : Int} (hb : 2 ≤ b) (h : 0 ≤ v) : 0 ≤ v / b ∧ v / b ≤ v := ⟨Int.ediv_nonneg h (by omega), Int.ediv_le_self _ h⟩
theorem k20_a {b f y g : Int} (hb : 2 ≤ b) (hf : 1 ≤ f) (hy : 0 ≤ y) (h : IsSafe b f y (g + 1)) : y + g - y - newF b f (y + g - y) (y + g) = g := by
  have h1 := loss_at' hb hf h.1 hy h.below
  unfold lossF at h1
  have e : y + (g + 1) - 1 = y + g := by omega
  rw [e] at h1
  omega
theorem k20_m {y g w t : Int} {ys : List Int} (h0 : 0 ≤ g) (hy : 0 ≤ y ∧ y ≤ 10 ^ 40) (hg : g + 1 ≤ 1000 * y + 1000) (hw : 0 ≤ w ∧ w < 99) (hys : ∀ y' ∈ ys, y ≤ y' ∧ y' ≤ 10 ^ 50) (ht : t ∈ ys ++ [y + (g + 1) * (1 + w) - 1]) : y ≤ t ∧ t ≤ 10 ^ 55 := by
  rcases List.mem_append.mp ht with h | h
  · have := hys t h
    omega
  · have h : t = y + (g + 1) * (1 + w) - 1 := by simpa using h
    have h1 := Int.mul_le_mul_of_nonneg_left (show 1 ≤ 1 + w by omega) (show 0 ≤ g + 1 by omega)
    have h2 := Int.mul_le_mul_of_nonneg_left (show 1 + w ≤ 99 by omega) (show 0 ≤ g + 1 by omega)
    omega
theorem k20_e {b f y g : Int} {ys : List Int} (hb : 2 ≤ b) (hf : 1 ≤ f) (hy : 0 ≤ y) (h : IsSafe b f y (g + 1)) (hys : ∀ t ∈ ys, y ≤ t) : ys.filter (fun t => decide (g < t - y - newF b f (t - y) t)) = [] := by
  rw [List.filter_eq_nil_iff]
  intro t ht
  have h1 := loss_le (t := t) hb hf h.1 h.2.1 hy (hys t ht)
  unfold lossF at h1
  simp
  omega
theorem k20_b {b y p : Int} (hb : 2 ≤ b) (hy : 1 < y) (h : IsPow b p) : y + p - 1 - y - newF b 1 (y + p - 1 - y) (y + p - 1) = p - 1 := by
  have h1 := loss_at' (b := b) (f := 1) (age := y) (v := p) hb (by decide) h (by omega) (fun u _ _ => by simp; omega)
  exact h1
theorem safe_mono {b f y y' v v' : Int} (h : y ≤ y') (h1 : IsSafe b f y (v + 1)) (h2 : IsSafe b f y' (v' + 1)) : v ≤ v' := by
  have := h1.2.2 _ h2.1 (by have := h2.2.1; omega)
  omega
end Ma

set_option Elab.async false
set_option linter.all false
set_option maxRecDepth 100000
namespace Ma
/-! ### kept numbers counted -/
theorem div_succ {n u : Int} (hu : 1 ≤ u) : (n + 1) / u = n / u + (if u ∣ n + 1 then 1 else 0) := by
  have e0 := Int.mul_ediv_add_emod n u
  have e1 := Int.emod_nonneg n (show u ≠ 0 by omega)
  have e2 := Int.emod_lt_of_pos n (show 0 < u by omega)
  by_cases h : u ∣ n + 1
  · rw [if_pos h]
    have h1 : n % u = u - 1 := by
      have h2 := Int.emod_eq_zero_of_dvd h
      rcases Int.lt_or_le (n % u) (u - 1) with q | q
      · have := (Int.ediv_emod_unique (a := n + 1) (b := u) (r := n % u + 1) (q := n / u) (by omega)).mpr ⟨by omega, by omega, by omega⟩
        have := this.2
        omega
      · omega
    exact div_is (by omega) (by rw [Int.add_mul, Int.mul_comm]; omega) (by rw [Int.add_mul, Int.mul_comm]; omega)
  · rw [if_neg h]
    have h1 : n % u < u - 1 := by
      rcases Int.lt_or_le (n % u) (u - 1) with q | q
      · exact q
      · exact absurd ⟨n / u + 1, by rw [Int.mul_add]; omega⟩ h
    rw [Int.add_zero]
    exact div_is (by omega) (by rw [Int.mul_comm]; omega) (by rw [Int.mul_comm]; omega)
def eF (b u n : Int) : Int := if unitF b n = u then 1 else 0
theorem eF_dvd {b u n : Int} (hb : 2 ≤ b) (hn : 1 ≤ n) (hp : IsPow b u) : eF b u n = (if u ∣ n then 1 else 0) - (if u * b ∣ n then 1 else 0) := by
  unfold eF
  have hu := hp.pos hb
  by_cases h1 : u ∣ n
  · by_cases h2 : u * b ∣ n
    · rw [if_pos h1, if_pos h2, if_neg]
      · rfl
      · intro e
        have := (dvd_iff hb hn hp.mul).mp h2
        have : u * 2 ≤ u * b := Int.mul_le_mul_of_nonneg_left hb (by omega)
        omega
    · rw [if_pos h1, if_neg h2, if_pos (IsUnit.eq hb hn ⟨hp, h1, h2⟩).symm]
      rfl
  · have h2 : ¬ u * b ∣ n := fun q => h1 (Int.dvd_trans ⟨b, rfl⟩ q)
    rw [if_neg h1, if_neg h2, if_neg]
    · rfl
    · intro e
      exact h1 (e ▸ unitF_dvd)
def levC (b u low high : Int) : Int := if high < low then 0 else high / u - (low - 1) / u - (high / (u * b) - (low - 1) / (u * b))
theorem levC_sum' {b u lo : Int} (hb : 2 ≤ b) (hp : IsPow b u) (hl : 0 ≤ lo) : ∀ n : Nat, sumN (fun i => eF b u (lo + 1 + i)) n = (lo + n) / u - lo / u - ((lo + n) / (u * b) - lo / (u * b))
  | 0 => by
    rw [sumN, show lo + ((0 : Nat) : Int) = lo by omega]
    omega
  | n + 1 => by
    have hu := hp.pos hb
    have hub : 1 ≤ u * b := by
      have : u * 2 ≤ u * b := Int.mul_le_mul_of_nonneg_left hb (by omega)
      omega
    rw [sumN, levC_sum' hb hp hl n, show lo + ((n + 1 : Nat) : Int) = lo + n + 1 by omega, div_succ hu, div_succ hub, show lo + 1 + (n : Int) = lo + n + 1 by omega, eF_dvd hb (by omega) hp]
    omega
theorem levC_sum {b u low high : Int} (hb : 2 ≤ b) (hp : IsPow b u) (hl : 1 ≤ low) : levC b u low high = sumN (fun i => eF b u (low + i)) (high - low + 1).toNat := by
  unfold levC
  split
  · rw [show (high - low + 1).toNat = 0 by omega]
    rfl
  · have := levC_sum' hb hp (lo := low - 1) (by omega) (high - low + 1).toNat
    rw [show low - 1 + (((high - low + 1).toNat : Nat) : Int) = high by omega] at this
    rw [← this]
    exact sumN_congr fun i _ => by rw [show low - 1 + 1 + (i : Int) = low + i by omega]
theorem eF_sumP {b n : Int} {k : Nat} (p : Int → Bool) (hb : 2 ≤ b) (hn : 1 ≤ n) (h : n < b ^ k) : sumN (fun j => if p (b ^ j) then eF b (b ^ j) n else 0) k = if p (unitF b n) then 1 else 0 := by
  cases k with
  | zero => rw [Int.pow_zero] at h; omega
  | succ k =>
    obtain ⟨m, hm, e⟩ := unit_exp hb hn h
    rw [sumN_one hm fun i hi hne => ?_]
    · rw [← e]
      unfold eF
      rw [if_pos rfl]
    · have e2 : eF b (b ^ i) n = 0 := if_neg fun q => hne (pow_inj hb (by rw [← q, e]))
      rw [e2]
      split <;> rfl
/-- how many numbers below a number are kept -/
def cntF (b f t n : Int) : Int := sumN (fun i => if keptB b f i t then 1 else 0) n.toNat
/-- k: how many powers are at most the time -/
def IsUp (b t : Int) (k : Nat) : Prop := (∀ j, j < k → b ^ j ≤ t) ∧ t < b ^ k ∧ k ≤ 210
theorem kept_gt {b f n t : Int} (h : t < n) : keptB b f n t = false := by
  unfold keptB
  rw [decide_eq_false (by omega)]
  rfl
theorem cnt_stop {b f t n : Int} (ht : 0 ≤ t) (h : t < n) : cntF b f t n = cntF b f t (t + 1) := by
  unfold cntF
  rw [show n.toNat = (t + 1).toNat + (n - (t + 1)).toNat by omega, sumN_plus, sumN_zero (n := (n - (t + 1)).toNat)]
  · omega
  · intro i hi
    rw [kept_gt (by omega)]
    rfl
theorem cnt_levels {b f t n : Int} {k : Nat} (hb : 2 ≤ b) (hf : 1 ≤ f) (ht : 0 ≤ t) (hn : 0 ≤ n) (hk : IsUp b t k) :
    (if 0 < n then 1 else 0) + sumN (fun j => levC b (b ^ j) (max 1 (t - f * b ^ j)) (min (n - 1) t)) k = cntF b f t n := by
  have key : ∀ m : Int, 0 ≤ m → m ≤ t → sumN (fun j => levC b (b ^ j) (max 1 (t - f * b ^ j)) m) k = sumN (fun i => if keptB b f (1 + i) t then 1 else 0) m.toNat := fun m hm hmt => by
    have h1 : ∀ j : Nat, levC b (b ^ j) (max 1 (t - f * b ^ j)) m = sumN (fun i => if decide (t ≤ (1 + i) + f * b ^ j) then eF b (b ^ j) (1 + i) else 0) m.toNat := fun j => by
      rw [levC_sum hb ⟨j, rfl⟩ (by omega)]
      by_cases h : m < max 1 (t - f * b ^ j)
      · rw [show (m - max 1 (t - f * b ^ j) + 1).toNat = 0 by omega, sumN_zero (n := m.toNat)]
        · rfl
        · intro i hi
          rw [if_neg (by rw [decide_eq_true_eq]; omega)]
      · rw [show m.toNat = (max 1 (t - f * b ^ j) - 1).toNat + (m - max 1 (t - f * b ^ j) + 1).toNat by omega, sumN_plus, sumN_zero (n := (max 1 (t - f * b ^ j) - 1).toNat), Int.zero_add]
        · refine sumN_congr fun i hi => ?_
          rw [if_pos (by rw [decide_eq_true_eq]; omega), show 1 + (((max 1 (t - f * b ^ j) - 1).toNat + i : Nat) : Int) = max 1 (t - f * b ^ j) + i by omega]
        · intro i hi
          rw [if_neg (by rw [decide_eq_true_eq]; omega)]
    rw [sumN_congr fun j _ => h1 j, ← sumN_swap]
    refine sumN_congr fun i hi => ?_
    rw [eF_sumP (fun u => decide (t ≤ (1 + i) + f * u)) hb (by omega) (show (1 + (i : Int)) < b ^ k by have := hk.2.1; omega), keptB_pos (by omega) (by omega)]
  have hz : keptB b f 0 t = true := keptB_zero ht
  have step : ∀ m : Int, 0 ≤ m → cntF b f t (m + 1) = 1 + sumN (fun i => if keptB b f (1 + i) t then 1 else 0) m.toNat := fun m hm => by
    unfold cntF
    rw [show (m + 1).toNat = 1 + m.toNat by omega, sumN_plus]
    have e : sumN (fun i => if keptB b f (i : Int) t then (1 : Int) else 0) 1 = 1 := by
      rw [sumN, sumN, show ((0 : Nat) : Int) = 0 from rfl, hz]
      rfl
    rw [e]
    congr 1
  by_cases h0 : n = 0
  · subst h0
    rw [if_neg (by omega), sumN_zero]
    · rfl
    · intro j hj
      unfold levC
      rw [if_pos (by omega)]
  · rw [if_pos (by omega)]
    by_cases h1 : n - 1 ≤ t
    · rw [show min (n - 1) t = n - 1 by omega, key (n - 1) (by omega) h1, ← step (n - 1) (by omega), show n - 1 + 1 = n by omega]
    · rw [show min (n - 1) t = t by omega, key t ht (by omega), ← step t ht, cnt_stop (n := n) ht (by omega)]
theorem cnt_succ {b f t n : Int} (hn : 0 ≤ n) : cntF b f t (n + 1) = cntF b f t n + (if keptB b f n t then 1 else 0) := by
  unfold cntF
  rw [show (n + 1).toNat = n.toNat + 1 by omega, sumN, show ((n.toNat : Nat) : Int) = n by omega]
theorem cnt_mono {b f t : Int} : ∀ (d : Nat) (n : Int), 0 ≤ n → cntF b f t n ≤ cntF b f t (n + d)
  | 0, n, _ => by rw [show n + ((0 : Nat) : Int) = n by omega]; exact Int.le_refl _
  | d + 1, n, h => by
    have ih := cnt_mono (b := b) (f := f) (t := t) d n h
    rw [show n + ((d + 1 : Nat) : Int) = n + d + 1 by omega, cnt_succ (by omega)]
    split <;> omega
theorem cnt_le {b f t n m : Int} (h0 : 0 ≤ n) (h : n ≤ m) : cntF b f t n ≤ cntF b f t m := by
  have := cnt_mono (b := b) (f := f) (t := t) (m - n).toNat n h0
  rw [show n + (((m - n).toNat : Nat) : Int) = m by omega] at this
  exact this
theorem cnt_pos {b f t : Int} (ht : 0 ≤ t) {n : Int} (hn : 1 ≤ n) : 1 ≤ cntF b f t n := by
  have h := cnt_le (b := b) (f := f) (t := t) (n := 0 + 1) (m := n) (by omega) (by omega)
  rw [cnt_succ (by omega), keptB_zero ht] at h
  have e : cntF b f t 0 = 0 := rfl
  rw [e] at h
  simpa using h
theorem cnt_bd {b f t n : Int} (hn : 0 ≤ n) : 0 ≤ cntF b f t n ∧ cntF b f t n ≤ n := by
  unfold cntF
  have := sumN_bd (w := 1) (n := n.toNat) (f := fun i => if keptB b f i t then 1 else 0) fun i _ => by split <;> omega
  omega
/-- the number with an index -/
def IsIdx (b f t idx n : Int) : Prop := 0 ≤ n ∧ n ≤ t ∧ keptB b f n t = true ∧ cntF b f t n = idx
theorem idx_of {b f t idx n : Int} (h0 : 0 ≤ n) (ht : n ≤ t) (h1 : cntF b f t n ≤ idx) (h2 : idx < cntF b f t (n + 1)) : IsIdx b f t idx n := by
  rw [cnt_succ h0] at h2
  by_cases hk : keptB b f n t = true
  · rw [if_pos hk] at h2
    exact ⟨h0, ht, hk, by omega⟩
  · rw [if_neg hk] at h2
    omega
theorem IsIdx.uniq {b f t idx n m : Int} (h : IsIdx b f t idx n) (k : IsIdx b f t idx m) : n = m := by
  rcases Int.lt_trichotomy n m with q | q | q
  · have h1 := cnt_le (b := b) (f := f) (t := t) (n := n + 1) (m := m) (by have := h.1; omega) (by omega)
    rw [cnt_succ h.1, if_pos h.2.2.1, h.2.2.2, k.2.2.2] at h1
    omega
  · exact q
  · have h1 := cnt_le (b := b) (f := f) (t := t) (n := m + 1) (m := n) (by have := k.1; omega) (by omega)
    rw [cnt_succ k.1, if_pos k.2.2.1, h.2.2.2, k.2.2.2] at h1
    omega
theorem cnt_lt {b f t n m : Int} (h0 : 0 ≤ n) (h : n < m) (hk : keptB b f n t = true) : cntF b f t n < cntF b f t m := by
  have h1 := cnt_le (b := b) (f := f) (t := t) (n := n + 1) (m := m) (by omega) (by omega)
  rw [cnt_succ h0, if_pos hk] at h1
  omega
theorem kept_self {b f t : Int} (hb : 2 ≤ b) (hf : 0 ≤ f) (ht : 0 ≤ t) : keptB b f t t = true := by
  by_cases h : t = 0
  · subst h
    exact keptB_zero (by omega)
  · rw [keptB_pos (by omega) (by omega), decide_eq_true_eq]
    have := Int.mul_nonneg hf (show 0 ≤ unitF b t by have := unitF_pos (b := b) (n := t) hb; omega)
    omega
end Ma

set_option Elab.async false
set_option linter.all false
set_option maxRecDepth 100000
namespace Ma
/-! ### the last and the first number of a level -/
def lastL (b u h : Int) : Int := if h / u * u % (u * b) = 0 then h / u * u - u else h / u * u
def firstL (b u l : Int) : Int := if (l + u - 1) / u * u % (u * b) = 0 then (l + u - 1) / u * u + u else (l + u - 1) / u * u
theorem ub_big {b u : Int} (hb : 2 ≤ b) (hu : 1 ≤ u) : u * 2 ≤ u * b := Int.mul_le_mul_of_nonneg_left hb (by omega)
theorem dvd_gap {u x y : Int} (hu : 1 ≤ u) (hx : u ∣ x) (hy : u ∣ y) (h : x < y) : x + u ≤ y := by
  obtain ⟨c, rfl⟩ := hx
  obtain ⟨d, rfl⟩ := hy
  have h1 : c < d := by
    rcases Int.lt_or_le c d with q | q
    · exact q
    · have := Int.mul_le_mul_of_nonneg_left q (show (0 : Int) ≤ u by omega)
      omega
  have := Int.mul_le_mul_of_nonneg_left (show c + 1 ≤ d by omega) (show (0 : Int) ≤ u by omega)
  rw [Int.mul_add] at this
  omega
theorem not_ub {b u q : Int} (hb : 2 ≤ b) (hu : 1 ≤ u) (h : u * b ∣ q) : ¬ u * b ∣ q - u ∧ ¬ u * b ∣ q + u := by
  have hub := ub_big hb hu
  constructor
  · intro h2
    have h3 := Int.dvd_sub h h2
    rw [show q - (q - u) = u by omega] at h3
    have := Int.le_of_dvd (by omega) h3
    omega
  · intro h2
    have h3 := Int.dvd_sub h2 h
    rw [show q + u - q = u by omega] at h3
    have := Int.le_of_dvd (by omega) h3
    omega
theorem lastL_is {b u h : Int} (hb : 2 ≤ b) (hp : IsPow b u) (hh : 0 ≤ h) : lastL b u h ≤ h ∧ (1 ≤ lastL b u h → unitF b (lastL b u h) = u) ∧ (∀ m, 1 ≤ m → m ≤ h → unitF b m = u → m ≤ lastL b u h) := by
  have hu := hp.pos hb
  have hub := ub_big hb hu
  have hd := down_le (s := h) (u := u) hu
  have hdd := down_dvd (s := h) (u := u)
  have hd0 := down_nonneg (s := h) (u := u) hh hu
  unfold lastL
  unfold downF at hd hdd hd0
  have hmax : ∀ m, u ∣ m → m ≤ h → m ≤ h / u * u := fun m q1 q2 => down_max hu q1 q2
  generalize h / u * u = q at *
  by_cases hm : q % (u * b) = 0
  · rw [if_pos hm]
    have hqd : u * b ∣ q := Int.dvd_of_emod_eq_zero hm
    refine ⟨by omega, fun h1 => ?_, fun m h1 h2 h3 => ?_⟩
    · exact (IsUnit.eq hb h1 ⟨hp, Int.dvd_sub hdd ⟨1, by omega⟩, (not_ub hb hu hqd).1⟩).symm
    · have hum : u ∣ m := h3 ▸ unitF_dvd
      have h4 := hmax m hum h2
      have h5 : m ≠ q := fun e => by
        subst e
        have := (dvd_iff hb h1 hp.mul).mp hqd
        omega
      have := dvd_gap hu hum hdd (by omega)
      omega
  · rw [if_neg hm]
    refine ⟨hd.1, fun h1 => ?_, fun m h1 h2 h3 => hmax m (h3 ▸ unitF_dvd) h2⟩
    exact (IsUnit.eq hb h1 ⟨hp, hdd, fun q1 => hm (Int.emod_eq_zero_of_dvd q1)⟩).symm
theorem firstL_is {b u l : Int} (hb : 2 ≤ b) (hp : IsPow b u) (hl : 1 ≤ l) : l ≤ firstL b u l ∧ unitF b (firstL b u l) = u ∧ (∀ m, l ≤ m → unitF b m = u → firstL b u l ≤ m) ∧ firstL b u l < l + 2 * u := by
  have hu := hp.pos hb
  have hub := ub_big hb hu
  have hd := down_le (s := l + u - 1) (u := u) hu
  have hdd := down_dvd (s := l + u - 1) (u := u)
  unfold firstL
  unfold downF at hd hdd
  generalize (l + u - 1) / u * u = q at *
  have hmin : ∀ m, u ∣ m → l ≤ m → q ≤ m := fun m q1 q2 => by
    rcases Int.lt_or_le m q with z | z
    · have := dvd_gap hu q1 hdd z
      omega
    · exact z
  by_cases hm : q % (u * b) = 0
  · rw [if_pos hm]
    have hqd : u * b ∣ q := Int.dvd_of_emod_eq_zero hm
    refine ⟨by omega, (IsUnit.eq hb (by omega) ⟨hp, Int.dvd_add hdd ⟨1, by omega⟩, (not_ub hb hu hqd).2⟩).symm, fun m h1 h3 => ?_, by omega⟩
    have hum : u ∣ m := h3 ▸ unitF_dvd
    have h4 := hmin m hum h1
    have h5 : m ≠ q := fun e => by
      subst e
      have := (dvd_iff hb (by omega) hp.mul).mp hqd
      omega
    exact dvd_gap hu hdd hum (by omega)
  · rw [if_neg hm]
    exact ⟨by omega, (IsUnit.eq hb (by omega) ⟨hp, hdd, fun q1 => hm (Int.emod_eq_zero_of_dvd q1)⟩).symm, fun m h1 h3 => hmin m (h3 ▸ unitF_dvd) h1, by omega⟩
/-! ### the newest kept number up to a number -/
def NewU (b f n t : Int) (i : Nat) (r : Int) : Prop := 0 ≤ r ∧ r ≤ n ∧ keptB b f r t = true ∧ ∀ j, j < i → ∀ m, 1 ≤ m → m ≤ n → unitF b m = b ^ j → keptB b f m t = true → m ≤ r
theorem kept_le {b f n t : Int} (h : keptB b f n t = true) : n ≤ t := by
  rcases Int.lt_or_le t n with q | q
  · rw [kept_gt q] at h
    cases h
  · exact q
theorem kept_iff {b f n t : Int} (hn : 1 ≤ n) : keptB b f n t = true ↔ n ≤ t ∧ t ≤ n + f * unitF b n := by
  constructor
  · intro h
    have h1 := kept_le h
    rw [keptB_pos hn h1, decide_eq_true_eq] at h
    exact ⟨h1, h⟩
  · rintro ⟨h1, h2⟩
    rw [keptB_pos hn h1, decide_eq_true_eq]
    exact h2
theorem NewU.zero {b f n t : Int} (hn : 0 ≤ n) (ht : 0 ≤ t) : NewU b f n t 0 0 := ⟨by omega, hn, keptB_zero ht, fun j h => absurd h (by omega)⟩
theorem NewU.yes {b f n t r : Int} {i : Nat} (hb : 2 ≤ b) (hn : 0 ≤ n) (ht : 0 ≤ t) (h : NewU b f n t i r) (hl : max 1 (t - f * b ^ i) ≤ lastL b (b ^ i) (min n t)) : NewU b f n t (i + 1) (max r (lastL b (b ^ i) (min n t))) := by
  have hL := lastL_is hb ⟨i, rfl⟩ (show 0 ≤ min n t by omega)
  generalize lastL b (b ^ i) (min n t) = x at *
  have hxu := hL.2.1 (by omega)
  have hxk : keptB b f x t = true := (kept_iff (by omega)).mpr ⟨by omega, by rw [hxu]; omega⟩
  obtain ⟨h1, h2, h3, h4⟩ := h
  refine ⟨by omega, by omega, ?_, fun j hj m hm1 hm2 hm3 hm4 => ?_⟩
  · rcases Int.le_total r x with q | q
    · rw [Int.max_eq_right q]
      exact hxk
    · rw [Int.max_eq_left q]
      exact h3
  · by_cases e : j = i
    · subst e
      have := hL.2.2 m hm1 (by have := kept_le hm4; omega) hm3
      omega
    · have := h4 j (by omega) m hm1 hm2 hm3 hm4
      omega
theorem NewU.no {b f n t r : Int} {i : Nat} (hb : 2 ≤ b) (hn : 0 ≤ n) (ht : 0 ≤ t) (h : NewU b f n t i r) (hl : ¬ max 1 (t - f * b ^ i) ≤ lastL b (b ^ i) (min n t)) : NewU b f n t (i + 1) r := by
  have hL := lastL_is hb ⟨i, rfl⟩ (show 0 ≤ min n t by omega)
  obtain ⟨h1, h2, h3, h4⟩ := h
  refine ⟨h1, h2, h3, fun j hj m hm1 hm2 hm3 hm4 => ?_⟩
  by_cases e : j = i
  · subst e
    have h5 := hL.2.2 m hm1 (by have := kept_le hm4; omega) hm3
    have h6 := (kept_iff hm1).mp hm4
    rw [hm3] at h6
    omega
  · exact h4 j (by omega) m hm1 hm2 hm3 hm4
theorem NewU.done {b f n t r : Int} {k : Nat} (hb : 2 ≤ b) (ht : 0 ≤ t) (hk : IsUp b t k) (h : NewU b f n t k r) : r = newF b f n t := by
  obtain ⟨h1, h2, h3, h4⟩ := h
  refine IsNew.eq ht ⟨h1, h2, h3, fun m hm1 hm2 hm3 => ?_⟩
  cases k with
  | zero =>
    have h5 := hk.2.1
    rw [Int.pow_zero] at h5
    have := kept_le hm3
    omega
  | succ k =>
    obtain ⟨j, hj, e⟩ := unit_exp (n := m) (k := k) hb (by omega) (by have := kept_le hm3; have := hk.2.1; omega)
    have := h4 j hj m (by omega) hm2 e hm3
    omega
/-! ### the next kept number -/
def IsNext (b f t n r : Int) : Prop := n ≤ r ∧ r ≤ t ∧ keptB b f r t = true ∧ ∀ m, n ≤ m → m < r → ¬ keptB b f m t = true
theorem IsNext.uniq {b f t n r q : Int} (h : IsNext b f t n r) (k : IsNext b f t n q) : r = q := by
  rcases Int.lt_trichotomy r q with z | z | z
  · exact absurd h.2.2.1 (k.2.2.2 r h.1 z)
  · exact z
  · exact absurd k.2.2.1 (h.2.2.2 q k.1 z)
def NextU (b f n t : Int) (i : Nat) (r : Int) : Prop := n ≤ r ∧ r ≤ t ∧ keptB b f r t = true ∧ ∀ j, j < i → ∀ m, n ≤ m → unitF b m = b ^ j → keptB b f m t = true → r ≤ m
theorem NextU.zero {b f n t : Int} (hb : 2 ≤ b) (hf : 1 ≤ f) (hn : 1 ≤ n) (h : n ≤ t) : NextU b f n t 0 t := ⟨h, by omega, kept_self hb (by omega) (by omega), fun j h => absurd h (by omega)⟩
theorem NextU.step {b f n t r : Int} {i : Nat} (hb : 2 ≤ b) (hn : 1 ≤ n) (h : NextU b f n t i r) : NextU b f n t (i + 1) (min r (firstL b (b ^ i) (max n (max 1 (t - f * b ^ i))))) := by
  have hL := firstL_is hb ⟨i, rfl⟩ (show 1 ≤ max n (max 1 (t - f * b ^ i)) by omega)
  generalize firstL b (b ^ i) (max n (max 1 (t - f * b ^ i))) = x at *
  obtain ⟨h1, h2, h3, h4⟩ := h
  refine ⟨by omega, by omega, ?_, fun j hj m hm1 hm3 hm4 => ?_⟩
  · rcases Int.le_total r x with q | q
    · rw [Int.min_eq_left q]
      exact h3
    · rw [Int.min_eq_right q]
      exact (kept_iff (by omega)).mpr ⟨by omega, by rw [hL.2.1]; omega⟩
  · by_cases e : j = i
    · subst e
      have h6 := (kept_iff (by omega)).mp hm4
      rw [hm3] at h6
      have := hL.2.2.1 m (by omega) hm3
      omega
    · have := h4 j (by omega) m hm1 hm3 hm4
      omega
theorem NextU.done {b f n t r : Int} {k : Nat} (hb : 2 ≤ b) (hn : 1 ≤ n) (hk : IsUp b t k) (h : NextU b f n t k r) : IsNext b f t n r := by
  obtain ⟨h1, h2, h3, h4⟩ := h
  refine ⟨h1, h2, h3, fun m hm1 hm2 hm3 => ?_⟩
  cases k with
  | zero =>
    have h5 := hk.2.1
    rw [Int.pow_zero] at h5
    have := kept_le hm3
    omega
  | succ k =>
    obtain ⟨j, hj, e⟩ := unit_exp (n := m) (k := k) hb (by omega) (by have := kept_le hm3; have := hk.2.1; omega)
    have := h4 j hj m hm1 e hm3
    omega
theorem up_item {b t p : Int} {k i : Nat} (hb : 2 ≤ b) (h : IsUp b t k) (hx : (powJ b k)[i]? = some p) : i < k ∧ p = b ^ i ∧ 1 ≤ b ^ i ∧ b ^ i ≤ t := by
  have hi : i < k := by
    have := (List.getElem?_eq_some_iff.mp hx).1
    rw [powJ_len] at this
    exact this
  rw [powJ_get hi] at hx
  exact ⟨hi, (Option.some.inj hx).symm, pow_pos hb i, h.1 i hi⟩
theorem up_done {b t : Int} {k : Nat} (hb : 2 ≤ b) (ht : t ≤ 10 ^ 60) (h : ∀ j, j < k → b ^ j ≤ t) (h2 : ¬ b ^ k ≤ t) : IsUp b t k := by
  refine ⟨h, by omega, ?_⟩
  cases k with
  | zero => omega
  | succ k =>
    have := pow_small (b := b) (k := k) hb (by have := h k (by omega); omega)
    omega
theorem up_next {b t : Int} {k : Nat} (h : ∀ j, j < k → b ^ j ≤ t) (h2 : b ^ k ≤ t) : ∀ j, j < k + 1 → b ^ j ≤ t := fun j hj => by
  by_cases e : j = k
  · subst e
    exact h2
  · exact h j (by omega)
/-! ### the list of the kept numbers -/
def keptL (b f t : Int) : List Int := (Kr.rngI 0 (t + 1).toNat).filter (fun m => keptB b f m t)
theorem rng_split (n d : Nat) : Kr.rngI 0 (n + d) = Kr.rngI 0 n ++ Kr.rngI n d := by
  unfold Kr.rngI
  rw [List.range_add, List.map_append, List.map_map]
  congr 1
  refine List.map_congr_left fun a _ => ?_
  simp only [Function.comp]
  omega
theorem cnt_len' {b f t : Int} : ∀ n : Nat, (((Kr.rngI 0 n).filter (fun m => keptB b f m t)).length : Int) = cntF b f t n
  | 0 => rfl
  | n + 1 => by
    rw [rng_split n 1, List.filter_append, List.length_append, show ((n + 1 : Nat) : Int) = (n : Int) + 1 by omega, cnt_succ (by omega), ← cnt_len' n]
    have e : Kr.rngI (n : Int) 1 = [(n : Int)] := by simp [Kr.rngI]
    rw [e, List.filter_cons]
    split
    · simp
    · simp
theorem keptL_len {b f t : Int} (ht : 0 ≤ t) : ((keptL b f t).length : Int) = cntF b f t (t + 1) := by
  have := cnt_len' (b := b) (f := f) (t := t) (t + 1).toNat
  rw [show (((t + 1).toNat : Nat) : Int) = t + 1 by omega] at this
  exact this
theorem keptL_below {b f t n : Int} (ht : 0 ≤ t) (hn : 0 ≤ n) : (((keptL b f t).filter (fun m => decide (m < n))).length : Int) = cntF b f t n := by
  unfold keptL
  have key : ∀ m : Int, 0 ≤ m → m ≤ t + 1 → (((Kr.rngI 0 (t + 1).toNat).filter (fun m => keptB b f m t)).filter (fun x => decide (x < m))).length = ((Kr.rngI 0 m.toNat).filter (fun m => keptB b f m t)).length := fun m h0 h1 => by
    rw [show (t + 1).toNat = m.toNat + (t + 1 - m).toNat by omega, rng_split, List.filter_append, List.filter_append, List.length_append]
    have e1 : ((Kr.rngI 0 m.toNat).filter (fun m => keptB b f m t)).filter (fun x => decide (x < m)) = (Kr.rngI 0 m.toNat).filter (fun m => keptB b f m t) := List.filter_eq_self.mpr fun x hx => by
      have := Kr.mem_rngI.mp (List.mem_filter.mp hx).1
      rw [decide_eq_true_eq]
      omega
    have e2 : ((Kr.rngI ((m.toNat : Nat) : Int) (t + 1 - m).toNat).filter (fun m => keptB b f m t)).filter (fun x => decide (x < m)) = [] := List.filter_eq_nil_iff.mpr fun x hx => by
      have := Kr.mem_rngI.mp (List.mem_filter.mp hx).1
      rw [decide_eq_true_eq]
      omega
    rw [e1, e2]
    rfl
  by_cases h : n ≤ t + 1
  · rw [key n hn h]
    have := cnt_len' (b := b) (f := f) (t := t) n.toNat
    rw [show ((n.toNat : Nat) : Int) = n by omega] at this
    exact this
  · rw [cnt_stop (n := n) ht (by omega), ← keptL_len ht]
    unfold keptL
    rw [List.filter_eq_self.mpr]
    intro x hx
    have := Kr.mem_rngI.mp (List.mem_filter.mp hx).1
    rw [decide_eq_true_eq]
    omega
theorem mem_keptL {b f t n : Int} : n ∈ keptL b f t ↔ 0 ≤ n ∧ keptB b f n t = true := by
  unfold keptL
  rw [List.mem_filter, Kr.mem_rngI]
  constructor
  · rintro ⟨h1, h2⟩
    exact ⟨h1.1, h2⟩
  · rintro ⟨h1, h2⟩
    have := kept_le h2
    exact ⟨⟨h1, by omega⟩, h2⟩
def idxF (b f t idx : Int) : Int := ((keptL b f t)[idx.toNat]?).getD 0
theorem keptL_at {b f t idx n : Int} (h : IsIdx b f t idx n) : (keptL b f t)[idx.toNat]? = some n := by
  obtain ⟨h0, h1, h2, h3⟩ := h
  unfold keptL
  rw [show (t + 1).toNat = n.toNat + (1 + (t - n).toNat) by omega, rng_split, List.filter_append]
  have hl := cnt_len' (b := b) (f := f) (t := t) n.toNat
  rw [show ((n.toNat : Nat) : Int) = n by omega, h3] at hl
  rw [List.getElem?_append_right (by omega), show idx.toNat - ((Kr.rngI 0 n.toNat).filter (fun m => keptB b f m t)).length = 0 by omega]
  have e : Kr.rngI ((n.toNat : Nat) : Int) (1 + (t - n).toNat) = n :: Kr.rngI (n + 1) (t - n).toNat := by
    rw [show ((n.toNat : Nat) : Int) = n by omega, Nat.add_comm]
    unfold Kr.rngI
    rw [List.range_succ_eq_map, List.map_cons, List.map_map]
    refine List.cons_eq_cons.mpr ⟨by simp, List.map_congr_left fun a _ => ?_⟩
    simp only [Function.comp]
    omega
  rw [e, List.filter_cons, if_pos h2]
  rfl
theorem IsIdx.eq {b f t idx n : Int} (h : IsIdx b f t idx n) : n = idxF b f t idx := by
  unfold idxF
  rw [keptL_at h]
  rfl
theorem idx_ex {b f t : Int} : ∀ (k : Nat) (idx : Int), 0 ≤ idx → idx < cntF b f t k → ∃ n : Int, 0 ≤ n ∧ n < (k : Int) ∧ keptB b f n t = true ∧ cntF b f t n = idx
  | 0, idx, h0, h => by
    have e : cntF b f t ((0 : Nat) : Int) = 0 := rfl
    omega
  | k + 1, idx, h0, h => by
    rw [show ((k + 1 : Nat) : Int) = (k : Int) + 1 by omega, cnt_succ (by omega)] at h
    by_cases h1 : idx < cntF b f t k
    · obtain ⟨n, q1, q2, q3, q4⟩ := idx_ex k idx h0 h1
      exact ⟨n, q1, by omega, q3, q4⟩
    · by_cases hk : keptB b f k t = true
      · rw [if_pos hk] at h
        exact ⟨k, by omega, by omega, hk, by omega⟩
      · rw [if_neg hk] at h
        omega
theorem idxF_is {b f t idx : Int} (ht : 0 ≤ t) (h0 : 0 ≤ idx) (h : idx < cntF b f t (t + 1)) : IsIdx b f t idx (idxF b f t idx) := by
  obtain ⟨n, q1, q2, q3, q4⟩ := idx_ex (b := b) (f := f) (t := t) (t + 1).toNat idx h0 (by rw [show (((t + 1).toNat : Nat) : Int) = t + 1 by omega]; exact h)
  have hi : IsIdx b f t idx n := ⟨q1, kept_le q3, q3, q4⟩
  rw [← hi.eq]
  exact hi
theorem k09_list {b f t : Int} {k : Nat} (ht : 0 ≤ t) (hk : k = (keptL b f t).length) : (Kr.rngI 0 k).map (fun i => idxF b f t i) = keptL b f t := by
  apply List.ext_getElem?
  intro i
  by_cases hi : i < k
  · rw [List.getElem?_map, Kr.rngI_get hi]
    have h2 := keptL_len (b := b) (f := f) ht
    have h3 := idxF_is (b := b) (f := f) (t := t) (idx := 0 + (i : Int)) ht (by omega) (by omega)
    have h4 := keptL_at h3
    rw [show (0 + (i : Int)).toNat = i by omega] at h4
    rw [h4]
    rfl
  · rw [List.getElem?_eq_none (by rw [List.length_map, Kr.rngI_len]; omega), List.getElem?_eq_none (by omega)]
end Ma
namespace Ma
theorem lives_no {b f n t : Int} (hn : 0 ≤ n ∧ 0 ≤ t) (h : n = 0 ∨ t < n) : decide (n = 0) = keptB b f n t := by
  rcases h with h | h
  · subst h
    rw [keptB_zero hn.2]
    rfl
  · rw [kept_gt h, decide_eq_false (by omega)]
end Ma
namespace Ma
/-! ### for laws k09, k10 -/
theorem k09_last {b f t : Int} (hb : 2 ≤ b) (hf : 1 ≤ f) (ht : 0 ≤ t) : idxF b f t (cntF b f t (t + 1) - 1) = t := by
  refine (IsIdx.eq ⟨ht, by omega, kept_self hb (by omega) ht, ?_⟩).symm
  rw [cnt_succ ht, kept_self hb (by omega) ht]
  simp
theorem idx_lt {b f t i j n m : Int} (h : IsIdx b f t i n) (k : IsIdx b f t j m) (hij : i < j) : n < m := by
  rcases Int.lt_or_le n m with q | q
  · exact q
  · have := cnt_le (b := b) (f := f) (t := t) k.1 q
    rw [h.2.2.2, k.2.2.2] at this
    omega
theorem k09_mid {b f t i n m x : Int} (h : IsIdx b f t (i - 1) n) (k : IsIdx b f t i m) (h1 : n + 1 ≤ x) (h2 : x ≤ m) : cntF b f t x = i := by
  have h0 := h.1
  have q1 := cnt_le (b := b) (f := f) (t := t) (n := n + 1) (m := x) (by omega) h1
  have q2 := cnt_le (b := b) (f := f) (t := t) (n := x) (m := m) (by omega) h2
  rw [cnt_succ h.1, if_pos h.2.2.1, h.2.2.2] at q1
  rw [k.2.2.2] at q2
  omega
theorem k09_low {b f t x : Int} (ht : 0 ≤ t) (hx : 0 ≤ x) (h : cntF b f t x < cntF b f t (t + 1)) : x ≤ idxF b f t (cntF b f t x) := by
  have hi := idxF_is ht (cnt_bd (b := b) (f := f) (t := t) hx).1 h
  rcases Int.lt_or_le (idxF b f t (cntF b f t x)) x with q | q
  · have := cnt_lt hi.1 q hi.2.2.1
    rw [hi.2.2.2] at this
    omega
  · exact q
theorem k09_up {b f t x : Int} (ht : 0 ≤ t) (hx : 0 ≤ x) (hxt : x ≤ t + 1) (h : ¬ cntF b f t x = 0) : idxF b f t (cntF b f t x - 1) < x := by
  have h0 := (cnt_bd (b := b) (f := f) (t := t) hx).1
  have h1 := cnt_le (b := b) (f := f) (t := t) hx hxt
  have hi := idxF_is (b := b) (f := f) (t := t) (idx := cntF b f t x - 1) ht (by omega) (by omega)
  rcases Int.lt_or_le (idxF b f t (cntF b f t x - 1)) x with q | q
  · exact q
  · have := cnt_le (b := b) (f := f) (t := t) hx q
    rw [hi.2.2.2] at this
    omega
end Ma

namespace Ma
/-! ### the worst loss of a table (law k68) -/
def uZ (b n : Int) : Int := if n = 0 then 0 else unitF b n
def unitsL (b : Int) (k : Nat) : List Int := 0 :: (Kr.rngI 1 k).map (unitF b)
theorem unitsL_len (b : Int) (k : Nat) : (unitsL b k).length = k + 1 := by
  unfold unitsL
  rw [List.length_cons, List.length_map, Kr.rngI_len]
theorem unitsL_at {b n : Int} {k : Nat} (h0 : 0 ≤ n) (h1 : n ≤ k) : (unitsL b k)[n.toNat]? = some (uZ b n) := by
  unfold unitsL uZ
  by_cases e : n = 0
  · subst e
    rw [if_pos rfl]
    rfl
  · rw [if_neg e]
    obtain ⟨m, hm⟩ : ∃ m : Nat, n = (m : Int) + 1 := ⟨(n - 1).toNat, by omega⟩
    have e2 : n.toNat = m + 1 := by omega
    rw [e2, List.getElem?_cons_succ, List.getElem?_map, Kr.rngI_get (by omega)]
    show some (unitF b (1 + (m : Int))) = _
    rw [hm, Int.add_comm]
theorem uZ_le {b n : Int} (hb : 2 ≤ b) (h : 0 ≤ n) : 0 ≤ uZ b n ∧ uZ b n ≤ n := by
  unfold uZ
  split
  · omega
  · have := unitF_pos (b := b) (n := n) hb
    have := unitF_le (b := b) (n := n) (by omega)
    omega
theorem kept_uz {b f n x : Int} (h0 : 0 ≤ n) (hx : n ≤ x) : keptB b f n x = true ↔ ¬ (0 < n ∧ n + f * uZ b n < x) := by
  by_cases e : n = 0
  · subst e
    rw [keptB_zero (by omega)]
    simp
  · unfold uZ
    rw [if_neg e, keptB_pos (by omega) hx]
    simp only [decide_eq_true_eq]
    omega
theorem div_mod {b n u : Int} (hu : 1 ≤ u) (h : u ∣ n) (q : u * b ∣ n) : n / u % b = 0 := by
  obtain ⟨c, rfl⟩ := q
  rw [Int.mul_assoc, Int.mul_ediv_cancel_left _ (by omega)]
  exact Int.mul_emod_right b c
theorem mod_div {b n u : Int} (h : u ∣ n) (q : n / u % b = 0) : u * b ∣ n := by
  obtain ⟨c, hc⟩ := Int.dvd_of_emod_eq_zero q
  refine ⟨c, ?_⟩
  rw [Int.mul_assoc, ← hc]
  exact (Int.mul_ediv_cancel' h).symm
def WorstI (b f age : Int) (i : Nat) (w : Int) : Prop := 0 ≤ w ∧ (∀ t, age ≤ t → t < age + i → lossF b f t age ≤ w) ∧ (w = 0 ∨ ∃ t, age ≤ t ∧ t < age + i ∧ w = lossF b f t age)
theorem WorstI.zero (b f age : Int) : WorstI b f age 0 0 := ⟨by omega, fun t h1 h2 => by simp at h2; omega, .inl rfl⟩
theorem WorstI.next {b f age x w n : Int} {i : Nat} (h0 : 0 ≤ age) (hx : x = age + i) (h : WorstI b f age i w) (hn : IsNew b f (x - age) x n) : WorstI b f age (i + 1) (max w (x - age - n)) := by
  have e : x - age - n = lossF b f x age := by
    unfold lossF
    rw [← IsNew.eq (by omega) hn]
  rw [e]
  obtain ⟨h1, h2, h3⟩ := h
  refine ⟨by omega, fun t q1 q2 => ?_, ?_⟩
  · by_cases z : t = x
    · subst z
      exact Int.le_max_right _ _
    · have := h2 t q1 (by simp at q2; omega)
      omega
  · rcases Int.le_total w (lossF b f x age) with z | z
    · rw [Int.max_eq_right z]
      exact .inr ⟨x, by omega, by simp; omega, rfl⟩
    · rw [Int.max_eq_left z]
      rcases h3 with h3 | ⟨t, q1, q2, q3⟩
      · exact .inl h3
      · exact .inr ⟨t, q1, by simp; omega, q3⟩
/-- with the least factor the worst loss is small enough -/
theorem k68_a {b age loss F w : Int} {i : Nat} (hb : 2 ≤ b) (h0 : 0 ≤ age) (hl : 0 ≤ loss) (hF : IsFac b age loss F) (hw : WorstI b F age i w) : w ≤ loss := by
  have hF1 := (fac_pos hF).1
  rcases hw.2.2 with h | ⟨t, h1, _, h2⟩
  · omega
  · rw [h2]
    rcases hF with ⟨ha, rfl⟩ | ⟨ha, u, hu, h3, h4, h5⟩
    · have := loss_le (b := b) (f := 1) (t := t) (age := age) hb (by decide) (IsPow.one b) (by simp; omega) h0 h1
      omega
    · have := loss_le (b := b) (f := F) (t := t) (age := age) hb hF1 hu.1 (by omega) h0 h1
      have := hu.2.1
      omega
theorem k68_b {b age loss F w : Int} {i : Nat} (hb : 2 ≤ b) (hb5 : b ≤ 5) (h0 : 0 ≤ age) (h10 : age ≤ 10) (hl : 0 ≤ loss) (hl10 : loss ≤ 10) (hi : age + i = 261) (hF : IsFac b age loss F) (h1 : 1 < F) (hw : WorstI b (F - 1) age i w) : loss < w := by
  rcases hF with ⟨ha, rfl⟩ | ⟨ha, u, hu, h3, h4, h5⟩
  · omega
  · obtain ⟨hp, hu1, hu2⟩ := hu
    have hup := hp.pos hb
    have hv := hp.mul
    have hl2 : u * b ≤ u * 5 := Int.mul_le_mul_of_nonneg_left hb5 (by omega)
    have e := loss_at' (b := b) (f := F - 1) (age := age) (v := u * b) hb (by omega) hv h0 (fun x hx hlt => by
      have hxu : x ≤ u := by
        rcases Int.lt_or_le u x with q | q
        · have := hp.next hb hx q
          omega
        · exact q
      have e1 : F - 1 - 1 = F - 2 := by omega
      rw [e1]
      have := Int.mul_le_mul_of_nonneg_left hxu (show 0 ≤ F - 2 by omega)
      omega)
    have := hw.2.1 (age + u * b - 1) (by omega) (by omega)
    rw [e] at this
    omega
theorem k68_n {b age loss F : Int} (h10 : age ≤ 10) (hb : 2 ≤ b) (hF : IsFac b age loss F) : F ≤ 11 := by
  rcases hF with ⟨ha, rfl⟩ | ⟨ha, u, hu, h3, h4, h5⟩
  · omega
  · have hup := hu.1.pos hb
    have := Int.mul_le_mul_of_nonneg_left hup (show 0 ≤ F - 2 by omega)
    omega
end Ma

set_option Elab.async false
set_option linter.all false
set_option maxRecDepth 100000
namespace Ma
/-! ### for law k10 -/
theorem k10_max {b f t z m : Int} (ht : 0 ≤ t) (h1 : m ∈ (keptL b f t).filter (fun x => decide (x ≤ z))) (h2 : ∀ k ∈ (keptL b f t).filter (fun x => decide (x ≤ z)), k ≤ m) : newF b f z t = m := by
  obtain ⟨q1, q2⟩ := List.mem_filter.mp h1
  obtain ⟨q3, q4⟩ := mem_keptL.mp q1
  rw [decide_eq_true_eq] at q2
  refine (IsNew.eq ht ⟨q3, q2, q4, fun n hn1 hn2 hn3 => ?_⟩).symm
  have := h2 n (List.mem_filter.mpr ⟨mem_keptL.mpr ⟨by omega, hn3⟩, by rw [decide_eq_true_eq]; exact hn2⟩)
  omega
theorem k10_some {b f t z : Int} (ht : 0 ≤ t) (hz : 0 ≤ z) : 0 < ((keptL b f t).filter (fun x => decide (x ≤ z))).length :=
  List.length_pos_of_mem (List.mem_filter.mpr ⟨mem_keptL.mpr ⟨Int.le_refl 0, keptB_zero ht⟩, by rw [decide_eq_true_eq]; exact hz⟩)
theorem rng_sorted (lo : Int) (n : Nat) : (Kr.rngI lo n).Pairwise (· < ·) := by
  unfold Kr.rngI
  rw [List.pairwise_map]
  exact List.Pairwise.imp (fun h => by omega) List.pairwise_lt_range
theorem keptL_sorted (b f t : Int) : (keptL b f t).Pairwise (· < ·) := (rng_sorted 0 _).filter _
theorem k10_head {b f t z : Int} (hb : 2 ≤ b) (hf : 1 ≤ f) (ht : 0 ≤ t) (hz : 0 ≤ z) : (Kr.headV ((keptL b f t).filter (fun x => decide (z ≤ x))) = .non ∧ t < z) ∨ ∃ v, Kr.headV ((keptL b f t).filter (fun x => decide (z ≤ x))) = .int v ∧ IsNext b f t z v := by
  have hmem : ∀ x, x ∈ (keptL b f t).filter (fun x => decide (z ≤ x)) ↔ z ≤ x ∧ keptB b f x t = true := fun x => by
    rw [List.mem_filter, mem_keptL, decide_eq_true_eq]
    constructor
    · rintro ⟨⟨q1, q2⟩, q3⟩
      exact ⟨q3, q2⟩
    · rintro ⟨q1, q2⟩
      exact ⟨⟨by omega, q2⟩, q1⟩
  have hs := (keptL_sorted b f t).filter (fun x => decide (z ≤ x))
  cases hL : (keptL b f t).filter (fun x => decide (z ≤ x)) with
  | nil =>
    refine .inl ⟨rfl, ?_⟩
    rcases Int.lt_or_le t z with q | q
    · exact q
    · have := (hmem t).mpr ⟨q, kept_self hb (by omega) ht⟩
      rw [hL] at this
      cases this
  | cons y r =>
    rw [hL] at hs hmem
    have hy := (hmem y).mp (by simp)
    refine .inr ⟨y, rfl, hy.1, kept_le hy.2, hy.2, fun m h1 h2 h3 => ?_⟩
    have hm := (hmem m).mpr ⟨h1, h3⟩
    rcases List.mem_cons.mp hm with e | e
    · omega
    · have := (List.pairwise_cons.mp hs).1 m e
      omega
theorem cnt_gap {b f t x y : Int} (hx : 0 ≤ x) (hxy : x ≤ y) (h : ∀ m, x ≤ m → m < y → ¬ keptB b f m t = true) : cntF b f t y = cntF b f t x := by
  have key : ∀ d : Nat, (∀ m, x ≤ m → m < x + d → ¬ keptB b f m t = true) → cntF b f t (x + d) = cntF b f t x := by
    intro d
    induction d with
    | zero => intro _; rw [show x + ((0 : Nat) : Int) = x by omega]
    | succ d ih =>
      intro hd
      rw [show x + ((d + 1 : Nat) : Int) = x + d + 1 by omega, cnt_succ (by omega), ih fun m h1 h2 => hd m h1 (by omega), if_neg (hd (x + d) (by omega) (by omega))]
      omega
  have := key (y - x).toNat fun m h1 h2 => h m h1 (by omega)
  rw [show x + (((y - x).toNat : Nat) : Int) = y by omega] at this
  exact this
theorem new_cnt {b f t n r : Int} (h : IsNew b f n t r) : cntF b f t (n + 1) = cntF b f t r + 1 := by
  obtain ⟨h1, h2, h3, h4⟩ := h
  rw [cnt_gap (x := r + 1) (by omega) (by omega) fun m q1 q2 => h4 m (by omega) (by omega), cnt_succ h1, if_pos h3]
theorem next_cnt {b f t n r : Int} (hn : 0 ≤ n) (h : IsNext b f t n r) : cntF b f t r = cntF b f t n := cnt_gap hn h.1 h.2.2.2
theorem new_top {b f t n r : Int} (hb : 2 ≤ b) (hf : 1 ≤ f) (ht : 0 ≤ t) (h : IsNew b f n t r) (hn : t ≤ n) : r = t := by
  obtain ⟨h1, h2, h3, h4⟩ := h
  have q := kept_le h3
  rcases Int.lt_or_le r t with z | z
  · exact absurd (kept_self hb (by omega) ht) (h4 t z hn)
  · omega
theorem new_self {b f t r : Int} (ht : 0 ≤ t) (h0 : 0 ≤ r) (h : keptB b f r t = true) : newF b f r t = r := (IsNew.eq ht ⟨h0, Int.le_refl _, h, fun n h1 h2 => by omega⟩).symm
theorem next_self {b f t r : Int} (h : keptB b f r t = true) : IsNext b f t r r := ⟨Int.le_refl _, kept_le h, h, fun m h1 h2 => by omega⟩
theorem k10_idx {b f t n r v : Int} (hn : 0 ≤ n) (h : IsNew b f n t r) (hv : IsNext b f t (r + 1) v) : cntF b f t r + 1 < cntF b f t (t + 1) ∧ v = idxF b f t (cntF b f t r + 1) := by
  have h1 := next_cnt (by have := h.1; omega) hv
  rw [cnt_succ h.1, if_pos h.2.2.1] at h1
  have h0 := h.1
  have hv1 := hv.1
  refine ⟨?_, IsIdx.eq ⟨by omega, hv.2.1, hv.2.2.1, h1⟩⟩
  have := cnt_lt (b := b) (f := f) (t := t) (n := v) (m := t + 1) (by omega) (by have := hv.2.1; omega) hv.2.2.1
  omega
end Ma

set_option Elab.async false
set_option linter.all false
set_option maxRecDepth 100000
/-! ### the levels of kept numbers -/
namespace Ma
def lowF (b f t : Int) (j : Nat) : Int := max 1 (t - f * b ^ j)
def hasL (b f t : Int) (j : Nat) : Bool := decide (firstL b (b ^ j) (lowF b f t j) ≤ lastL b (b ^ j) t)
def rowJ (b f t : Int) (j : Nat) : List L2.V := [.int j, .int (firstL b (b ^ j) (lowF b f t j)), .int (lastL b (b ^ j) t), .int (levC b (b ^ j) (lowF b f t j) t)]
def jsL (b f t : Int) (k : Nat) : List Nat := (List.range k).filter (hasL b f t)
theorem js_yes {b f t : Int} {i : Nat} (h : firstL b (b ^ i) (max 1 (t - f * b ^ i)) ≤ lastL b (b ^ i) t) :
    (jsL b f t i).map (rowJ b f t) ++ [[L2.V.int i, .int (firstL b (b ^ i) (max 1 (t - f * b ^ i))), .int (lastL b (b ^ i) t), .int (levC b (b ^ i) (max 1 (t - f * b ^ i)) t)]] = (jsL b f t (i + 1)).map (rowJ b f t) := by
  unfold jsL
  rw [List.range_succ, List.filter_append, List.filter_cons_of_pos (show hasL b f t i = true from decide_eq_true h), List.map_append]
  rfl
theorem js_no {b f t : Int} {i : Nat} (h : ¬ firstL b (b ^ i) (max 1 (t - f * b ^ i)) ≤ lastL b (b ^ i) t) : jsL b f t i = jsL b f t (i + 1) := by
  unfold jsL
  rw [List.range_succ, List.filter_append, List.filter_cons_of_neg (show ¬ hasL b f t i = true by unfold hasL lowF; simpa using h)]
  simp
theorem js_len (b f t : Int) (i : Nat) : (jsL b f t i).length ≤ i := by
  have := List.length_filter_le (hasL b f t) (List.range i)
  rw [List.length_range] at this
  exact this
theorem js_sorted (b f t : Int) (k : Nat) : (jsL b f t k).Pairwise (· < ·) := (List.pairwise_lt_range).filter _
theorem js_mem {b f t : Int} {k j : Nat} : j ∈ jsL b f t k ↔ j < k ∧ hasL b f t j = true := by
  unfold jsL
  rw [List.mem_filter, List.mem_range]
theorem up_enum {b t : Int} {k i : Nat} {x : Int × Nat} (hb : 2 ≤ b) (h : IsUp b t k) (hx : (powJ b k).zipIdx[i]? = some x) : i < k ∧ x = (b ^ i, i) ∧ 1 ≤ b ^ i ∧ b ^ i ≤ t := by
  rw [List.getElem?_zipIdx] at hx
  cases hp : (powJ b k)[i]? with
  | none => rw [hp] at hx; cases hx
  | some p =>
    rw [hp] at hx
    obtain ⟨h1, rfl, h3, h4⟩ := up_item hb h hp
    have hx := Option.some.inj hx
    refine ⟨h1, ?_, h3, h4⟩
    rw [← hx]
    simp
theorem pl_rowJ (b f t : Int) (xs : List Nat) : (xs.map (rowJ b f t)).all (fun r => r.all Kr.plV) = true := by
  rw [List.all_eq_true]
  intro r hr
  obtain ⟨x, _, rfl⟩ := List.mem_map.mp hr
  rfl
/-- what the first and the last number of a level are -/
structure LevOk (b f t : Int) (j : Nat) (x y : Int) : Prop where
  x1 : 1 ≤ x
  xy : x ≤ y
  yt : y ≤ t
  ux : unitF b x = b ^ j
  uy : unitF b y = b ^ j
  low : lowF b f t j ≤ x
  least : ∀ m, lowF b f t j ≤ m → unitF b m = b ^ j → x ≤ m
  most : ∀ m, 1 ≤ m → m ≤ t → unitF b m = b ^ j → m ≤ y
theorem lev_ok {b f t : Int} {j : Nat} (hb : 2 ≤ b) (ht : 0 ≤ t) (h : hasL b f t j = true) : LevOk b f t j (firstL b (b ^ j) (lowF b f t j)) (lastL b (b ^ j) t) := by
  have h := of_decide_eq_true h
  have hl : 1 ≤ lowF b f t j := by unfold lowF; omega
  have h1 := firstL_is (b := b) (u := b ^ j) (l := lowF b f t j) hb ⟨j, rfl⟩ hl
  have h2 := lastL_is (b := b) (u := b ^ j) (h := t) hb ⟨j, rfl⟩ ht
  exact ⟨by omega, h, h2.1, h1.2.1, h2.2.1 (by omega), h1.1, h1.2.2.1, h2.2.2⟩
theorem lev_no {b f t n : Int} {j : Nat} (hb : 2 ≤ b) (ht : 0 ≤ t) (h : ¬ hasL b f t j = true) (h1 : lowF b f t j ≤ n) (h2 : n ≤ t) : ¬ unitF b n = b ^ j := fun hu => by
  have hl : 1 ≤ lowF b f t j := by unfold lowF; omega
  have q1 := (firstL_is (b := b) (u := b ^ j) (l := lowF b f t j) hb ⟨j, rfl⟩ hl).2.2.1 n h1 hu
  have q2 := (lastL_is (b := b) (u := b ^ j) (h := t) hb ⟨j, rfl⟩ ht).2.2 n (by omega) h2 hu
  exact h (decide_eq_true (by omega))
theorem levC_zero {b f t : Int} {j : Nat} (hb : 2 ≤ b) (ht : 0 ≤ t) (h : ¬ hasL b f t j = true) : levC b (b ^ j) (lowF b f t j) t = 0 := by
  have hl : 1 ≤ lowF b f t j := by unfold lowF; omega
  rw [levC_sum hb ⟨j, rfl⟩ hl]
  exact sumN_zero fun i hi => if_neg (lev_no hb ht h (by omega) (by omega))
theorem unit_at {b u x : Int} (hb : 2 ≤ b) (hu : IsPow b u) (hx : 1 ≤ x) (h1 : u ∣ x) (h2 : ¬ u * b ∣ x) : unitF b x = u := (IsUnit.eq hb hx ⟨hu, h1, h2⟩).symm
/-- a level is there if two of its units fit -/
theorem has_two {b f t : Int} {j : Nat} (hb : 2 ≤ b) (ht : 0 ≤ t) (h1 : 2 * b ^ j ≤ t) (h2 : 2 * b ^ j ≤ f * b ^ j) : hasL b f t j = true := by
  refine Decidable.byContradiction fun h => ?_
  have hu := pow_pos hb j
  have hd := down_le (s := t) (u := b ^ j) hu
  have hdv := down_dvd (s := t) (u := b ^ j)
  by_cases hq : b ^ j * b ∣ downF t (b ^ j)
  · have hn := (not_ub hb hu hq).1
    have hun := unit_at (x := downF t (b ^ j) - b ^ j) hb ⟨j, rfl⟩ (by omega) (Int.dvd_sub hdv ⟨1, by rw [Int.mul_one]⟩) hn
    exact lev_no hb ht h (by unfold lowF; omega) (by omega) hun
  · have hun := unit_at (x := downF t (b ^ j)) hb ⟨j, rfl⟩ (by omega) hdv hq
    exact lev_no hb ht h (by unfold lowF; omega) (by omega) hun
theorem lev_before {b f t x y : Int} {j : Nat} (hb : 2 ≤ b) (h : LevOk b f t j x y) (c : Int) (hc : c = if (x - b ^ j) % (b ^ j * b) = 0 then 1 else 0) (h0 : 0 < x - b ^ j - b ^ j * c) : ¬ keptB b f (x - b ^ j - b ^ j * c) t = true := fun hk => by
  have hu := pow_pos hb j
  have hdx : b ^ j ∣ x := h.ux ▸ unitF_dvd
  have hself : b ^ j ∣ b ^ j := ⟨1, by rw [Int.mul_one]⟩
  have hun : unitF b (x - b ^ j - b ^ j * c) = b ^ j := by
    refine unit_at hb ⟨j, rfl⟩ (by omega) (Int.dvd_sub (Int.dvd_sub hdx hself) ⟨c, rfl⟩) ?_
    by_cases q : (x - b ^ j) % (b ^ j * b) = 0
    · rw [if_pos q] at hc
      subst hc
      rw [Int.mul_one]
      exact (not_ub hb hu (Int.dvd_of_emod_eq_zero q)).1
    · rw [if_neg q] at hc
      subst hc
      rw [Int.mul_zero, Int.sub_zero]
      exact fun z => q (Int.emod_eq_zero_of_dvd z)
  have hq := (kept_iff (by omega)).mp hk
  rw [hun] at hq
  have hc0 : 0 ≤ b ^ j * c := Int.mul_nonneg (by omega) (by split at hc <;> omega)
  have := h.least _ (by unfold lowF; omega) hun
  omega
theorem lev_behind {b f t x y : Int} {j : Nat} (hb : 2 ≤ b) (h : LevOk b f t j x y) (c : Int) (hc : c = if (y + b ^ j) % (b ^ j * b) = 0 then 1 else 0) : t < y + b ^ j + b ^ j * c := by
  have hu := pow_pos hb j
  have hx1 := h.x1
  have hxy := h.xy
  have hdy : b ^ j ∣ y := h.uy ▸ unitF_dvd
  have hself : b ^ j ∣ b ^ j := ⟨1, by rw [Int.mul_one]⟩
  have hc0 : 0 ≤ b ^ j * c := Int.mul_nonneg (by omega) (by split at hc <;> omega)
  have hun : unitF b (y + b ^ j + b ^ j * c) = b ^ j := by
    refine unit_at hb ⟨j, rfl⟩ (by omega) (Int.dvd_add (Int.dvd_add hdy hself) ⟨c, rfl⟩) ?_
    by_cases q : (y + b ^ j) % (b ^ j * b) = 0
    · rw [if_pos q] at hc
      subst hc
      rw [Int.mul_one]
      exact (not_ub hb hu (Int.dvd_of_emod_eq_zero q)).2
    · rw [if_neg q] at hc
      subst hc
      rw [Int.mul_zero, Int.add_zero]
      exact fun z => q (Int.emod_eq_zero_of_dvd z)
  refine Decidable.byContradiction fun q => ?_
  have := h.most _ (by omega) (by omega) hun
  omega
theorem lev_count {b f t x y : Int} {j : Nat} (hb : 2 ≤ b) (h : LevOk b f t j x y) : levC b (b ^ j) (lowF b f t j) t = y / b ^ j - (x - 1) / b ^ j - (y / (b ^ j * b) - (x - 1) / (b ^ j * b)) := by
  have hl : 1 ≤ lowF b f t j := by unfold lowF; omega
  have e : levC b (b ^ j) x y = y / b ^ j - (x - 1) / b ^ j - (y / (b ^ j * b) - (x - 1) / (b ^ j * b)) := by
    have := h.xy
    unfold levC
    rw [if_neg (by omega)]
  rw [← e, levC_sum hb ⟨j, rfl⟩ hl, levC_sum hb ⟨j, rfl⟩ h.x1]
  have h1 := h.low
  have h2 := h.xy
  have h3 := h.yt
  rw [show (t - lowF b f t j + 1).toNat = (x - lowF b f t j).toNat + ((y - x + 1).toNat + (t - y).toNat) by omega, sumN_plus, sumN_plus, sumN_zero (n := (x - lowF b f t j).toNat), sumN_zero (n := (t - y).toNat), Int.zero_add, Int.add_zero]
  · refine sumN_congr fun i hi => ?_
    rw [show lowF b f t j + (((x - lowF b f t j).toNat + i : Nat) : Int) = x + i by omega]
  · intro i hi
    refine if_neg fun q => ?_
    have := h.most _ (by omega) (by omega) q
    omega
  · intro i hi
    refine if_neg fun q => ?_
    have := h.least _ (by omega) q
    omega
/-! ### a walk over the rows -/
def PosL (b f t : Int) (k i lv : Nat) : Prop := ∀ (idx l : Nat), (jsL b f t k)[idx]? = some l → (idx < i ↔ l < lv)
theorem pos_zero (b f t : Int) (k : Nat) : PosL b f t k 0 0 := fun idx l _ => by omega
theorem js_lt {b f t : Int} {k i j a c : Nat} (h1 : (jsL b f t k)[i]? = some a) (h2 : (jsL b f t k)[j]? = some c) : i < j ↔ a < c := by
  obtain ⟨q1, e1⟩ := List.getElem?_eq_some_iff.mp h1
  obtain ⟨q2, e2⟩ := List.getElem?_eq_some_iff.mp h2
  have hs := List.pairwise_iff_getElem.mp (js_sorted b f t k)
  rcases Nat.lt_trichotomy i j with z | z | z
  · have := hs i j q1 q2 z
    omega
  · subst z
    have : a = c := by rw [← e1, ← e2]
    omega
  · have := hs j i q2 q1 z
    omega
theorem pos_next {b f t : Int} {k i j : Nat} (hj : (jsL b f t k)[i]? = some j) : PosL b f t k (i + 1) (j + 1) := fun idx l hl => by
  have := js_lt hj hl
  omega
theorem pos_le {b f t : Int} {k i lv j : Nat} (h : PosL b f t k i lv) (hj : (jsL b f t k)[i]? = some j) : lv ≤ j := by
  have := h i j hj
  omega
theorem pos_skip {b f t : Int} {k i lv j : Nat} (h : PosL b f t k i lv) (hj : (jsL b f t k)[i]? = some j) (hlt : lv < j) : PosL b f t k i (lv + 1) ∧ ¬ hasL b f t lv = true := by
  have hjk := (js_mem.mp (List.mem_of_getElem? hj)).1
  have hno : ¬ hasL b f t lv = true := fun q => by
    obtain ⟨idx, hi, e⟩ := List.mem_iff_getElem.mp (js_mem.mpr ⟨show lv < k by omega, q⟩)
    have hg : (jsL b f t k)[idx]? = some lv := by rw [List.getElem?_eq_getElem hi, e]
    have h1 := h idx lv hg
    have h2 := js_lt hg hj
    omega
  refine ⟨fun idx l hl => ?_, hno⟩
  have h1 := h idx l hl
  have h2 := (js_mem.mp (List.mem_of_getElem? hl)).2
  by_cases e : l = lv
  · subst e
    exact absurd h2 hno
  · omega
theorem pos_end {b f t : Int} {k lv l : Nat} (h : PosL b f t k (jsL b f t k).length lv) (h1 : lv ≤ l) (h2 : l < k) : ¬ hasL b f t l = true := fun q => by
  obtain ⟨idx, hi, e⟩ := List.mem_iff_getElem.mp (js_mem.mpr ⟨h2, q⟩)
  have := h idx l (by rw [List.getElem?_eq_getElem hi, e])
  omega
def sumL (b f t : Int) (lv : Nat) : Int := sumN (fun j => levC b (b ^ j) (lowF b f t j) t) lv
theorem sum_end {b f t : Int} {k lv : Nat} (hb : 2 ≤ b) (hf : 1 ≤ f) (ht : 0 ≤ t) (hk : IsUp b t k) (h : PosL b f t k (jsL b f t k).length lv) (hl : lv ≤ k) : cntF b f t (t + 1) = 1 + sumL b f t lv := by
  have h1 := cnt_levels (n := t + 1) hb hf ht (by omega) hk
  rw [if_pos (by omega), show min (t + 1 - 1) t = t by omega] at h1
  rw [← h1]
  congr 1
  unfold sumL
  rw [show k = lv + (k - lv) by omega, sumN_plus, sumN_zero (n := k - lv), Int.add_zero]
  · rfl
  · intro i hi
    exact levC_zero hb ht (pos_end h (by omega) (by omega))
theorem up_bd {b t : Int} {k lv : Nat} (hb : 2 ≤ b) (hb2 : b ≤ 1000) (ht : 0 ≤ t) (hk : IsUp b t k) (h : lv ≤ k) : 1 ≤ b ^ lv ∧ b ^ lv ≤ 1000 * t + 1 := by
  have h1 := pow_mono hb h
  refine ⟨pow_pos hb lv, ?_⟩
  cases k with
  | zero => rw [Int.pow_zero] at h1; omega
  | succ k =>
    have h2 := hk.1 k (by omega)
    have h3 : b ^ k * b ≤ b ^ k * 1000 := Int.mul_le_mul_of_nonneg_left hb2 (by have := pow_pos hb k; omega)
    rw [Int.pow_succ] at h1
    omega
theorem end_two {b f t : Int} {k lv : Nat} (hb : 2 ≤ b) (ht : 0 ≤ t) (hk : IsUp b t k) (h : PosL b f t k (jsL b f t k).length lv) : min t (f * b ^ lv) < 2 * b ^ lv := by
  refine Decidable.byContradiction fun q => ?_
  have hu := pow_pos hb lv
  have hlk : lv < k := by
    have := hk.2.1
    exact pow_lt_iff hb (by omega)
  exact pos_end h (Nat.le_refl _) hlk (has_two hb ht (by omega) (by omega))
end Ma

set_option Elab.async false
set_option linter.all false
set_option maxRecDepth 100000
/-! ### kept numbers of a range -/
namespace Ma
theorem sorted_ext : ∀ {xs ys : List Int}, xs.Pairwise (· < ·) → ys.Pairwise (· < ·) → (∀ n, n ∈ xs ↔ n ∈ ys) → xs = ys
  | [], [], _, _, _ => rfl
  | [], y :: ys, _, _, h => absurd ((h y).mpr List.mem_cons_self) (by simp)
  | x :: xs, [], _, _, h => absurd ((h x).mp List.mem_cons_self) (by simp)
  | x :: xs, y :: ys, hx, hy, h => by
    rw [List.pairwise_cons] at hx hy
    have e : x = y := by
      rcases List.mem_cons.mp ((h x).mp List.mem_cons_self) with q | q
      · exact q
      · rcases List.mem_cons.mp ((h y).mpr List.mem_cons_self) with z | z
        · exact z.symm
        · have := hx.1 y z
          have := hy.1 x q
          omega
    subst e
    rw [sorted_ext hx.2 hy.2 fun n => ?_]
    constructor
    · intro hn
      rcases List.mem_cons.mp ((h n).mp (List.mem_cons_of_mem _ hn)) with q | q
      · have := hx.1 n hn
        omega
      · exact q
    · intro hn
      rcases List.mem_cons.mp ((h n).mpr (List.mem_cons_of_mem _ hn)) with q | q
      · have := hy.1 n hn
        omega
      · exact q
def fromL (b f t lo : Int) : List Int := (keptL b f t).filter (fun n => decide (lo ≤ n))
def betL (b f t lo hi : Int) : List Int := (keptL b f t).filter (fun n => decide (lo ≤ n) && decide (n ≤ hi))
theorem mem_from {b f t lo n : Int} (hl : 0 ≤ lo) : n ∈ fromL b f t lo ↔ lo ≤ n ∧ keptB b f n t = true := by
  unfold fromL
  rw [List.mem_filter, mem_keptL, decide_eq_true_eq]
  exact ⟨fun h => ⟨h.2, h.1.2⟩, fun h => ⟨⟨by omega, h.2⟩, h.1⟩⟩
theorem mem_bet {b f t lo hi n : Int} (hl : 0 ≤ lo) : n ∈ betL b f t lo hi ↔ lo ≤ n ∧ n ≤ hi ∧ keptB b f n t = true := by
  unfold betL
  rw [List.mem_filter, mem_keptL, Bool.and_eq_true, decide_eq_true_eq, decide_eq_true_eq]
  exact ⟨fun h => ⟨h.2.1, h.2.2, h.1.2⟩, fun h => ⟨⟨by omega, h.2.2⟩, h.1, h.2.1⟩⟩
theorem from_sorted (b f t lo : Int) : (fromL b f t lo).Pairwise (· < ·) := (keptL_sorted b f t).filter _
theorem bet_sorted (b f t lo hi : Int) : (betL b f t lo hi).Pairwise (· < ·) := (keptL_sorted b f t).filter _
theorem bet_len {b f t lo hi : Int} (ht : 0 ≤ t) (hl : 0 ≤ lo) (h : lo ≤ hi + 1) : ((betL b f t lo hi).length : Int) = cntF b f t (hi + 1) - cntF b f t lo := by
  have h1 := keptL_below (b := b) (f := f) (t := t) (n := hi + 1) ht (by omega)
  have h2 := keptL_below (b := b) (f := f) (t := t) (n := lo) ht hl
  have h3 : ∀ xs : List Int, ((xs.filter (fun m => decide (m < hi + 1))).length : Int) = (xs.filter (fun m => decide (m < lo))).length + (xs.filter (fun n => decide (lo ≤ n) && decide (n ≤ hi))).length := by
    intro xs
    induction xs with
    | nil => rfl
    | cons x r ih =>
      rw [List.filter_cons, List.filter_cons, List.filter_cons]
      by_cases q1 : x < lo
      · rw [if_pos (by simpa using show x < hi + 1 by omega), if_pos (by simpa using q1), if_neg (by simp; omega)]
        rw [List.length_cons, List.length_cons]
        omega
      · by_cases q2 : x ≤ hi
        · rw [if_pos (by simpa using show x < hi + 1 by omega), if_neg (by simpa using q1), if_pos (by simp; omega)]
          rw [List.length_cons, List.length_cons]
          omega
        · rw [if_neg (by simp; omega), if_neg (by simpa using q1), if_neg (by simp; omega)]
          exact ih
  have h4 := h3 (keptL b f t)
  unfold betL
  omega
theorem from_at {b f t lo m : Int} {i : Nat} {v : L2.V} (hl : 0 ≤ lo) (hm : lo ≤ m) (hi : i ≤ (fromL b f t lo).length)
    (h1 : ∀ (j : Nat) (n : Int), (fromL b f t lo)[j]? = some n → (i ≤ j → m ≤ n) ∧ (j < i → n < m)) (h : Kr.IsOpt (t < m) (fun n => m ≤ t ∧ IsNext b f t m n) v) :
    (v = .non ∧ i = (fromL b f t lo).length) ∨ ∃ n, v = .int n ∧ (fromL b f t lo)[i]? = some n := by
  rcases h with ⟨e, hN⟩ | ⟨n, e, hn⟩
  · refine .inl ⟨e, Decidable.byContradiction fun q => ?_⟩
    have hlt : i < (fromL b f t lo).length := by omega
    have hg := List.getElem?_eq_getElem hlt
    have hk := ((mem_from hl).mp (List.getElem_mem hlt)).2
    have := (h1 i _ hg).1 (Nat.le_refl _)
    have := kept_le hk
    omega
  · refine .inr ⟨n, e, ?_⟩
    have hn := hn.2
    obtain ⟨j, hj, ej⟩ := List.mem_iff_getElem.mp ((mem_from hl).mpr ⟨show lo ≤ n by have := hn.1; omega, hn.2.2.1⟩)
    have hgj : (fromL b f t lo)[j]? = some n := by rw [List.getElem?_eq_getElem hj, ej]
    have hij : i ≤ j := Nat.le_of_not_lt fun q => by
      have := (h1 j n hgj).2 q
      have := hn.1
      omega
    rcases Nat.lt_or_ge i j with q | q
    · exfalso
      have hlt : i < (fromL b f t lo).length := by omega
      have hs := List.pairwise_iff_getElem.mp (from_sorted b f t lo) i j hlt hj q
      have hk := ((mem_from hl).mp (List.getElem_mem hlt)).2
      exact hn.2.2.2 _ ((h1 i _ (List.getElem?_eq_getElem hlt)).1 (Nat.le_refl _)) (by omega) hk
    · obtain rfl : i = j := by omega
      exact hgj
theorem from_zero {b f t lo : Int} {v : L2.V} (hl : 0 ≤ lo) (h : Kr.IsOpt (t < lo) (fun n => lo ≤ t ∧ IsNext b f t lo n) v) :
    (v = .non ∧ 0 = (fromL b f t lo).length) ∨ ∃ n, v = .int n ∧ (fromL b f t lo)[0]? = some n :=
  from_at hl (Int.le_refl _) (Nat.zero_le _) (fun j n hj => ⟨fun _ => ((mem_from hl).mp (List.mem_of_getElem? hj)).1, fun q => absurd q (by omega)⟩) h
theorem from_step {b f t lo n : Int} {i : Nat} {v : L2.V} (hl : 0 ≤ lo) (hn : (fromL b f t lo)[i]? = some n) (h : Kr.IsOpt (t < n + 1) (fun m => n + 1 ≤ t ∧ IsNext b f t (n + 1) m) v) :
    (v = .non ∧ i + 1 = (fromL b f t lo).length) ∨ ∃ n, v = .int n ∧ (fromL b f t lo)[i + 1]? = some n := by
  obtain ⟨hlt, en⟩ := List.getElem?_eq_some_iff.mp hn
  have hlo := ((mem_from hl).mp (List.mem_of_getElem? hn)).1
  refine from_at hl (by omega) hlt (fun j y hj => ?_) h
  obtain ⟨hj2, ey⟩ := List.getElem?_eq_some_iff.mp hj
  have hp := List.pairwise_iff_getElem.mp (from_sorted b f t lo)
  refine ⟨fun q => ?_, fun q => ?_⟩
  · have := hp i j hlt hj2 (by omega)
    omega
  · rcases Nat.lt_or_ge j i with z | z
    · have := hp j i hj2 hlt z
      omega
    · obtain rfl : i = j := by omega
      omega
theorem take_snoc {xs : List Int} {i : Nat} {n : Int} (h : xs[i]? = some n) : (xs.take i).map L2.V.int ++ [L2.V.int n] = (xs.take (i + 1)).map L2.V.int := by
  rw [List.take_add_one, h, List.map_append]
  rfl
/-- the walk stops: what was taken is the range -/
theorem from_done {b f t lo hi : Int} {i : Nat} (hl : 0 ≤ lo) (h1 : ∀ (j : Nat) (n : Int), j < i → (fromL b f t lo)[j]? = some n → n ≤ hi) (h2 : ∀ n, (fromL b f t lo)[i]? = some n → hi < n) : (fromL b f t lo).take i = betL b f t lo hi := by
  refine sorted_ext ((from_sorted b f t lo).take) (bet_sorted b f t lo hi) fun n => ?_
  rw [mem_bet hl]
  constructor
  · intro hn
    obtain ⟨j, hj⟩ := List.mem_iff_getElem?.mp hn
    rw [List.getElem?_take] at hj
    split at hj
    · rename_i q
      have hm := (mem_from hl).mp (List.mem_of_getElem? hj)
      exact ⟨hm.1, h1 j n q hj, hm.2⟩
    · cases hj
  · rintro ⟨q1, q2, q3⟩
    obtain ⟨j, hj, ej⟩ := List.mem_iff_getElem.mp ((mem_from hl).mpr ⟨q1, q3⟩)
    have hg : (fromL b f t lo)[j]? = some n := by rw [List.getElem?_eq_getElem hj, ej]
    have hji : j < i := Nat.lt_of_not_le fun z => by
      have hlt : i < (fromL b f t lo).length := by omega
      have h3 := h2 _ (List.getElem?_eq_getElem hlt)
      rcases Nat.lt_or_ge i j with y | y
      · have := List.pairwise_iff_getElem.mp (from_sorted b f t lo) i j hlt hj y
        omega
      · obtain rfl : i = j := by omega
        omega
    exact List.mem_iff_getElem?.mpr ⟨j, by rw [List.getElem?_take, if_pos hji, hg]⟩
theorem from_some {b f t lo hi : Int} {i : Nat} (hl : 0 ≤ lo) (h1 : ∀ (j : Nat) (n : Int), j < i → (fromL b f t lo)[j]? = some n → n ≤ hi) : (((fromL b f t lo).take i).length : Int) ≤ (betL b f t lo hi).length := by
  have hnd : ((fromL b f t lo).take i).Nodup := ((from_sorted b f t lo).take).imp fun h => by omega
  have := hnd.length_le_of_subset (l₂ := betL b f t lo hi) fun n hn => by
    obtain ⟨j, hj⟩ := List.mem_iff_getElem?.mp hn
    rw [List.getElem?_take] at hj
    split at hj
    · rename_i q
      have hm := (mem_from hl).mp (List.mem_of_getElem? hj)
      exact (mem_bet hl).mpr ⟨hm.1, h1 j n q hj, hm.2⟩
    · cases hj
  omega
theorem sumN_nn {f : Nat → Int} : ∀ {n : Nat}, (∀ i, i < n → 0 ≤ f i) → 0 ≤ sumN f n
  | 0, _ => Int.le_refl _
  | n + 1, h => by
    have := sumN_nn (f := f) (n := n) fun i hi => h i (by omega)
    have := h n (by omega)
    rw [sumN]
    omega
theorem sumN_ps {f : Nat → Int} : ∀ {n : Nat} (m : Nat), m < n → (∀ i, i < n → 0 ≤ f i) → 1 ≤ f m → 1 ≤ sumN f n
  | 0, _, h, _, _ => absurd h (by omega)
  | n + 1, m, hm, h, h1 => by
    have h0 := sumN_nn (f := f) (n := n) fun i hi => h i (by omega)
    have hn := h n (by omega)
    rw [sumN]
    rcases Nat.lt_or_ge m n with q | q
    · have := sumN_ps (f := f) (n := n) m q (fun i hi => h i (by omega)) h1
      omega
    · obtain rfl : m = n := by omega
      omega
theorem lev_bound {b f t : Int} {j : Nat} (hb : 2 ≤ b) (hf : 1 ≤ f) (ht : 0 ≤ t) (h : hasL b f t j = true) : 1 ≤ levC b (b ^ j) (lowF b f t j) t ∧ levC b (b ^ j) (lowF b f t j) t ≤ f + 1 := by
  have hL := lev_ok hb ht h
  have hu := pow_pos hb j
  have hl : 1 ≤ lowF b f t j := by unfold lowF; omega
  constructor
  · rw [levC_sum hb ⟨j, rfl⟩ hl]
    have h1 := hL.low
    have h2 := hL.xy
    have h3 := hL.yt
    have h4 := sumN_ps (f := fun i => eF b (b ^ j) (lowF b f t j + i)) (n := (t - lowF b f t j + 1).toNat) (firstL b (b ^ j) (lowF b f t j) - lowF b f t j).toNat (by omega) (fun i _ => by unfold eF; split <;> omega) (by
      unfold eF
      rw [show lowF b f t j + ((firstL b (b ^ j) (lowF b f t j) - lowF b f t j).toNat : Int) = firstL b (b ^ j) (lowF b f t j) by omega, if_pos hL.ux]
      exact Int.le_refl _)
    exact h4
  · unfold levC
    split
    · omega
    · have hub : 1 ≤ b ^ j * b := by
        have := ub_big hb hu
        omega
      have h1 : (lowF b f t j - 1) / (b ^ j * b) ≤ t / (b ^ j * b) := Int.ediv_le_ediv (by omega) (by have := hL.low; have := hL.xy; have := hL.yt; omega)
      have h2 : t / b ^ j - (f + 1) ≤ (lowF b f t j - 1) / b ^ j := by
        refine (Int.le_ediv_iff_mul_le (by omega)).mpr ?_
        have h3 := Int.mul_ediv_add_emod t (b ^ j)
        have h4 := Int.emod_nonneg t (show b ^ j ≠ 0 by omega)
        have h5 : (t / b ^ j - (f + 1)) * b ^ j = b ^ j * (t / b ^ j) - f * b ^ j - b ^ j := by grind
        have h6 : t - f * b ^ j ≤ lowF b f t j := by unfold lowF; omega
        omega
      omega
/-! ### neighbours -/
theorem k15_bet {b f t x lo hi : Int} {ns : List Int} (hx : 0 ≤ x) (h1 : IsNew b f x t lo) (h2 : IsNext b f t x hi) (hs : ns.Pairwise (· < ·)) (hm : ∀ k : Int, k ∈ ns ↔ k ∈ [lo, hi]) : betL b f t lo hi = ns := by
  refine sorted_ext (bet_sorted b f t lo hi) hs fun n => ?_
  rw [mem_bet h1.1, hm n]
  simp only [List.mem_cons, List.not_mem_nil, or_false]
  have a1 := h1.2.1
  have a2 := h2.1
  constructor
  · rintro ⟨q1, q2, q3⟩
    refine Decidable.byContradiction fun z => ?_
    rcases Int.lt_or_le n x with y | y
    · exact h1.2.2.2 n (by omega) (by omega) q3
    · exact h2.2.2.2 n y (by omega) q3
  · rintro (e | e)
    · subst e
      exact ⟨Int.le_refl _, by omega, h1.2.2.1⟩
    · subst e
      exact ⟨by omega, Int.le_refl _, h2.2.2.1⟩
theorem k15_cnt {b f t x lo hi : Int} (ht : 0 ≤ t) (hx : 0 ≤ x) (h1 : IsNew b f x t lo) (h2 : IsNext b f t x hi) : cntF b f t (hi + 1) - cntF b f t lo ≤ 2 := by
  have a1 := new_cnt h1
  have a2 := next_cnt hx h2
  have a3 := cnt_succ (b := b) (f := f) (t := t) (n := hi) (by have := h2.1; omega)
  have a4 := cnt_le (b := b) (f := f) (t := t) (n := x) (m := x + 1) hx (by omega)
  split at a3 <;> omega
end Ma
namespace Ma
theorem k15_rows {b f t : Int} {k : Nat} (hb : 2 ≤ b) (hf : 1 ≤ f) (ht : 0 ≤ t) : (((jsL b f t k).filter (fun j => !(decide (1 ≤ levC b (b ^ j) (lowF b f t j) t) && decide (levC b (b ^ j) (lowF b f t j) t ≤ f + 1)))).map (fun j => j)).map (rowJ b f t) = [] := by
  rw [List.filter_eq_nil_iff.mpr]
  · rfl
  · intro j hj
    have h := lev_bound hb hf ht (js_mem.mp hj).2
    rw [decide_eq_true h.1, decide_eq_true h.2]
    decide
theorem k15_self {b f t x : Int} (ht : 0 ≤ t) (hx : 0 ≤ x) : decide (newF b f x t = x) = keptB b f x t := by
  rw [Bool.eq_iff_iff, decide_eq_true_eq]
  constructor
  · intro h
    have := (newF_is (b := b) (f := f) (s := x) (t := t) hx ht).2.2.1
    rwa [h] at this
  · exact fun h => new_self ht hx h
end Ma

set_option Elab.async false
set_option linter.all false
set_option maxRecDepth 100000
/-! ### archives: chains past missing numbers, up to full ones -/
namespace Ma
def ListOk (least : Int) (ns bar : List Int) : Prop := ns.Pairwise (· < ·) ∧ (∀ n ∈ ns, least ≤ n ∧ n ∉ bar ∧ n ≤ 10 ^ 50) ∧ ns.length ≤ 200
def ArcOk (ga ro pi fa : List Int) : Prop := ListOk 1 ga [] ∧ ListOk 0 ro ga ∧ ListOk 0 pi ga ∧ ListOk 0 fa ga
theorem ArcOk.zero {ga ro pi fa : List Int} (h : ArcOk ga ro pi fa) : (0 : Int) ∉ ga := fun q => by
  have := (h.1.2.1 0 q).1
  omega
theorem list_item {least x : Int} {ns bar : List Int} {i : Nat} (h : ListOk least ns bar) (hx : ns[i]? = some x) : least ≤ x ∧ x ∉ bar ∧ ∃ y : Int, (0 < i → L2.atI (ns.map L2.V.int) ((i : Int) - 1) = some (.int y) ∧ y < x) := by
  refine ⟨(h.2.1 x (List.mem_of_getElem? hx)).1, (h.2.1 x (List.mem_of_getElem? hx)).2.1, ?_⟩
  obtain ⟨hi, e⟩ := List.getElem?_eq_some_iff.mp hx
  by_cases q : 0 < i
  · have hj : i - 1 < ns.length := by omega
    refine ⟨ns[i - 1], fun _ => ⟨?_, ?_⟩⟩
    · exact L2.at_of (j := i - 1) (by omega) (by rw [List.getElem?_map, List.getElem?_eq_getElem hj]; rfl)
    · have := List.pairwise_iff_getElem.mp h.1 (i - 1) i hj hi (by omega)
      omega
  · exact ⟨0, fun z => absurd z q⟩
/-- the chain: missing numbers are passed, a full one ends it -/
def cutL (ga ro : List Int) : List Int → List Int
  | [] => []
  | x :: r => if x ∈ ga then cutL ga ro r else if x ∈ ro then [x] else x :: cutL ga ro r
def chA (b : Int) (ga ro : List Int) (n : Int) : List Int := cutL ga ro (chainF b n)
def brB (b : Int) (ga ro fa : List Int) (n : Int) : Bool := (chA b ga ro n).any (fun m => decide (m ∈ fa))
theorem cut_skip (ga ro : List Int) : ∀ xs : List Int, cutL ga ro (xs.dropWhile (fun x => decide (x ∈ ga))) = cutL ga ro xs
  | [] => rfl
  | x :: r => by
    by_cases h : x ∈ ga
    · rw [List.dropWhile_cons_of_pos (by simpa using h), cut_skip ga ro r, cutL, if_pos h]
    · rw [List.dropWhile_cons_of_neg (by simpa using h)]
theorem cut_sub (ga ro : List Int) : ∀ {xs : List Int} {m : Int}, m ∈ cutL ga ro xs → m ∈ xs ∧ m ∉ ga
  | [], m, h => by cases h
  | x :: r, m, h => by
    rw [cutL] at h
    by_cases h1 : x ∈ ga
    · rw [if_pos h1] at h
      have := cut_sub ga ro h
      exact ⟨List.mem_cons_of_mem _ this.1, this.2⟩
    · rw [if_neg h1] at h
      by_cases h2 : x ∈ ro
      · rw [if_pos h2] at h
        have e : m = x := by simpa using h
        subst e
        exact ⟨List.mem_cons_self, h1⟩
      · rw [if_neg h2] at h
        rcases List.mem_cons.mp h with e | e
        · subst e
          exact ⟨List.mem_cons_self, h1⟩
        · have := cut_sub ga ro e
          exact ⟨List.mem_cons_of_mem _ this.1, this.2⟩
theorem chA_sub {b n m : Int} {ga ro : List Int} (h : m ∈ chA b ga ro n) : m ∈ chainF b n ∧ m ∉ ga := cut_sub ga ro h
theorem chA_len {b n : Int} {ga ro : List Int} : (chA b ga ro n).length ≤ (chainF b n).length := by
  unfold chA
  generalize chainF b n = xs
  induction xs with
  | nil => exact Nat.le_refl _
  | cons x r ih =>
    rw [cutL]
    split
    · rw [List.length_cons]; omega
    · split
      · rw [List.length_cons, List.length_cons]; simp
      · rw [List.length_cons, List.length_cons]; omega
def IsUpA (b : Int) (ga : List Int) (n q : Int) : Prop := q ∉ ga ∧ 0 ≤ q ∧ q < n ∧ chainF b q = (chainF b (parF b n)).dropWhile (fun x => decide (x ∈ ga))
theorem up_loop {b m : Int} {ga : List Int} (hb : 2 ≤ b) (hm : 1 ≤ m) (h : m ∈ ga) : (chainF b m).dropWhile (fun x => decide (x ∈ ga)) = (chainF b (parF b m)).dropWhile (fun x => decide (x ∈ ga)) := by
  rw [chainF_pos hb hm, List.dropWhile_cons_of_pos (by simpa using h)]
theorem up_stop {b m : Int} {ga : List Int} (hb : 2 ≤ b) (hm : 0 ≤ m) (h : m ∉ ga) : (chainF b m).dropWhile (fun x => decide (x ∈ ga)) = chainF b m := by
  rcases Int.lt_or_le 0 m with q | q
  · rw [chainF_pos hb q, List.dropWhile_cons_of_neg (by simpa using h)]
  · obtain rfl : m = 0 := by omega
    rw [chainF_zero, List.dropWhile_cons_of_neg (by simpa using h)]
theorem chA_stop {b n : Int} {ga ro : List Int} (hb : 2 ≤ b) (hn : 0 ≤ n) (hg : n ∉ ga) (h : n ∈ ro ∨ n = 0) : chA b ga ro n = [n] := by
  unfold chA
  rcases Int.lt_or_le 0 n with q | q
  · have hr : n ∈ ro := by
      rcases h with h | h
      · exact h
      · omega
    rw [chainF_pos hb q, cutL, if_neg hg, if_pos hr]
  · obtain rfl : n = 0 := by omega
    rw [chainF_zero, cutL, if_neg hg]
    split <;> rfl
theorem chA_up {b n q : Int} {ga ro : List Int} (hb : 2 ≤ b) (hn : 0 ≤ n) (hg : n ∉ ga) (h : ¬ (n ∈ ro ∨ n = 0)) (hq : IsUpA b ga n q) : chA b ga ro n = n :: chA b ga ro q := by
  unfold chA
  rw [hq.2.2.2, cut_skip, chainF_pos hb (by omega), cutL, if_neg hg, if_neg (fun z => h (.inl z))]
end Ma
namespace Ma
theorem enum_item {ns : List Int} {i : Nat} {x : Int × Nat} (hx : ns.zipIdx[i]? = some x) : ∃ y, x = (y, i) ∧ ns[i]? = some y := by
  rw [List.getElem?_zipIdx] at hx
  cases hp : ns[i]? with
  | none => rw [hp] at hx; cases hx
  | some p =>
    rw [hp] at hx
    have hx := Option.some.inj hx
    exact ⟨p, by rw [← hx]; simp, rfl⟩
end Ma
namespace Ma
open L2 in
/-- the chain so far, and the next parent -/
def ChI (b : Int) (ga ro : List Int) (n : Int) (pre : List Int) (pv : V) : Prop :=
  (pv = .non ∧ chA b ga ro n = pre) ∨ ∃ y : Int, pv = .int y ∧ 0 ≤ y ∧ y ≤ n ∧ y ∉ ga ∧ chA b ga ro n = pre ++ chA b ga ro y
def muV (v : L2.V) : Nat := match v with
  | .int y => y.toNat + 1
  | _ => 0
theorem ChI.of {b n m : Int} {ga ro pre : List Int} {pv : L2.V} (hb : 2 ≤ b) (h0 : 0 ≤ m) (hn : m ≤ n) (hg : m ∉ ga) (hc : chA b ga ro n = pre ++ chA b ga ro m) (h : Kr.IsOpt (m ∈ ro ∨ m = 0) (fun q => ¬ (m ∈ ro ∨ m = 0) ∧ IsUpA b ga m q) pv) : ChI b ga ro n (pre ++ [m]) pv := by
  rcases h with ⟨e, h⟩ | ⟨q, e, h⟩
  · exact .inl ⟨e, by rw [hc, chA_stop hb h0 hg h]⟩
  · refine .inr ⟨q, e, h.2.2.1, ?_, h.2.1, by rw [hc, chA_up hb h0 hg h.1 h.2, List.append_assoc]; rfl⟩
    have := h.2.2.2.1
    omega
theorem ChI.zero {b n : Int} {ga ro : List Int} {pv : L2.V} (hb : 2 ≤ b) (h0 : 0 ≤ n) (hg : n ∉ ga) (h : Kr.IsOpt (n ∈ ro ∨ n = 0) (fun q => ¬ (n ∈ ro ∨ n = 0) ∧ IsUpA b ga n q) pv) : ChI b ga ro n [n] pv :=
  ChI.of (pre := []) hb h0 (Int.le_refl _) hg rfl h
theorem ChI.some {b n : Int} {ga ro pre : List Int} {pv : L2.V} (h : ChI b ga ro n pre pv) (hc : ¬ pv = .non) : ∃ y : Int, pv = .int y ∧ 0 ≤ y ∧ y ≤ n ∧ y ∉ ga ∧ chA b ga ro n = pre ++ chA b ga ro y := by
  rcases h with h | h
  · exact absurd h.1 hc
  · exact h
theorem ChI.step {b n y : Int} {ga ro pre : List Int} {pv : L2.V} (hb : 2 ≤ b) (h0 : 0 ≤ y) (hn : y ≤ n) (hg : y ∉ ga) (hc : chA b ga ro n = pre ++ chA b ga ro y) (h : Kr.IsOpt (y ∈ ro ∨ y = 0) (fun q => ¬ (y ∈ ro ∨ y = 0) ∧ IsUpA b ga y q) pv) :
    ChI b ga ro n (pre ++ [y]) pv ∧ muV pv < y.toNat + 1 := by
  refine ⟨ChI.of hb h0 hn hg hc h, ?_⟩
  rcases h with ⟨e, h⟩ | ⟨q, e, h⟩
  · subst e
    exact Nat.succ_pos _
  · subst e
    show q.toNat + 1 < y.toNat + 1
    have := h.2.2.2.1
    have := h.2.2.1
    omega
theorem ChI.done {b n : Int} {ga ro pre : List Int} {pv : L2.V} (h : ChI b ga ro n pre pv) (hc : pv = .non) : chA b ga ro n = pre := by
  rcases h with h | ⟨y, e, _⟩
  · exact h.2
  · rw [hc] at e
    cases e
end Ma
namespace Ma
def UpI (b : Int) (ga : List Int) (m : Int) (fv : L2.V) : Prop := (fv = .non ∧ m = 0) ∨ ∃ y : Int, fv = .int y ∧ 0 ≤ y ∧ y < m ∧ (chainF b (parF b m)).dropWhile (fun x => decide (x ∈ ga)) = (chainF b y).dropWhile (fun x => decide (x ∈ ga))
theorem UpI.zero {b m : Int} {ga : List Int} (hb : 2 ≤ b) (hm : 0 ≤ m) : UpI b ga m (if m = 0 then .non else .int (parF b m)) := by
  by_cases q : m = 0
  · exact .inl ⟨by rw [if_pos q], q⟩
  · exact .inr ⟨parF b m, by rw [if_neg q], parF_nonneg hb hm, parF_lt hb (by omega), rfl⟩
end Ma
/-! ### drawn lists -/
namespace Ma
def LawOk (lim : Int) (ga ro pi fa : List Int) : Prop := ArcOk ga ro pi fa ∧ (∀ n ∈ ga, n < lim) ∧ (∀ n ∈ ro, n < lim) ∧ (∀ n ∈ pi, n < lim) ∧ (∀ n ∈ fa, n < lim) ∧ ga.length ≤ 28 ∧ ro.length ≤ 30 ∧ pi.length ≤ 12 ∧ fa.length ≤ 30
def PickOk (ns xs : List Int) : Prop := ns.Pairwise (· < ·) ∧ (∀ n ∈ ns, n ∈ xs) ∧ ns.length ≤ 12
theorem round_some {b lim : Int} (hb : 2 ≤ b ∧ b ≤ 10) (hl : 20 ≤ lim ∧ lim ≤ 130) : 1 ≤ ((Kr.rngI 1 (lim - 1).toNat).filter (fun n => decide (n % b = 0))).length ∧ ((Kr.rngI 1 (lim - 1).toNat).filter (fun n => decide (n % b = 0))).length ≤ 1000 := by
  refine ⟨List.length_pos_of_mem (a := b) (List.mem_filter.mpr ⟨mem_rng.mpr (by omega), by simp⟩), ?_⟩
  have := List.length_filter_le (fun n => decide (n % b = 0)) (Kr.rngI 1 (lim - 1).toNat)
  rw [Kr.rngI_len] at this
  omega
theorem taken_some {b lim : Int} {ga : List Int} (hl : 20 ≤ lim ∧ lim ≤ 130) (h : ListOk 1 ga []) : (1 ≤ ((Kr.rngI 0 lim.toNat).filter (fun n => !decide (n ∈ ga))).length ∧ ((Kr.rngI 0 lim.toNat).filter (fun n => !decide (n ∈ ga))).length ≤ 1000) ∧
    (1 ≤ (((Kr.rngI 0 lim.toNat).filter (fun n => !decide (n ∈ ga))).filter (fun n => decide (n % b = 0))).length ∧ (((Kr.rngI 0 lim.toNat).filter (fun n => !decide (n ∈ ga))).filter (fun n => decide (n % b = 0))).length ≤ 1000) := by
  have h0 : (0 : Int) ∈ (Kr.rngI 0 lim.toNat).filter (fun n => !decide (n ∈ ga)) := List.mem_filter.mpr ⟨mem_rng.mpr (by omega), by
    simp only [Bool.not_eq_true', decide_eq_false_iff_not]
    intro q
    have := (h.2.1 0 q).1
    omega⟩
  have h1 := List.length_filter_le (fun n => !decide (n ∈ ga)) (Kr.rngI 0 lim.toNat)
  have h2 := List.length_filter_le (fun n => decide (n % b = 0)) ((Kr.rngI 0 lim.toNat).filter (fun n => !decide (n ∈ ga)))
  rw [Kr.rngI_len] at h1
  exact ⟨⟨List.length_pos_of_mem h0, by omega⟩, List.length_pos_of_mem (a := 0) (List.mem_filter.mpr ⟨h0, by simp⟩), by omega⟩
theorem gone_one {lim : Int} {ns : List Int} (h : PickOk ns (Kr.rngI 1 (lim - 1).toNat)) (hl : lim ≤ 130 := by omega) : ListOk 1 ns [] ∧ ∀ n ∈ ns, n < lim := by
  have hm : ∀ n ∈ ns, 1 ≤ n ∧ n < lim := fun n hn => by
    have := mem_rng.mp (h.2.1 n hn)
    omega
  exact ⟨⟨h.1, fun n hn => ⟨(hm n hn).1, by simp, by have := (hm n hn).2; omega⟩, by have := h.2.2; omega⟩, fun n hn => (hm n hn).2⟩
theorem gone_two {b lim : Int} {ns ms gs : List Int} (h : PickOk ns (Kr.rngI 1 (lim - 1).toNat)) (h2 : PickOk ms ((Kr.rngI 1 (lim - 1).toNat).filter (fun n => decide (n % b = 0)))) (hs : gs.Pairwise (· < ·)) (hm : ∀ k, k ∈ gs ↔ k ∈ ns ++ ms) (hl : gs.length ≤ 200) (hl2 : lim ≤ 130 := by omega) : ListOk 1 gs [] ∧ ∀ n ∈ gs, n < lim := by
  have hm : ∀ n ∈ gs, 1 ≤ n ∧ n < lim := fun n hn => by
    rcases List.mem_append.mp ((hm n).mp hn) with q | q
    · have := mem_rng.mp (h.2.1 n q)
      omega
    · have := mem_rng.mp (List.mem_filter.mp (h2.2.1 n q)).1
      omega
  exact ⟨⟨hs, fun n hn => ⟨(hm n hn).1, by simp, by have := (hm n hn).2; omega⟩, hl⟩, fun n hn => (hm n hn).2⟩
theorem sub_of {lim : Int} {ga gs : List Int} (hs : gs.Pairwise (· < ·)) (hm : ∀ n ∈ gs, n ∈ (Kr.rngI 0 lim.toNat).filter (fun n => !decide (n ∈ ga))) (hl : gs.length ≤ 200) (hl2 : lim ≤ 130 := by omega) : ListOk 0 gs ga ∧ ∀ n ∈ gs, n < lim := by
  have hm : ∀ n ∈ gs, (0 ≤ n ∧ n < lim) ∧ n ∉ ga := fun n hn => by
    have q := List.mem_filter.mp (hm n hn)
    have := mem_rng.mp q.1
    exact ⟨by omega, by simpa using q.2⟩
  exact ⟨⟨hs, fun n hn => ⟨(hm n hn).1.1, (hm n hn).2, by have := (hm n hn).1; omega⟩, hl⟩, fun n hn => (hm n hn).1.2⟩
theorem tens_sub {b lim : Int} {ns ga : List Int} (h : PickOk ns (((Kr.rngI 0 lim.toNat).filter (fun n => !decide (n ∈ ga))).filter (fun n => decide (n % b = 0)))) : PickOk ns ((Kr.rngI 0 lim.toNat).filter (fun n => !decide (n ∈ ga))) :=
  ⟨h.1, fun n hn => (List.mem_filter.mp (h.2.1 n hn)).1, h.2.2⟩
theorem sub_two {lim : Int} {ga ns ms gs : List Int} (h : PickOk ns ((Kr.rngI 0 lim.toNat).filter (fun n => !decide (n ∈ ga)))) (h2 : PickOk ms ((Kr.rngI 0 lim.toNat).filter (fun n => !decide (n ∈ ga)))) (hs : gs.Pairwise (· < ·)) (hm : ∀ k, k ∈ gs ↔ k ∈ ns ++ ms) (hl : gs.length ≤ 200) (hl2 : lim ≤ 130 := by omega) : ListOk 0 gs ga ∧ ∀ n ∈ gs, n < lim :=
  sub_of hs (fun n hn => by
    rcases List.mem_append.mp ((hm n).mp hn) with q | q
    · exact h.2.1 n q
    · exact h2.2.1 n q) hl hl2
theorem sub_one {lim : Int} {ga ns : List Int} (h : PickOk ns ((Kr.rngI 0 lim.toNat).filter (fun n => !decide (n ∈ ga)))) (hl2 : lim ≤ 130 := by omega) : ListOk 0 ns ga ∧ ∀ n ∈ ns, n < lim := sub_of h.1 h.2.1 (by have := h.2.2; omega) hl2
end Ma

set_option Elab.async false
set_option linter.all false
set_option maxRecDepth 100000
/-! ### more damage, more full numbers, more missing ones -/
namespace Ma
theorem br_iff {b n : Int} {ga ro fa : List Int} : brB b ga ro fa n = true ↔ ∃ m ∈ chA b ga ro n, m ∈ fa := by
  unfold brB
  rw [List.any_eq_true]
  simp
theorem br_worse {b n e : Int} {ga ro fa fa' : List Int} (hm : ∀ k, k ∈ fa' ↔ k ∈ fa ++ [e]) : (brB b ga ro fa n = true → brB b ga ro fa' n = true) ∧ (brB b ga ro fa' n = true → ¬ brB b ga ro fa n = true → e ∈ chainF b n) := by
  refine ⟨fun h => ?_, fun h h2 => ?_⟩
  · obtain ⟨m, h1, h2⟩ := br_iff.mp h
    exact br_iff.mpr ⟨m, h1, (hm m).mpr (List.mem_append_left _ h2)⟩
  · obtain ⟨m, h1, h3⟩ := br_iff.mp h
    rcases List.mem_append.mp ((hm m).mp h3) with q | q
    · exact absurd (br_iff.mpr ⟨m, h1, q⟩) h2
    · have e1 : m = e := by simpa using q
      exact e1 ▸ (chA_sub h1).1
theorem cut_roots {ga ro ro' : List Int} (h : ∀ k, k ∈ ro → k ∈ ro') : ∀ {xs : List Int} {m : Int}, m ∈ cutL ga ro' xs → m ∈ cutL ga ro xs
  | [], m, hm => hm
  | x :: r, m, hm => by
    rw [cutL] at hm ⊢
    by_cases h1 : x ∈ ga
    · rw [if_pos h1] at hm ⊢
      exact cut_roots h hm
    · rw [if_neg h1] at hm ⊢
      by_cases h2 : x ∈ ro
      · rw [if_pos (h x h2)] at hm
        rw [if_pos h2]
        exact hm
      · rw [if_neg h2]
        by_cases h3 : x ∈ ro'
        · rw [if_pos h3] at hm
          have : m = x := by simpa using hm
          exact this ▸ List.mem_cons_self
        · rw [if_neg h3] at hm
          rcases List.mem_cons.mp hm with e | e
          · exact e ▸ List.mem_cons_self
          · exact List.mem_cons_of_mem _ (cut_roots h e)
theorem cut_same {ga ro ro' : List Int} {e : Int} (hm : ∀ k, k ∈ ro' ↔ k ∈ ro ++ [e]) : ∀ {xs : List Int}, e ∉ xs → cutL ga ro' xs = cutL ga ro xs
  | [], _ => rfl
  | x :: r, h => by
    have h1 : e ∉ r := fun q => h (List.mem_cons_of_mem _ q)
    have h2 : x ∈ ro' ↔ x ∈ ro := by
      rw [hm x, List.mem_append]
      refine ⟨fun q => q.elim id fun z => ?_, .inl⟩
      have : x = e := by simpa using z
      exact absurd (this ▸ List.mem_cons_self) h
    rw [cutL, cutL, cut_same hm h1]
    by_cases h3 : x ∈ ga
    · rw [if_pos h3, if_pos h3]
    · rw [if_neg h3, if_neg h3]
      by_cases h4 : x ∈ ro
      · rw [if_pos h4, if_pos (h2.mpr h4)]
      · rw [if_neg h4, if_neg (fun z => h4 (h2.mp z))]
theorem br_better {b n e : Int} {ga ro ro' fa : List Int} (hm : ∀ k, k ∈ ro' ↔ k ∈ ro ++ [e]) : (brB b ga ro' fa n = true → brB b ga ro fa n = true) ∧ (brB b ga ro fa n = true → ¬ brB b ga ro' fa n = true → e ∈ chainF b n) := by
  refine ⟨fun h => ?_, fun h h2 => ?_⟩
  · obtain ⟨m, h1, h3⟩ := br_iff.mp h
    exact br_iff.mpr ⟨m, cut_roots (fun k hk => (hm k).mpr (List.mem_append_left _ hk)) h1, h3⟩
  · refine Decidable.byContradiction fun q => h2 ?_
    unfold brB chA at *
    rw [cut_same hm q]
    exact h
theorem cut_fewer {ga ga' ro fa : List Int} (h1 : ∀ k, k ∈ ga → k ∈ ga') (h2 : ∀ k, k ∈ ro → k ∉ ga') (h3 : ∀ k, k ∈ fa → k ∉ ga') : ∀ xs : List Int, (cutL ga' ro xs).any (fun m => decide (m ∈ fa)) = (cutL ga ro xs).any (fun m => decide (m ∈ fa))
  | [] => rfl
  | x :: r => by
    have ih := cut_fewer h1 h2 h3 r
    rw [cutL, cutL]
    by_cases q1 : x ∈ ga
    · rw [if_pos q1, if_pos (h1 x q1)]
      exact ih
    · rw [if_neg q1]
      by_cases q2 : x ∈ ga'
      · rw [if_pos q2]
        have q3 : x ∉ ro := fun z => h2 x z q2
        have q4 : x ∉ fa := fun z => h3 x z q2
        rw [if_neg q3, List.any_cons, decide_eq_false q4, Bool.false_or]
        exact ih
      · rw [if_neg q2]
        by_cases q3 : x ∈ ro
        · rw [if_pos q3, if_pos q3]
        · rw [if_neg q3, if_neg q3, List.any_cons, List.any_cons, ih]
theorem k30_in {b n e : Int} (hb : 2 ≤ b) (hn : 0 ≤ n) (he : 0 ≤ e) (h : e ∈ chainF b n) : inCh b n e = true := (inCh_iff hb hn he).mpr h
theorem k30_sub {b n : Int} {ga ro : List Int} : (chA b ga ro n).filter (fun m => !decide (m ∈ chainF b n)) = [] := List.filter_eq_nil_iff.mpr fun m hm => by
  simpa using (chA_sub hm).1
theorem k30_root {b e : Int} {ga ro fa : List Int} (hb : 2 ≤ b) (he : 0 ≤ e) (hg : e ∉ ga) (hr : e ∈ ro) : brB b ga ro fa e = decide (e ∈ fa) := by
  unfold brB
  rw [chA_stop hb he hg (.inl hr)]
  simp
theorem chA_self {b n : Int} {ga ro : List Int} (hb : 2 ≤ b) (hn : 0 ≤ n) (hg : n ∉ ga) : n ∈ chA b ga ro n := by
  unfold chA
  have hd : ∃ r, chainF b n = n :: r := by
    rcases Int.lt_or_le 0 n with q | q
    · exact ⟨_, chainF_pos hb q⟩
    · obtain rfl : n = 0 := by omega
      exact ⟨_, chainF_zero b⟩
  obtain ⟨r, hr⟩ := hd
  rw [hr, cutL, if_neg hg]
  split <;> exact List.mem_cons_self
theorem k30_fault {b e : Int} {ga ro fa : List Int} (hb : 2 ≤ b) (he : 0 ≤ e) (hg : e ∉ ga) (hf : e ∈ fa) : brB b ga ro fa e = true := br_iff.mpr ⟨e, chA_self hb he hg, hf⟩
/-- lists with one more -/
theorem ok_more {lim e : Int} {ns gs ga : List Int} (h : ListOk 0 ns ga) (hl : ∀ n ∈ ns, n < lim) (he : 0 ≤ e ∧ e < lim) (hg : e ∉ ga) (hs : gs.Pairwise (· < ·)) (hm : ∀ k, k ∈ gs ↔ k ∈ ns ++ [e]) (hz : gs.length ≤ 200) (hlim : lim ≤ 130) : ListOk 0 gs ga := by
  refine ⟨hs, fun n hn => ?_, hz⟩
  rcases List.mem_append.mp ((hm n).mp hn) with q | q
  · exact h.2.1 n q
  · have : n = e := by simpa using q
    subst this
    exact ⟨he.1, hg, by omega⟩
end Ma
namespace Ma
theorem k30_gone {lim : Int} {ga ro pi fa ks gs : List Int} (h : LawOk lim ga ro pi fa) (hl : 20 ≤ lim ∧ lim ≤ 130) (hk : PickOk ks (((Kr.rngI 0 lim.toNat).filter (fun n => !decide (n ∈ ga))).filter (fun n => decide (n > 0) && !decide (n ∈ ro ++ pi ++ fa)) ++ [lim + 5])) (hs : gs.Pairwise (· < ·)) (hm : ∀ k, k ∈ gs ↔ k ∈ ga ++ ks) (hz : gs.length ≤ 200) : ArcOk gs ro pi fa ∧ ∀ k, k ∈ ga → k ∈ gs := by
  have hks : ∀ k ∈ ks, 1 ≤ k ∧ k ≤ 135 ∧ k ∉ ro ∧ k ∉ pi ∧ k ∉ fa := fun k q => by
    rcases List.mem_append.mp (hk.2.1 k q) with z | z
    · obtain ⟨z1, z2⟩ := List.mem_filter.mp z
      have z3 := mem_rng.mp (List.mem_filter.mp z1).1
      simp only [Bool.and_eq_true, decide_eq_true_eq, Bool.not_eq_true', decide_eq_false_iff_not, List.mem_append, not_or] at z2
      exact ⟨by omega, by omega, z2.2.1.1, z2.2.1.2, z2.2.2⟩
    · have e : k = lim + 5 := by simpa using z
      refine ⟨by omega, by omega, fun y => ?_, fun y => ?_, fun y => ?_⟩
      · have := h.2.2.1 k y; omega
      · have := h.2.2.2.1 k y; omega
      · have := h.2.2.2.2.1 k y; omega
  have ho := h.1
  refine ⟨⟨⟨hs, fun n hn => ?_, hz⟩, ⟨ho.2.1.1, fun n hn => ⟨(ho.2.1.2.1 n hn).1, fun q => ?_, (ho.2.1.2.1 n hn).2.2⟩, ho.2.1.2.2⟩, ⟨ho.2.2.1.1, fun n hn => ⟨(ho.2.2.1.2.1 n hn).1, fun q => ?_, (ho.2.2.1.2.1 n hn).2.2⟩, ho.2.2.1.2.2⟩, ⟨ho.2.2.2.1, fun n hn => ⟨(ho.2.2.2.2.1 n hn).1, fun q => ?_, (ho.2.2.2.2.1 n hn).2.2⟩, ho.2.2.2.2.2⟩⟩, fun k q => (hm k).mpr (List.mem_append_left _ q)⟩
  · rcases List.mem_append.mp ((hm n).mp hn) with q | q
    · exact ho.1.2.1 n q
    · have := hks n q
      exact ⟨this.1, by simp, by omega⟩
  · rcases List.mem_append.mp ((hm n).mp q) with z | z
    · exact (ho.2.1.2.1 n hn).2.1 z
    · exact (hks n z).2.2.1 hn
  · rcases List.mem_append.mp ((hm n).mp q) with z | z
    · exact (ho.2.2.1.2.1 n hn).2.1 z
    · exact (hks n z).2.2.2.1 hn
  · rcases List.mem_append.mp ((hm n).mp q) with z | z
    · exact (ho.2.2.2.2.1 n hn).2.1 z
    · exact (hks n z).2.2.2.2 hn
theorem k30_item {lim n : Int} {ga ro pi fa : List Int} (hl : 20 ≤ lim ∧ lim ≤ 130) (h : LawOk lim ga ro pi fa) (hn : n ∈ (Kr.rngI 0 lim.toNat).filter (fun n => !decide (n ∈ ga)) ++ [lim + 7, lim + 11]) : 0 ≤ n ∧ n ≤ 1000 ∧ n ∉ ga := by
  rcases List.mem_append.mp hn with q | q
  · obtain ⟨z1, z2⟩ := List.mem_filter.mp q
    have := mem_rng.mp z1
    exact ⟨by omega, by omega, by simpa using z2⟩
  · have e : n = lim + 7 ∨ n = lim + 11 := by simpa using q
    refine ⟨by omega, by omega, fun z => ?_⟩
    have := h.2.1 n z
    omega
end Ma

set_option Elab.async false
set_option linter.all false
set_option maxRecDepth 100000
/-! ### what an archive keeps -/
namespace Ma
def pinB (b : Int) (ga ro pi : List Int) (n t : Int) : Bool := ((pi.filter (fun p => decide (n ≤ p) && decide (p ≤ t))).map (fun p => decide (n ∈ chA b ga ro p))).any id
def keptA (b f : Int) (ga ro pi : List Int) (n t : Int) : Bool := !(decide (n ∈ ga) || decide (n > t)) && (keptB b f n t || pinB b ga ro pi n t)
theorem pin_iff {b n t : Int} {ga ro pi : List Int} : pinB b ga ro pi n t = true ↔ ∃ p ∈ pi, n ≤ p ∧ p ≤ t ∧ n ∈ chA b ga ro p := by
  unfold pinB
  rw [List.any_eq_true]
  constructor
  · rintro ⟨x, hx, e⟩
    obtain ⟨p, hp, rfl⟩ := List.mem_map.mp hx
    obtain ⟨q1, q2⟩ := List.mem_filter.mp hp
    simp only [Bool.and_eq_true, decide_eq_true_eq] at q2
    exact ⟨p, q1, q2.1, q2.2, by simpa using e⟩
  · rintro ⟨p, hp, h1, h2, h3⟩
    exact ⟨true, List.mem_map.mpr ⟨p, List.mem_filter.mpr ⟨hp, by simp [h1, h2]⟩, by simp [h3]⟩, rfl⟩
theorem keptA_iff {b f n t : Int} {ga ro pi : List Int} : keptA b f ga ro pi n t = true ↔ n ∉ ga ∧ n ≤ t ∧ (keptB b f n t = true ∨ ∃ p ∈ pi, n ≤ p ∧ p ≤ t ∧ n ∈ chA b ga ro p) := by
  unfold keptA
  simp only [Bool.and_eq_true, Bool.or_eq_true, Bool.not_eq_true', Bool.or_eq_false_iff, decide_eq_false_iff_not, pin_iff]
  constructor
  · rintro ⟨⟨h1, h2⟩, h3⟩
    exact ⟨h1, by omega, h3⟩
  · rintro ⟨h1, h2, h3⟩
    exact ⟨⟨h1, by omega⟩, h3⟩
theorem chA_le {b n m : Int} {ga ro : List Int} (hb : 2 ≤ b) (hn : 0 ≤ n) (h : m ∈ chA b ga ro n) : 0 ≤ m ∧ m ≤ n := chain_nonneg hb _ _ (Nat.le_refl _) hn m (chA_sub h).1
/-- the chain of a member is the rest of the chain -/
theorem chA_mem {b : Int} {ga ro : List Int} (hb : 2 ≤ b) : ∀ (k : Nat) (n m x : Int), n.toNat ≤ k → 0 ≤ n → n ∉ ga → m ∈ chA b ga ro n → x ∈ chA b ga ro m → x ∈ chA b ga ro n
  | k, n, m, x, hk, hn, hg, hm, hx => by
    by_cases hs : n ∈ ro ∨ n = 0
    · rw [chA_stop hb hn hg hs] at hm ⊢
      have e : m = n := by simpa using hm
      subst e
      rw [chA_stop hb hn hg hs] at hx
      exact hx
    · -- the next one
      have hn1 : 1 ≤ n := by
        have : n ≠ 0 := fun e => hs (.inr e)
        omega
      have hch : chA b ga ro n = n :: cutL ga ro (chainF b (parF b n)) := by
        unfold chA
        rw [chainF_pos hb hn1, cutL, if_neg hg, if_neg (fun z => hs (.inl z))]
      have key : ∀ (j : Nat) (y : Int), y.toNat ≤ j → 0 ≤ y → m ∈ cutL ga ro (chainF b y) → x ∈ cutL ga ro (chainF b y) := by
        intro j
        induction j with
        | zero =>
          intro y hj hy hmy
          obtain rfl : y = 0 := by omega
          rw [chainF_zero] at hmy ⊢
          have hs0 := cut_sub ga ro hmy
          have e : m = 0 := by simpa using hs0.1
          subst e
          unfold chA at hx
          rw [chainF_zero] at hx
          exact hx
        | succ j ih =>
          intro y hj hy hmy
          rcases Int.lt_or_le 0 y with q | q
          · have hp0 := parF_nonneg (b := b) (n := y) hb hy
            have hp1 := parF_lt (b := b) (n := y) hb q
            rw [chainF_pos hb q, cutL] at hmy ⊢
            by_cases g1 : y ∈ ga
            · rw [if_pos g1] at hmy ⊢
              exact ih _ (by omega) hp0 hmy
            · rw [if_neg g1] at hmy ⊢
              by_cases g2 : y ∈ ro
              · rw [if_pos g2] at hmy ⊢
                have e : m = y := by simpa using hmy
                subst e
                unfold chA at hx
                rw [chainF_pos hb q, cutL, if_neg g1, if_pos g2] at hx
                exact hx
              · rw [if_neg g2] at hmy ⊢
                rcases List.mem_cons.mp hmy with e | e
                · subst e
                  unfold chA at hx
                  rw [chainF_pos hb q, cutL, if_neg g1, if_neg g2] at hx
                  exact hx
                · exact List.mem_cons_of_mem _ (ih _ (by omega) hp0 e)
          · obtain rfl : y = 0 := by omega
            rw [chainF_zero] at hmy ⊢
            have hs0 := cut_sub ga ro hmy
            have e : m = 0 := by simpa using hs0.1
            subst e
            unfold chA at hx
            rw [chainF_zero] at hx
            exact hx
      rw [hch] at hm ⊢
      rcases List.mem_cons.mp hm with e | e
      · subst e
        rw [hch] at hx
        exact hx
      · exact List.mem_cons_of_mem _ (key _ (parF b n) (Nat.le_refl _) (parF_nonneg hb hn) e)
/-- members of the chain of a kept number are kept -/
theorem keptA_chain {b f n t m : Int} {ga ro pi : List Int} (hb : 2 ≤ b) (hf : 1 ≤ f) (hn : 0 ≤ n) (hp : ∀ p ∈ pi, 0 ≤ p ∧ p ∉ ga) (h : keptA b f ga ro pi n t = true) (hm : m ∈ chA b ga ro n) : keptA b f ga ro pi m t = true := by
  obtain ⟨h1, h2, h3⟩ := keptA_iff.mp h
  have hs := chA_sub hm
  have hl := chA_le hb hn hm
  refine keptA_iff.mpr ⟨hs.2, by omega, ?_⟩
  rcases h3 with q | ⟨p, p1, p2, p3, p4⟩
  · exact .inl (chain_kept hb hf _ _ (Nat.le_refl _) hn q m hs.1)
  · exact .inr ⟨p, p1, by omega, p3, chA_mem hb _ _ _ _ (Nat.le_refl _) (hp p p1).1 (hp p p1).2 p4 hm⟩
/-- kept because of a pin alone -/
def IsPins (b f : Int) (ga ro pi : List Int) (t : Int) (ns : List Int) : Prop := ns.Pairwise (· < ·) ∧ ∀ m, m ∈ ns ↔ ∃ p ∈ pi, p ≤ t ∧ m ∈ chA b ga ro p ∧ ¬ keptB b f m t = true
def pinsL (b f : Int) (ga ro pi : List Int) (t : Int) : Nat → List Int
  | 0 => []
  | i + 1 => pinsL b f ga ro pi t i ++ (match pi[i]? with
    | some p => if p ≤ t then (chA b ga ro p).filter (fun m => !keptB b f m t) else []
    | none => [])
theorem pins_yes {b f t p : Int} {ga ro pi : List Int} {i : Nat} (h : pi[i]? = some p) (ht : p ≤ t) : pinsL b f ga ro pi t i ++ (chA b ga ro p).filter (fun m => !keptB b f m t) = pinsL b f ga ro pi t (i + 1) := by
  rw [pinsL, h]
  simp only [if_pos ht]
theorem pins_no {b f t p : Int} {ga ro pi : List Int} {i : Nat} (h : pi[i]? = some p) (ht : ¬ p ≤ t) : pinsL b f ga ro pi t i = pinsL b f ga ro pi t (i + 1) := by
  rw [pinsL, h]
  simp only [if_neg ht, List.append_nil]
theorem mem_pins {b f t m : Int} {ga ro pi : List Int} : ∀ {i : Nat}, i ≤ pi.length → (m ∈ pinsL b f ga ro pi t i ↔ ∃ j p, j < i ∧ pi[j]? = some p ∧ p ≤ t ∧ m ∈ chA b ga ro p ∧ ¬ keptB b f m t = true)
  | 0, _ => by
    constructor
    · intro h; cases h
    · rintro ⟨j, p, h, _⟩; omega
  | i + 1, hi => by
    have ih := mem_pins (m := m) (b := b) (f := f) (t := t) (ga := ga) (ro := ro) (pi := pi) (i := i) (by omega)
    have hg := List.getElem?_eq_getElem (show i < pi.length by omega)
    have key : m ∈ pinsL b f ga ro pi t (i + 1) ↔ m ∈ pinsL b f ga ro pi t i ∨ (pi[i] ≤ t ∧ m ∈ chA b ga ro pi[i] ∧ ¬ keptB b f m t = true) := by
      by_cases q : pi[i] ≤ t
      · rw [← pins_yes hg q, List.mem_append, List.mem_filter]
        simp [q]
      · rw [← pins_no hg q]
        simp [q]
    rw [key, ih]
    constructor
    · rintro (⟨j, p, h1, h2⟩ | h)
      · exact ⟨j, p, by omega, h2⟩
      · exact ⟨i, pi[i], by omega, hg, h⟩
    · rintro ⟨j, p, h1, h2, h3⟩
      by_cases e : j = i
      · subst e
        rw [hg] at h2
        have := Option.some.inj h2
        subst this
        exact .inr h3
      · exact .inl ⟨j, p, by omega, h2, h3⟩
theorem pins_len {b f t : Int} {ga ro pi : List Int} (hb : 2 ≤ b) (hp : ∀ p ∈ pi, 0 ≤ p ∧ p ≤ 10 ^ 50) : ∀ i : Nat, i ≤ pi.length → (pinsL b f ga ro pi t i).length ≤ 211 * i
  | 0, _ => by simp [pinsL]
  | i + 1, hi => by
    have ih := pins_len hb hp (f := f) (t := t) (ga := ga) (ro := ro) i (by omega)
    have hlt : i < pi.length := by omega
    have hg := List.getElem?_eq_getElem hlt
    have hpp := hp _ (List.getElem_mem hlt)
    by_cases q : pi[i] ≤ t
    · rw [← pins_yes hg q, List.length_append]
      have h1 := List.length_filter_le (fun m => !keptB b f m t) (chA b ga ro pi[i])
      have h2 := chA_len (b := b) (n := pi[i]) (ga := ga) (ro := ro)
      have h3 := chainF_small (b := b) (n := pi[i]) hb hpp.1 (by omega)
      omega
    · rw [← pins_no hg q]
      omega
theorem pins_is {b f t : Int} {ga ro pi ns : List Int} (hs : ns.Pairwise (· < ·)) (hm : ∀ k, k ∈ ns ↔ k ∈ pinsL b f ga ro pi t pi.length) : IsPins b f ga ro pi t ns := by
  refine ⟨hs, fun m => ?_⟩
  rw [hm m, mem_pins (Nat.le_refl _)]
  constructor
  · rintro ⟨j, p, h1, h2, h3⟩
    exact ⟨p, List.mem_of_getElem? h2, h3⟩
  · rintro ⟨p, h1, h2⟩
    obtain ⟨j, hj, e⟩ := List.mem_iff_getElem.mp h1
    exact ⟨j, p, hj, by rw [List.getElem?_eq_getElem hj, e], h2⟩
theorem nodup_le : ∀ (ns xs : List Int), ns.Nodup → (∀ m ∈ ns, m ∈ xs) → ns.length ≤ xs.length
  | [], _, _, _ => Nat.zero_le _
  | a :: r, xs, h, hs => by
    obtain ⟨h1, h2⟩ := List.nodup_cons.mp h
    have ha : a ∈ xs := hs a List.mem_cons_self
    have ih := nodup_le r (xs.erase a) h2 fun m hm => (List.mem_erase_of_ne (fun e : m = a => h1 (by rw [← e]; exact hm))).mpr (hs m (List.mem_cons_of_mem _ hm))
    have hl := List.length_erase_of_mem ha
    have hp := List.length_pos_of_mem ha
    rw [List.length_cons]
    omega
theorem pins_most {b f t : Int} {ga ro pi fa ns : List Int} (h : IsPins b f ga ro pi t ns) (hb : 2 ≤ b) (hok : ArcOk ga ro pi fa) : ns.length ≤ 42200 := by
  have h1 : ns.Nodup := h.1.imp fun q => by omega
  have h2 : ∀ m ∈ ns, m ∈ pinsL b f ga ro pi t pi.length := fun m hm => by
    rw [mem_pins (Nat.le_refl _)]
    obtain ⟨p, hp, h3, h4, h5⟩ := (h.2 m).mp hm
    obtain ⟨j, hj, e⟩ := List.mem_iff_getElem.mp hp
    exact ⟨j, p, hj, by rw [List.getElem?_eq_getElem hj, e], h3, h4, h5⟩
  have h3 := nodup_le ns _ h1 h2
  have h4 := pins_len (b := b) (f := f) (t := t) (ga := ga) (ro := ro) (pi := pi) hb (fun p hp => ⟨(hok.2.2.1.2.1 p hp).1, (hok.2.2.1.2.1 p hp).2.2⟩) pi.length (Nat.le_refl _)
  have h5 := hok.2.2.1.2.2
  omega
theorem IsPins.uniq {b f t : Int} {ga ro pi ns ms : List Int} (h : IsPins b f ga ro pi t ns) (k : IsPins b f ga ro pi t ms) : ns = ms := sorted_ext h.1 k.1 fun n => (h.2 n).trans (k.2 n).symm
/-! ### the law's own words -/
theorem par_alt {b n : Int} (hb : 2 ≤ b) (hn : 1 ≤ n) : n - n / unitF b n % b * unitF b n = parF b n := by
  have hu := unitF_pos (b := b) (n := n) hb
  obtain ⟨x, hx⟩ := unitF_dvd (b := b) (n := n)
  have e1 : n / unitF b n = x := by
    have : unitF b n * x / unitF b n = x := Int.mul_ediv_cancel_left _ (by omega)
    rw [← hx] at this
    exact this
  rw [e1]
  have h1 := Int.mul_ediv_add_emod x b
  have h2 := Int.emod_nonneg x (show b ≠ 0 by omega)
  have h3 := Int.emod_lt_of_pos x (show 0 < b by omega)
  unfold parF
  have hub : 0 < unitF b n * b := Int.mul_pos (by omega) (by omega)
  have e2 : n / (unitF b n * b) = x / b := by
    refine div_is hub ?_ ?_
    · have a1 : x / b * (unitF b n * b) = unitF b n * (b * (x / b)) := by grind
      have a2 : unitF b n * (b * (x / b)) ≤ unitF b n * x := Int.mul_le_mul_of_nonneg_left (by omega) (by omega)
      omega
    · have a1 : x / b * (unitF b n * b) + unitF b n * b = unitF b n * (b * (x / b) + b) := by grind
      have a2 : unitF b n * x < unitF b n * (b * (x / b) + b) := Int.mul_lt_mul_of_pos_left (by omega) (by omega)
      omega
  rw [e2]
  have a3 : x / b * (unitF b n * b) = unitF b n * (b * (x / b)) := by grind
  have a4 : unitF b n * (b * (x / b)) = unitF b n * x - unitF b n * (x % b) := by rw [← Int.mul_sub]; congr 1; omega
  have a5 : x % b * unitF b n = unitF b n * (x % b) := Int.mul_comm _ _
  omega
end Ma

set_option Elab.async false
set_option linter.all false
set_option maxRecDepth 100000
/-! ### broken ranges -/
namespace Ma
/-- whether a number is in the block of another -/
def inBlk (b s n : Int) : Bool := decide (s ≤ n) && (decide (s = 0) || decide (n < s + unitF b s))
theorem blk_iff {b s n : Int} (hb : 2 ≤ b) (hn : 0 ≤ n) (hs : 0 ≤ s) : inBlk b s n = true ↔ s ∈ chainF b n := by
  unfold inBlk
  simp only [Bool.and_eq_true, Bool.or_eq_true, decide_eq_true_eq]
  by_cases q : s = 0
  · subst q
    exact ⟨fun _ => zero_mem_chain hb _ _ (Nat.le_refl _) hn, fun _ => ⟨hn, .inl rfl⟩⟩
  · rw [mem_chain hb _ _ _ (Nat.le_refl _) hn (by omega)]
    constructor
    · rintro ⟨h1, h2 | h2⟩
      · exact absurd h2 q
      · exact ⟨h1, h2⟩
    · rintro ⟨h1, h2⟩
      exact ⟨h1, .inr h2⟩
/-- the innermost special number's damage -/
def innF (b : Int) (fa S : List Int) (n : Int) : Bool := S.foldl (fun acc s => if inBlk b s n then decide (s ∈ fa) else acc) false
theorem inn_acc {b n : Int} {fa : List Int} : ∀ (S : List Int) (acc : Bool), S.Pairwise (· < ·) → (S.foldl (fun acc s => if inBlk b s n then decide (s ∈ fa) else acc) acc = true ↔
    (acc = true ∧ ∀ s ∈ S, ¬ inBlk b s n = true) ∨ ∃ s ∈ S, inBlk b s n = true ∧ s ∈ fa ∧ ∀ s' ∈ S, inBlk b s' n = true → s' ≤ s)
  | [], acc, _ => by simp
  | x :: r, acc, h => by
    obtain ⟨hx, hr⟩ := List.pairwise_cons.mp h
    rw [List.foldl_cons, inn_acc r _ hr]
    by_cases q : inBlk b x n = true
    · rw [if_pos q, decide_eq_true_eq]
      constructor
      · rintro (⟨h1, h2⟩ | ⟨s, h1, h2, h3, h4⟩)
        · refine .inr ⟨x, List.mem_cons_self, q, h1, fun s' hs' hb' => ?_⟩
          rcases List.mem_cons.mp hs' with e | e
          · omega
          · exact absurd hb' (h2 s' e)
        · refine .inr ⟨s, List.mem_cons_of_mem _ h1, h2, h3, fun s' hs' hb' => ?_⟩
          rcases List.mem_cons.mp hs' with e | e
          · have := hx s h1
            omega
          · exact h4 s' e hb'
      · rintro (⟨_, h2⟩ | ⟨s, h1, h2, h3, h4⟩)
        · exact absurd q (h2 x List.mem_cons_self)
        · rcases List.mem_cons.mp h1 with e | e
          · subst e
            refine .inl ⟨h3, fun s' hs' hb' => ?_⟩
            have := h4 s' (List.mem_cons_of_mem _ hs') hb'
            have := hx s' hs'
            omega
          · exact .inr ⟨s, e, h2, h3, fun s' hs' hb' => h4 s' (List.mem_cons_of_mem _ hs') hb'⟩
    · rw [if_neg q]
      constructor
      · rintro (⟨h1, h2⟩ | ⟨s, h1, h2, h3, h4⟩)
        · refine .inl ⟨h1, fun s hs => ?_⟩
          rcases List.mem_cons.mp hs with e | e
          · subst e
            exact q
          · exact h2 s e
        · refine .inr ⟨s, List.mem_cons_of_mem _ h1, h2, h3, fun s' hs' hb' => ?_⟩
          rcases List.mem_cons.mp hs' with e | e
          · subst e
            exact absurd hb' q
          · exact h4 s' e hb'
      · rintro (⟨h1, h2⟩ | ⟨s, h1, h2, h3, h4⟩)
        · exact .inl ⟨h1, fun s hs => h2 s (List.mem_cons_of_mem _ hs)⟩
        · rcases List.mem_cons.mp h1 with e | e
          · subst e
            exact absurd h2 q
          · exact .inr ⟨s, e, h2, h3, fun s' hs' hb' => h4 s' (List.mem_cons_of_mem _ hs') hb'⟩
theorem inn_iff {b n : Int} {fa S : List Int} (h : S.Pairwise (· < ·)) : innF b fa S n = true ↔ ∃ s ∈ S, inBlk b s n = true ∧ s ∈ fa ∧ ∀ s' ∈ S, inBlk b s' n = true → s' ≤ s := by
  unfold innF
  rw [inn_acc S false h]
  simp
theorem inn_snoc {b n s : Int} {fa S : List Int} {i : Nat} (h : S[i]? = some s) : innF b fa (S.take (i + 1)) n = if inBlk b s n then decide (s ∈ fa) else innF b fa (S.take i) n := by
  unfold innF
  rw [List.take_succ, h, List.foldl_append]
  rfl
theorem inn_congr {b n m : Int} {fa S : List Int} (h : ∀ s ∈ S, inBlk b s n = inBlk b s m) : innF b fa S n = innF b fa S m := by
  unfold innF
  have : ∀ (S : List Int) (acc : Bool), (∀ s ∈ S, inBlk b s n = inBlk b s m) → S.foldl (fun acc s => if inBlk b s n then decide (s ∈ fa) else acc) acc = S.foldl (fun acc s => if inBlk b s m then decide (s ∈ fa) else acc) acc := by
    intro S
    induction S with
    | nil => intro _ _; rfl
    | cons x r ih =>
      intro acc h
      rw [List.foldl_cons, List.foldl_cons, h x List.mem_cons_self]
      exact ih _ fun s hs => h s (List.mem_cons_of_mem _ hs)
  exact this S false h
/-- the chain goes down -/
theorem chain_desc {b : Int} (hb : 2 ≤ b) : ∀ (k : Nat) (n : Int), n.toNat ≤ k → 0 ≤ n → (chainF b n).Pairwise (· > ·)
  | 0, n, hk, hn => by
    obtain rfl : n = 0 := by omega
    rw [chainF_zero]
    exact List.pairwise_singleton _ _
  | k + 1, n, hk, hn => by
    rcases Int.lt_or_le 0 n with q | q
    · have h1 := parF_nonneg (b := b) (n := n) hb hn
      have h2 := parF_lt (b := b) (n := n) hb q
      rw [chainF_pos hb q]
      refine List.pairwise_cons.mpr ⟨fun m hm => ?_, chain_desc hb k _ (by omega) h1⟩
      have := chain_nonneg hb _ _ (Nat.le_refl _) h1 m hm
      omega
    · obtain rfl : n = 0 := by omega
      rw [chainF_zero]
      exact List.pairwise_singleton _ _
theorem cut_any {ga ro fa : List Int} (hg : ∀ x, x ∈ fa ∨ x ∈ ro → x ∉ ga) : ∀ xs : List Int, xs.Pairwise (· > ·) → ((cutL ga ro xs).any (fun m => decide (m ∈ fa)) = true ↔ ∃ s ∈ xs, s ∈ fa ∧ ∀ s' ∈ xs, (s' ∈ fa ∨ s' ∈ ro) → s' ≤ s)
  | [], _ => by simp [cutL]
  | x :: r, h => by
    obtain ⟨hx, hr⟩ := List.pairwise_cons.mp h
    have ih := cut_any hg r hr
    have skip : ¬ (x ∈ fa ∨ x ∈ ro) → ((∃ s ∈ x :: r, s ∈ fa ∧ ∀ s' ∈ x :: r, (s' ∈ fa ∨ s' ∈ ro) → s' ≤ s) ↔ ∃ s ∈ r, s ∈ fa ∧ ∀ s' ∈ r, (s' ∈ fa ∨ s' ∈ ro) → s' ≤ s) := by
      intro hn
      constructor
      · rintro ⟨s, h1, h2, h3⟩
        rcases List.mem_cons.mp h1 with e | e
        · subst e
          exact absurd (.inl h2) hn
        · exact ⟨s, e, h2, fun s' hs' => h3 s' (List.mem_cons_of_mem _ hs')⟩
      · rintro ⟨s, h1, h2, h3⟩
        refine ⟨s, List.mem_cons_of_mem _ h1, h2, fun s' hs' hq => ?_⟩
        rcases List.mem_cons.mp hs' with e | e
        · subst e
          exact absurd hq hn
        · exact h3 s' e hq
    have top : x ∈ fa → ∃ s ∈ x :: r, s ∈ fa ∧ ∀ s' ∈ x :: r, (s' ∈ fa ∨ s' ∈ ro) → s' ≤ s := fun hf => ⟨x, List.mem_cons_self, hf, fun s' hs' _ => by
      rcases List.mem_cons.mp hs' with e | e
      · omega
      · have := hx s' e
        omega⟩
    rw [cutL]
    by_cases g1 : x ∈ ga
    · rw [if_pos g1, ih, skip fun q => hg x q g1]
    · rw [if_neg g1]
      by_cases g2 : x ∈ ro
      · rw [if_pos g2]
        constructor
        · intro q
          exact top (by simpa using q)
        · rintro ⟨s, h1, h2, h3⟩
          rcases List.mem_cons.mp h1 with e | e
          · subst e
            simpa using h2
          · have := h3 x List.mem_cons_self (.inr g2)
            have := hx s e
            omega
      · rw [if_neg g2, List.any_cons, Bool.or_eq_true, ih, decide_eq_true_eq]
        by_cases g3 : x ∈ fa
        · exact ⟨fun _ => top g3, fun _ => .inl g3⟩
        · rw [skip fun q => q.elim g3 g2]
          exact ⟨fun q => q.resolve_left g3, .inr⟩
/-- broken: the innermost special number is damaged -/
theorem br_inn {b n : Int} {ga ro fa S : List Int} (hb : 2 ≤ b) (hn : 0 ≤ n) (hS : S.Pairwise (· < ·)) (hm : ∀ s, s ∈ S ↔ s ∈ fa ∨ s ∈ ro) (hg : ∀ x, x ∈ fa ∨ x ∈ ro → 0 ≤ x ∧ x ∉ ga) : brB b ga ro fa n = innF b fa S n := by
  rw [Bool.eq_iff_iff, inn_iff hS]
  unfold brB chA
  rw [cut_any (fun x hx => (hg x hx).2) _ (chain_desc hb _ _ (Nat.le_refl _) hn)]
  constructor
  · rintro ⟨s, h1, h2, h3⟩
    refine ⟨s, (hm s).mpr (.inl h2), (blk_iff hb hn (hg s (.inl h2)).1).mpr h1, h2, fun s' hs' hb' => ?_⟩
    have hq := (hm s').mp hs'
    exact h3 s' ((blk_iff hb hn (hg s' hq).1).mp hb') hq
  · rintro ⟨s, h1, h2, h3, h4⟩
    refine ⟨s, (blk_iff hb hn (hg s (.inl h3)).1).mp h2, h3, fun s' hs' hq => ?_⟩
    exact h4 s' ((hm s').mpr hq) ((blk_iff hb hn (hg s' hq).1).mpr hs')
/-! ### edges -/
def IsEdge (b : Int) (S E : List Int) : Prop := E.Pairwise (· < ·) ∧ ∀ e, e ∈ E ↔ e ∈ S ∨ ∃ s ∈ S, s ≠ 0 ∧ e = s + unitF b s
theorem edge_of {b : Int} {S E : List Int} (hs : E.Pairwise (· < ·)) (hm : ∀ k, k ∈ E ↔ k ∈ S ++ (S.filter (fun s => !decide (s = 0))).map (fun s => s + unitF b s)) : IsEdge b S E := ⟨hs, fun e => by
  rw [hm e, List.mem_append, List.mem_map]
  constructor
  · rintro (h | ⟨s, h1, rfl⟩)
    · exact .inl h
    · exact .inr ⟨s, (List.mem_filter.mp h1).1, by simpa using (List.mem_filter.mp h1).2, rfl⟩
  · rintro (h | ⟨s, h1, h2, rfl⟩)
    · exact .inl h
    · exact .inr ⟨s, List.mem_filter.mpr ⟨h1, by simpa using h2⟩, rfl⟩⟩
theorem edge_bd {b e : Int} {S E : List Int} (hb : 2 ≤ b) (hE : IsEdge b S E) (hs : ∀ s ∈ S, 0 ≤ s ∧ s ≤ 10 ^ 50) (he : e ∈ E) : 0 ≤ e ∧ e ≤ 10 ^ 52 := by
  rcases (hE.2 e).mp he with h | ⟨s, h, h0, rfl⟩
  · have := hs e h
    omega
  · have h1 := hs s h
    have h2 := unitF_le (b := b) (n := s) (by omega)
    have h3 := unitF_pos (b := b) (n := s) hb
    omega
theorem edge_const {b e n : Int} {fa S E : List Int} (hE : IsEdge b S E) (h1 : e ≤ n) (h2 : ∀ x ∈ E, x ≤ e ∨ n < x) : innF b fa S n = innF b fa S e := by
  refine inn_congr fun s hs => ?_
  unfold inBlk
  have a1 := h2 s ((hE.2 s).mpr (.inl hs))
  have e1 : decide (s ≤ n) = decide (s ≤ e) := by
    rw [decide_eq_decide]
    omega
  rw [e1]
  by_cases q : s = 0
  · simp [q]
  · have a2 := h2 _ ((hE.2 (s + unitF b s)).mpr (.inr ⟨s, hs, q, rfl⟩))
    have e2 : decide (n < s + unitF b s) = decide (e < s + unitF b s) := by
      rw [decide_eq_decide]
      omega
    rw [e2]
theorem edge_low {b n : Int} {fa S E : List Int} (hS : S.Pairwise (· < ·)) (hE : IsEdge b S E) (h : ∀ x ∈ E, n < x) : innF b fa S n = false := by
  rw [Bool.eq_false_iff]
  intro q
  obtain ⟨s, h1, h2, _⟩ := (inn_iff hS).mp q
  have := h s ((hE.2 s).mpr (.inl h1))
  unfold inBlk at h2
  simp only [Bool.and_eq_true, decide_eq_true_eq] at h2
  omega
theorem edge_last {b e : Int} {fa S E : List Int} (hS : S.Pairwise (· < ·)) (hE : IsEdge b S E) (h0 : (0 : Int) ∉ S) (h : ∀ x ∈ E, x ≤ e) : innF b fa S e = false := by
  rw [Bool.eq_false_iff]
  intro q
  obtain ⟨s, h1, h2, _⟩ := (inn_iff hS).mp q
  have hs : s ≠ 0 := fun z => h0 (z ▸ h1)
  have := h _ ((hE.2 (s + unitF b s)).mpr (.inr ⟨s, h1, hs, rfl⟩))
  unfold inBlk at h2
  simp only [Bool.and_eq_true, Bool.or_eq_true, decide_eq_true_eq] at h2
  omega
/-! ### ranges -/
def inR (R : List (Int × Option Int)) (n : Int) : Prop := ∃ r ∈ R, r.1 ≤ n ∧ ∀ a, r.2 = some a → n < a
def Apart (R : List (Int × Option Int)) : Prop := R.Pairwise (fun r r' => ∃ a, r.2 = some a ∧ a < r'.1) ∧ ∀ r ∈ R, ∀ a, r.2 = some a → r.1 < a
def Below (E : List Int) (i : Nat) (n : Int) : Prop := ∀ e, E[i]? = some e → n < e
/-- the ranges so far tell the broken numbers below the next edge -/
structure RI (b : Int) (fa S E : List Int) (i : Nat) (R : List (Int × Option Int)) : Prop where
  told : ∀ n, Below E i n → (inR R n ↔ innF b fa S n = true)
  ap : Apart R
  ends : ∀ e, E[i]? = some e → ∀ r ∈ R, ∃ a, r.2 = some a ∧ a ≤ e
theorem at_lt {E : List Int} {i j : Nat} {x y : Int} (h : E.Pairwise (· < ·)) (hx : E[i]? = some x) (hy : E[j]? = some y) (hij : i < j) : x < y := by
  obtain ⟨q1, e1⟩ := List.getElem?_eq_some_iff.mp hx
  obtain ⟨q2, e2⟩ := List.getElem?_eq_some_iff.mp hy
  have := List.pairwise_iff_getElem.mp h i j q1 q2 hij
  omega
theorem below_near {E : List Int} {i : Nat} {e n : Int} (h : E.Pairwise (· < ·)) (hx : E[i]? = some e) (hn : Below E (i + 1) n) : ∀ x ∈ E, x ≤ e ∨ n < x := fun x hm => by
  obtain ⟨j, hj, ex⟩ := List.mem_iff_getElem.mp hm
  have hj' : E[j]? = some x := by rw [List.getElem?_eq_getElem hj, ex]
  rcases Nat.lt_trichotomy j i with q | q | q
  · have := at_lt h hj' hx q
    omega
  · subst q
    rw [hx] at hj'
    have := Option.some.inj hj'
    omega
  · right
    by_cases q2 : j = i + 1
    · subst q2
      exact hn x hj'
    · have hi1 : i + 1 < E.length := by omega
      have hg := List.getElem?_eq_getElem hi1
      have h1 := hn _ hg
      have h2 := at_lt h hg hj' (by omega)
      omega
theorem RI.zero {b : Int} {fa S E : List Int} (hS : S.Pairwise (· < ·)) (hE : IsEdge b S E) : RI b fa S E 0 [] := by
  refine ⟨fun n hn => ?_, ⟨.nil, fun r hr => by cases hr⟩, fun e _ r hr => by cases hr⟩
  rw [edge_low hS hE]
  · constructor
    · rintro ⟨r, hr, _⟩
      cases hr
    · intro q
      cases q
  · intro x hx
    obtain ⟨j, hj, ex⟩ := List.mem_iff_getElem.mp hx
    have hj' : E[j]? = some x := by rw [List.getElem?_eq_getElem hj, ex]
    by_cases q : j = 0
    · subst q
      exact hn x hj'
    · have h0 : 0 < E.length := by omega
      have hg := List.getElem?_eq_getElem h0
      have h1 := hn _ hg
      have h2 := at_lt hE.1 hg hj' (by omega)
      omega
/-- below the next edge, or at it -/
theorem below_or {E : List Int} {i : Nat} {e n : Int} (hx : E[i]? = some e) : Below E i n ∨ e ≤ n := by
  by_cases q : n < e
  · exact .inl fun x h => by
      rw [hx] at h
      have := Option.some.inj h
      omega
  · exact .inr (by omega)
theorem RI.skip {b e : Int} {fa S E : List Int} {i : Nat} {R : List (Int × Option Int)} (hE : IsEdge b S E) (h : RI b fa S E i R) (hx : E[i]? = some e) (hi : innF b fa S e = false) : RI b fa S E (i + 1) R := by
  refine ⟨fun n hn => ?_, h.ap, fun e2 he2 r hr => ?_⟩
  · rcases below_or (n := n) hx with q | q
    · exact h.told n q
    · rw [edge_const hE q (below_near hE.1 hx hn), hi]
      constructor
      · rintro ⟨r, hr, h1, h2⟩
        obtain ⟨a, ea, hle⟩ := h.ends e hx r hr
        have := h2 a ea
        omega
      · intro z
        cases z
  · obtain ⟨a, ea, hle⟩ := h.ends e hx r hr
    have := at_lt hE.1 hx he2 (by omega)
    exact ⟨a, ea, by omega⟩
theorem RI.new {b e : Int} {fa S E : List Int} {i : Nat} {R : List (Int × Option Int)} (hE : IsEdge b S E) (h : RI b fa S E i R) (hx : E[i]? = some e) (hi : innF b fa S e = true) (hl : ∀ r ∈ R, r.2 ≠ some e) : RI b fa S E (i + 1) (R ++ [(e, E[i + 1]?)]) := by
  refine ⟨fun n hn => ?_, ⟨?_, ?_⟩, fun e2 he2 r hr => ?_⟩
  · have key : inR (R ++ [(e, E[i + 1]?)]) n ↔ inR R n ∨ e ≤ n := by
      constructor
      · rintro ⟨r, hr, h1, h2⟩
        rcases List.mem_append.mp hr with q | q
        · exact .inl ⟨r, q, h1, h2⟩
        · obtain rfl : r = (e, E[i + 1]?) := by simpa using q
          exact .inr h1
      · rintro (⟨r, hr, h1⟩ | q)
        · exact ⟨r, List.mem_append.mpr (.inl hr), h1⟩
        · exact ⟨(e, E[i + 1]?), List.mem_append.mpr (.inr (by simp)), q, fun a ha => hn a ha⟩
    rw [key]
    rcases below_or (n := n) hx with q | q
    · have := q e hx
      rw [h.told n q]
      exact ⟨fun z => z.resolve_right (by omega), .inl⟩
    · rw [edge_const hE q (below_near hE.1 hx hn), hi]
      exact ⟨fun _ => rfl, fun _ => .inr q⟩
  · refine List.pairwise_append.mpr ⟨h.ap.1, List.pairwise_singleton _ _, fun r hr r' hr' => ?_⟩
    obtain rfl : r' = (e, E[i + 1]?) := by simpa using hr'
    obtain ⟨a, ea, hle⟩ := h.ends e hx r hr
    refine ⟨a, ea, ?_⟩
    have : a ≠ e := fun z => hl r hr (by rw [ea, z])
    show a < e
    omega
  · intro r hr a ha
    rcases List.mem_append.mp hr with q | q
    · exact h.ap.2 r q a ha
    · obtain rfl : r = (e, E[i + 1]?) := by simpa using q
      exact at_lt hE.1 hx ha (by omega)
  · rcases List.mem_append.mp hr with q | q
    · obtain ⟨a, ea, hle⟩ := h.ends e hx r q
      have := at_lt hE.1 hx he2 (by omega)
      exact ⟨a, ea, by omega⟩
    · obtain rfl : r = (e, E[i + 1]?) := by simpa using q
      exact ⟨e2, he2, Int.le_refl _⟩
theorem RI.merge {b e x : Int} {fa S E : List Int} {i : Nat} {R : List (Int × Option Int)} (hE : IsEdge b S E) (h : RI b fa S E i (R ++ [(x, some e)])) (hx : E[i]? = some e) (hi : innF b fa S e = true) : RI b fa S E (i + 1) (R ++ [(x, E[i + 1]?)]) := by
  have hxe : x < e := h.ap.2 (x, some e) (by simp) e rfl
  obtain ⟨ap1, _, ap3⟩ := List.pairwise_append.mp h.ap.1
  refine ⟨fun n hn => ?_, ⟨?_, ?_⟩, fun e2 he2 r hr => ?_⟩
  · have key : inR (R ++ [(x, E[i + 1]?)]) n ↔ inR (R ++ [(x, some e)]) n ∨ e ≤ n := by
      constructor
      · rintro ⟨r, hr, h1, h2⟩
        rcases List.mem_append.mp hr with q | q
        · exact .inl ⟨r, List.mem_append.mpr (.inl q), h1, h2⟩
        · obtain rfl : r = (x, E[i + 1]?) := by simpa using q
          rcases Int.lt_or_le n e with z | z
          · exact .inl ⟨(x, some e), List.mem_append.mpr (.inr (by simp)), h1, fun a ha => by have := Option.some.inj ha; omega⟩
          · exact .inr z
      · rintro (⟨r, hr, h1, h2⟩ | q)
        · rcases List.mem_append.mp hr with q | q
          · exact ⟨r, List.mem_append.mpr (.inl q), h1, h2⟩
          · obtain rfl : r = (x, some e) := by simpa using q
            exact ⟨(x, E[i + 1]?), List.mem_append.mpr (.inr (by simp)), h1, fun a ha => hn a ha⟩
        · exact ⟨(x, E[i + 1]?), List.mem_append.mpr (.inr (by simp)), by show x ≤ n; omega, fun a ha => hn a ha⟩
    rw [key]
    rcases below_or (n := n) hx with q | q
    · have := q e hx
      rw [h.told n q]
      exact ⟨fun z => z.resolve_right (by omega), .inl⟩
    · rw [edge_const hE q (below_near hE.1 hx hn), hi]
      exact ⟨fun _ => rfl, fun _ => .inr q⟩
  · refine List.pairwise_append.mpr ⟨ap1, List.pairwise_singleton _ _, fun r hr r' hr' => ?_⟩
    obtain rfl : r' = (x, E[i + 1]?) := by simpa using hr'
    exact ap3 r hr (x, some e) (by simp)
  · intro r hr a ha
    rcases List.mem_append.mp hr with q | q
    · exact h.ap.2 r (List.mem_append.mpr (.inl q)) a ha
    · obtain rfl : r = (x, E[i + 1]?) := by simpa using q
      have := at_lt hE.1 hx ha (by omega)
      show x < a
      omega
  · rcases List.mem_append.mp hr with q | q
    · obtain ⟨a, ea, hle⟩ := h.ends e hx r (List.mem_append.mpr (.inl q))
      have := at_lt hE.1 hx he2 (by omega)
      exact ⟨a, ea, by omega⟩
    · obtain rfl : r = (x, E[i + 1]?) := by simpa using q
      exact ⟨e2, he2, Int.le_refl _⟩
theorem RI.last {b e : Int} {fa S E : List Int} {i : Nat} {R : List (Int × Option Int)} (h : RI b fa S E i R) (hx : E[i]? = some e) : R = [] ∨ ∃ R0 x a, R = R0 ++ [(x, some a)] ∧ a ≤ e := by
  rcases List.eq_nil_or_concat R with q | ⟨R0, ⟨x, o⟩, q⟩
  · exact .inl q
  · rw [List.concat_eq_append] at q
    obtain ⟨a, ea, hle⟩ := h.ends e hx (x, o) (by rw [q]; simp)
    have ea : o = some a := ea
    subst ea
    exact .inr ⟨R0, x, a, q, hle⟩
/-- no range ends at the edge: the last one ends below it -/
theorem RI.apart {b e x a : Int} {fa S E : List Int} {i : Nat} {R : List (Int × Option Int)} (h : RI b fa S E i (R ++ [(x, some a)])) (hx : E[i]? = some e) (hne : a ≠ e) : ∀ r ∈ R ++ [(x, some a)], r.2 ≠ some e := by
  intro r hr q
  rcases List.mem_append.mp hr with m | m
  · obtain ⟨a1, e1, hlt⟩ := (List.pairwise_append.mp h.ap.1).2.2 r m (x, some a) (by simp)
    have hxa := h.ap.2 (x, some a) (by simp) a rfl
    obtain ⟨a2, e2, hle⟩ := h.ends e hx (x, some a) (by simp)
    have e2 := Option.some.inj e2
    rw [q] at e1
    have e1 := Option.some.inj e1
    have hlt : a1 < x := hlt
    omega
  · obtain rfl : r = (x, some a) := by simpa using m
    exact hne (Option.some.inj q)
theorem edge_all {b e : Int} {S E : List Int} {i : Nat} (hE : IsEdge b S E) (hx : E[i]? = some e) (hn : ¬ i + 1 < E.length) : ∀ x ∈ E, x ≤ e := fun x hm => by
  obtain ⟨j, hj, ex⟩ := List.mem_iff_getElem.mp hm
  have hj' : E[j]? = some x := by rw [List.getElem?_eq_getElem hj, ex]
  rcases Nat.lt_trichotomy j i with q | q | q
  · have := at_lt hE.1 hj' hx q
    omega
  · subst q
    rw [hx] at hj'
    have := Option.some.inj hj'
    omega
  · omega
theorem edge_or {b e : Int} {fa S E : List Int} {i : Nat} (hS : S.Pairwise (· < ·)) (hE : IsEdge b S E) (hx : E[i]? = some e) (hn : ¬ i + 1 < E.length) (h : ¬ (0 : Int) ∈ S ∨ innF b fa S e = false) : innF b fa S e = false :=
  h.elim (fun q => edge_last hS hE q (edge_all hE hx hn)) id
def Rng (E : List Int) (R : List (Int × Option Int)) : Prop := ∀ r ∈ R, r.1 ∈ E ∧ ∀ a, r.2 = some a → a ∈ E
def RL (b : Int) (fa S E : List Int) (i : Nat) (R : List (Int × Option Int)) : Prop := RI b fa S E i R ∧ R.length ≤ i ∧ Rng E R
theorem RL.zero {b : Int} {fa S E : List Int} (hS : S.Pairwise (· < ·)) (hE : IsEdge b S E) : RL b fa S E 0 [] := ⟨.zero hS hE, Nat.le_refl _, fun r h => by cases h⟩
theorem Rng.snoc {E : List Int} {R : List (Int × Option Int)} {x : Int} {k : Nat} (h : Rng E R) (hx : x ∈ E) : Rng E (R ++ [(x, E[k]?)]) := fun r hr => by
  rcases List.mem_append.mp hr with q | q
  · exact h r q
  · obtain rfl : r = (x, E[k]?) := by simpa using q
    exact ⟨hx, fun a ha => List.mem_of_getElem? ha⟩
theorem RI.skipL {b e : Int} {fa S E : List Int} {i : Nat} {R : List (Int × Option Int)} (hE : IsEdge b S E) (h : RL b fa S E i R) (hx : E[i]? = some e) (hi : innF b fa S e = false) : RL b fa S E (i + 1) R :=
  ⟨h.1.skip hE hx hi, by have := h.2.1; omega, h.2.2⟩
theorem RI.newL0 {b e : Int} {fa S E : List Int} {i : Nat} (hE : IsEdge b S E) (h : RL b fa S E i []) (hx : E[i]? = some e) (hi : innF b fa S e = true) : RL b fa S E (i + 1) ([] ++ [(e, E[i + 1]?)]) :=
  ⟨h.1.new hE hx hi (fun r hr => by cases hr), by simp, h.2.2.snoc (List.mem_of_getElem? hx)⟩
theorem RI.newL {b e x a : Int} {fa S E : List Int} {i : Nat} {R : List (Int × Option Int)} (hE : IsEdge b S E) (h : RL b fa S E i (R ++ [(x, some a)])) (hx : E[i]? = some e) (hi : innF b fa S e = true) (hne : ¬ a = e) : RL b fa S E (i + 1) ((R ++ [(x, some a)]) ++ [(e, E[i + 1]?)]) :=
  ⟨h.1.new hE hx hi (h.1.apart hx hne), by have := h.2.1; simp at this ⊢; omega, h.2.2.snoc (List.mem_of_getElem? hx)⟩
theorem RI.mergeL {b e x a : Int} {fa S E : List Int} {i : Nat} {R : List (Int × Option Int)} (hE : IsEdge b S E) (h : RL b fa S E i (R ++ [(x, some a)])) (hx : E[i]? = some e) (hi : innF b fa S e = true) (he : a = e) : RL b fa S E (i + 1) (R ++ [(x, E[i + 1]?)]) := by
  subst he
  refine ⟨h.1.merge hE hx hi, by have := h.2.1; simp at this ⊢; omega, Rng.snoc (fun r hr => h.2.2 r (List.mem_append.mpr (.inl hr))) (h.2.2 (x, some a) (by simp)).1⟩
def BrBd (R : List (Int × Option Int)) : Prop := ∀ r ∈ R, 0 ≤ r.1 ∧ r.1 ≤ 10 ^ 52 ∧ ∀ a, r.2 = some a → a ≤ 10 ^ 52
theorem Rng.bd {E : List Int} {R : List (Int × Option Int)} (h : Rng E R) (hE : ∀ e ∈ E, 0 ≤ e ∧ e ≤ 10 ^ 52) : BrBd R := fun r hr => ⟨(hE _ (h r hr).1).1, (hE _ (h r hr).1).2, fun a ha => (hE _ ((h r hr).2 a ha)).2⟩
/-- all broken ranges -/
def IsBr (b : Int) (ga ro fa : List Int) (R : List (Int × Option Int)) : Prop := Apart R ∧ ∀ n, 0 ≤ n → (inR R n ↔ brB b ga ro fa n = true)
theorem RI.done {b : Int} {ga ro fa S E : List Int} {R : List (Int × Option Int)} (hb : 2 ≤ b) (hS : S.Pairwise (· < ·)) (hm : ∀ s, s ∈ S ↔ s ∈ fa ∨ s ∈ ro) (hg : ∀ x, x ∈ fa ∨ x ∈ ro → 0 ≤ x ∧ x ∉ ga) (h : RI b fa S E E.length R) : IsBr b ga ro fa R :=
  ⟨h.ap, fun n hn => by
    rw [br_inn hb hn hS hm hg]
    exact h.told n fun e he => by rw [List.getElem?_eq_none (Nat.le_refl _)] at he; cases he⟩
end Ma

set_option Elab.async false
set_option linter.all false
set_option maxRecDepth 100000
/-! ### how many numbers of a range; broken ones counted -/
namespace Ma
/-- how many numbers from lo on, below hi, have a property -/
def numF (P : Int → Bool) (lo hi : Int) : Int := sumN (fun i => if P (lo + i) then 1 else 0) (hi - lo).toNat
theorem num_congr {P Q : Int → Bool} {lo hi : Int} (h : ∀ n, lo ≤ n → n < hi → P n = Q n) : numF P lo hi = numF Q lo hi :=
  sumN_congr fun i hi => by rw [h _ (by omega) (by omega)]
theorem num_add {P Q R : Int → Bool} {lo hi : Int} (h : ∀ n, lo ≤ n → n < hi → (if R n then (1 : Int) else 0) = (if P n then 1 else 0) + (if Q n then 1 else 0)) : numF R lo hi = numF P lo hi + numF Q lo hi := by
  unfold numF
  rw [← sumN_add]
  exact sumN_congr fun i hi => h _ (by omega) (by omega)
theorem num_cat {P : Int → Bool} {lo mid hi : Int} (h1 : lo ≤ mid) (h2 : mid ≤ hi) : numF P lo hi = numF P lo mid + numF P mid hi := by
  unfold numF
  rw [show (hi - lo).toNat = (mid - lo).toNat + (hi - mid).toNat by omega, sumN_plus]
  congr 1
  exact sumN_congr fun i _ => by rw [show lo + (((mid - lo).toNat + i : Nat) : Int) = mid + i by omega]
theorem num_none {P : Int → Bool} {lo hi : Int} (h : ∀ n, lo ≤ n → n < hi → P n = false) : numF P lo hi = 0 :=
  sumN_zero fun i hi => by rw [h _ (by omega) (by omega)]; rfl
theorem num_one {P : Int → Bool} {n : Int} : numF P n (n + 1) = if P n then 1 else 0 := by
  unfold numF
  rw [show (n + 1 - n).toNat = 1 by omega, sumN, sumN, Int.zero_add]
  rw [show n + ((0 : Nat) : Int) = n by omega]
theorem num_bd {P : Int → Bool} {lo hi : Int} : 0 ≤ numF P lo hi ∧ numF P lo hi ≤ ((hi - lo).toNat : Int) := by
  have := sumN_bd (f := fun i => if P (lo + i) then (1 : Int) else 0) (w := 1) (n := (hi - lo).toNat) (fun i _ => by split <;> omega)
  unfold numF
  omega
/-- a part of the range -/
theorem num_part {P : Int → Bool} {lo hi a c : Int} (h1 : lo ≤ a) (h2 : a ≤ c) (h3 : c ≤ hi) : numF (fun n => decide (a ≤ n) && decide (n < c) && P n) lo hi = numF P a c := by
  rw [num_cat (mid := a) h1 (by omega), num_cat (lo := a) (mid := c) h2 h3, num_none, num_none (lo := c)]
  · rw [num_congr (Q := P) (lo := a) (hi := c)]
    · omega
    · intro n h4 h5
      simp [h4, h5]
  · intro n h4 h5
    rw [decide_eq_false (show ¬ n < c by omega)]
    simp
  · intro n h4 h5
    rw [decide_eq_false (show ¬ a ≤ n by omega)]
    simp
theorem cnt_num {b f t n : Int} : cntF b f t n = numF (fun m => keptB b f m t) 0 n := by
  unfold cntF numF
  rw [Int.sub_zero]
  exact sumN_congr fun i _ => by dsimp only; rw [Int.zero_add]
/-- members of an ascending list that lie in a range -/
theorem num_list {Q : Int → Bool} {lo hi : Int} : ∀ xs : List Int, xs.Pairwise (· < ·) → ((xs.filter (fun x => decide (lo ≤ x) && decide (x < hi) && Q x)).length : Int) = numF (fun n => decide (n ∈ xs) && Q n) lo hi
  | [], _ => by
    rw [num_none]
    · rfl
    · intro n _ _
      simp
  | x :: r, h => by
    obtain ⟨hx, hr⟩ := List.pairwise_cons.mp h
    have ih := num_list (Q := Q) (lo := lo) (hi := hi) r hr
    have hxr : x ∉ r := fun q => by
      have := hx x q
      omega
    have key : numF (fun n => decide (n ∈ x :: r) && Q n) lo hi = numF (fun n => decide (n = x) && Q n) lo hi + numF (fun n => decide (n ∈ r) && Q n) lo hi := by
      refine num_add fun n _ _ => ?_
      by_cases e : n = x
      · subst e
        simp [hxr]
      · simp [e]
    rw [key, ← ih]
    by_cases hin : lo ≤ x ∧ x < hi
    · have e1 : numF (fun n => decide (n = x) && Q n) lo hi = if Q x then 1 else 0 := by
        rw [num_cat (mid := x) hin.1 (by omega), num_cat (lo := x) (mid := x + 1) (by omega) (by omega), num_none, num_none (lo := x + 1), num_one]
        · simp
        · intro n h1 h2
          rw [decide_eq_false (by omega)]
          rfl
        · intro n h1 h2
          rw [decide_eq_false (by omega)]
          rfl
      rw [e1, List.filter_cons]
      rw [decide_eq_true hin.1, decide_eq_true hin.2]
      cases Q x
      · simp
      · simp
        omega
    · have e1 : numF (fun n => decide (n = x) && Q n) lo hi = 0 := by
        refine num_none fun n h1 h2 => ?_
        rw [decide_eq_false (by omega)]
        rfl
      rw [e1, List.filter_cons]
      have e2 : (decide (lo ≤ x) && decide (x < hi) && Q x) = false := by
        by_cases q : lo ≤ x
        · rw [decide_eq_false (show ¬ x < hi by omega)]
          simp
        · rw [decide_eq_false q]
          simp
      rw [e2]
      simp
/-! ### multiples of a unit in a range -/
def mulF (u l a : Int) : Int := if a > max l 1 then max 0 ((a - 1) / u - (max l 1 - 1) / u) else 0
theorem mul_lev {b u l a : Int} (hb : 2 ≤ b) (hu : 1 ≤ u) : mulF u l a - mulF (u * b) l a = levC b u (max 1 l) (a - 1) := by
  have hub : 1 ≤ u * b := by
    have := Int.mul_le_mul_of_nonneg_left hb (show 0 ≤ u by omega)
    omega
  unfold mulF levC
  by_cases h : a > max l 1
  · rw [if_pos h, if_pos h, if_neg (by omega), show max 1 l = max l 1 by omega]
    have h1 : (max l 1 - 1) / u ≤ (a - 1) / u := Int.ediv_le_ediv (by omega) (by omega)
    have h2 : (max l 1 - 1) / (u * b) ≤ (a - 1) / (u * b) := Int.ediv_le_ediv (by omega) (by omega)
    omega
  · rw [if_neg h, if_neg h, if_pos (by omega)]
    omega
/-- level by level: the kept numbers of a range -/
def livS (b f t first after : Int) (k : Nat) : Int := (if first ≤ 0 then 1 else 0) + sumN (fun j => levC b (b ^ j) (max 1 (max first (t - f * b ^ j))) (after - 1)) k
theorem liv_succ {b f t first after : Int} (hb : 2 ≤ b) (k : Nat) : livS b f t first after (k + 1) = livS b f t first after k + mulF (b ^ k) (max first (t - f * b ^ k)) after - mulF (b ^ k * b) (max first (t - f * b ^ k)) after := by
  unfold livS
  rw [sumN, ← mul_lev hb (pow_pos hb k)]
  omega
theorem liv_done {b f t first after : Int} {k : Nat} (hb : 2 ≤ b) (hf : 1 ≤ f) (h0 : 0 ≤ first) (h1 : first < after) (h2 : after ≤ t + 1) (hk : after ≤ b ^ k) : livS b f t first after k = numF (fun m => keptB b f m t) first after := by
  have key : ∀ lo : Int, 1 ≤ lo → lo ≤ after → sumN (fun j => levC b (b ^ j) (max 1 (max lo (t - f * b ^ j))) (after - 1)) k = numF (fun m => keptB b f m t) lo after := fun lo hlo hla => by
    have e1 : ∀ j : Nat, levC b (b ^ j) (max 1 (max lo (t - f * b ^ j))) (after - 1) = sumN (fun i => if decide (t ≤ (lo + i) + f * b ^ j) then eF b (b ^ j) (lo + i) else 0) (after - lo).toNat := fun j => by
      rw [levC_sum hb ⟨j, rfl⟩ (by omega), show max 1 (max lo (t - f * b ^ j)) = max lo (t - f * b ^ j) by omega]
      by_cases h : after - 1 < max lo (t - f * b ^ j)
      · rw [show (after - 1 - max lo (t - f * b ^ j) + 1).toNat = 0 by omega, sumN_zero (n := (after - lo).toNat)]
        · rfl
        · intro i hi
          rw [if_neg (by rw [decide_eq_true_eq]; omega)]
      · rw [show (after - lo).toNat = (max lo (t - f * b ^ j) - lo).toNat + (after - 1 - max lo (t - f * b ^ j) + 1).toNat by omega, sumN_plus, sumN_zero (n := (max lo (t - f * b ^ j) - lo).toNat), Int.zero_add]
        · refine sumN_congr fun i hi => ?_
          rw [if_pos (by rw [decide_eq_true_eq]; omega), show lo + (((max lo (t - f * b ^ j) - lo).toNat + i : Nat) : Int) = max lo (t - f * b ^ j) + i by omega]
        · intro i hi
          rw [if_neg (by rw [decide_eq_true_eq]; omega)]
    rw [sumN_congr fun j _ => e1 j, ← sumN_swap]
    unfold numF
    refine sumN_congr fun i hi => ?_
    show _ = if keptB b f (lo + i) t = true then (1 : Int) else 0
    rw [eF_sumP (fun u => decide (t ≤ (lo + i) + f * u)) hb (by omega) (show (lo + (i : Int)) < b ^ k by omega), keptB_pos (by omega) (by omega)]
  unfold livS
  by_cases q : first = 0
  · subst q
    have h3 := num_one (P := fun m => keptB b f m t) (n := 0)
    have h4 := num_cat (P := fun m => keptB b f m t) (lo := 0) (mid := 0 + 1) (hi := after) (by omega) (by omega)
    have h5 : keptB b f 0 t = true := keptB_zero (by omega)
    simp only [h5, if_true] at h3
    rw [h4, h3, Int.zero_add, ← key 1 (by omega) (by omega), if_pos (Int.le_refl 0)]
    congr 1
    exact sumN_congr fun j _ => by rw [show max 1 (max 0 (t - f * b ^ j)) = max 1 (max 1 (t - f * b ^ j)) by omega]
  · rw [if_neg (by omega), key first (by omega) (by omega)]
    omega
/-! ### the broken kept numbers of the ranges -/
def inRb (R : List (Int × Option Int)) (n : Int) : Bool := R.any (fun r => decide (r.1 ≤ n) && (match r.2 with
  | some a => decide (n < a)
  | none => true))
theorem inRb_iff {R : List (Int × Option Int)} {n : Int} : inRb R n = true ↔ inR R n := by
  unfold inRb inR
  rw [List.any_eq_true]
  constructor
  · rintro ⟨⟨x, o⟩, h1, h2⟩
    refine ⟨_, h1, ?_⟩
    cases o with
    | none =>
      simp only [Bool.and_eq_true, decide_eq_true_eq] at h2
      exact ⟨h2.1, fun a e => by cases e⟩
    | some a0 =>
      simp only [Bool.and_eq_true, decide_eq_true_eq] at h2
      exact ⟨h2.1, fun a e => by have := Option.some.inj e; omega⟩
  · rintro ⟨⟨x, o⟩, h1, h2, h3⟩
    refine ⟨_, h1, ?_⟩
    cases o with
    | none =>
      simp only [Bool.and_eq_true, decide_eq_true_eq]
      exact ⟨h2, trivial⟩
    | some a0 =>
      simp only [Bool.and_eq_true, decide_eq_true_eq]
      exact ⟨h2, h3 a0 rfl⟩
def endR (o : Option Int) (t : Int) : Int := match o with
  | some a => min a (t + 1)
  | none => t + 1
def brkN (b f : Int) (ga ro pi fa : List Int) (t : Int) : Int := numF (fun n => brB b ga ro fa n && keptA b f ga ro pi n t) 0 (t + 1)
def brkI (b f : Int) (ga ro pi : List Int) (t : Int) (R : List (Int × Option Int)) (i : Nat) : Int := numF (fun n => inRb (R.take i) n && keptA b f ga ro pi n t) 0 (t + 1)
theorem brk_zero {b f t : Int} {ga ro pi : List Int} {R : List (Int × Option Int)} : brkI b f ga ro pi t R 0 = 0 := num_none fun n _ _ => by rfl
theorem brk_done {b f t : Int} {ga ro pi fa : List Int} {R : List (Int × Option Int)} {k : Nat} (h : IsBr b ga ro fa R) (hk : k = R.length) : brkI b f ga ro pi t R k = brkN b f ga ro pi fa t := by
  subst hk
  unfold brkI brkN
  rw [List.take_length]
  refine num_congr fun n h0 _ => ?_
  have e : inRb R n = brB b ga ro fa n := by rw [Bool.eq_iff_iff, inRb_iff, h.2 n h0]
  rw [e]
/-- kept: by the scheme, less the missing ones, and the pinned members -/
theorem kept_parts {b f t n : Int} {ga ro pi P : List Int} (hb : 2 ≤ b) (hg0 : (0 : Int) ∉ ga) (hp : ∀ p ∈ pi, 0 ≤ p) (hP : IsPins b f ga ro pi t P) (hn : 0 ≤ n) (ht : n ≤ t) : (if keptA b f ga ro pi n t then (1 : Int) else 0) = (if keptB b f n t then 1 else 0) - (if decide (n ∈ ga) && keptB b f n t then 1 else 0) + (if decide (n ∈ P) && true then 1 else 0) := by
  have hm := hP.2 n
  have hk := keptA_iff (b := b) (f := f) (n := n) (t := t) (ga := ga) (ro := ro) (pi := pi)
  by_cases g1 : n ∈ ga
  · have e1 : keptA b f ga ro pi n t = false := by
      rw [Bool.eq_false_iff]
      intro q
      exact (hk.mp q).1 g1
    have e2 : n ∉ P := fun q => by
      obtain ⟨p, h1, h2, h3, h4⟩ := hm.mp q
      exact (chA_sub h3).2 g1
    simp [e1, e2, g1]
  · by_cases g2 : keptB b f n t = true
    · have e1 : keptA b f ga ro pi n t = true := hk.mpr ⟨g1, ht, .inl g2⟩
      have e2 : n ∉ P := fun q => by
        obtain ⟨p, h1, h2, h3, h4⟩ := hm.mp q
        exact h4 g2
      simp [e1, e2, g1, g2]
    · by_cases g3 : n ∈ P
      · obtain ⟨p, h1, h2, h3, h4⟩ := hm.mp g3
        have e1 : keptA b f ga ro pi n t = true := hk.mpr ⟨g1, ht, .inr ⟨p, h1, (chA_le hb (hp p h1) h3).2, h2, h3⟩⟩
        simp [e1, g1, g2, g3]
      · have e1 : keptA b f ga ro pi n t = false := by
          rw [Bool.eq_false_iff]
          intro q
          rcases (hk.mp q).2.2 with z | ⟨p, h1, h2, h3, h4⟩
          · exact g2 z
          · exact g3 (hm.mpr ⟨p, h1, h3, h4, g2⟩)
        simp [e1, g1, g2, g3]
theorem num_parts {b f t lo hi : Int} {ga ro pi P : List Int} (hb : 2 ≤ b) (hga : ga.Pairwise (· < ·)) (hg0 : (0 : Int) ∉ ga) (hp : ∀ p ∈ pi, 0 ≤ p) (hP : IsPins b f ga ro pi t P) (h0 : 0 ≤ lo) (h1 : hi ≤ t + 1) :
    numF (fun n => keptA b f ga ro pi n t) lo hi = numF (fun m => keptB b f m t) lo hi - ((ga.filter (fun x => decide (lo ≤ x) && decide (x < hi) && keptB b f x t)).length : Int) + ((P.filter (fun x => decide (lo ≤ x) && decide (x < hi))).length : Int) := by
  have e1 := num_list (Q := fun x => keptB b f x t) (lo := lo) (hi := hi) ga hga
  have e2 := num_list (Q := fun _ => true) (lo := lo) (hi := hi) P hP.1
  simp only [Bool.and_true] at e2
  rw [e1, e2]
  have e3 : numF (fun n => keptA b f ga ro pi n t) lo hi + numF (fun n => decide (n ∈ ga) && keptB b f n t) lo hi = numF (fun m => keptB b f m t) lo hi + numF (fun n => decide (n ∈ P)) lo hi := by
    unfold numF
    rw [← sumN_add, ← sumN_add]
    refine sumN_congr fun i hi2 => ?_
    have := kept_parts (n := lo + i) hb hg0 hp hP (by omega) (by omega)
    rw [Bool.and_true] at this
    show (if keptA b f ga ro pi (lo + i) t = true then (1 : Int) else 0) + (if (decide (lo + (i : Int) ∈ ga) && keptB b f (lo + i) t) = true then (1 : Int) else 0) = (if keptB b f (lo + i) t = true then (1 : Int) else 0) + (if decide (lo + (i : Int) ∈ P) = true then (1 : Int) else 0)
    omega
  omega
/-- a further range -/
theorem brk_step {b f t x : Int} {ga ro pi : List Int} {o : Option Int} {R : List (Int × Option Int)} {i : Nat} (ht : 0 ≤ t) (hx : R[i]? = some (x, o)) (hR : Apart R) (h0 : 0 ≤ x) :
    brkI b f ga ro pi t R (i + 1) = brkI b f ga ro pi t R i + (if x < endR o t then numF (fun n => keptA b f ga ro pi n t) x (endR o t) else 0) := by
  have hin : ∀ n, n < t + 1 → inRb (R.take (i + 1)) n = (inRb (R.take i) n || (decide (x ≤ n) && decide (n < endR o t))) := fun n hn => by
    unfold inRb
    rw [List.take_succ, hx, List.any_append]
    congr 1
    unfold endR
    cases o with
    | none => simp [hn]
    | some a =>
      simp
      rw [Bool.eq_iff_iff]
      simp only [Bool.and_eq_true, decide_eq_true_eq]
      omega
  have hdis : ∀ n, x ≤ n → inRb (R.take i) n = false := fun n hn => by
    rw [Bool.eq_false_iff, ne_eq, inRb_iff]
    rintro ⟨r, h1, h2, h3⟩
    obtain ⟨j, hj, ej⟩ := List.mem_iff_getElem.mp h1
    rw [List.length_take] at hj
    rw [List.getElem_take] at ej
    obtain ⟨hi1, ei⟩ := List.getElem?_eq_some_iff.mp hx
    obtain ⟨a, ea, hlt⟩ := List.pairwise_iff_getElem.mp hR.1 j i (by omega) hi1 (by omega)
    rw [ej] at ea
    rw [ei] at hlt
    have hlt : a < x := hlt
    have := h3 a ea
    omega
  have key : brkI b f ga ro pi t R (i + 1) = brkI b f ga ro pi t R i + numF (fun n => decide (x ≤ n) && decide (n < endR o t) && keptA b f ga ro pi n t) 0 (t + 1) := by
    refine num_add fun n hn1 hn2 => ?_
    rw [hin n hn2]
    by_cases q : x ≤ n
    · rw [hdis n q, Bool.false_or]
      simp
    · rw [decide_eq_false q]
      simp
  rw [key]
  congr 1
  by_cases q : x < endR o t
  · rw [if_pos q]
    refine num_part h0 (by omega) ?_
    unfold endR
    cases o <;> simp <;> omega
  · rw [if_neg q]
    refine num_none fun n _ _ => ?_
    by_cases z : x ≤ n
    · rw [decide_eq_false (show ¬ n < endR o t by omega)]
      simp
    · rw [decide_eq_false z]
      simp
theorem brk_yes {b f t x e tot : Int} {ga ro pi fa P : List Int} {o : Option Int} {R : List (Int × Option Int)} {i : Nat} (hb : 2 ≤ b) (hga : ga.Pairwise (· < ·)) (hg0 : (0 : Int) ∉ ga) (hp : ∀ p ∈ pi, 0 ≤ p) (hP : IsPins b f ga ro pi t P) (ht : 0 ≤ t) (hx : R[i]? = some (x, o)) (hR : Apart R) (h0 : 0 ≤ x) (he : e = endR o t) (hlt : x < e) (h : tot = brkI b f ga ro pi t R i) :
    tot + numF (fun m => keptB b f m t) x e - ((ga.filter (fun y => decide (x ≤ y) && decide (y < e) && keptB b f y t)).length : Int) + ((P.filter (fun y => decide (x ≤ y) && decide (y < e))).length : Int) = brkI b f ga ro pi t R (i + 1) := by
  rw [brk_step ht hx hR h0, ← he, if_pos hlt, num_parts hb hga hg0 hp hP h0 (by rw [he]; unfold endR; cases o <;> simp <;> omega), h]
  omega
theorem brk_no {b f t x e tot : Int} {ga ro pi : List Int} {o : Option Int} {R : List (Int × Option Int)} {i : Nat} (ht : 0 ≤ t) (hx : R[i]? = some (x, o)) (hR : Apart R) (h0 : 0 ≤ x) (he : e = endR o t) (hlt : ¬ x < e) (h : tot = brkI b f ga ro pi t R i) : tot = brkI b f ga ro pi t R (i + 1) := by
  rw [brk_step ht hx hR h0, ← he, if_neg hlt, h]
  omega
theorem liv_zero {b f t fi af : Int} (h : 0 < af) : (if (decide (fi ≤ 0) && decide (0 < af)) = true then (1 : Int) else 0) = livS b f t fi af 0 := by
  unfold livS
  rw [decide_eq_true h, Bool.and_true, sumN]
  simp
/-! ### what the laws ask of ranges -/
def inR1 (r : Int × Option Int) (n : Int) : Bool := decide (r.1 ≤ n) && (match r.2 with
  | some a => decide (n < a)
  | none => true)
theorem ins_eq {R : List (Int × Option Int)} {n : Int} : (!decide ((R.filter (fun r => inR1 r n)).map (fun _ => (1 : Int)) = [])) = inRb R n := by
  have e : inRb R n = R.any (fun r => inR1 r n) := rfl
  rw [e, Bool.eq_iff_iff, List.any_eq_true]
  simp only [Bool.not_eq_true', decide_eq_false_iff_not, List.map_eq_nil_iff, List.filter_eq_nil_iff]
  constructor
  · intro q
    apply Classical.byContradiction
    intro q2
    exact q fun x hx hh => q2 ⟨x, hx, hh⟩
  · rintro ⟨x, hx, hh⟩ q
    exact q x hx hh
theorem apart_none {R : List (Int × Option Int)} {i : Nat} {x : Int} (h : Apart R) (hx : R[i]? = some (x, none)) : i + 1 = R.length := by
  obtain ⟨h1, e1⟩ := List.getElem?_eq_some_iff.mp hx
  apply Classical.byContradiction
  intro q
  obtain ⟨a, ea, _⟩ := List.pairwise_iff_getElem.mp h.1 i (i + 1) h1 (by omega) (by omega)
  rw [e1] at ea
  cases ea
theorem apart_some {R : List (Int × Option Int)} {i : Nat} {x a : Int} (h : Apart R) (hx : R[i]? = some (x, some a)) : x < a ∧ ∀ hj : i + 1 < R.length, a < (R[i + 1]'hj).1 := by
  obtain ⟨h1, e1⟩ := List.getElem?_eq_some_iff.mp hx
  refine ⟨h.2 (x, some a) (List.mem_of_getElem? hx) a rfl, fun hj => ?_⟩
  obtain ⟨a2, ea, hlt⟩ := List.pairwise_iff_getElem.mp h.1 i (i + 1) h1 hj (by omega)
  rw [e1] at ea
  have := Option.some.inj ea
  omega
theorem enum_itemG {α : Type} {ns : List α} {i : Nat} {x : α × Nat} (hx : ns.zipIdx[i]? = some x) : ∃ y, x = (y, i) ∧ ns[i]? = some y := by
  rw [List.getElem?_zipIdx] at hx
  cases hq : ns[i]? with
  | none => rw [hq] at hx; cases hx
  | some y =>
    rw [hq] at hx
    have hx : (y, 0 + i) = x := Option.some.inj hx
    exact ⟨y, by rw [← hx, Nat.zero_add], rfl⟩
theorem pow_le_pow_base {b : Int} (hb : 2 ≤ b) : ∀ k : Nat, (2 : Int) ^ k ≤ b ^ k
  | 0 => by rw [Int.pow_zero, Int.pow_zero]; omega
  | k + 1 => by
    have ih := pow_le_pow_base hb k
    have h1 := pow_pos hb k
    rw [Int.pow_succ, Int.pow_succ]
    have h2 : b ^ k * 2 ≤ b ^ k * b := Int.mul_le_mul_of_nonneg_left hb (by omega)
    omega
theorem far_par {b : Int} {k : Nat} (hb : 2 ≤ b) : parF b (b ^ k) = 0 := by
  have h1 := pow_pos hb k
  have hbk : b ^ k * 2 ≤ b ^ k * b := Int.mul_le_mul_of_nonneg_left hb (by omega)
  have hu : b ^ k = unitF b (b ^ k) := IsUnit.eq hb (by omega) ⟨⟨k, rfl⟩, Int.dvd_refl _, fun q => by
    have := Int.le_of_dvd (by omega) q
    omega⟩
  unfold parF
  rw [← hu, Int.ediv_eq_zero_of_lt (by omega) (by omega), Int.zero_mul]
/-- far out only 0 decides -/
theorem far_br {b : Int} {ga ro fa : List Int} {k : Nat} (hb : 2 ≤ b) (hg : ∀ x ∈ ga, x ≤ 10 ^ 50) (hr : ∀ x ∈ ro, x ≤ 10 ^ 50) (hf : ∀ x ∈ fa, x ≤ 10 ^ 50) (hk : 10 ^ 52 < b ^ k) (h0 : (0 : Int) ∉ ga) : brB b ga ro fa (b ^ k) = decide ((0 : Int) ∈ fa) := by
  have hpos : 1 ≤ b ^ k := pow_pos hb k
  have n1 : b ^ k ∉ ga := fun q => by have := hg _ q; omega
  have n2 : b ^ k ∉ ro := fun q => by have := hr _ q; omega
  have n3 : b ^ k ∉ fa := fun q => by have := hf _ q; omega
  have hp : parF b (b ^ k) = 0 := far_par hb
  unfold brB chA
  rw [chainF_pos hb (by omega), hp, chainF_zero, cutL, if_neg n1, if_neg n2, cutL, if_neg h0]
  by_cases z : (0 : Int) ∈ ro
  · rw [if_pos z]
    simp [n3]
  · rw [if_neg z, cutL]
    simp [n3]
theorem end_iff {b : Int} {ga ro pi fa : List Int} {R : List (Int × Option Int)} (hb : 2 ≤ b) (hok : ArcOk ga ro pi fa) (hR : IsBr b ga ro fa R) (hB : BrBd R) : (∃ r ∈ R, r.2 = none) ↔ (0 : Int) ∈ fa := by
  obtain ⟨k, hk⟩ : ∃ k : Nat, (10 : Int) ^ 52 < b ^ k := ⟨200, by
    have h1 : (2 : Int) ^ 200 ≤ b ^ 200 := pow_le_pow_base hb 200
    have h2 : (10 : Int) ^ 52 < 2 ^ 200 := by decide
    omega⟩
  have hfar := far_br (fa := fa) hb (fun x h => (hok.1.2.1 x h).2.2) (fun x h => (hok.2.1.2.1 x h).2.2) (fun x h => (hok.2.2.2.2.1 x h).2.2) hk hok.zero
  have h1 := hR.2 (b ^ k) (by have := pow_pos hb k; omega)
  rw [hfar, decide_eq_true_eq] at h1
  rw [← h1]
  constructor
  · rintro ⟨r, hr, hn⟩
    exact ⟨r, hr, by have := hB r hr; omega, fun a ha => by rw [hn] at ha; cases ha⟩
  · rintro ⟨⟨x, o⟩, hr, h2, h3⟩
    refine ⟨_, hr, ?_⟩
    cases o with
    | none => rfl
    | some a =>
      have := (hB _ hr).2.2 a rfl
      have := h3 a rfl
      omega
theorem end_nil {b : Int} {ga ro pi fa : List Int} (hb : 2 ≤ b) (hok : ArcOk ga ro pi fa) (hR : IsBr b ga ro fa []) (hB : BrBd []) : (0 : Int) ∉ fa := fun q => by
  obtain ⟨r, hr, _⟩ := (end_iff hb hok hR hB).mpr q
  cases hr
theorem end_none {b x : Int} {ga ro pi fa : List Int} {R0 : List (Int × Option Int)} (hb : 2 ≤ b) (hok : ArcOk ga ro pi fa) (hR : IsBr b ga ro fa (R0 ++ [(x, none)])) (hB : BrBd (R0 ++ [(x, none)])) : (0 : Int) ∈ fa :=
  (end_iff hb hok hR hB).mp ⟨(x, none), by simp, rfl⟩
theorem end_some {b x a : Int} {ga ro pi fa : List Int} {R0 : List (Int × Option Int)} (hb : 2 ≤ b) (hok : ArcOk ga ro pi fa) (hR : IsBr b ga ro fa (R0 ++ [(x, some a)])) (hB : BrBd (R0 ++ [(x, some a)])) : (0 : Int) ∉ fa := fun q => by
  obtain ⟨r, hr, hn⟩ := (end_iff hb hok hR hB).mpr q
  rcases List.mem_append.mp hr with m | m
  · obtain ⟨a1, e1, _⟩ := (List.pairwise_append.mp hR.1.1).2.2 r m (x, some a) (by simp)
    rw [hn] at e1
    cases e1
  · obtain rfl : r = (x, some a) := by simpa using m
    cases hn
theorem last_ways (R : List (Int × Option Int)) : R = [] ∨ (∃ R0 x, R = R0 ++ [(x, none)]) ∨ ∃ R0 x a, R = R0 ++ [(x, some a)] := by
  rcases List.eq_nil_or_concat R with q | ⟨R0, ⟨x, o⟩, q⟩
  · exact .inl q
  · rw [List.concat_eq_append] at q
    cases o with
    | none => exact .inr (.inl ⟨R0, x, q⟩)
    | some a => exact .inr (.inr ⟨R0, x, a, q⟩)
theorem k27_same {b : Int} {ga ro fa : List Int} {R : List (Int × Option Int)} {n : Nat} (hR : IsBr b ga ro fa R) : ((Kr.rngI 0 n).filter (fun m => !decide (m ∈ ga))).filter (fun m => inRb R m) = ((Kr.rngI 0 n).filter (fun m => !decide (m ∈ ga))).filter (fun m => brB b ga ro fa m) := by
  refine List.filter_congr fun m hm => ?_
  have h0 : 0 ≤ m := by
    have := (Kr.mem_rngI.mp (List.mem_filter.mp hm).1).1
    omega
  rw [Bool.eq_iff_iff, inRb_iff, hR.2 m h0]
theorem k27_due {b f t : Int} {ga ro pi fa : List Int} {n : Nat} (ht : 0 ≤ t) (hn : t < (n : Int)) : (((((Kr.rngI 0 n).filter (fun m => !decide (m ∈ ga))).filter (fun m => brB b ga ro fa m)).filter (fun m => keptA b f ga ro pi m t)).length : Int) = brkN b f ga ro pi fa t := by
  rw [List.filter_filter, List.filter_filter]
  have e := num_list (Q := fun m => brB b ga ro fa m && keptA b f ga ro pi m t) (lo := 0) (hi := t + 1) (Kr.rngI 0 n) (rng_sorted 0 n)
  have e2 : numF (fun m => decide (m ∈ Kr.rngI 0 n) && (brB b ga ro fa m && keptA b f ga ro pi m t)) 0 (t + 1) = brkN b f ga ro pi fa t := by
    unfold brkN
    refine num_congr fun m h1 h2 => ?_
    rw [decide_eq_true (Kr.mem_rngI.mpr ⟨by omega, by omega⟩), Bool.true_and]
  rw [← e2, ← e]
  congr 2
  refine List.filter_congr fun m hm => ?_
  have hm := Kr.mem_rngI.mp hm
  rw [Bool.eq_iff_iff]
  simp only [Bool.and_eq_true, decide_eq_true_eq, Bool.not_eq_true', decide_eq_false_iff_not]
  constructor
  · rintro ⟨⟨h1, h2⟩, h3⟩
    have := keptA_iff.mp h1
    exact ⟨⟨by omega, by omega⟩, h2, h1⟩
  · rintro ⟨_, h2, h1⟩
    exact ⟨⟨h1, h2⟩, (keptA_iff.mp h1).1⟩
end Ma

set_option Elab.async false
set_option linter.all false
set_option maxRecDepth 100000
/-! ### choosing schemes -/
namespace Ma
open Kr L2
open Classical in
noncomputable def theC (P : Int → Prop) : Int := if h : ∃ n, P n then Classical.choose h else 0
theorem theC_eq {P : Int → Prop} {n : Int} (h : P n) (u : ∀ m, P m → m = n) : theC P = n := by
  have hex : ∃ n, P n := ⟨n, h⟩
  unfold theC
  rw [dif_pos hex]
  exact u _ (Classical.choose_spec hex)
noncomputable def facF (b age loss : Int) : Int := theC fun F => IsFac b age loss F
theorem facF_eq {b age loss F : Int} (hb : 2 ≤ b) (h : IsFac b age loss F) : facF b age loss = F := theC_eq h fun m hm => fac_uniq hb hm h
theorem fac_ex {b age loss : Int} (hb : 2 ≤ b) (hl : 0 ≤ loss) : ∃ F, IsFac b age loss F := by
  by_cases h : age ≤ 1
  · exact ⟨1, .inl ⟨h, rfl⟩⟩
  · obtain ⟨u, hu⟩ := top_ex hb (loss + 1).toNat (loss + 1) (by omega) (Nat.le_refl _)
    have h1 := hu.1.pos hb
    exact ⟨_, .inr ⟨by omega, u, hu, ceil_ok (a := age - 1) h1 (by omega)⟩⟩
theorem facF_is {b age loss : Int} (hb : 2 ≤ b) (hl : 0 ≤ loss) : IsFac b age loss (facF b age loss) := by
  obtain ⟨F, hF⟩ := fac_ex (age := age) hb hl
  rw [facF_eq hb hF]
  exact hF
theorem fac_small {b age loss F : Int} (hb : 2 ≤ b) (ha : 0 ≤ age) (hF : IsFac b age loss F) : F ≤ age + 1 := by
  rcases hF with ⟨h1, e⟩ | ⟨h1, u, hu, h2, h3, h4⟩
  · omega
  · have hu1 := hu.1.pos hb
    have : (F - 2) * 1 ≤ (F - 2) * u := Int.mul_le_mul_of_nonneg_left hu1 (by omega)
    omega
noncomputable def sclL (ns : List Int) (age loss : Int) : List (Int × Int) := (ns.map fun b => (b, facF b age loss)).filter fun p => decide (p.2 ≤ 1000000)
def BasOk (ns : List Int) : Prop := 1 ≤ ns.length ∧ ns.length ≤ 50 ∧ (∀ n ∈ ns, 2 ≤ n ∧ n ≤ 1000) ∧ ns.Pairwise (· < ·)
theorem scl_ok {ns : List Int} {age loss : Int} {p : Int × Int} (h : BasOk ns) (hl : 0 ≤ loss) (hp : p ∈ sclL ns age loss) : 2 ≤ p.1 ∧ p.1 ≤ 1000 ∧ 1 ≤ p.2 ∧ p.2 ≤ 1000000 ∧ p.1 ∈ ns := by
  unfold sclL at hp
  obtain ⟨h1, h2⟩ := List.mem_filter.mp hp
  obtain ⟨b, hb, rfl⟩ := List.mem_map.mp h1
  have hb2 := h.2.2.1 b hb
  have h3 := (fac_pos (facF_is (age := age) hb2.1 hl)).1
  exact ⟨hb2.1, hb2.2, h3, of_decide_eq_true h2, hb⟩
theorem scl_len {ns : List Int} {age loss : Int} : (sclL ns age loss).length ≤ ns.length := by
  unfold sclL
  have := List.length_filter_le (fun p : Int × Int => decide (p.2 ≤ 1000000)) (ns.map fun b => (b, facF b age loss))
  rw [List.length_map] at this
  exact this
theorem scl_all {ns : List Int} {age loss : Int} (h : BasOk ns) (ha : 0 ≤ age ∧ age ≤ 900000) (hl : 0 ≤ loss) : sclL ns age loss = ns.map fun b => (b, facF b age loss) := by
  unfold sclL
  rw [List.filter_eq_self]
  intro p hp
  obtain ⟨b, hb, rfl⟩ := List.mem_map.mp hp
  have hb2 := h.2.2.1 b hb
  have := fac_small hb2.1 ha.1 (facF_is (age := age) hb2.1 hl)
  exact decide_eq_true (by show facF b age loss ≤ 1000000; omega)
theorem scl_ne {ns : List Int} {age loss : Int} (h : BasOk ns) (ha : 0 ≤ age ∧ age ≤ 900000) (hl : 0 ≤ loss) : sclL ns age loss ≠ [] := fun e => by
  rw [scl_all h ha hl] at e
  have := List.map_eq_nil_iff.mp e
  have h1 := h.1
  rw [this] at h1
  simp at h1
theorem bas_between {ns : List Int} (h : BasOk ns) : ((ns.map fun b => decide (2 ≤ b) && decide (b ≤ 1000))).all id = true := by
  rw [List.all_eq_true]
  intro x hx
  obtain ⟨b, hb, rfl⟩ := List.mem_map.mp hx
  have := h.2.2.1 b hb
  simp [this]
theorem getD_lt {ns : List Int} {q : Nat} (hq : q < ns.length) : ns.getD q 0 = ns[q] := by simp [List.getD, List.getElem?_eq_getElem hq]
def gI (ns : List Int) (i : Int) : Int := ns.getD i.toNat 0
theorem gI_at {ns : List Int} {i : Int} (h0 : 0 ≤ i) (h1 : i < ns.length) : atI (ns.map V.int) i = some (.int (gI ns i)) := by
  have hk : i.toNat < ns.length := by omega
  unfold atI ixN gI
  rw [if_pos h0, if_pos (by rw [List.length_map]; exact h1)]
  show (ns.map V.int)[i.toNat]? = _
  rw [List.getElem?_map, List.getElem?_eq_getElem hk, getD_lt hk]
  rfl
theorem bas_asc {ns : List Int} (h : BasOk ns) (k : Nat) (hk : (k : Int) ≤ ns.length - 1) : (((rngI 0 k).map fun i => decide (gI ns i < gI ns (i + 1)))).all id = true := by
  rw [List.all_eq_true]
  intro x hx
  obtain ⟨i, hi, rfl⟩ := List.mem_map.mp hx
  unfold rngI at hi
  obtain ⟨j, hj, rfl⟩ := List.mem_map.mp hi
  have hj := List.mem_range.mp hj
  have e : (0 + (j : Int)).toNat = j := by omega
  have e2 : (0 + (j : Int) + 1).toNat = j + 1 := by omega
  unfold gI
  rw [e, e2, getD_lt (show j < ns.length by omega), getD_lt (show j + 1 < ns.length by omega)]
  exact decide_eq_true (List.pairwise_iff_getElem.mp h.2.2.2 j (j + 1) (by omega) (by omega) (by omega))
/-- the row of a scheme -/
def sclR (t : Int) (p : Int × Int) : Int × Int × Int := (cntF p.1 p.2 t (t + 1), p.1, p.2)
end Ma
namespace Ma
open Kr L2
theorem scl_app {xs : List (Int × Int)} {i : Nat} {t b f : Int} (h : xs[i]? = some (b, f)) : ((xs.take i).map (sclR t)).map row3 ++ [[V.int (cntF b f t (t + 1)), V.int b, V.int f]] = ((xs.take (i + 1)).map (sclR t)).map row3 := by
  rw [List.take_add_one, h, List.map_append, List.map_append]
  rfl
end Ma

set_option Elab.async false
set_option linter.all false
set_option maxRecDepth 100000
namespace Ma
theorem num_cnt {b f t n : Int} : numF (fun m => keptB b f m t) 0 n = cntF b f t n := by
  unfold numF cntF
  rw [Int.sub_zero]
  congr 1
  funext i
  rw [Int.zero_add]
open Kr L2
/-- the factor, if there is one -/
noncomputable def facO (b age loss : Int) : Option Int := if facF b age loss ≤ 1000000 then some (facF b age loss) else none
theorem facO_of {b age loss : Int} {v : V} (hb : 2 ≤ b) (h : IsOpt (∃ F, IsFac b age loss F ∧ 1000000 < F) (fun n => IsFac b age loss n ∧ n ≤ 1000000) v) : [V.int b, v] = rowO (b, facO b age loss) := by
  unfold facO rowO
  rcases h with ⟨rfl, F, h1, h2⟩ | ⟨n, rfl, h1, h2⟩
  · rw [facF_eq hb h1, if_neg (by omega)]
  · rw [facF_eq hb h1, if_pos h2]
theorem scl_every {ns : List Int} {age loss : Int} : ((((ns.filter (fun _ => true)).map fun b => (b, facO b age loss)).filter (fun p => p.2.isSome)).map fun p => (p.1, p.2.getD 0)) = sclL ns age loss := by
  rw [List.filter_eq_self.mpr (fun _ _ => rfl)]
  unfold sclL
  induction ns with
  | nil => rfl
  | cons b r ih =>
    rw [List.map_cons, List.map_cons, List.filter_cons, List.filter_cons]
    unfold facO at *
    by_cases h : facF b age loss ≤ 1000000
    · rw [if_pos h]
      simp only [Option.isSome_some, if_true, List.map_cons, decide_eq_true h]
      rw [ih]
      rfl
    · rw [if_neg h]
      simp only [Option.isSome_none, decide_eq_false h]
      exact ih
theorem scl_due {ns : List Int} {age loss : Int} (h : BasOk ns) (ha : 0 ≤ age ∧ age ≤ 900000) (hl : 0 ≤ loss) :
    ((((ns.filter (fun _ => true)).map fun b => (b, facF b age loss)).filter (fun _ => true)).map fun p => p) = sclL ns age loss := by
  rw [List.filter_eq_self.mpr (fun _ _ => rfl), List.filter_eq_self.mpr (fun _ _ => rfl), List.map_id', scl_all h ha hl]
theorem fac_huge {b age loss F : Int} (hb : 2 ≤ b) (ha : 10000000000 ≤ age) (hl : 0 ≤ loss ∧ loss ≤ 1000) (h : IsFac b age loss F) : 1000000 < F := by
  rcases h with ⟨h1, _⟩ | ⟨h1, u, hu, h2, h3, h4⟩
  · omega
  · have hu1 := hu.2.1
    have : (F - 1) * u ≤ (F - 1) * 1001 := Int.mul_le_mul_of_nonneg_left (by omega) (by omega)
    omega
theorem scl_huge {ns : List Int} {age loss : Int} (hb : ∀ n ∈ ns, 2 ≤ n) (ha : 10000000000 ≤ age) (hl : 0 ≤ loss ∧ loss ≤ 1000) : sclL ns age loss = [] := by
  unfold sclL
  rw [List.filter_eq_nil_iff]
  intro p hp
  obtain ⟨b, hb2, rfl⟩ := List.mem_map.mp hp
  have := fac_huge (hb b hb2) ha hl (facF_is (age := age) (hb b hb2) hl.1)
  simp
  exact this
theorem bas_sorted {ns : List Int} (h1 : 1 ≤ ns.length) (h2 : ns.length ≤ 50) (hs : ns.Pairwise (· < ·)) (hm : ∀ n ∈ ns, 2 ≤ n ∧ n ≤ 1000) : BasOk ns := ⟨h1, h2, hm, hs⟩
theorem scl_fac {ns : List Int} {age loss : Int} (h : BasOk ns) (ha : 0 ≤ age ∧ age ≤ 900000) (hl : 0 ≤ loss) : ((ns.filter (fun _ => true)).map fun b => (b, facF b age loss)) = sclL ns age loss := by
  rw [List.filter_eq_self.mpr (fun _ _ => rfl), scl_all h ha hl]
theorem filt_true {α : Type} (xs : List α) : xs.filter (fun _ => true) = xs := List.filter_eq_self.mpr (fun _ _ => rfl)
theorem cnt_walk {b f t : Int} (ht : 0 ≤ t) : 1 + (((rngI 1 (t + 1 - 1).toNat).filter (fun n => decide (t ≤ n + f * unitF b n))).length : Int) = cntF b f t (t + 1) := by
  rw [← keptL_len ht]
  unfold keptL
  have e : (t + 1).toNat = 1 + t.toNat := by omega
  rw [e, Int.add_sub_cancel]
  have h := rng_split 1 t.toNat
  rw [h, List.filter_append, List.length_append]
  have h0 : ((rngI 0 1).filter fun m => keptB b f m t).length = 1 := by
    show (([0] : List Int).filter fun m => keptB b f m t).length = 1
    rw [List.filter_cons_of_pos (p := fun m => keptB b f m t) (keptB_zero ht)]
    rfl
  rw [h0]
  have h1 : (rngI 1 t.toNat).filter (fun n => decide (t ≤ n + f * unitF b n)) = (rngI ((1 : Nat) : Int) t.toNat).filter (fun m => keptB b f m t) := by
    refine List.filter_congr fun n hn => ?_
    have hn : n ∈ rngI 1 t.toNat := hn
    unfold rngI at hn
    obtain ⟨j, hj, rfl⟩ := List.mem_map.mp hn
    have := List.mem_range.mp hj
    rw [keptB_pos (by omega) (by omega)]
  rw [h1]
  omega
end Ma
namespace Ma
open Kr L2
theorem bas23 : BasOk [2, 3] := ⟨by decide, by decide, by decide, by decide⟩
theorem facO_mem {ns : List Int} {age loss b : Int} {o : Option Int} (h : BasOk ns) (hl : 0 ≤ loss) (hx : (b, o) ∈ (ns.filter (fun _ => true)).map fun b => (b, facO b age loss)) : (2 ≤ b ∧ b ≤ 1000) ∧ ∀ f, o = some f → 1 ≤ f ∧ f ≤ 1000000 := by
  obtain ⟨n, hn, e⟩ := List.mem_map.mp hx
  injection e with e1 e2
  subst e1
  have hn := h.2.2.1 n (List.mem_filter.mp hn).1
  refine ⟨hn, fun f hf => ?_⟩
  rw [hf] at e2
  unfold facO at e2
  split at e2
  · have e3 := Option.some.inj e2
    have := (fac_pos (facF_is (age := age) hn.1 hl)).1
    omega
  · cases e2
end Ma
namespace Ma
theorem scl_enough {ns : List Int} {age loss b f F : Int} (hx : (b, f) ∈ sclL ns age loss) (hb : 2 ≤ b) (hF : IsFac b age loss F) : F ≤ f := by
  unfold sclL at hx
  obtain ⟨n, hn, e⟩ := List.mem_map.mp (List.mem_filter.mp hx).1
  injection e with e1 e2
  subst e1
  rw [← e2, facF_eq hb hF]
  exact Int.le_refl _
end Ma

set_option Elab.async false
set_option linter.all false
set_option maxRecDepth 100000
set_option maxHeartbeats 4000000
namespace Sn
open PySem L2 Kr
def topS (i : Nat) : Stmt := PySem.Challenge.pw_snapdigits_k69_schemes_with_the_fewest_k.main.body.getD i (.Pass ⟨0, 0, 0, 0⟩)
abbrev s__law_source_of : Stmt := topS 29
abbrev s__law_next : Stmt := topS 30
abbrev s_is_integer : Stmt := topS 8
abbrev s_is_between : Stmt := topS 9
abbrev s_check_bases : Stmt := topS 22
abbrev s_check_limits : Stmt := topS 21
abbrev s_Scheme_init : Stmt := inClass (topS 18) 0
abbrev s_factor_for : Stmt := topS 23
abbrev s_schemes_for : Stmt := topS 26
abbrev s__law_cell_at : Stmt := topS 32
abbrev s__law_one : Stmt := topS 31
abbrev s_check_time : Stmt := topS 11
abbrev s_multiples : Stmt := topS 13
abbrev s_Scheme_base : Stmt := inClass (topS 18) 2
abbrev s_Scheme_factor : Stmt := inClass (topS 18) 3
abbrev s_count_living : Stmt := topS 14
abbrev s_fewest_kept : Stmt := topS 27
abbrev s_least_factor : Stmt := topS 24
abbrev s__law_unit : Stmt := topS 33
abbrev s__law_count : Stmt := topS 34
abbrev s_is_enough : Stmt := topS 25
abbrev s_Scheme_eq : Stmt := inClass (topS 18) 1
abbrev s_law : Stmt := topS 35
structure Top (K : PySem.W.Frag) (mg : Str → Option Value) (CS : Addr) : Prop where
  b_all : mg "all" = none
  b_bool : mg "bool" = none
  b_int : mg "int" = none
  b_isinstance : mg "isinstance" = none
  b_len : mg "len" = none
  b_list : mg "list" = none
  b_max : mg "max" = none
  b_min : mg "min" = none
  b_range : mg "range" = none
  b_set : mg "set" = none
  b_sorted : mg "sorted" = none
  c_MOST_BASE : ∃ t, mg "MOST_BASE" = some (.int 1000 t)
  c_MOST_BASES : ∃ t, mg "MOST_BASES" = some (.int 50 t)
  c_MOST_FACTOR : ∃ t, mg "MOST_FACTOR" = some (.int 1000000 t)
  cl_Scheme : Cls K CS
  n_Scheme_radix : NoAttr K CS "radix"
  n_Scheme_multiple : NoAttr K CS "multiple"
  ne_Scheme : NeC K CS
  m_Scheme : mg "Scheme" = some (.ref CS)
  is_Scheme : C8.InsC K CS
  f__law_source_of : TopFn K mg "_law_source_of" s__law_source_of
  f__law_next : TopFn K mg "_law_next" s__law_next
  f_is_integer : TopFn K mg "is_integer" s_is_integer
  f_is_between : TopFn K mg "is_between" s_is_between
  f_check_bases : TopFn K mg "check_bases" s_check_bases
  f_check_limits : TopFn K mg "check_limits" s_check_limits
  f_Scheme_init : InitFn K mg "Scheme" CS "Scheme.__init__" s_Scheme_init
  f_factor_for : TopFn K mg "factor_for" s_factor_for
  f_schemes_for : TopFn K mg "schemes_for" s_schemes_for
  f__law_cell_at : TopFn K mg "_law_cell_at" s__law_cell_at
  f__law_one : TopFn K mg "_law_one" s__law_one
  f_check_time : TopFn K mg "check_time" s_check_time
  f_multiples : TopFn K mg "multiples" s_multiples
  f_Scheme_base : MethFn K CS "base" "Scheme.base" s_Scheme_base
  f_Scheme_factor : MethFn K CS "factor" "Scheme.factor" s_Scheme_factor
  f_count_living : TopFn K mg "count_living" s_count_living
  f_fewest_kept : TopFn K mg "fewest_kept" s_fewest_kept
  f_least_factor : TopFn K mg "least_factor" s_least_factor
  f__law_unit : TopFn K mg "_law_unit" s__law_unit
  f__law_count : TopFn K mg "_law_count" s__law_count
  f_is_enough : TopFn K mg "is_enough" s_is_enough
  f_Scheme_eq : MethFn K CS "__eq__" "Scheme.__eq__" s_Scheme_eq
  f_law : TopFn K mg "law" s_law

/-! ### sizes -/
theorem log2_big {x : Int} (h1 : -(10 ^ 200) ≤ x) (h2 : x ≤ 10 ^ 200) : x.natAbs < 2 ^ 700 := by
  have h : (10 ^ 200 : Nat) < 2 ^ 700 := by decide +kernel
  have e : ((10 ^ 200 : Nat) : Int) = 10 ^ 200 := by norm_cast
  exact Nat.lt_of_le_of_lt (by omega) h
theorem mulOk {i j : Int} (h1 : -(10 ^ 200) ≤ i ∧ i ≤ 10 ^ 200) (h2 : -(10 ^ 200) ≤ j ∧ j ≤ 10 ^ 200) : CMulW i j :=
  wide_mul (log2_big h1.1 h1.2) (log2_big h2.1 h2.2) (by decide) (by decide) (by decide)
theorem mulOk1 {i j : Int} (h1 : i.natAbs < 2 ^ 500000) (h2 : -(10 ^ 200) ≤ j ∧ j ≤ 10 ^ 200) : CMulW i j :=
  wide_mul h1 (log2_big h2.1 h2.2) (by decide) (by decide) (by decide)
theorem divOk {i j : Int} (h : 0 < j ∧ j ≤ 10 ^ 200) : CDivW i j := wide_div h.1 (log2_big (by omega) h.2) (by decide) (by decide)
theorem powOk {i j : Int} (h : 0 ≤ j ∧ j ≤ 1000 ∧ 0 ≤ i ∧ i < 2 ^ 63) : CPow i j := ⟨h.1, by omega, by omega⟩

/-! ### a scheme's attributes -/
def scF (b f : Int) : List (Str × V) := putF "multiple" (.int f) (putF "radix" (.int b) [])
theorem scF_ne : ¬ (("radix" : Str) = "multiple") := by decide +kernel
theorem scF_radix (b f : Int) : (scF b f).lookup ("radix" : Str) = some (.int b) := by
  unfold scF
  rw [lookup_putF, if_neg scF_ne, lookup_putF, if_pos rfl]
theorem scF_multiple (b f : Int) : (scF b f).lookup ("multiple" : Str) = some (.int f) := by
  unfold scF
  rw [lookup_putF, if_pos rfl]
theorem scF_no (b f : Int) {m : Str} (h1 : ¬ m = "multiple") (h2 : ¬ m = "radix") : (scF b f).lookup m = none := by
  unfold scF
  rw [lookup_putF, if_neg h1, lookup_putF, if_neg h2]
  all_goals rfl
def SchOk (b f : Int) : Prop := 2 ≤ b ∧ b ≤ 1000 ∧ 1 ≤ f ∧ f ≤ 1000000

section
variable {K : PySem.W.Frag} {g : Gr} {L : Led} {C : V → Led → Prop} {σ : St}
theorem wc_isi_int {n : Int} (c : C (.bl true) L) : Wp g L (rIsi K [.int n, .ty "int"]) C :=
  .now (fun H _ _ q => ⟨.int n, .ty "int", _, _, true, rfl, .ty _, .base (.int n), kit_ty (by decide +kernel), q⟩) c
theorem wc_isi_bool {n : Int} (c : C (.bl false) L) : Wp g L (rIsi K [.int n, .ty "bool"]) C :=
  .now (fun H _ _ q => ⟨.int n, .ty "bool", _, _, false, rfl, .ty _, .base (.int n), kit_ty (by decide +kernel), q⟩) c
end
theorem op_in_seqK {X : Cx} {Kf : PySem.W.Frag} (hK : X.K = Kf) : OpR X (compareOp .In) (rIn Kf false) := hK ▸ op_in_seq
theorem op_notIn_seqK {X : Cx} {Kf : PySem.W.Frag} (hK : X.K = Kf) : OpR X (compareOp .NotIn) (rIn Kf true) := hK ▸ op_notIn_seq
def sp_Scheme_init (CS : Addr) : Sp := fun vs H Q _ => ∃ (p dx : Addr) (b f : Int), vs = [.ref p, .int b, .int f] ∧ H p = some (.ins CS dx []) ∧ SchOk b f ∧
  ∀ H' : Hp, H' p = some (.ins CS dx (scF b f)) → (∀ q o, H q = some o → q ≠ p → H' q = some o) → Q .non H'
theorem wm_Scheme {CS : Addr} {g : Gr} {L : Led} {C : V → Led → Prop} {σ : St} {E : XK} {tr : TA}
    (h : Wp g L (tr σ) fun vs L1 => ∃ b f : Int, vs = [.int b, .int f] ∧ SchOk b f ∧ ∀ p dx, C (.ref p) (L1 ++ [(p, .ob (.ins CS dx (scF b f)), true)])) : Wp g L (tMake CS (sp_Scheme_init CS) [] E tr σ) C :=
  fun H z Q q => h H z _ fun vs L1 H1 ⟨b, f, e, hs, k⟩ z1 => fun x dx hx hdx hne => by
    subst e
    refine ⟨x, dx, b, f, rfl, upd_same, hs, fun H' h1 h2 => ⟨rfl, q _ _ _ (k x dx) ?_⟩⟩
    refine z1.new (fun c o ho => h2 c o ?_ (ne_of_none ho hx)) hx h1
    rw [upd_ne (ne_of_none ho hx), upd_ne (ne_of_none ho hdx)]
    exact ho

/-- the powers 1, b, .., b ^ k as values -/
def pows (b : Int) : Nat → List V
  | 0 => [.int 1]
  | k + 1 => pows b k ++ [.int (b ^ (k + 1))]
theorem pows_len (b : Int) (k : Nat) : (pows b k).length = k + 1 := by
  induction k with
  | zero => rfl
  | succ k ih => simp [pows, ih]
theorem atI_neg1 {xs : List V} {x : V} : atI (xs ++ [x]) (-1) = some x := by
  unfold atI ixN
  rw [if_neg (by decide), if_pos (by simp; omega)]
  have e : (-1 + ((xs ++ [x]).length : Int)).toNat = xs.length := by simp; omega
  first
    | (rw [e]; simp)
    | (simp; have e2 : (-1 + ((xs.length : Int) + 1)).toNat = xs.length := by omega
       rw [e2]; simp)
theorem pows_last (b : Int) (k : Nat) : atI (pows b k) (-1) = some (.int (b ^ k)) := by
  cases k with
  | zero => rw [show pows b 0 = [] ++ [V.int 1] from rfl, atI_neg1]; simp
  | succ k => exact atI_neg1
theorem pows_get (b : Int) : ∀ (k i : Nat), i ≤ k → (pows b k)[i]? = some (.int (b ^ i))
  | 0, i, h => by
    have : i = 0 := by omega
    subst this
    simp [pows]
  | k + 1, i, h => by
    by_cases e : i = k + 1
    · subst e
      rw [pows, List.getElem?_append_right (by rw [pows_len]; omega), pows_len]
      simp
    · rw [pows, List.getElem?_append_left (by rw [pows_len]; omega)]
      exact pows_get b k i (by omega)

theorem last_map {pre : List Int} {m : Int} : atI ((pre ++ [m]).map V.int) (-1) = some (.int m) := by
  rw [List.map_append]
  exact atI_neg1
theorem cut_butlast (ms : List Int) : cutV (ms.map V.int) none (some (-1)) = ms.dropLast.map V.int := by
  unfold cutV
  have h1 : HT.sIx (ms.map V.int).length 0 none = 0 := rfl
  have h2 : HT.sIx (ms.map V.int).length (ms.map V.int).length (some (-1)) = ms.length - 1 := by
    unfold HT.sIx
    simp
    omega
  rw [h1, h2, List.drop_zero, Nat.sub_zero, List.dropLast_eq_take, List.map_take]
theorem wr_slB {K : PySem.W.Frag} {g : Gr} {L : Led} {C : V → Led → Prop} {a : Addr} {ms : List Int} (s : Seen K g L a (ms.map V.int)) (c : ∀ p, C (.ref p) (L ++ [(p, .ob (.lst (ms.dropLast.map V.int)), true)])) : Wp g L (rSlL K (.ref a) none (some (-1))) C :=
  wr_slL s (by rw [cut_butlast]; exact c)
theorem wmk_Scheme {CS : Addr} {g : Gr} {L : Led} {C : V → Led → Prop} {σ : St} {E : XK} {tk : TA} {perm : List Nat} {n : Nat}
    (h : Wp g L (tk σ) fun zs L1 => zs.length = n ∧ ∃ b f : Int, pick perm zs = [.int b, .int f] ∧ SchOk b f ∧ ∀ p dx, C (.ref p) (L1 ++ [(p, .ob (.ins CS dx (scF b f)), true)])) : Wp g L (tKwC CS (sp_Scheme_init CS) perm n E tk σ) C :=
  fun H z Q q => h H z _ fun zs L1 H1 ⟨el, b, f, e, hs, k⟩ z1 => ⟨el, fun x dx hx hdx hne => by
    rw [e]
    refine ⟨x, dx, b, f, rfl, upd_same, hs, fun H' h1 h2 => ⟨rfl, q _ _ _ (k x dx) ?_⟩⟩
    refine z1.new (fun c o ho => h2 c o ?_ (ne_of_none ho hx)) hx h1
    rw [upd_ne (ne_of_none ho hx), upd_ne (ne_of_none ho hdx)]
    exact ho⟩

theorem prime_at (k : Int) (h0 : 0 ≤ k) (h1 : k < 7) : ∃ q : Int, atI [V.int 2147483647, .int 2147483629, .int 2147483587, .int 2147483579, .int 2147483563, .int 2147483549, .int 2147483543] k = some (.int q) ∧ 1 < q ∧ q ≤ 2147483647 := by
  have h : k = 0 ∨ k = 1 ∨ k = 2 ∨ k = 3 ∨ k = 4 ∨ k = 5 ∨ k = 6 := by omega
  rcases h with rfl | rfl | rfl | rfl | rfl | rfl | rfl <;> exact ⟨_, rfl, by decide, by decide⟩
theorem atI_in {xs : List V} {k : Int} (h0 : 0 ≤ k) (h1 : k < (xs.length : Int)) : ∃ v, atI xs k = some v ∧ v ∈ xs := by
  have hk : k.toNat < xs.length := by omega
  refine ⟨xs[k.toNat], at_of (j := k.toNat) (by omega) (List.getElem?_eq_getElem hk), List.getElem_mem hk⟩
theorem ints_all {ns : List Int} : ∀ v ∈ ns.map V.int, ∃ n : Int, v = .int n := fun v hv => by
  obtain ⟨n, _, e⟩ := List.mem_map.mp hv
  exact ⟨n, e.symm⟩
theorem cut_mem {xs : List V} {lo hi : Option Int} {v : V} (h : v ∈ cutV xs lo hi) : v ∈ xs := List.mem_of_mem_drop (List.mem_of_mem_take h)

theorem powJ_app (b : Int) (k : Nat) : (Ma.powJ b k).map V.int ++ [V.int (b ^ k)] = (Ma.powJ b (k + 1)).map V.int := by
  rw [Ma.powJ_next, List.map_append]
  rfl
theorem last_pow {b p : Int} {k : Nat} (hb : 2 ≤ b) (h : Ma.IsPows b p k) (hp : Ma.IsPow b p) : atI ([V.int 1] ++ ((Ma.powJ b k).filter (fun x => decide (x = p))).map V.int) (-1) = some (.int p) := by
  have hm : p ∈ (Ma.powJ b k).filter (fun x => decide (x = p)) := List.mem_filter.mpr ⟨h.mem hb hp (Int.le_refl _), by simp⟩
  have ha : ∀ x ∈ (Ma.powJ b k).filter (fun x => decide (x = p)), x = p := fun x hx => by simpa using (List.mem_filter.mp hx).2
  generalize (Ma.powJ b k).filter (fun x => decide (x = p)) = xs at hm ha
  rcases List.eq_nil_or_concat xs with e | ⟨ys, y, e⟩
  · rw [e] at hm
    cases hm
  · rw [List.concat_eq_append] at e
    subst e
    have := ha y (by simp)
    subst this
    rw [List.map_append, ← List.append_assoc]
    exact atI_neg1
theorem app_int (ys : List Int) (v : Int) : ys.map V.int ++ [V.int v] = (ys ++ [v]).map V.int := by
  rw [List.map_append]
  rfl

section
variable {P : Program} {w : World} {K : PySem.W.Frag} {mg : Str → Option Value} {base : Heap} {CS : Addr}
theorem sc__law_source_of : FnScope ["_law_cell"] ["_law_cell"] (defScope s__law_source_of) := ⟨rfl, rfl, rfl, by decide +kernel, rfl, by decide +kernel, by decide +kernel⟩
def sp__law_source_of (CS : Addr) : Sp := fun vs H Q _ => ∃ n : Int, vs = [.int n] ∧ ∀ (p : Addr) (H' : Hp), H p = none → Same H H' → EntAt (.src 0) H' p → Q (.ref p) H'
theorem wc__law_source_of {CS : Addr} {g : Gr} {L : Led} {C : V → Led → Prop} {E : XK} {n : Int} (c : ∀ p : Addr, C (.ref p) (L ++ [(p, .src 0, true)])) : Wp g L (fun H Q => sp__law_source_of CS [.int n] H Q E) C :=
  fun H z Q q => ⟨n, rfl, fun p H' hn s ⟨o, h1, h2⟩ => q _ _ _ (c p) (z.newE s hn h1 h2)⟩

theorem ok__law_source_of (T : Top K mg CS) : Ok P w K mg base 1 "_law_source_of" s__law_source_of ["_law_cell"] (sp__law_source_of CS) := by
  refine Ok.of T.f__law_source_of sc__law_source_of (fun _ _ _ _ _ _ us hl => match us, hl with | [_], _ => rfl) (fun vs H Q E h => ?_) (fun f cdv A outer s H vs Q E hr h => ?_)
  · obtain ⟨n, rfl, _⟩ := h
    rfl
  · obtain ⟨n, rfl, kk⟩ := h
    refine ⟨_, (pss_one (ps_ret (pe_lst (pa_cons (pe_op op_mul (pv 0) (pe_callTy c_int1 (by rfl) T.b_int (by decide +kernel) (pa_cons (pe_cmpR op_ge (pv 0) (pe_op op_pow pe_int pe_int) (nomark _)) pa_nil))) (pa_cons (pe_op op_mod (pv 0) pe_int) (pa_cons pe_int pa_nil)))))), ?_⟩
    refine run_ws (σ := [some (.int n)]) (K := kR (fun o => (Ent.src 0).Is o)) (L := []) ?_ at_nil (eo_R fun p H' o r n s' hp => kk p H' n s' ⟨o, hp, r⟩)
    refine ws_ret ?_
    refine wp_lst ?_
    refine wa_cons ?_
    refine wp_op ?_
    refine wp_var rfl ?_
    refine wp_cb ?_
    refine wa_cons ?_
    refine wp_op ?_
    refine wp_var rfl ?_
    refine wp_op ?_
    refine wp_c ?_
    refine wp_c ?_
    refine wr_powc (r := 1000000000000000000) (powOk (by decide)) (by decide) ?_
    refine wr0 ?_
    refine wa_nil ?_
    refine wc_intB ?_
    refine wr1 (Or.inr ⟨by split <;> decide, by split <;> decide⟩) ?_
    refine wa_cons ?_
    refine wp_op ?_
    refine wp_var rfl ?_
    refine wp_c ?_
    refine wr_modA (by decide) ?_
    intro y hy0 hy1
    refine wa_cons ?_
    refine wp_c ?_
    refine wa_nil ?_
    refine ⟨by simp, fun p1 => ?_⟩
    exact ⟨_, 0, _, rfl, rfl, _, _, _, rfl, hy0, by omega, by decide, by decide⟩
theorem sc__law_next : FnScope ["_law_source", "_law_many", "_law_prime", "_law_figure", "_law_found"] ["_law_source", "_law_many"] (defScope s__law_next) := ⟨rfl, rfl, rfl, by decide +kernel, rfl, by decide +kernel, by decide +kernel⟩
def sp__law_next (CS : Addr) : Sp := fun vs H Q _ => ∃ (a : Addr) (m : Nat) (many : Int), vs = [.ref a, .int many] ∧ EntAt (.src m) H a ∧ m ≤ 1000000 ∧ (1 ≤ many ∧ many ≤ 10 ^ 100) ∧ ∀ (n : Int) (H' : Hp), (0 ≤ n ∧ n < many) → EntAt (.src (m + 1)) H' a → Exc a H H' → Q (.int n) H'
theorem wc__law_next {CS : Addr} {g : Gr} {L : Led} {C : V → Led → Prop} {E : XK} {a : Addr} {m : Nat} {many : Int} (i : Nat) (h : L[i]? = some (a, .src m, true)) (hm : m ≤ 1000000) (hn : 1 ≤ many ∧ many ≤ 10 ^ 100)
    (c : ∀ n : Int, (0 ≤ n ∧ n < many) → C (.int n) (L.set i (a, .src (m + 1), true))) : Wp g L (fun H Q => sp__law_next CS [.ref a, .int many] H Q E) C :=
  fun H z Q q => ⟨a, m, many, rfl, z.look h, hm, hn, fun n H' hn' he hx => q _ _ _ (c n hn') (z.draw h hx he)⟩

theorem ok__law_next (T : Top K mg CS) : Ok P w K mg base 1 "_law_next" s__law_next ["_law_source", "_law_many"] (sp__law_next CS) := by
  refine Ok.of T.f__law_next sc__law_next (fun _ _ _ _ _ _ us hl => match us, hl with | [_, _], _ => rfl) (fun vs H Q E h => ?_) (fun f cdv A outer s H vs Q E hr h => ?_)
  · obtain ⟨a, m, many, rfl, _⟩ := h
    rfl
  · obtain ⟨a, m, many, rfl, ⟨o, ha, x, y, z, rfl, hy0, hy1, hz0, hz1⟩, hm, hmany, kk⟩ := h
    refine ⟨_, (pss_cons (ps_if (pt_cmpR op_gt (pe_ix ix_list (pv 0) pe_int (fun _ _ => rfl)) pe_int (nomark _)) (pss_cons (ps_set (i := 4) sc__law_next.nd rfl (Or.inl rfl) (pe_op op_mod (pe_ix ix_list (pv 0) pe_int (fun _ _ => rfl)) (pv 1)))
      (pss_cons (ps_asg (pe_op op_fdivW (pe_ix ix_list (pv 0) pe_int (fun _ _ => rfl)) (pv 1)) (pg_sub (pv 0) pe_int set_list))
      (pss_one (ps_ret (pv 4))))) pss_nil)
      (pss_cons (ps_asg (pe_op op_add (pe_ix ix_list (pv 0) pe_int (fun _ _ => rfl)) pe_int) (pg_sub (pv 0) pe_int set_list))
      (pss_cons (ps_set (i := 2) sc__law_next.nd rfl (Or.inl rfl) (pe_ix ix_list (pe_lst (pa_cons pe_int (pa_cons pe_int (pa_cons pe_int (pa_cons pe_int (pa_cons pe_int (pa_cons pe_int (pa_cons pe_int pa_nil)))))))) (pe_op op_mod (pe_ix ix_list (pv 0) pe_int (fun _ _ => rfl)) pe_int) (fun _ _ => rfl)))
      (pss_cons (ps_set (i := 3) sc__law_next.nd rfl (Or.inl rfl) (pe_op op_mod (pe_op op_pow (pe_op op_add (pe_op op_add (pe_ix ix_list (pv 0) pe_int (fun _ _ => rfl)) (pe_op op_mulW pe_int (pe_ix ix_list (pv 0) pe_int (fun _ _ => rfl)))) pe_int) pe_int) (pv 2)))
      (pss_cons (ps_set (i := 3) sc__law_next.nd rfl (Or.inl rfl) (pe_op op_mod (pe_op op_mulW (pe_op op_add (pv 3) (pe_ix ix_list (pv 0) pe_int (fun _ _ => rfl))) (pe_op op_add (pe_op op_fdivW (pv 3) pe_int) pe_int)) (pv 2)))
      (pss_one (ps_ret (pe_op op_mod (pe_op op_fdivW (pv 3) pe_int) (pv 1))))))))), ?_⟩
    refine run_ws (σ := [some (.ref a), some (.int many), none, none, none]) (g := ⟨H, fun c => c = a⟩) (K := kS a (.src (m + 1)) (fun v => ∃ n : Int, v = .int n ∧ 0 ≤ n ∧ n < many)) (L := [(a, .ob (.lst [.int x, .int y, .int z]), true)]) ?_ (at_cons at_nil ha rfl (by simp) (fun _ => .inr rfl)) (eo_S fun v H' ⟨n, e, h1, h2⟩ he hx => e ▸ kk n H' ⟨h1, h2⟩ he hx)
    refine ws_seq ?_
    refine ws_if ?_
    refine wt_test ?_
    refine wp_op ?_
    refine wp_op ?_
    refine wp_var rfl ?_
    refine wp_c ?_
    refine wr_ixL (seen 0 rfl) (rfl) ?_
    refine wp_c ?_
    refine wr0 ?_
    refine ⟨_, rfl, ?_⟩
    refine ifB (fun hc1 => ?_) (fun hc1 => ?_)
    · try simp only [decide_eq_true_eq, decide_eq_false_iff_not, Bool.and_eq_true, Bool.or_eq_true, Bool.not_eq_true', Bool.and_eq_false_iff, Bool.or_eq_false_iff, Bool.not_eq_false', Bool.not_true, Bool.not_false, Bool.false_or, Bool.true_and, Bool.true_or, Bool.false_and, Bool.and_true, Bool.or_false, reduceCtorEq, not_true_eq_false, not_false_eq_true, decide_true, decide_false] at hc1
      refine ws_seq ?_
      refine ws_set ?_
      refine wp_op ?_
      refine wp_op ?_
      refine wp_var rfl ?_
      refine wp_c ?_
      refine wr_ixL (seen 0 rfl) (rfl) ?_
      refine wp_var rfl ?_
      refine wr_modA (by omega) ?_
      intro r hr0 hr1
      refine ws_seq ?_
      refine ws_asg ?_
      refine wp_op ?_
      refine wp_op ?_
      refine wp_var rfl ?_
      refine wp_c ?_
      refine wr_ixL (seen 0 rfl) (rfl) ?_
      refine wp_var rfl ?_
      refine wr1 (by exact divOk (by omega)) ?_
      refine wg_sub ?_
      refine wp_var rfl ?_
      refine wp_c ?_
      refine wr_setL 0 rfl (rfl) ?_
      refine ws_ret ?_
      refine wp_var rfl ?_
      exact ⟨⟨_, rfl, hr0, hr1⟩, 0, _, rfl, _, _, _, rfl, hy0, hy1, hz0, by omega⟩
    · try simp only [decide_eq_true_eq, decide_eq_false_iff_not, Bool.and_eq_true, Bool.or_eq_true, Bool.not_eq_true', Bool.and_eq_false_iff, Bool.or_eq_false_iff, Bool.not_eq_false', Bool.not_true, Bool.not_false, Bool.false_or, Bool.true_and, Bool.true_or, Bool.false_and, Bool.and_true, Bool.or_false, reduceCtorEq, not_true_eq_false, not_false_eq_true, decide_true, decide_false] at hc1
      refine ws_next ?_
      refine ws_seq ?_
      refine ws_asg ?_
      refine wp_op ?_
      refine wp_op ?_
      refine wp_var rfl ?_
      refine wp_c ?_
      refine wr_ixL (seen 0 rfl) (rfl) ?_
      refine wp_c ?_
      refine wr0 ?_
      refine wg_sub ?_
      refine wp_var rfl ?_
      refine wp_c ?_
      refine wr_setL 0 rfl (rfl) ?_
      refine ws_seq ?_
      obtain ⟨q, hq, hq1, hq2⟩ := prime_at ((z + 1) % 7) (by omega) (by omega)
      refine ws_set ?_
      refine wp_op ?_
      refine wp_lst ?_
      refine wa_cons ?_
      refine wp_c ?_
      refine wa_cons ?_
      refine wp_c ?_
      refine wa_cons ?_
      refine wp_c ?_
      refine wa_cons ?_
      refine wp_c ?_
      refine wa_cons ?_
      refine wp_c ?_
      refine wa_cons ?_
      refine wp_c ?_
      refine wa_cons ?_
      refine wp_c ?_
      refine wa_nil ?_
      refine ⟨by simp, fun p2 => ?_⟩
      refine wp_op ?_
      refine wp_op ?_
      refine wp_var rfl ?_
      refine wp_c ?_
      refine wr_ixL (seen 0 rfl) (rfl) ?_
      refine wp_c ?_
      refine wr1 (by (show (0 : Int) < _; omega)) ?_
      refine wr_ixL (seen 1 rfl) (hq) ?_
      refine ws_seq ?_
      refine ws_set ?_
      refine wp_op ?_
      refine wp_op ?_
      refine wp_op ?_
      refine wp_op ?_
      refine wp_op ?_
      refine wp_var rfl ?_
      refine wp_c ?_
      refine wr_ixL (seen 0 rfl) (rfl) ?_
      refine wp_op ?_
      refine wp_c ?_
      refine wp_op ?_
      refine wp_var rfl ?_
      refine wp_c ?_
      refine wr_ixL (seen 0 rfl) (rfl) ?_
      refine wr1 (by exact mulOk (by omega) (by omega)) ?_
      refine wr0 ?_
      refine wp_c ?_
      refine wr0 ?_
      refine wp_c ?_
      refine wr1 (powOk (by omega)) ?_
      refine wp_var rfl ?_
      refine wr_modA (by omega) ?_
      intro f1 hf1 hf2
      refine ws_seq ?_
      refine ws_set ?_
      refine wp_op ?_
      refine wp_op ?_
      refine wp_op ?_
      refine wp_var rfl ?_
      refine wp_op ?_
      refine wp_var rfl ?_
      refine wp_c ?_
      refine wr_ixL (seen 0 rfl) (rfl) ?_
      refine wr0 ?_
      refine wp_op ?_
      refine wp_op ?_
      refine wp_var rfl ?_
      refine wp_c ?_
      refine wr1 (by exact divOk (by omega)) ?_
      refine wp_c ?_
      refine wr0 ?_
      refine wr1 (by exact mulOk (by omega) (by omega)) ?_
      refine wp_var rfl ?_
      refine wr_modA (by omega) ?_
      intro f2 hf3 hf4
      refine ws_ret ?_
      refine wp_op ?_
      refine wp_op ?_
      refine wp_var rfl ?_
      refine wp_c ?_
      refine wr1 (by exact divOk (by omega)) ?_
      refine wp_var rfl ?_
      refine wr_modA (by omega) ?_
      intro r hr0 hr1
      exact ⟨⟨_, rfl, hr0, hr1⟩, 0, _, rfl, _, _, _, rfl, hy0, hy1, by omega, by omega⟩
theorem sc_is_integer : FnScope ["value"] ["value"] (defScope s_is_integer) := ⟨rfl, rfl, rfl, by decide +kernel, rfl, by decide +kernel, by decide +kernel⟩
def sp_is_integer (CS : Addr) : Sp := fun vs H Q _ => ∃ (n : Int), (vs = [.int n]) ∧ ∀ (H' : Hp), Same H H' → Q (.bl true) H'
theorem wc_is_integer {CS : Addr} {g : Gr} {L : Led} {C : V → Led → Prop} {E : XK} {n : Int} (c : C (.bl true) L) : Wp g L (fun H Q => sp_is_integer CS [.int n] H Q E) C := fun H z Q q => ⟨n, rfl, fun H' s' => q _ _ _ (c) (z.same s')⟩
theorem ok_is_integer (T : Top K mg CS) : Ok P w K mg base 1 "is_integer" s_is_integer ["value"] (sp_is_integer CS) := by
  refine Ok.of T.f_is_integer sc_is_integer (fun _ _ _ _ _ _ us hl => match us, hl with | [_], _ => rfl) (fun vs H Q E h => ?_) (fun f cdv A outer s H vs Q E hr h => ?_)
  · obtain ⟨n, rfl, _⟩ := h
    rfl
  · obtain ⟨n, rfl, kk⟩ := h
    refine ⟨_, (pss_one (ps_ret (pe_and (pe_callB call_isi (by rfl) T.b_isinstance (by decide +kernel) (pa_cons (pv 0) (pa_cons (pe_tyint rfl T.b_int) pa_nil))) (pe_one (pe_not (pe_callB call_isi (by rfl) T.b_isinstance (by decide +kernel) (pa_cons (pv 0) (pa_cons (pe_tybool rfl T.b_bool) pa_nil)))))))), ?_⟩
    refine run_ws (σ := [some (.int n)]) (K := kV (fun v => v = (.bl true))) (L := []) ?_ at_nil (eo_V fun v H' e s' => e ▸ kk H' s')
    refine ws_ret ?_
    refine wp_andVP ?_
    refine wp_cb ?_
    refine wa_cons ?_
    refine wp_var rfl ?_
    refine wa_cons ?_
    refine wp_c ?_
    refine wa_nil ?_
    refine wc_isi_int ?_
    refine ⟨_, rfl, ?_⟩
    apply andK
    · intro hb1
      try simp only [decide_eq_true_eq, decide_eq_false_iff_not, Bool.and_eq_true, Bool.or_eq_true, Bool.not_eq_true', Bool.and_eq_false_iff, Bool.or_eq_false_iff, Bool.not_eq_false', Bool.not_true, Bool.not_false, Bool.false_or, Bool.true_and, Bool.true_or, Bool.false_and, Bool.and_true, Bool.or_false, reduceCtorEq, not_true_eq_false, not_false_eq_true, decide_true, decide_false] at hb1
      refine wp_notV ?_
      refine wp_cb ?_
      refine wa_cons ?_
      refine wp_var rfl ?_
      refine wa_cons ?_
      refine wp_c ?_
      refine wa_nil ?_
      refine wc_isi_bool ?_
      refine ⟨_, rfl, ?_⟩
      exact ⟨rfl, rfl⟩
    exact rfl
theorem sc_is_between : FnScope ["value", "low", "high"] ["value", "low", "high"] (defScope s_is_between) := ⟨rfl, rfl, rfl, by decide +kernel, rfl, by decide +kernel, by decide +kernel⟩
def sp_is_between (CS : Addr) : Sp := fun vs H Q _ => ∃ (n lo hi : Int), (vs = [.int n, .int lo, .int hi]) ∧ ∀ (H' : Hp), Same H H' → Q (.bl (decide (lo ≤ n) && decide (n ≤ hi))) H'
theorem wc_is_between {CS : Addr} {g : Gr} {L : Led} {C : V → Led → Prop} {E : XK} {n lo hi : Int} (c : C (.bl (decide (lo ≤ n) && decide (n ≤ hi))) L) : Wp g L (fun H Q => sp_is_between CS [.int n, .int lo, .int hi] H Q E) C := fun H z Q q => ⟨n, lo, hi, rfl, fun H' s' => q _ _ _ (c) (z.same s')⟩
theorem ok_is_between (T : Top K mg CS) : Ok P w K mg base 2 "is_between" s_is_between ["value", "low", "high"] (sp_is_between CS) := by
  refine Ok.of T.f_is_between sc_is_between (fun _ _ _ _ _ _ us hl => match us, hl with | [_, _, _], _ => rfl) (fun vs H Q E h => ?_) (fun f cdv A outer s H vs Q E hr h => ?_)
  · obtain ⟨n, lo, hi, rfl, _⟩ := h
    rfl
  · obtain ⟨n, lo, hi, rfl, kk⟩ := h
    refine ⟨_, (pss_one (ps_ret (pe_and (pe_own (ok_is_integer T) (hr.mono (by decide)) rfl (pa_cons (pv 0) pa_nil)) (pe_one (pe_chain op_le op_le (pv 1) (pv 0) (pv 2)))))), ?_⟩
    refine run_ws (σ := [some (.int n), some (.int lo), some (.int hi)]) (K := kV (fun v => v = (.bl (decide (lo ≤ n) && decide (n ≤ hi))))) (L := []) ?_ at_nil (eo_V fun v H' e s' => e ▸ kk H' s')
    refine ws_ret ?_
    refine wp_andVP ?_
    refine wp_call ?_
    refine wa_cons ?_
    refine wp_var rfl ?_
    refine wa_nil ?_
    refine wc_is_integer ?_
    refine ⟨_, rfl, ?_⟩
    apply andK
    · intro hb1
      try simp only [decide_eq_true_eq, decide_eq_false_iff_not, Bool.and_eq_true, Bool.or_eq_true, Bool.not_eq_true', Bool.and_eq_false_iff, Bool.or_eq_false_iff, Bool.not_eq_false', Bool.not_true, Bool.not_false, Bool.false_or, Bool.true_and, Bool.true_or, Bool.false_and, Bool.and_true, Bool.or_false, reduceCtorEq, not_true_eq_false, not_false_eq_true, decide_true, decide_false] at hb1
      refine wp_chainP ?_
      refine wp_var rfl ?_
      refine wp_var rfl ?_
      refine wr0 ?_
      refine ⟨_, rfl, ?_⟩
      apply andK
      · intro _
        refine wp_var rfl ?_
        refine wr0 ?_
        exact ⟨rfl, rfl⟩
      exact ⟨rfl, rfl⟩
    exact rfl
theorem sc_check_bases : FnScope ["bases", "base", "at"] ["bases"] (defScope s_check_bases) := ⟨rfl, rfl, rfl, by decide +kernel, rfl, by decide +kernel, by decide +kernel⟩
def sp_check_bases (CS : Addr) : Sp := fun vs H Q _ => ∃ (a : Addr) (ns : List Int), (vs = [.ref a]) ∧ (H a = some (.lst (ns.map V.int))) ∧ (Ma.BasOk ns) ∧ ∀ (H' : Hp), Same H H' → Q .non H'
theorem wc_check_bases {CS : Addr} {g : Gr} {L : Led} {C : V → Led → Prop} {E : XK} {a : Addr} {ns : List Int} {bo0 : Bool} (i0 : Nat) (h0 : L[i0]? = some (a, .ob (.lst (ns.map V.int)), bo0)) (hpre : Ma.BasOk ns) (c : C .non L) : Wp g L (fun H Q => sp_check_bases CS [.ref a] H Q E) C := fun H z Q q => ⟨a, ns, rfl, z.get h0, hpre, fun H' s' => q _ _ _ (c) (z.same s')⟩
theorem ok_check_bases (T : Top K mg CS) : Ok P w K mg base 3 "check_bases" s_check_bases ["bases"] (sp_check_bases CS) := by
  refine Ok.of T.f_check_bases sc_check_bases (fun _ _ _ _ _ _ us hl => match us, hl with | [_], _ => rfl) (fun vs H Q E h => ?_) (fun f cdv A outer s H vs Q E hr h => ?_)
  · obtain ⟨a, ns, rfl, _⟩ := h
    rfl
  · obtain ⟨a, ns, rfl, hh0, hpre, kk⟩ := h
    have hbl := hpre.1
    have hbm := hpre.2.1
    have hbe : ((ns.map V.int).length : Int) = ns.length := by rw [List.length_map]
    refine ⟨_, (pss_cons (ps_if (PW.pt (pw_or (pt_not (pt_val (pe_callB call_isi (by rfl) T.b_isinstance (by decide +kernel) (pa_cons (pv 0) (pa_cons (pe_tylist rfl T.b_list) pa_nil))))) (pw_or1 (pt_not (pt_chain op_le op_le pe_int (pe_callB c_len (by rfl) T.b_len PySem.boot_len (pa_cons (pv 0) pa_nil)) (pe_const rfl T.c_MOST_BASES)))))) (pss_one ps_never) pss_nil)
      (pss_cons (ps_if (pt_not (pt_val (pe_callB (cr_all rfl) (by rfl) T.b_all (by decide +kernel) (pa_cons (pe_lc (own := [("base", 1)]) rfl sc_check_bases.nd (pi_list (pv 0)) (blkOk_by (N := ["bases", "base", "at"]) (sc := defScope s_check_bases) (by decide +kernel)) (fun _ _ _ _ _ => (pg_name (i := 1) sc_check_bases.nd rfl (Or.inl rfl))) (fun _ _ _ _ _ => pts_nil) (fun _ _ _ _ _ => (pe_own (ok_is_between T) (hr.mono (by decide)) rfl (pa_cons (pv 1) (pa_cons pe_int (pa_cons (pe_const rfl T.c_MOST_BASE) pa_nil)))))) pa_nil)))) (pss_one ps_never) pss_nil)
      (pss_one (ps_if (pt_not (pt_val (pe_callB (cr_all rfl) (by rfl) T.b_all (by decide +kernel) (pa_cons (pe_lc (own := [("at", 2)]) rfl sc_check_bases.nd (pi_rangeW1 rfl T.b_range (pa_cons (pe_op op_sub (pe_callB c_len (by rfl) T.b_len PySem.boot_len (pa_cons (pv 0) pa_nil)) pe_int) pa_nil)) (blkOk_by (N := ["bases", "base", "at"]) (sc := defScope s_check_bases) (by decide +kernel)) (fun _ _ _ _ _ => (pg_name (i := 2) sc_check_bases.nd rfl (Or.inl rfl))) (fun _ _ _ _ _ => pts_nil) (fun _ _ _ _ _ => (pe_cmpR op_lt (pe_ix (ix_listK (Kf := K) rfl) (pv 0) (pv 2) (fun _ _ => rfl)) (pe_ix (ix_listK (Kf := K) rfl) (pv 0) (pe_op op_add (pv 2) pe_int) (fun _ _ => rfl)) (nomark _)))) pa_nil)))) (pss_one ps_never) pss_nil)))), ?_⟩
    refine run_ws (σ := [some (.ref a), none, none]) (K := kV (fun v => v = .non)) (L := [(a, .ob (.lst (ns.map V.int)), false)]) ?_ (at_one hh0) (eo_V fun v H' e s' => e ▸ kk H' s')
    refine ws_seq ?_
    refine ws_if ?_
    refine wt_orP ?_
    refine wt_not ?_
    refine wt_B ?_
    refine wp_cb ?_
    refine wa_cons ?_
    refine wp_var rfl ?_
    refine wa_cons ?_
    refine wp_c ?_
    refine wa_nil ?_
    refine wc_isi_list 0 rfl ?_
    refine ⟨_, rfl, ?_⟩
    apply andK
    · intro hb1
      try simp only [decide_eq_true_eq, decide_eq_false_iff_not, Bool.and_eq_true, Bool.or_eq_true, Bool.not_eq_true', Bool.and_eq_false_iff, Bool.or_eq_false_iff, Bool.not_eq_false', Bool.not_true, Bool.not_false, Bool.false_or, Bool.true_and, Bool.true_or, Bool.false_and, Bool.and_true, Bool.or_false, reduceCtorEq, not_true_eq_false, not_false_eq_true, decide_true, decide_false] at hb1
      refine wt_not ?_
      refine wt_test ?_
      refine wp_chainP ?_
      refine wp_c ?_
      refine wp_cb ?_
      refine wa_cons ?_
      refine wp_var rfl ?_
      refine wa_nil ?_
      refine wc_len (seen 0 rfl) ?_
      refine wr0 ?_
      refine ⟨_, rfl, ?_⟩
      apply andK
      · intro _
        refine wp_c ?_
        refine wr0 ?_
        exact ⟨rfl, rfl⟩
      refine ⟨_, rfl, ?_⟩
      exact ⟨rfl, rfl⟩
    refine ifB (fun hc2 => ?_) (fun hc2 => ?_)
    · try simp only [decide_eq_true_eq, decide_eq_false_iff_not, Bool.and_eq_true, Bool.or_eq_true, Bool.not_eq_true', Bool.and_eq_false_iff, Bool.or_eq_false_iff, Bool.not_eq_false', Bool.not_true, Bool.not_false, Bool.false_or, Bool.true_and, Bool.true_or, Bool.false_and, Bool.and_true, Bool.or_false, reduceCtorEq, not_true_eq_false, not_false_eq_true, decide_true, decide_false] at hc2
      all_goals
        exfalso
        rw [List.length_map] at hc2
        omega
    · try simp only [decide_eq_true_eq, decide_eq_false_iff_not, Bool.and_eq_true, Bool.or_eq_true, Bool.not_eq_true', Bool.and_eq_false_iff, Bool.or_eq_false_iff, Bool.not_eq_false', Bool.not_true, Bool.not_false, Bool.false_or, Bool.true_and, Bool.true_or, Bool.false_and, Bool.and_true, Bool.or_false, reduceCtorEq, not_true_eq_false, not_false_eq_true, decide_true, decide_false] at hc2
      refine ws_next ?_
      refine ws_seq ?_
      refine ws_if ?_
      refine wt_not ?_
      refine wt_B ?_
      refine wp_cb ?_
      refine wa_cons ?_
      refine wp_lc ?_
      refine wi_list ?_
      refine wp_var rfl ?_
      refine ⟨_, _, rfl, (seen 0 rfl), ?_⟩
      refine lc_Im V.bl (fun n => decide (2 ≤ n) && decide (n ≤ 1000)) (seen 0 rfl) (by omega) ?_ ?_
      · intro n hx D acc
        refine wt_yes ?_
        refine ⟨rfl, ?_⟩
        refine ifT rfl ?_
        refine wp_call ?_
        refine wa_cons ?_
        refine wp_var rfl ?_
        refine wa_cons ?_
        refine wp_c ?_
        refine wa_cons ?_
        refine wp_c ?_
        refine wa_nil ?_
        refine wc_is_between ?_
        exact ⟨rfl, by first | exact List.prefix_refl _ | exact ⟨_, rfl⟩⟩
      intro p3
      refine wa_nil ?_
      refine wc_all (seen 1 rfl) ?_
      refine ⟨_, rfl, ?_⟩
      refine ifB (fun hc4 => ?_) (fun hc4 => ?_)
      · try simp only [decide_eq_true_eq, decide_eq_false_iff_not, Bool.and_eq_true, Bool.or_eq_true, Bool.not_eq_true', Bool.and_eq_false_iff, Bool.or_eq_false_iff, Bool.not_eq_false', Bool.not_true, Bool.not_false, Bool.false_or, Bool.true_and, Bool.true_or, Bool.false_and, Bool.and_true, Bool.or_false, reduceCtorEq, not_true_eq_false, not_false_eq_true, decide_true, decide_false] at hc4
        all_goals
          exfalso
          rw [Ma.bas_between hpre] at hc4
          cases hc4
      · try simp only [decide_eq_true_eq, decide_eq_false_iff_not, Bool.and_eq_true, Bool.or_eq_true, Bool.not_eq_true', Bool.and_eq_false_iff, Bool.or_eq_false_iff, Bool.not_eq_false', Bool.not_true, Bool.not_false, Bool.false_or, Bool.true_and, Bool.true_or, Bool.false_and, Bool.and_true, Bool.or_false, reduceCtorEq, not_true_eq_false, not_false_eq_true, decide_true, decide_false] at hc4
        refine ws_next ?_
        refine ws_if ?_
        refine wt_not ?_
        refine wt_B ?_
        refine wp_cb ?_
        refine wa_cons ?_
        refine wp_lc ?_
        refine wi_rngW1 ?_
        refine wa_cons ?_
        refine wp_op ?_
        refine wp_cb ?_
        refine wa_cons ?_
        refine wp_var rfl ?_
        refine wa_nil ?_
        refine wc_len (seen 0 rfl) ?_
        refine wp_c ?_
        refine wr0 ?_
        refine wa_nil ?_
        refine ⟨_, rfl, ?_⟩
        refine lc_Rm V.bl (fun i => decide (Ma.gI ns i < Ma.gI ns (i + 1))) (by (rw [hbe]; omega)) ?_ ?_
        · intro i hx0 hx1 D acc
          rw [hbe] at hx1
          refine wt_yes ?_
          refine ⟨rfl, ?_⟩
          refine ifT rfl ?_
          refine wp_op ?_
          refine wp_op ?_
          refine wp_var rfl ?_
          refine wp_var rfl ?_
          refine wr_ixL (seen 0 rfl) ((Ma.gI_at (by omega) (by omega))) ?_
          refine wp_op ?_
          refine wp_var rfl ?_
          refine wp_op ?_
          refine wp_var rfl ?_
          refine wp_c ?_
          refine wr0 ?_
          refine wr_ixL (seen 0 rfl) ((Ma.gI_at (by omega) (by omega))) ?_
          refine wr0 ?_
          exact ⟨rfl, by first | exact List.prefix_refl _ | exact ⟨_, rfl⟩⟩
        intro p5
        refine wa_nil ?_
        refine wc_all (seen 2 rfl) ?_
        refine ⟨_, rfl, ?_⟩
        refine ifB (fun hc6 => ?_) (fun hc6 => ?_)
        · try simp only [decide_eq_true_eq, decide_eq_false_iff_not, Bool.and_eq_true, Bool.or_eq_true, Bool.not_eq_true', Bool.and_eq_false_iff, Bool.or_eq_false_iff, Bool.not_eq_false', Bool.not_true, Bool.not_false, Bool.false_or, Bool.true_and, Bool.true_or, Bool.false_and, Bool.and_true, Bool.or_false, reduceCtorEq, not_true_eq_false, not_false_eq_true, decide_true, decide_false] at hc6
          all_goals
            exfalso
            rw [Ma.bas_asc hpre _ (by rw [hbe]; omega)] at hc6
            cases hc6
        · try simp only [decide_eq_true_eq, decide_eq_false_iff_not, Bool.and_eq_true, Bool.or_eq_true, Bool.not_eq_true', Bool.and_eq_false_iff, Bool.or_eq_false_iff, Bool.not_eq_false', Bool.not_true, Bool.not_false, Bool.false_or, Bool.true_and, Bool.true_or, Bool.false_and, Bool.and_true, Bool.or_false, reduceCtorEq, not_true_eq_false, not_false_eq_true, decide_true, decide_false] at hc6
          refine ws_next ?_
          exact rfl
theorem sc_check_limits : FnScope ["age", "loss"] ["age", "loss"] (defScope s_check_limits) := ⟨rfl, rfl, rfl, by decide +kernel, rfl, by decide +kernel, by decide +kernel⟩
def sp_check_limits (CS : Addr) : Sp := fun vs H Q _ => ∃ (age loss : Int), (vs = [.int age, .int loss]) ∧ (0 ≤ age ∧ 0 ≤ loss) ∧ ∀ (H' : Hp), Same H H' → Q .non H'
theorem wc_check_limits {CS : Addr} {g : Gr} {L : Led} {C : V → Led → Prop} {E : XK} {age loss : Int} (hpre : 0 ≤ age ∧ 0 ≤ loss) (c : C .non L) : Wp g L (fun H Q => sp_check_limits CS [.int age, .int loss] H Q E) C := fun H z Q q => ⟨age, loss, rfl, hpre, fun H' s' => q _ _ _ (c) (z.same s')⟩
theorem ok_check_limits (T : Top K mg CS) : Ok P w K mg base 2 "check_limits" s_check_limits ["age", "loss"] (sp_check_limits CS) := by
  refine Ok.of T.f_check_limits sc_check_limits (fun _ _ _ _ _ _ us hl => match us, hl with | [_, _], _ => rfl) (fun vs H Q E h => ?_) (fun f cdv A outer s H vs Q E hr h => ?_)
  · obtain ⟨age, loss, rfl, _⟩ := h
    rfl
  · obtain ⟨age, loss, rfl, hpre, kk⟩ := h
    refine ⟨_, (pss_cons (ps_if (PW.pt (pw_or (pt_not (pt_val (pe_own (ok_is_integer T) (hr.mono (by decide)) rfl (pa_cons (pv 0) pa_nil)))) (pw_or1 (pt_cmpR op_lt (pv 0) pe_int (nomark _))))) (pss_one ps_never) pss_nil)
      (pss_one (ps_if (PW.pt (pw_or (pt_not (pt_val (pe_own (ok_is_integer T) (hr.mono (by decide)) rfl (pa_cons (pv 1) pa_nil)))) (pw_or1 (pt_cmpR op_lt (pv 1) pe_int (nomark _))))) (pss_one ps_never) pss_nil))), ?_⟩
    refine run_ws (σ := [some (.int age), some (.int loss)]) (K := kV (fun v => v = .non)) (L := []) ?_ at_nil (eo_V fun v H' e s' => e ▸ kk H' s')
    refine ws_seq ?_
    refine ws_if ?_
    refine wt_orP ?_
    refine wt_not ?_
    refine wt_B ?_
    refine wp_call ?_
    refine wa_cons ?_
    refine wp_var rfl ?_
    refine wa_nil ?_
    refine wc_is_integer ?_
    refine ⟨_, rfl, ?_⟩
    apply andK
    · intro hb1
      try simp only [decide_eq_true_eq, decide_eq_false_iff_not, Bool.and_eq_true, Bool.or_eq_true, Bool.not_eq_true', Bool.and_eq_false_iff, Bool.or_eq_false_iff, Bool.not_eq_false', Bool.not_true, Bool.not_false, Bool.false_or, Bool.true_and, Bool.true_or, Bool.false_and, Bool.and_true, Bool.or_false, reduceCtorEq, not_true_eq_false, not_false_eq_true, decide_true, decide_false] at hb1
      refine wt_test ?_
      refine wp_op ?_
      refine wp_var rfl ?_
      refine wp_c ?_
      refine wr0 ?_
      refine ⟨_, rfl, ?_⟩
      exact ⟨rfl, rfl⟩
    refine ifB (fun hc2 => ?_) (fun hc2 => ?_)
    · try simp only [decide_eq_true_eq, decide_eq_false_iff_not, Bool.and_eq_true, Bool.or_eq_true, Bool.not_eq_true', Bool.and_eq_false_iff, Bool.or_eq_false_iff, Bool.not_eq_false', Bool.not_true, Bool.not_false, Bool.false_or, Bool.true_and, Bool.true_or, Bool.false_and, Bool.and_true, Bool.or_false, reduceCtorEq, not_true_eq_false, not_false_eq_true, decide_true, decide_false] at hc2
      exact ws_never (by first | omega | (simp at *; done) | (exfalso; omega) | (simp at *; omega))
    · try simp only [decide_eq_true_eq, decide_eq_false_iff_not, Bool.and_eq_true, Bool.or_eq_true, Bool.not_eq_true', Bool.and_eq_false_iff, Bool.or_eq_false_iff, Bool.not_eq_false', Bool.not_true, Bool.not_false, Bool.false_or, Bool.true_and, Bool.true_or, Bool.false_and, Bool.and_true, Bool.or_false, reduceCtorEq, not_true_eq_false, not_false_eq_true, decide_true, decide_false] at hc2
      refine ws_next ?_
      refine ws_if ?_
      refine wt_orP ?_
      refine wt_not ?_
      refine wt_B ?_
      refine wp_call ?_
      refine wa_cons ?_
      refine wp_var rfl ?_
      refine wa_nil ?_
      refine wc_is_integer ?_
      refine ⟨_, rfl, ?_⟩
      apply andK
      · intro hb3
        try simp only [decide_eq_true_eq, decide_eq_false_iff_not, Bool.and_eq_true, Bool.or_eq_true, Bool.not_eq_true', Bool.and_eq_false_iff, Bool.or_eq_false_iff, Bool.not_eq_false', Bool.not_true, Bool.not_false, Bool.false_or, Bool.true_and, Bool.true_or, Bool.false_and, Bool.and_true, Bool.or_false, reduceCtorEq, not_true_eq_false, not_false_eq_true, decide_true, decide_false] at hb3
        refine wt_test ?_
        refine wp_op ?_
        refine wp_var rfl ?_
        refine wp_c ?_
        refine wr0 ?_
        refine ⟨_, rfl, ?_⟩
        exact ⟨rfl, rfl⟩
      refine ifB (fun hc4 => ?_) (fun hc4 => ?_)
      · try simp only [decide_eq_true_eq, decide_eq_false_iff_not, Bool.and_eq_true, Bool.or_eq_true, Bool.not_eq_true', Bool.and_eq_false_iff, Bool.or_eq_false_iff, Bool.not_eq_false', Bool.not_true, Bool.not_false, Bool.false_or, Bool.true_and, Bool.true_or, Bool.false_and, Bool.and_true, Bool.or_false, reduceCtorEq, not_true_eq_false, not_false_eq_true, decide_true, decide_false] at hc4
        exact ws_never (by first | omega | (simp at *; done) | (exfalso; omega) | (simp at *; omega))
      · try simp only [decide_eq_true_eq, decide_eq_false_iff_not, Bool.and_eq_true, Bool.or_eq_true, Bool.not_eq_true', Bool.and_eq_false_iff, Bool.or_eq_false_iff, Bool.not_eq_false', Bool.not_true, Bool.not_false, Bool.false_or, Bool.true_and, Bool.true_or, Bool.false_and, Bool.and_true, Bool.or_false, reduceCtorEq, not_true_eq_false, not_false_eq_true, decide_true, decide_false] at hc4
        refine ws_next ?_
        exact rfl
theorem sc_Scheme_init : FnScope ["self", "base", "factor"] ["self", "base", "factor"] (defScope s_Scheme_init) := ⟨rfl, rfl, rfl, by decide +kernel, rfl, by decide +kernel, by decide +kernel⟩


theorem ok_Scheme_init (T : Top K mg CS) : OkC P w K mg base "Scheme" CS 3 "Scheme.__init__" s_Scheme_init ["self", "base", "factor"] (sp_Scheme_init CS) := by
  refine OkC.of T.f_Scheme_init sc_Scheme_init (fun _ _ _ _ _ _ us hl => match us, hl with | [_, _, _], _ => rfl) (fun vs H Q E h => ?_) (fun f cdv A outer s H vs Q E hr h => ?_)
  · obtain ⟨p, dx, b, f, rfl, _⟩ := h
    rfl
  · obtain ⟨p, dx, b, f, rfl, hp, hs, kk⟩ := h
    unfold SchOk at hs
    refine ⟨_, (pss_cons (ps_if (pt_not (pt_val (pe_own (ok_is_between T) (hr.mono (by decide)) rfl (pa_cons (pv 1) (pa_cons pe_int (pa_cons (pe_const rfl T.c_MOST_BASE) pa_nil)))))) (pss_one ps_never) pss_nil)
      (pss_cons (ps_if (pt_not (pt_val (pe_own (ok_is_between T) (hr.mono (by decide)) rfl (pa_cons (pv 2) (pa_cons pe_int (pa_cons (pe_const rfl T.c_MOST_FACTOR) pa_nil)))))) (pss_one ps_never) pss_nil)
      (pss_cons (ps_fld (pv 0) (pv 1) rfl)
      (pss_one (ps_fld (pv 0) (pv 2) rfl))))), ?_⟩
    refine run_ws (σ := [some (.ref p), some (.int b), some (.int f)]) (g := ⟨H, fun c => c = p⟩) (L := [(p, .ob (.ins CS dx []), true)]) (K := { nx := fun _ L => L = [(p, .ob (.ins CS dx (scF b f)), true)], rt := fun _ _ => False }) ?_ (at_cons at_nil hp rfl (by simp) (fun _ => .inr rfl)) ⟨fun σ L H' e z => ?_, fun _ _ _ e _ => e.elim, fun _ _ _ e _ => e.elim, fun _ _ _ e _ => e.elim⟩
    rotate_left
    · have e : L = [(p, .ob (.ins CS dx (scF b f)), true)] := e
      subst e
      exact kk H' (z.get (i := 0) rfl) fun q o h hn => z.old q o h hn
    refine ws_seq ?_
    refine ws_if ?_
    refine wt_not ?_
    refine wt_B ?_
    refine wp_call ?_
    refine wa_cons ?_
    refine wp_var rfl ?_
    refine wa_cons ?_
    refine wp_c ?_
    refine wa_cons ?_
    refine wp_c ?_
    refine wa_nil ?_
    refine wc_is_between ?_
    refine ⟨_, rfl, ?_⟩
    refine ifB (fun hc1 => ?_) (fun hc1 => ?_)
    · try simp only [decide_eq_true_eq, decide_eq_false_iff_not, Bool.and_eq_true, Bool.or_eq_true, Bool.not_eq_true', Bool.and_eq_false_iff, Bool.or_eq_false_iff, Bool.not_eq_false', Bool.not_true, Bool.not_false, Bool.false_or, Bool.true_and, Bool.true_or, Bool.false_and, Bool.and_true, Bool.or_false, reduceCtorEq, not_true_eq_false, not_false_eq_true, decide_true, decide_false] at hc1
      exact ws_never (by first | omega | (simp at *; done) | (exfalso; omega) | (simp at *; omega))
    · try simp only [decide_eq_true_eq, decide_eq_false_iff_not, Bool.and_eq_true, Bool.or_eq_true, Bool.not_eq_true', Bool.and_eq_false_iff, Bool.or_eq_false_iff, Bool.not_eq_false', Bool.not_true, Bool.not_false, Bool.false_or, Bool.true_and, Bool.true_or, Bool.false_and, Bool.and_true, Bool.or_false, reduceCtorEq, not_true_eq_false, not_false_eq_true, decide_true, decide_false] at hc1
      refine ws_next ?_
      refine ws_seq ?_
      refine ws_if ?_
      refine wt_not ?_
      refine wt_B ?_
      refine wp_call ?_
      refine wa_cons ?_
      refine wp_var rfl ?_
      refine wa_cons ?_
      refine wp_c ?_
      refine wa_cons ?_
      refine wp_c ?_
      refine wa_nil ?_
      refine wc_is_between ?_
      refine ⟨_, rfl, ?_⟩
      refine ifB (fun hc2 => ?_) (fun hc2 => ?_)
      · try simp only [decide_eq_true_eq, decide_eq_false_iff_not, Bool.and_eq_true, Bool.or_eq_true, Bool.not_eq_true', Bool.and_eq_false_iff, Bool.or_eq_false_iff, Bool.not_eq_false', Bool.not_true, Bool.not_false, Bool.false_or, Bool.true_and, Bool.true_or, Bool.false_and, Bool.and_true, Bool.or_false, reduceCtorEq, not_true_eq_false, not_false_eq_true, decide_true, decide_false] at hc2
        exact ws_never (by first | omega | (simp at *; done) | (exfalso; omega) | (simp at *; omega))
      · try simp only [decide_eq_true_eq, decide_eq_false_iff_not, Bool.and_eq_true, Bool.or_eq_true, Bool.not_eq_true', Bool.and_eq_false_iff, Bool.or_eq_false_iff, Bool.not_eq_false', Bool.not_true, Bool.not_false, Bool.false_or, Bool.true_and, Bool.true_or, Bool.false_and, Bool.and_true, Bool.or_false, reduceCtorEq, not_true_eq_false, not_false_eq_true, decide_true, decide_false] at hc2
        refine ws_next ?_
        refine ws_seq ?_
        refine ws_fld 0 T.cl_Scheme T.n_Scheme_radix ?_
        refine wp_var rfl ?_
        refine wp_var rfl ?_
        refine ⟨_, _, _, rfl, rfl, by first | decide | (simp [putF]; done) | (simp [putF]; split <;> simp), rfl, ?_⟩
        refine ws_fld 0 T.cl_Scheme T.n_Scheme_multiple ?_
        refine wp_var rfl ?_
        refine wp_var rfl ?_
        refine ⟨_, _, _, rfl, rfl, by first | decide | (simp [putF]; done) | (simp [putF]; split <;> simp), rfl, ?_⟩
        exact rfl
theorem sc_factor_for : FnScope ["base", "age", "loss", "unit"] ["base", "age", "loss"] (defScope s_factor_for) := ⟨rfl, rfl, rfl, by decide +kernel, rfl, by decide +kernel, by decide +kernel⟩
def sp_factor_for (CS : Addr) : Sp := fun vs H Q _ => ∃ (b age loss : Int), (vs = [.int b, .int age, .int loss]) ∧ (2 ≤ b ∧ b ≤ 1000 ∧ 0 ≤ loss ∧ loss ≤ 10 ^ 60) ∧ ∀ (F : Int) (H' : Hp), (Ma.IsFac b age loss F) → Same H H' → Q (.int F) H'
theorem wc_factor_for {CS : Addr} {g : Gr} {L : Led} {C : V → Led → Prop} {E : XK} {b age loss : Int} (hpre : 2 ≤ b ∧ b ≤ 1000 ∧ 0 ≤ loss ∧ loss ≤ 10 ^ 60) (c : ∀ (F : Int), (Ma.IsFac b age loss F) → C (.int F) L) : Wp g L (fun H Q => sp_factor_for CS [.int b, .int age, .int loss] H Q E) C := fun H z Q q => ⟨b, age, loss, rfl, hpre, fun F H' hpost s' => q _ _ _ (c F hpost) (z.same s')⟩
theorem ok_factor_for (T : Top K mg CS) : Ok P w K mg base 1 "factor_for" s_factor_for ["base", "age", "loss"] (sp_factor_for CS) := by
  refine Ok.of T.f_factor_for sc_factor_for (fun _ _ _ _ _ _ us hl => match us, hl with | [_, _, _], _ => rfl) (fun vs H Q E h => ?_) (fun f cdv A outer s H vs Q E hr h => ?_)
  · obtain ⟨b, age, loss, rfl, _⟩ := h
    rfl
  · obtain ⟨b, age, loss, rfl, hpre, kk⟩ := h
    refine ⟨_, (pss_cons (ps_if (pt_cmpR op_le (pv 1) pe_int (nomark _)) (pss_one (ps_ret pe_int)) pss_nil)
      (pss_cons (ps_set (i := 3) sc_factor_for.nd rfl (Or.inl rfl) pe_int)
      (pss_cons (ps_while PassesOwn.never (pt_cmpR op_le (pe_op op_sub (pe_op op_mulW (pv 3) (pv 0)) pe_int) (pv 2) (nomark _)) (pss_one (ps_set (i := 3) sc_factor_for.nd rfl (Or.inl rfl) (pe_op op_mulW (pv 3) (pv 0)))))
      (pss_one (ps_ret (pe_op op_add (pe_op op_fdivW (pe_op op_sub (pe_op op_add (pe_op op_sub (pv 1) pe_int) (pv 3)) pe_int) (pv 3)) pe_int)))))), ?_⟩
    refine run_ws (σ := [some (.int b), some (.int age), some (.int loss), none]) (K := kV (fun v => ∃ (F : Int), v = (.int F) ∧ (Ma.IsFac b age loss F))) (L := []) ?_ at_nil (eo_V fun v H' ⟨F, e, hpost⟩ s' => e ▸ kk F H' hpost s')
    refine ws_seq ?_
    refine ws_if ?_
    refine wt_test ?_
    refine wp_op ?_
    refine wp_var rfl ?_
    refine wp_c ?_
    refine wr0 ?_
    refine ⟨_, rfl, ?_⟩
    refine ifB (fun hc1 => ?_) (fun hc1 => ?_)
    · try simp only [decide_eq_true_eq, decide_eq_false_iff_not, Bool.and_eq_true, Bool.or_eq_true, Bool.not_eq_true', Bool.and_eq_false_iff, Bool.or_eq_false_iff, Bool.not_eq_false', Bool.not_true, Bool.not_false, Bool.false_or, Bool.true_and, Bool.true_or, Bool.false_and, Bool.and_true, Bool.or_false, reduceCtorEq, not_true_eq_false, not_false_eq_true, decide_true, decide_false] at hc1
      refine ws_ret ?_
      refine wp_c ?_
      exact ⟨1, rfl, .inl ⟨by omega, rfl⟩⟩
    · try simp only [decide_eq_true_eq, decide_eq_false_iff_not, Bool.and_eq_true, Bool.or_eq_true, Bool.not_eq_true', Bool.and_eq_false_iff, Bool.or_eq_false_iff, Bool.not_eq_false', Bool.not_true, Bool.not_false, Bool.false_or, Bool.true_and, Bool.true_or, Bool.false_and, Bool.and_true, Bool.or_false, reduceCtorEq, not_true_eq_false, not_false_eq_true, decide_true, decide_false] at hc1
      refine ws_next ?_
      refine ws_seq ?_
      refine ws_set ?_
      refine wp_c ?_
      refine ws_seq ?_
      refine ws_whileN (fun n σ L => ∃ u : Int, σ = [some (.int b), some (.int age), some (.int loss), some (.int u)] ∧ L = [] ∧ Ma.IsPow b u ∧ u ≤ loss + 1 ∧ n = (loss + 1 - u).toNat) ?_ ?_
      · exact ⟨_, 1, rfl, rfl, Ma.IsPow.one b, by omega, rfl⟩
      rintro mm σ L ⟨u, rfl, rfl, hp, hu, hn⟩
      have hu1 := hp.pos (b := b) (by omega)
      refine wt_test ?_
      refine wp_op ?_
      refine wp_op ?_
      refine wp_op ?_
      refine wp_var rfl ?_
      refine wp_var rfl ?_
      refine wr1 (by exact mulOk (by omega) (by omega)) ?_
      refine wp_c ?_
      refine wr0 ?_
      refine wp_var rfl ?_
      refine wr0 ?_
      refine ⟨_, rfl, ?_⟩
      refine ifB (fun hc => ?_) (fun hc => ?_)
      · try simp only [decide_eq_true_eq, decide_eq_false_iff_not, Bool.and_eq_true, Bool.or_eq_true, Bool.not_eq_true', Bool.and_eq_false_iff, Bool.or_eq_false_iff, Bool.not_eq_false', Bool.not_true, Bool.not_false, Bool.false_or, Bool.true_and, Bool.true_or, Bool.false_and, Bool.and_true, Bool.or_false, reduceCtorEq, not_true_eq_false, not_false_eq_true, decide_true, decide_false] at hc
        refine ws_set ?_
        refine wp_op ?_
        refine wp_var rfl ?_
        refine wp_var rfl ?_
        refine wr1 (by exact mulOk (by omega) (by omega)) ?_
        have h2 : u * 2 ≤ u * b := Int.mul_le_mul_of_nonneg_left (by omega) (by omega)
        exact ⟨_, _, by omega, ⟨u * b, rfl, rfl, hp.mul, by omega, rfl⟩, List.prefix_refl _⟩
      · try simp only [decide_eq_true_eq, decide_eq_false_iff_not, Bool.and_eq_true, Bool.or_eq_true, Bool.not_eq_true', Bool.and_eq_false_iff, Bool.or_eq_false_iff, Bool.not_eq_false', Bool.not_true, Bool.not_false, Bool.false_or, Bool.true_and, Bool.true_or, Bool.false_and, Bool.and_true, Bool.or_false, reduceCtorEq, not_true_eq_false, not_false_eq_true, decide_true, decide_false] at hc
        refine ws_ret ?_
        refine wp_op ?_
        refine wp_op ?_
        refine wp_op ?_
        refine wp_op ?_
        refine wp_op ?_
        refine wp_var rfl ?_
        refine wp_c ?_
        refine wr0 ?_
        refine wp_var rfl ?_
        refine wr0 ?_
        refine wp_c ?_
        refine wr0 ?_
        refine wp_var rfl ?_
        refine wr1 (by exact divOk (by omega)) ?_
        refine wp_c ?_
        refine wr0 ?_
        have hu1 := hp.pos (b := b) (by omega)
        have hc := Ma.ceil_ok (a := age - 1) hu1 (by omega)
        exact ⟨_, rfl, .inr ⟨by omega, u, ⟨hp, by omega, by omega⟩, hc⟩⟩
theorem sc_schemes_for : FnScope ["bases", "age", "loss", "factors", "base", "factor"] ["bases", "age", "loss"] (defScope s_schemes_for) := ⟨rfl, rfl, rfl, by decide +kernel, rfl, by decide +kernel, by decide +kernel⟩
def sp_schemes_for (CS : Addr) : Sp := fun vs H Q _ => ∃ (a : Addr) (ns : List Int) (age loss : Int), (vs = [.ref a, .int age, .int loss]) ∧ (H a = some (.lst (ns.map V.int))) ∧ (Ma.BasOk ns ∧ 0 ≤ age ∧ 0 ≤ loss ∧ loss ≤ 10 ^ 60) ∧ ∀ (p : Addr) (H' : Hp), H p = none → Same H H' → EntAt (.inss CS ((Ma.sclL ns age loss).map fun p => scF p.1 p.2)) H' p → Q (.ref p) H'
theorem wc_schemes_for {CS : Addr} {g : Gr} {L : Led} {C : V → Led → Prop} {E : XK} {a : Addr} {ns : List Int} {age loss : Int} {bo0 : Bool} (i0 : Nat) (h0 : L[i0]? = some (a, .ob (.lst (ns.map V.int)), bo0)) (hpre : Ma.BasOk ns ∧ 0 ≤ age ∧ 0 ≤ loss ∧ loss ≤ 10 ^ 60) (c : ∀ p : Addr, C (.ref p) (L ++ [(p, .inss CS ((Ma.sclL ns age loss).map fun p => scF p.1 p.2), true)])) : Wp g L (fun H Q => sp_schemes_for CS [.ref a, .int age, .int loss] H Q E) C := fun H z Q q => ⟨a, ns, age, loss, rfl, z.get h0, hpre, fun p H' n s' hp => q _ _ _ (c p) (z.newInss s' n hp)⟩
theorem ok_schemes_for (T : Top K mg CS) : Ok P w K mg base 5 "schemes_for" s_schemes_for ["bases", "age", "loss"] (sp_schemes_for CS) := by
  refine Ok.of T.f_schemes_for sc_schemes_for (fun _ _ _ _ _ _ us hl => match us, hl with | [_, _, _], _ => rfl) (fun vs H Q E h => ?_) (fun f cdv A outer s H vs Q E hr h => ?_)
  · obtain ⟨a, ns, age, loss, rfl, _⟩ := h
    rfl
  · obtain ⟨a, ns, age, loss, rfl, hh0, hpre, kk⟩ := h
    have hbm := hpre.1.2.1
    have hbr := hpre.1.2.2.1
    refine ⟨_, (pss_cons (ps_expr (pe_own (ok_check_bases T) (hr.mono (by decide)) rfl (pa_cons (pv 0) pa_nil)))
      (pss_cons (ps_expr (pe_own (ok_check_limits T) (hr.mono (by decide)) rfl (pa_cons (pv 1) (pa_cons (pv 2) pa_nil))))
      (pss_cons (ps_setLc (i := 3) (own := [("base", 4)]) rfl sc_schemes_for.nd rfl rfl (sw_true rfl rfl rfl (by decide +kernel)) (pi_list (pv 0)) (blkOk_by (N := ["bases", "age", "loss", "factors", "base", "factor"]) (sc := defScope s_schemes_for) (by decide +kernel)) (fun _ _ _ _ _ => (pg_name (i := 4) sc_schemes_for.nd rfl (Or.inl rfl))) (fun _ _ _ _ _ => pts_nil) (fun _ _ _ _ _ => (pe_tup (pa_cons (pv 4) (pa_cons (pe_own (ok_factor_for T) (hr.mono (by decide)) rfl (pa_cons (pv 4) (pa_cons (pv 1) (pa_cons (pv 2) pa_nil)))) pa_nil)))))
      (pss_one (ps_ret (pe_lc (own := [("base", 4), ("factor", 5)]) rfl sc_schemes_for.nd (pi_list (pv 3)) (blkOk_by (N := ["bases", "age", "loss", "factors", "base", "factor"]) (sc := defScope s_schemes_for) (by decide +kernel)) (fun _ _ _ _ _ => (pg_tupK (Kf := K) (n := 2) rfl rfl (pgs_cons (pg_name (i := 4) sc_schemes_for.nd rfl (Or.inl rfl)) (pgs_cons (pg_name (i := 5) sc_schemes_for.nd rfl (Or.inl rfl)) pgs_nil)) rfl)) (fun _ _ _ _ _ => (pts_one (pt_cmpR op_le (pv 5) (pe_const rfl T.c_MOST_FACTOR) (nomark _)))) (fun _ _ _ _ _ => (pe_oc (ok_Scheme_init T) (hr.mono (by decide)) rfl (pa_cons (pv 4) (pa_cons (pv 5) pa_nil)))))))))), ?_⟩
    refine run_ws (σ := [some (.ref a), some (.int age), some (.int loss), none, none, none]) (K := kInss CS (fun fss => fss = ((Ma.sclL ns age loss).map fun p => scF p.1 p.2))) (L := [(a, .ob (.lst (ns.map V.int)), false)]) ?_ (at_one hh0) (eo_Inss fun p H' fss e n s' hp => kk p H' n s' (e ▸ hp))
    refine ws_seq ?_
    refine ws_drop ?_
    refine wp_call ?_
    refine wa_cons ?_
    refine wp_var rfl ?_
    refine wa_nil ?_
    refine wc_check_bases 0 rfl hpre.1 ?_
    refine ws_seq ?_
    refine ws_drop ?_
    refine wp_call ?_
    refine wa_cons ?_
    refine wp_var rfl ?_
    refine wa_cons ?_
    refine wp_var rfl ?_
    refine wa_nil ?_
    refine wc_check_limits (by omega) ?_
    refine ws_seq ?_
    refine ws_set ?_
    refine wp_lc ?_
    refine wi_list ?_
    refine wp_var rfl ?_
    refine ⟨_, _, rfl, (seen 0 rfl), ?_⟩
    refine lc_T row2 (fun _ => true) (fun b => (b, Ma.facF b age loss)) (iter_list V.int (seen 0 rfl)) (fun _ => rfl) (by omega) ?_ ?_
    · rintro n hx D acc
      have hn := hbr n hx
      refine wt_yes ?_
      refine ⟨rfl, ?_⟩
      refine ifT rfl ?_
      refine wp_tup ?_
      refine wa_cons ?_
      refine wp_var rfl ?_
      refine wa_cons ?_
      refine wp_call ?_
      refine wa_cons ?_
      refine wp_var rfl ?_
      refine wa_cons ?_
      refine wp_var rfl ?_
      refine wa_cons ?_
      refine wp_var rfl ?_
      refine wa_nil ?_
      refine wc_factor_for (by omega) ?_
      intro FF hFF
      refine wa_nil ?_
      refine ⟨by simp, fun p1 => ?_⟩
      exact ⟨⟨_, 2, _, rfl, by rw [Ma.facF_eq (by omega) hFF]; rfl⟩, by first | exact List.prefix_refl _ | exact ⟨_, rfl⟩⟩
    intro p2
    refine ws_ret ?_
    refine wp_lc ?_
    refine wi_rows 1 ?_
    refine wp_var rfl ?_
    refine ⟨_, _, _, rfl, rfl, ?_⟩
    refine lc_NI CS (fun p : Int × Int => scF p.1 p.2) (fun p => decide (p.2 ≤ 1000000)) (fun p => p) (iter_rows [4, 5] row2 1 rfl (fun _ => rfl) rfl) (fun _ => rfl) (by (rw [List.length_map, List.filter_eq_self.mpr (fun _ _ => rfl)]; omega)) ?_ ?_
    · rintro p hx D acc
      obtain ⟨n, hn, rfl⟩ := List.mem_map.mp hx
      have hn := (List.mem_filter.mp hn).1
      have hn2 := hbr n hn
      have hn3 := (Ma.fac_pos (Ma.facF_is (age := age) (loss := loss) hn2.1 (by omega))).1
      refine wt_test ?_
      refine wp_op ?_
      refine wp_var rfl ?_
      refine wp_c ?_
      refine wr0 ?_
      refine ⟨_, rfl, ?_⟩
      refine ⟨rfl, ?_⟩
      refine ifB (fun hc => ?_) (fun hc => ?_)
      · try simp only [decide_eq_true_eq, decide_eq_false_iff_not, Bool.and_eq_true, Bool.or_eq_true, Bool.not_eq_true', Bool.and_eq_false_iff, Bool.or_eq_false_iff, Bool.not_eq_false', Bool.not_true, Bool.not_false, Bool.false_or, Bool.true_and, Bool.true_or, Bool.false_and, Bool.and_true, Bool.or_false, reduceCtorEq, not_true_eq_false, not_false_eq_true, decide_true, decide_false] at hc
        refine wm_Scheme ?_
        refine wa_cons ?_
        refine wp_var rfl ?_
        refine wa_cons ?_
        refine wp_var rfl ?_
        refine wa_nil ?_
        refine ⟨_, _, rfl, by (unfold SchOk; omega), fun p3 dp3 => ?_⟩
        exact ⟨⟨_, _, 3, _, rfl, rfl⟩, by first | exact List.prefix_refl _ | exact ⟨_, rfl⟩⟩
      · first | exact List.prefix_refl _ | exact ⟨_, rfl⟩
    intro p4
    exact ⟨_, _, 2, rfl, rfl, by rw [List.filter_eq_self.mpr (fun _ _ => rfl), List.map_id']; rfl⟩
theorem sc__law_cell_at : FnScope ["_law_script", "_law_k"] ["_law_script", "_law_k"] (defScope s__law_cell_at) := ⟨rfl, rfl, rfl, by decide +kernel, rfl, by decide +kernel, by decide +kernel⟩
def sp__law_cell_at (K : PySem.W.Frag) (CS : Addr) : Sp := fun vs H Q _ => ∃ (a : Addr) (ns : List Int) (k : Int), vs = [.ref a, .int k] ∧ SqL K H a (ns.map V.int) ∧ 0 ≤ k ∧ ∀ (n : Int) (H' : Hp), Same H H' → Q (.int n) H'
theorem wc__law_cell_at {K : PySem.W.Frag} {CS : Addr} {g : Gr} {L : Led} {C : V → Led → Prop} {E : XK} {a : Addr} {ns : List Int} {k : Int} (s : Seen K g L a (ns.map V.int)) (hk : 0 ≤ k) (c : ∀ n : Int, C (.int n) L) : Wp g L (fun H Q => sp__law_cell_at K CS [.ref a, .int k] H Q E) C :=
  fun H z Q q => ⟨a, ns, k, rfl, s.at_ H z, hk, fun n H' s' => q _ _ _ (c n) (z.same s')⟩

theorem ok__law_cell_at (T : Top K mg CS) : Ok P w K mg base 1 "_law_cell_at" s__law_cell_at ["_law_script", "_law_k"] (sp__law_cell_at K CS) := by
  refine Ok.of T.f__law_cell_at sc__law_cell_at (fun _ _ _ _ _ _ us hl => match us, hl with | [_, _], _ => rfl) (fun vs H Q E h => ?_) (fun f cdv A outer s H vs Q E hr h => ?_)
  · obtain ⟨a, ns, k, rfl, _⟩ := h
    rfl
  · obtain ⟨a, ns, k, rfl, hS0, hk, kk⟩ := h
    have hS : ∀ {L : Led}, Seen K ⟨H, fun _ => False⟩ L a (ns.map V.int) := seen0 hS0 (fun z => z)
    refine ⟨_, (pss_cons (ps_if (pt_cmpR op_lt (pv 1) (pe_callB c_len (by rfl) T.b_len PySem.boot_len (pa_cons (pv 0) pa_nil)) (nomark _)) (pss_one (ps_ret (pe_ix ix_list (pv 0) (pv 1) (fun _ _ => rfl)))) pss_nil)
      (pss_one (ps_ret pe_int))), ?_⟩
    refine run_ws (σ := [some (.ref a), some (.int k)]) (K := kV (fun v => ∃ n : Int, v = .int n)) (L := []) ?_ at_nil (eo_V fun v H' ⟨n, e⟩ s' => e ▸ kk n H' s')
    refine ws_seq ?_
    refine ws_if ?_
    refine wt_test ?_
    refine wp_op ?_
    refine wp_var rfl ?_
    refine wp_cb ?_
    refine wa_cons ?_
    refine wp_var rfl ?_
    refine wa_nil ?_
    refine wc_len hS ?_
    refine wr0 ?_
    refine ⟨_, rfl, ?_⟩
    refine ifB (fun hc1 => ?_) (fun hc1 => ?_)
    · try simp only [decide_eq_true_eq, decide_eq_false_iff_not, Bool.and_eq_true, Bool.or_eq_true, Bool.not_eq_true', Bool.and_eq_false_iff, Bool.or_eq_false_iff, Bool.not_eq_false', Bool.not_true, Bool.not_false, Bool.false_or, Bool.true_and, Bool.true_or, Bool.false_and, Bool.and_true, Bool.or_false, reduceCtorEq, not_true_eq_false, not_false_eq_true, decide_true, decide_false] at hc1
      obtain ⟨v, hv, hvm⟩ := atI_in hk hc1
      obtain ⟨n, rfl⟩ := ints_all v hvm
      refine ws_ret ?_
      refine wp_op ?_
      refine wp_var rfl ?_
      refine wp_var rfl ?_
      refine wr_ixL hS (hv) ?_
      exact ⟨_, rfl⟩
    · try simp only [decide_eq_true_eq, decide_eq_false_iff_not, Bool.and_eq_true, Bool.or_eq_true, Bool.not_eq_true', Bool.and_eq_false_iff, Bool.or_eq_false_iff, Bool.not_eq_false', Bool.not_true, Bool.not_false, Bool.false_or, Bool.true_and, Bool.true_or, Bool.false_and, Bool.and_true, Bool.or_false, reduceCtorEq, not_true_eq_false, not_false_eq_true, decide_true, decide_false] at hc1
      refine ws_next ?_
      refine ws_ret ?_
      refine wp_c ?_
      exact ⟨_, rfl⟩
theorem sc__law_one : FnScope ["_law_source", "_law_options"] ["_law_source", "_law_options"] (defScope s__law_one) := ⟨rfl, rfl, rfl, by decide +kernel, rfl, by decide +kernel, by decide +kernel⟩
def sp__law_one (CS : Addr) : Sp := fun vs H Q _ => ∃ (a q : Addr) (m : Nat) (xs : List V), vs = [.ref a, .ref q] ∧ EntAt (.src m) H a ∧ H q = some (.lst xs) ∧ a ≠ q ∧ m ≤ 1000000 ∧ (1 ≤ xs.length ∧ xs.length ≤ 1000) ∧ ∀ (v : V) (H' : Hp), v ∈ xs → EntAt (.src (m + 1)) H' a → Exc a H H' → Q v H'
theorem wc__law_one {CS : Addr} {g : Gr} {L : Led} {C : V → Led → Prop} {E : XK} {a q : Addr} {m : Nat} {xs : List V} {bo : Bool} {P : Int → Prop} (i j : Nat) (h : L[i]? = some (a, .src m, true)) (h2 : L[j]? = some (q, .ob (.lst xs), bo)) (hij : i ≠ j) (hm : m ≤ 1000000) (hl : 1 ≤ xs.length ∧ xs.length ≤ 1000)
    (hP : ∀ v ∈ xs, ∃ n : Int, v = .int n ∧ P n) (c : ∀ n : Int, P n → C (.int n) (L.set i (a, .src (m + 1), true))) : Wp g L (fun H Q => sp__law_one CS [.ref a, .ref q] H Q E) C :=
  fun H z Q k => ⟨a, q, m, xs, rfl, z.look h, z.get h2, z.ne h h2 hij, hm, hl, fun v H' hv he hx => by
    obtain ⟨n, e, hn⟩ := hP v hv
    subst e
    exact k _ _ _ (c n hn) (z.draw h hx he)⟩

theorem ok__law_one (T : Top K mg CS) : Ok P w K mg base 2 "_law_one" s__law_one ["_law_source", "_law_options"] (sp__law_one CS) := by
  refine Ok.of T.f__law_one sc__law_one (fun _ _ _ _ _ _ us hl => match us, hl with | [_, _], _ => rfl) (fun vs H Q E h => ?_) (fun f cdv A outer s H vs Q E hr h => ?_)
  · obtain ⟨a, q, m, xs, rfl, _⟩ := h
    rfl
  · obtain ⟨a, q, m, xs, rfl, ⟨o, ha, he⟩, hq, hne, hm, hl, kk⟩ := h
    refine ⟨_, (pss_one (ps_ret (pe_ix ix_list (pv 1) (pe_own (ok__law_next T) (hr.mono (by decide)) rfl (pa_cons (pv 0) (pa_cons (pe_callB c_len (by rfl) T.b_len PySem.boot_len (pa_cons (pv 1) pa_nil)) pa_nil))) (fun _ _ => rfl)))), ?_⟩
    refine run_ws (σ := [some (.ref a), some (.ref q)]) (g := ⟨H, fun c => c = a⟩) (K := kM a (.src (m + 1)) 0 (fun v => v ∈ xs)) (L := [(a, .src m, true), (q, .ob (.lst xs), false)]) ?_ (at_cons (at_one hq) ha he (by simpa using hne) (fun _ => .inr rfl)) (eo_M fun v H' r he hx => kk v H' r he hx)
    refine ws_ret ?_
    refine wp_op ?_
    refine wp_var rfl ?_
    refine wp_call ?_
    refine wa_cons ?_
    refine wp_var rfl ?_
    refine wa_cons ?_
    refine wp_cb ?_
    refine wa_cons ?_
    refine wp_var rfl ?_
    refine wa_nil ?_
    refine wc_len (seen 1 rfl) ?_
    refine wa_nil ?_
    refine wc__law_next 0 rfl hm (by omega) ?_
    intro nx hnx
    obtain ⟨v, hv, hvm⟩ := atI_in hnx.1 hnx.2
    refine wr_ixL (seen 1 rfl) (hv) ?_
    exact ⟨hvm, rfl⟩
theorem sc_check_time : FnScope ["time"] ["time"] (defScope s_check_time) := ⟨rfl, rfl, rfl, by decide +kernel, rfl, by decide +kernel, by decide +kernel⟩
def sp_check_time (CS : Addr) : Sp := fun vs H Q _ => ∃ (n : Int), (vs = [.int n]) ∧ (0 ≤ n) ∧ ∀ (H' : Hp), Same H H' → Q .non H'
theorem wc_check_time {CS : Addr} {g : Gr} {L : Led} {C : V → Led → Prop} {E : XK} {n : Int} (hpre : 0 ≤ n) (c : C .non L) : Wp g L (fun H Q => sp_check_time CS [.int n] H Q E) C := fun H z Q q => ⟨n, rfl, hpre, fun H' s' => q _ _ _ (c) (z.same s')⟩
theorem ok_check_time (T : Top K mg CS) : Ok P w K mg base 2 "check_time" s_check_time ["time"] (sp_check_time CS) := by
  refine Ok.of T.f_check_time sc_check_time (fun _ _ _ _ _ _ us hl => match us, hl with | [_], _ => rfl) (fun vs H Q E h => ?_) (fun f cdv A outer s H vs Q E hr h => ?_)
  · obtain ⟨n, rfl, _⟩ := h
    rfl
  · obtain ⟨n, rfl, hpre, kk⟩ := h
    refine ⟨_, (pss_one (ps_if (PW.pt (pw_or (pt_not (pt_val (pe_own (ok_is_integer T) (hr.mono (by decide)) rfl (pa_cons (pv 0) pa_nil)))) (pw_or1 (pt_cmpR op_lt (pv 0) pe_int (nomark _))))) (pss_one ps_never) pss_nil)), ?_⟩
    refine run_ws (σ := [some (.int n)]) (K := kV (fun v => v = .non)) (L := []) ?_ at_nil (eo_V fun v H' e s' => e ▸ kk H' s')
    refine ws_if ?_
    refine wt_orP ?_
    refine wt_not ?_
    refine wt_B ?_
    refine wp_call ?_
    refine wa_cons ?_
    refine wp_var rfl ?_
    refine wa_nil ?_
    refine wc_is_integer ?_
    refine ⟨_, rfl, ?_⟩
    apply andK
    · intro hb1
      try simp only [decide_eq_true_eq, decide_eq_false_iff_not, Bool.and_eq_true, Bool.or_eq_true, Bool.not_eq_true', Bool.and_eq_false_iff, Bool.or_eq_false_iff, Bool.not_eq_false', Bool.not_true, Bool.not_false, Bool.false_or, Bool.true_and, Bool.true_or, Bool.false_and, Bool.and_true, Bool.or_false, reduceCtorEq, not_true_eq_false, not_false_eq_true, decide_true, decide_false] at hb1
      refine wt_test ?_
      refine wp_op ?_
      refine wp_var rfl ?_
      refine wp_c ?_
      refine wr0 ?_
      refine ⟨_, rfl, ?_⟩
      exact ⟨rfl, rfl⟩
    refine ifB (fun hc2 => ?_) (fun hc2 => ?_)
    · try simp only [decide_eq_true_eq, decide_eq_false_iff_not, Bool.and_eq_true, Bool.or_eq_true, Bool.not_eq_true', Bool.and_eq_false_iff, Bool.or_eq_false_iff, Bool.not_eq_false', Bool.not_true, Bool.not_false, Bool.false_or, Bool.true_and, Bool.true_or, Bool.false_and, Bool.and_true, Bool.or_false, reduceCtorEq, not_true_eq_false, not_false_eq_true, decide_true, decide_false] at hc2
      exact ws_never (by first | omega | (simp at *; done) | (exfalso; omega) | (simp at *; omega))
    · try simp only [decide_eq_true_eq, decide_eq_false_iff_not, Bool.and_eq_true, Bool.or_eq_true, Bool.not_eq_true', Bool.and_eq_false_iff, Bool.or_eq_false_iff, Bool.not_eq_false', Bool.not_true, Bool.not_false, Bool.false_or, Bool.true_and, Bool.true_or, Bool.false_and, Bool.and_true, Bool.or_false, reduceCtorEq, not_true_eq_false, not_false_eq_true, decide_true, decide_false] at hc2
      refine ws_next ?_
      exact rfl
theorem sc_multiples : FnScope ["unit", "first", "after", "low"] ["unit", "first", "after"] (defScope s_multiples) := ⟨rfl, rfl, rfl, by decide +kernel, rfl, by decide +kernel, by decide +kernel⟩
def sp_multiples (CS : Addr) : Sp := fun vs H Q _ => ∃ (u l w : Int), (vs = [.int u, .int l, .int w]) ∧ (1 ≤ u ∧ u ≤ 10 ^ 100) ∧ ∀ (H' : Hp), Same H H' → Q (.int (Ma.mulF u l w)) H'
theorem wc_multiples {CS : Addr} {g : Gr} {L : Led} {C : V → Led → Prop} {E : XK} {u l w : Int} (hpre : 1 ≤ u ∧ u ≤ 10 ^ 100) (c : C (.int (Ma.mulF u l w)) L) : Wp g L (fun H Q => sp_multiples CS [.int u, .int l, .int w] H Q E) C := fun H z Q q => ⟨u, l, w, rfl, hpre, fun H' s' => q _ _ _ (c) (z.same s')⟩
theorem ok_multiples (T : Top K mg CS) : Ok P w K mg base 1 "multiples" s_multiples ["unit", "first", "after"] (sp_multiples CS) := by
  refine Ok.of T.f_multiples sc_multiples (fun _ _ _ _ _ _ us hl => match us, hl with | [_, _, _], _ => rfl) (fun vs H Q E h => ?_) (fun f cdv A outer s H vs Q E hr h => ?_)
  · obtain ⟨u, l, w, rfl, _⟩ := h
    rfl
  · obtain ⟨u, l, w, rfl, hpre, kk⟩ := h
    refine ⟨_, (pss_cons (ps_set (i := 3) sc_multiples.nd rfl (Or.inl rfl) (pe_callB (c_max2 rfl) (by rfl) T.b_max (by decide +kernel) (pa_cons (pv 1) (pa_cons pe_int pa_nil))))
      (pss_one (ps_ret (pe_ifExp (pt_cmpR op_gt (pv 2) (pv 3) (nomark _)) (pe_callB (c_max2 rfl) (by rfl) T.b_max (by decide +kernel) (pa_cons pe_int (pa_cons (pe_op op_sub (pe_op op_fdivW (pe_op op_sub (pv 2) pe_int) (pv 0)) (pe_op op_fdivW (pe_op op_sub (pv 3) pe_int) (pv 0))) pa_nil))) pe_int)))), ?_⟩
    refine run_ws (σ := [some (.int u), some (.int l), some (.int w), none]) (K := kV (fun v => v = (.int (Ma.mulF u l w)))) (L := []) ?_ at_nil (eo_V fun v H' e s' => e ▸ kk H' s')
    refine ws_seq ?_
    refine ws_set ?_
    refine wp_cb ?_
    refine wa_cons ?_
    refine wp_var rfl ?_
    refine wa_cons ?_
    refine wp_c ?_
    refine wa_nil ?_
    refine wc_max2 ?_
    refine ws_ret ?_
    refine wp_if ?_
    refine wt_test ?_
    refine wp_op ?_
    refine wp_var rfl ?_
    refine wp_var rfl ?_
    refine wr0 ?_
    refine ⟨_, rfl, ?_⟩
    refine ifB (fun hc1 => ?_) (fun hc1 => ?_)
    · try simp only [decide_eq_true_eq, decide_eq_false_iff_not, Bool.and_eq_true, Bool.or_eq_true, Bool.not_eq_true', Bool.and_eq_false_iff, Bool.or_eq_false_iff, Bool.not_eq_false', Bool.not_true, Bool.not_false, Bool.false_or, Bool.true_and, Bool.true_or, Bool.false_and, Bool.and_true, Bool.or_false, reduceCtorEq, not_true_eq_false, not_false_eq_true, decide_true, decide_false] at hc1
      refine wp_cb ?_
      refine wa_cons ?_
      refine wp_c ?_
      refine wa_cons ?_
      refine wp_op ?_
      refine wp_op ?_
      refine wp_op ?_
      refine wp_var rfl ?_
      refine wp_c ?_
      refine wr0 ?_
      refine wp_var rfl ?_
      refine wr1 (by exact divOk (by omega)) ?_
      refine wp_op ?_
      refine wp_op ?_
      refine wp_var rfl ?_
      refine wp_c ?_
      refine wr0 ?_
      refine wp_var rfl ?_
      refine wr1 (by exact divOk (by omega)) ?_
      refine wr0 ?_
      refine wa_nil ?_
      refine wc_max2 ?_
      first | exact congrArg V.int (if_pos (by omega)).symm | exact congrArg V.int (if_neg (by omega)).symm
    · try simp only [decide_eq_true_eq, decide_eq_false_iff_not, Bool.and_eq_true, Bool.or_eq_true, Bool.not_eq_true', Bool.and_eq_false_iff, Bool.or_eq_false_iff, Bool.not_eq_false', Bool.not_true, Bool.not_false, Bool.false_or, Bool.true_and, Bool.true_or, Bool.false_and, Bool.and_true, Bool.or_false, reduceCtorEq, not_true_eq_false, not_false_eq_true, decide_true, decide_false] at hc1
      refine wp_c ?_
      first | exact congrArg V.int (if_pos (by omega)).symm | exact congrArg V.int (if_neg (by omega)).symm
theorem sc_Scheme_base : FnScope ["self"] ["self"] (defScope s_Scheme_base) := ⟨rfl, rfl, rfl, by decide +kernel, rfl, by decide +kernel, by decide +kernel⟩
def sp_Scheme_base (CS : Addr) : Sp := fun vs H Q _ => ∃ (s dx : Addr) (b f : Int), (vs = [.ref s]) ∧ (H s = some (.ins CS dx (scF b f))) ∧ ∀ (H' : Hp), Same H H' → Q (.int b) H'
theorem wc_Scheme_base {CS : Addr} {g : Gr} {L : Led} {C : V → Led → Prop} {E : XK} {s dx : Addr} {b f : Int} {bo0 : Bool} (i0 : Nat) (h0 : L[i0]? = some (s, .ob (.ins CS dx (scF b f)), bo0)) (c : C (.int b) L) : Wp g L (fun H Q => sp_Scheme_base CS [.ref s] H Q E) C := fun H z Q q => ⟨s, dx, b, f, rfl, z.get h0, fun H' s' => q _ _ _ (c) (z.same s')⟩
theorem ok_Scheme_base (T : Top K mg CS) : OkM P w K mg base CS 1 "base" "Scheme.base" s_Scheme_base ["self"] (sp_Scheme_base CS) := by
  refine OkM.of T.f_Scheme_base sc_Scheme_base (fun _ _ _ _ _ _ us hl => match us, hl with | [_], _ => rfl) (fun vs H Q E h => ?_) (fun f cdv A outer s H vs Q E hr h => ?_)
  · obtain ⟨s, dx, b, f, rfl, _⟩ := h
    rfl
  · obtain ⟨s, dx, b, f, rfl, hh0, kk⟩ := h
    refine ⟨_, (pss_one (ps_ret (pe_fld (pv 0) rfl))), ?_⟩
    refine run_ws (σ := [some (.ref s)]) (K := kV (fun v => v = (.int b))) (L := [(s, .ob (.ins CS dx (scF b f)), false)]) ?_ (at_one hh0) (eo_V fun v H' e s' => e ▸ kk H' s')
    refine ws_ret ?_
    refine wp_fld 0 T.cl_Scheme T.n_Scheme_radix ?_
    refine wp_var rfl ?_
    refine ⟨_, _, _, _, _, rfl, rfl, scF_radix _ _, ?_⟩
    exact rfl
theorem sc_Scheme_factor : FnScope ["self"] ["self"] (defScope s_Scheme_factor) := ⟨rfl, rfl, rfl, by decide +kernel, rfl, by decide +kernel, by decide +kernel⟩
def sp_Scheme_factor (CS : Addr) : Sp := fun vs H Q _ => ∃ (s dx : Addr) (b f : Int), (vs = [.ref s]) ∧ (H s = some (.ins CS dx (scF b f))) ∧ ∀ (H' : Hp), Same H H' → Q (.int f) H'
theorem wc_Scheme_factor {CS : Addr} {g : Gr} {L : Led} {C : V → Led → Prop} {E : XK} {s dx : Addr} {b f : Int} {bo0 : Bool} (i0 : Nat) (h0 : L[i0]? = some (s, .ob (.ins CS dx (scF b f)), bo0)) (c : C (.int f) L) : Wp g L (fun H Q => sp_Scheme_factor CS [.ref s] H Q E) C := fun H z Q q => ⟨s, dx, b, f, rfl, z.get h0, fun H' s' => q _ _ _ (c) (z.same s')⟩
theorem ok_Scheme_factor (T : Top K mg CS) : OkM P w K mg base CS 1 "factor" "Scheme.factor" s_Scheme_factor ["self"] (sp_Scheme_factor CS) := by
  refine OkM.of T.f_Scheme_factor sc_Scheme_factor (fun _ _ _ _ _ _ us hl => match us, hl with | [_], _ => rfl) (fun vs H Q E h => ?_) (fun f cdv A outer s H vs Q E hr h => ?_)
  · obtain ⟨s, dx, b, f, rfl, _⟩ := h
    rfl
  · obtain ⟨s, dx, b, f, rfl, hh0, kk⟩ := h
    refine ⟨_, (pss_one (ps_ret (pe_fld (pv 0) rfl))), ?_⟩
    refine run_ws (σ := [some (.ref s)]) (K := kV (fun v => v = (.int f))) (L := [(s, .ob (.ins CS dx (scF b f)), false)]) ?_ (at_one hh0) (eo_V fun v H' e s' => e ▸ kk H' s')
    refine ws_ret ?_
    refine wp_fld 0 T.cl_Scheme T.n_Scheme_multiple ?_
    refine wp_var rfl ?_
    refine ⟨_, _, _, _, _, rfl, rfl, scF_multiple _ _, ?_⟩
    exact rfl
theorem sc_count_living : FnScope ["scheme", "first", "after", "time", "count", "unit", "low"] ["scheme", "first", "after", "time"] (defScope s_count_living) := ⟨rfl, rfl, rfl, by decide +kernel, rfl, by decide +kernel, by decide +kernel⟩
def sp_count_living (CS : Addr) : Sp := fun vs H Q _ => ∃ (s dx : Addr) (b f : Int) (fi af t : Int), (vs = [.ref s, .int fi, .int af, .int t]) ∧ (H s = some (.ins CS dx (scF b f))) ∧ (SchOk b f ∧ 0 ≤ fi ∧ fi < af ∧ af ≤ t + 1 ∧ t ≤ 10 ^ 58) ∧ ∀ (H' : Hp), Same H H' → Q (.int (Ma.numF (fun m => Ma.keptB b f m t) fi af)) H'
theorem wc_count_living {CS : Addr} {g : Gr} {L : Led} {C : V → Led → Prop} {E : XK} {s dx : Addr} {b f : Int} {fi af t : Int} {bo0 : Bool} (i0 : Nat) (h0 : L[i0]? = some (s, .ob (.ins CS dx (scF b f)), bo0)) (hpre : SchOk b f ∧ 0 ≤ fi ∧ fi < af ∧ af ≤ t + 1 ∧ t ≤ 10 ^ 58) (c : C (.int (Ma.numF (fun m => Ma.keptB b f m t) fi af)) L) : Wp g L (fun H Q => sp_count_living CS [.ref s, .int fi, .int af, .int t] H Q E) C := fun H z Q q => ⟨s, dx, b, f, fi, af, t, rfl, z.get h0, hpre, fun H' s' => q _ _ _ (c) (z.same s')⟩
theorem ok_count_living (T : Top K mg CS) : Ok P w K mg base 2 "count_living" s_count_living ["scheme", "first", "after", "time"] (sp_count_living CS) := by
  refine Ok.of T.f_count_living sc_count_living (fun _ _ _ _ _ _ us hl => match us, hl with | [_, _, _, _], _ => rfl) (fun vs H Q E h => ?_) (fun f cdv A outer s H vs Q E hr h => ?_)
  · obtain ⟨s, dx, b, f, fi, af, t, rfl, _⟩ := h
    rfl
  · obtain ⟨s, dx, b, f, fi, af, t, rfl, hh0, hpre, kk⟩ := h
    have hs := hpre.1
    unfold SchOk at hs
    refine ⟨_, (pss_cons (ps_set (i := 2) sc_count_living.nd rfl (Or.inl rfl) (pe_callB (c_min2 rfl) (by rfl) T.b_min (by decide +kernel) (pa_cons (pv 2) (pa_cons (pe_op op_add (pv 3) pe_int) pa_nil))))
      (pss_cons (ps_set (i := 4) sc_count_living.nd rfl (Or.inl rfl) (pe_callTy c_int1 (by rfl) T.b_int (by decide +kernel) (pa_cons (pe_chain op_le op_lt (pv 1) pe_int (pv 2)) pa_nil)))
      (pss_cons (ps_set (i := 5) sc_count_living.nd rfl (Or.inl rfl) pe_int)
      (pss_cons (ps_while PassesOwn.never (pt_cmpR op_lt (pv 5) (pv 2) (nomark _)) (pss_cons (ps_set (i := 6) sc_count_living.nd rfl (Or.inl rfl) (pe_callB (c_max2 rfl) (by rfl) T.b_max (by decide +kernel) (pa_cons (pv 1) (pa_cons (pe_op op_sub (pv 3) (pe_op op_mulW (pe_om0 T.cl_Scheme (ok_Scheme_factor T) (hr.mono (by decide)) (pv 0)) (pv 5))) pa_nil))))
      (pss_cons (ps_set (i := 4) sc_count_living.nd rfl (Or.inl rfl) (pe_op op_sub (pe_op op_add (pv 4) (pe_own (ok_multiples T) (hr.mono (by decide)) rfl (pa_cons (pv 5) (pa_cons (pv 6) (pa_cons (pv 2) pa_nil))))) (pe_own (ok_multiples T) (hr.mono (by decide)) rfl (pa_cons (pe_op op_mulW (pv 5) (pe_om0 T.cl_Scheme (ok_Scheme_base T) (hr.mono (by decide)) (pv 0))) (pa_cons (pv 6) (pa_cons (pv 2) pa_nil))))))
      (pss_one (ps_set (i := 5) sc_count_living.nd rfl (Or.inl rfl) (pe_op op_mulW (pv 5) (pe_om0 T.cl_Scheme (ok_Scheme_base T) (hr.mono (by decide)) (pv 0))))))))
      (pss_one (ps_ret (pv 4))))))), ?_⟩
    refine run_ws (σ := [some (.ref s), some (.int fi), some (.int af), some (.int t), none, none, none]) (K := kV (fun v => v = (.int (Ma.numF (fun m => Ma.keptB b f m t) fi af)))) (L := [(s, .ob (.ins CS dx (scF b f)), false)]) ?_ (at_one hh0) (eo_V fun v H' e s' => e ▸ kk H' s')
    refine ws_seq ?_
    refine ws_set ?_
    refine wp_cb ?_
    refine wa_cons ?_
    refine wp_var rfl ?_
    refine wa_cons ?_
    refine wp_op ?_
    refine wp_var rfl ?_
    refine wp_c ?_
    refine wr0 ?_
    refine wa_nil ?_
    refine wc_min2 ?_
    rw [show min af (t + 1) = af by omega]
    refine ws_seq ?_
    refine ws_set ?_
    refine wp_cb ?_
    refine wa_cons ?_
    refine wp_chainP ?_
    refine wp_var rfl ?_
    refine wp_c ?_
    refine wr0 ?_
    refine ⟨_, rfl, ?_⟩
    apply andK
    · intro _
      refine wp_var rfl ?_
      refine wr0 ?_
      exact ⟨rfl, rfl⟩
    refine wa_nil ?_
    refine wc_intB ?_
    refine ws_seq ?_
    refine ws_set ?_
    refine wp_c ?_
    refine ws_seq ?_
    refine ws_whileS (fun mm vs => ∃ cn : Int, ∃ u : Int, ∃ w6 : Option V, vs = [none, none, none, none, some (some (.int cn)), some (some (.int u)), some w6] ∧ (∃ k : Nat, u = b ^ k ∧ cn = Ma.livS b f t fi af k) ∧ mm = (af - u).toNat) ?_ ?_
    · exact ⟨_, [none, none, none, none, some _, some _, some _], rfl, _, _, _, rfl, ⟨0, (Int.pow_zero b).symm, Ma.liv_zero (by omega)⟩, rfl⟩
    rintro mm vs ⟨cn, u, w6, rfl, hI, hmm⟩
    obtain ⟨k, rfl, rfl⟩ := hI
    have hu1 := Ma.pow_pos (b := b) (by omega) k
    refine wt_test ?_
    refine wp_op ?_
    refine wp_var rfl ?_
    refine wp_var rfl ?_
    refine wr0 ?_
    refine ⟨_, rfl, ?_⟩
    refine ifB (fun hc => ?_) (fun hc => ?_)
    · try simp only [decide_eq_true_eq, decide_eq_false_iff_not, Bool.and_eq_true, Bool.or_eq_true, Bool.not_eq_true', Bool.and_eq_false_iff, Bool.or_eq_false_iff, Bool.not_eq_false', Bool.not_true, Bool.not_false, Bool.false_or, Bool.true_and, Bool.true_or, Bool.false_and, Bool.and_true, Bool.or_false, reduceCtorEq, not_true_eq_false, not_false_eq_true, decide_true, decide_false] at hc
      have h2 : b ^ k * 2 ≤ b ^ k * b := Int.mul_le_mul_of_nonneg_left (by omega) (by omega)
      have h3 : b ^ k * b ≤ b ^ k * 1000 := Int.mul_le_mul_of_nonneg_left (by omega) (by omega)
      have hfu : f * b ^ k ≤ 1000000 * b ^ k := Int.mul_le_mul_of_nonneg_right (by omega) (by omega)
      have hfu0 : 0 ≤ f * b ^ k := Int.mul_nonneg (by omega) (by omega)
      refine ws_seq ?_
      refine ws_set ?_
      refine wp_cb ?_
      refine wa_cons ?_
      refine wp_var rfl ?_
      refine wa_cons ?_
      refine wp_op ?_
      refine wp_var rfl ?_
      refine wp_op ?_
      refine wp_meth 0 ?_
      refine wp_var rfl ?_
      refine ⟨_, _, _, _, rfl, rfl, scF_no _ _ (by decide +kernel) (by decide +kernel), ?_⟩
      refine wa_nil ?_
      refine wc_Scheme_factor 0 rfl ?_
      refine wp_var rfl ?_
      refine wr1 (by exact mulOk (by omega) (by omega)) ?_
      refine wr0 ?_
      refine wa_nil ?_
      refine wc_max2 ?_
      refine ws_seq ?_
      refine ws_set ?_
      refine wp_op ?_
      refine wp_op ?_
      refine wp_var rfl ?_
      refine wp_call ?_
      refine wa_cons ?_
      refine wp_var rfl ?_
      refine wa_cons ?_
      refine wp_var rfl ?_
      refine wa_cons ?_
      refine wp_var rfl ?_
      refine wa_nil ?_
      refine wc_multiples (by omega) ?_
      refine wr0 ?_
      refine wp_call ?_
      refine wa_cons ?_
      refine wp_op ?_
      refine wp_var rfl ?_
      refine wp_meth 0 ?_
      refine wp_var rfl ?_
      refine ⟨_, _, _, _, rfl, rfl, scF_no _ _ (by decide +kernel) (by decide +kernel), ?_⟩
      refine wa_nil ?_
      refine wc_Scheme_base 0 rfl ?_
      refine wr1 (by exact mulOk (by omega) (by omega)) ?_
      refine wa_cons ?_
      refine wp_var rfl ?_
      refine wa_cons ?_
      refine wp_var rfl ?_
      refine wa_nil ?_
      refine wc_multiples (by omega) ?_
      refine wr0 ?_
      refine ws_set ?_
      refine wp_op ?_
      refine wp_var rfl ?_
      refine wp_meth 0 ?_
      refine wp_var rfl ?_
      refine ⟨_, _, _, _, rfl, rfl, scF_no _ _ (by decide +kernel) (by decide +kernel), ?_⟩
      refine wa_nil ?_
      refine wc_Scheme_base 0 rfl ?_
      refine wr1 (by exact mulOk (by omega) (by omega)) ?_
      exact ⟨_, [none, none, none, none, some _, some _, some _], by omega, ⟨rfl, _, _, _, rfl, ⟨k + 1, (Int.pow_succ b k).symm, (Ma.liv_succ (by omega) k).symm⟩, rfl⟩, ⟨_, rfl⟩⟩
    · try simp only [decide_eq_true_eq, decide_eq_false_iff_not, Bool.and_eq_true, Bool.or_eq_true, Bool.not_eq_true', Bool.and_eq_false_iff, Bool.or_eq_false_iff, Bool.not_eq_false', Bool.not_true, Bool.not_false, Bool.false_or, Bool.true_and, Bool.true_or, Bool.false_and, Bool.and_true, Bool.or_false, reduceCtorEq, not_true_eq_false, not_false_eq_true, decide_true, decide_false] at hc
      refine ws_ret ?_
      refine wp_var rfl ?_
      exact congrArg V.int (Ma.liv_done (by omega) (by omega) (by omega) (by omega) (by omega) (by omega))
theorem sc_fewest_kept : FnScope ["bases", "age", "loss", "time", "found", "scheme"] ["bases", "age", "loss", "time"] (defScope s_fewest_kept) := ⟨rfl, rfl, rfl, by decide +kernel, rfl, by decide +kernel, by decide +kernel⟩
def sp_fewest_kept (CS : Addr) : Sp := fun vs H Q _ => ∃ (a : Addr) (ns : List Int) (age loss t : Int), (vs = [.ref a, .int age, .int loss, .int t]) ∧ (H a = some (.lst (ns.map V.int))) ∧ (Ma.BasOk ns ∧ 0 ≤ age ∧ 0 ≤ loss ∧ loss ≤ 10 ^ 60 ∧ 0 ≤ t ∧ t ≤ 10 ^ 57) ∧ ((Ma.sclL ns age loss = []) → ∀ H' : Hp, Same H H' → Q .non H') ∧ ∀ (xT : Int × Int × Int) (p : Addr) (H' : Hp), (xT ∈ (Ma.sclL ns age loss).map (Ma.sclR t) ∧ ∀ y ∈ (Ma.sclL ns age loss).map (Ma.sclR t), ¬ ltT y xT) → Same H H' → H' p = some (.tup (row3 xT)) → Q (.ref p) H'
theorem wc_fewest_kept {CS : Addr} {g : Gr} {L : Led} {C : V → Led → Prop} {E : XK} {a : Addr} {ns : List Int} {age loss t : Int} {bo0 : Bool} (i0 : Nat) (h0 : L[i0]? = some (a, .ob (.lst (ns.map V.int)), bo0)) (hpre : Ma.BasOk ns ∧ 0 ≤ age ∧ 0 ≤ loss ∧ loss ≤ 10 ^ 60 ∧ 0 ≤ t ∧ t ≤ 10 ^ 57) (c1 : (Ma.sclL ns age loss = []) → C .non L) (c2 : ∀ xT : Int × Int × Int, (xT ∈ (Ma.sclL ns age loss).map (Ma.sclR t) ∧ ∀ y ∈ (Ma.sclL ns age loss).map (Ma.sclR t), ¬ ltT y xT) → ∀ p : Addr, C (.ref p) (L ++ [(p, .ob (.tup (row3 xT)), false)])) : Wp g L (fun H Q => sp_fewest_kept CS [.ref a, .int age, .int loss, .int t] H Q E) C := fun H z Q q => ⟨a, ns, age, loss, t, rfl, z.get h0, hpre, fun hn H' s' => q _ _ _ (c1 hn) (z.same s'), fun x p H' hn s' hp => q _ _ _ (c2 x hn p) ((z.same s').addT hp)⟩
theorem ok_fewest_kept (T : Top K mg CS) : Ok P w K mg base 6 "fewest_kept" s_fewest_kept ["bases", "age", "loss", "time"] (sp_fewest_kept CS) := by
  refine Ok.of T.f_fewest_kept sc_fewest_kept (fun _ _ _ _ _ _ us hl => match us, hl with | [_, _, _, _], _ => rfl) (fun vs H Q E h => ?_) (fun f cdv A outer s H vs Q E hr h => ?_)
  · obtain ⟨a, ns, age, loss, t, rfl, _⟩ := h
    rfl
  · obtain ⟨a, ns, age, loss, t, rfl, hh0, hpre, kk1, kk2⟩ := h
    have hbm := hpre.1.2.1
    have hbr := hpre.1.2.2.1
    have hsl := Ma.scl_len (ns := ns) (age := age) (loss := loss)
    refine ⟨_, (pss_cons (ps_expr (pe_own (ok_check_bases T) (hr.mono (by decide)) rfl (pa_cons (pv 0) pa_nil)))
      (pss_cons (ps_expr (pe_own (ok_check_limits T) (hr.mono (by decide)) rfl (pa_cons (pv 1) (pa_cons (pv 2) pa_nil))))
      (pss_cons (ps_expr (pe_own (ok_check_time T) (hr.mono (by decide)) rfl (pa_cons (pv 3) pa_nil)))
      (pss_cons (ps_set (i := 4) sc_fewest_kept.nd rfl (Or.inl rfl) (pe_lst pa_nil))
      (pss_cons (ps_for PassesOwn.never rfl (pi_list (pe_own (ok_schemes_for T) (hr.mono (by decide)) rfl (pa_cons (pv 0) (pa_cons (pv 1) (pa_cons (pv 2) pa_nil))))) (pg_name (i := 5) sc_fewest_kept.nd rfl (Or.inl rfl)) (pss_one (ps_expr (pe_bm PySem.F.plainAttrs_list PySem.F.slot_list_append PySem.F.type_list_append mt_append (pv 4) (pa_cons (pe_tup (pa_cons (pe_own (ok_count_living T) (hr.mono (by decide)) rfl (pa_cons (pv 5) (pa_cons pe_int (pa_cons (pe_op op_add (pv 3) pe_int) (pa_cons (pv 3) pa_nil))))) (pa_cons (pe_om0 T.cl_Scheme (ok_Scheme_base T) (hr.mono (by decide)) (pv 5)) (pa_cons (pe_om0 T.cl_Scheme (ok_Scheme_factor T) (hr.mono (by decide)) (pv 5)) pa_nil)))) pa_nil)))))
      (pss_one (ps_ret (pe_callBK (ks := ["default"]) (cr_minDf rfl hr.units) (by rfl) T.b_min (by decide +kernel) (pa_cons (pv 4) pa_nil) (pk_cons pe_non pk_nil))))))))), ?_⟩
    refine run_ws (σ := [some (.ref a), some (.int age), some (.int loss), some (.int t), none, none]) (K := kWT (Ma.sclL ns age loss = []) (fun xT => xT ∈ (Ma.sclL ns age loss).map (Ma.sclR t) ∧ ∀ y ∈ (Ma.sclL ns age loss).map (Ma.sclR t), ¬ ltT y xT)) (L := [(a, .ob (.lst (ns.map V.int)), false)]) ?_ (at_one hh0) (eo_WT kk1 kk2)
    refine ws_seq ?_
    refine ws_drop ?_
    refine wp_call ?_
    refine wa_cons ?_
    refine wp_var rfl ?_
    refine wa_nil ?_
    refine wc_check_bases 0 rfl hpre.1 ?_
    refine ws_seq ?_
    refine ws_drop ?_
    refine wp_call ?_
    refine wa_cons ?_
    refine wp_var rfl ?_
    refine wa_cons ?_
    refine wp_var rfl ?_
    refine wa_nil ?_
    refine wc_check_limits (by omega) ?_
    refine ws_seq ?_
    refine ws_drop ?_
    refine wp_call ?_
    refine wa_cons ?_
    refine wp_var rfl ?_
    refine wa_nil ?_
    refine wc_check_time (by omega) ?_
    refine ws_seq ?_
    refine ws_set ?_
    refine wp_lst ?_
    refine wa_nil ?_
    refine ⟨by simp, fun p1 => ?_⟩
    refine ws_seq ?_
    refine ws_rows 1 rfl ?_
    refine ws_nf (σ' := [_, _, _, _, _, _]) (L' := [_, _]) rfl rfl ?_
    refine ws_for ?_
    refine wi_inss 2 ?_
    refine wp_call ?_
    refine wa_cons ?_
    refine wp_var rfl ?_
    refine wa_cons ?_
    refine wp_var rfl ?_
    refine wa_cons ?_
    refine wp_var rfl ?_
    refine wa_nil ?_
    refine wc_schemes_for 0 rfl ⟨hpre.1, by omega⟩ ?_
    intro p2
    refine ⟨_, _, _, _, rfl, rfl, ?_⟩
    refine wf_AI 1 rfl (fun _ => (iter_inss 5 (fun p : Int × Int => scF p.1 p.2) 2 rfl)) (fun i vs e => ∃ w5 : Option V, vs = [none, none, none, none, none, some w5] ∧ e = .rows ((((Ma.sclL ns age loss).take i).map (Ma.sclR t)).map row3)) (by rintro i vs e ⟨w5, rfl, rfl⟩; rfl) ?_ ?_ ?_
    · exact ⟨[none, none, none, none, none, some _], rfl, _, rfl, rfl⟩
    · rintro i ⟨b, f⟩ pr dx_ vs e hx ⟨w5, rfl, rfl⟩
      have hso := Ma.scl_ok hpre.1 (by omega) (List.mem_of_getElem? hx)
      dsimp only at hso
      refine ws_nf (σ' := [_, _, _, _, _, _]) (L' := [_, _, _, _]) rfl rfl ?_
      refine ws_drop ?_
      refine wp_bm ?_
      refine wp_var rfl ?_
      refine ⟨ty_rows 1 rfl, ?_⟩
      refine wa_cons ?_
      refine wp_tup ?_
      refine wa_cons ?_
      refine wp_call ?_
      refine wa_cons ?_
      refine wp_var rfl ?_
      refine wa_cons ?_
      refine wp_c ?_
      refine wa_cons ?_
      refine wp_op ?_
      refine wp_var rfl ?_
      refine wp_c ?_
      refine wr0 ?_
      refine wa_cons ?_
      refine wp_var rfl ?_
      refine wa_nil ?_
      refine wc_count_living 3 rfl ⟨by (unfold SchOk; omega), by omega⟩ ?_
      rw [Ma.num_cnt]
      refine wa_cons ?_
      refine wp_meth 3 ?_
      refine wp_var rfl ?_
      refine ⟨_, _, _, _, rfl, rfl, scF_no _ _ (by decide +kernel) (by decide +kernel), ?_⟩
      refine wa_nil ?_
      refine wc_Scheme_base 3 rfl ?_
      refine wa_cons ?_
      refine wp_meth 3 ?_
      refine wp_var rfl ?_
      refine ⟨_, _, _, _, rfl, rfl, scF_no _ _ (by decide +kernel) (by decide +kernel), ?_⟩
      refine wa_nil ?_
      refine wc_Scheme_factor 3 rfl ?_
      refine wa_nil ?_
      refine ⟨by simp, fun p3 => ?_⟩
      refine wa_nil ?_
      refine wr_appT 1 4 rfl rfl (by (rw [List.length_map, List.length_map, List.length_take]; omega)) ?_
      rw [Ma.scl_app hx]
      exact ⟨[none, none, none, none, none, some _], _, ⟨rfl, _, rfl, rfl⟩, ⟨_, rfl⟩⟩
    rintro vs e ⟨w5, rfl, rfl⟩
    rw [List.take_length]
    refine ws_ret ?_
    refine wp_ckw ?_
    refine wa_cons ?_
    refine wp_var rfl ?_
    refine wa_nil ?_
    refine wa_cons ?_
    refine wp_c ?_
    refine wa_nil ?_
    refine wc_minDT 1 rfl ?_ ?_
    · intro hNM
      first
        | exact .inl ⟨rfl, List.map_eq_nil_iff.mp hNM⟩
        | exact .inr ⟨_, _, none, _, rfl, rfl, hxM, hMM⟩
    · intro xM hxM hMM pM
      first
        | exact .inl ⟨rfl, List.map_eq_nil_iff.mp hNM⟩
        | exact .inr ⟨_, _, 3, _, rfl, rfl, hxM, hMM⟩
theorem sc_least_factor : FnScope ["base", "age", "loss", "factor"] ["base", "age", "loss"] (defScope s_least_factor) := ⟨rfl, rfl, rfl, by decide +kernel, rfl, by decide +kernel, by decide +kernel⟩
def sp_least_factor (CS : Addr) : Sp := fun vs H Q _ => ∃ (b age loss : Int), (vs = [.int b, .int age, .int loss]) ∧ (2 ≤ b ∧ b ≤ 1000 ∧ 0 ≤ age ∧ 0 ≤ loss ∧ loss ≤ 10 ^ 60) ∧ ((∃ F, Ma.IsFac b age loss F ∧ 1000000 < F) → ∀ H' : Hp, Same H H' → Q .non H') ∧ ∀ n : Int, (Ma.IsFac b age loss n ∧ n ≤ 1000000) → ∀ H' : Hp, Same H H' → Q (.int n) H'
theorem wc_least_factor {CS : Addr} {g : Gr} {L : Led} {C : V → Led → Prop} {E : XK} {b age loss : Int} (hpre : 2 ≤ b ∧ b ≤ 1000 ∧ 0 ≤ age ∧ 0 ≤ loss ∧ loss ≤ 10 ^ 60) (c1 : (∃ F, Ma.IsFac b age loss F ∧ 1000000 < F) → C .non L) (c2 : ∀ n : Int, (Ma.IsFac b age loss n ∧ n ≤ 1000000) → C (.int n) L) : Wp g L (fun H Q => sp_least_factor CS [.int b, .int age, .int loss] H Q E) C := fun H z Q q => ⟨b, age, loss, rfl, hpre, fun hn H' s' => q _ _ _ (c1 hn) (z.same s'), fun n hn H' s' => q _ _ _ (c2 n hn) (z.same s')⟩
theorem ok_least_factor (T : Top K mg CS) : Ok P w K mg base 3 "least_factor" s_least_factor ["base", "age", "loss"] (sp_least_factor CS) := by
  refine Ok.of T.f_least_factor sc_least_factor (fun _ _ _ _ _ _ us hl => match us, hl with | [_, _, _], _ => rfl) (fun vs H Q E h => ?_) (fun f cdv A outer s H vs Q E hr h => ?_)
  · obtain ⟨b, age, loss, rfl, _⟩ := h
    rfl
  · obtain ⟨b, age, loss, rfl, hpre, kk1, kk2⟩ := h
    refine ⟨_, (pss_cons (ps_if (pt_not (pt_val (pe_own (ok_is_between T) (hr.mono (by decide)) rfl (pa_cons (pv 0) (pa_cons pe_int (pa_cons (pe_const rfl T.c_MOST_BASE) pa_nil)))))) (pss_one ps_never) pss_nil)
      (pss_cons (ps_expr (pe_own (ok_check_limits T) (hr.mono (by decide)) rfl (pa_cons (pv 1) (pa_cons (pv 2) pa_nil))))
      (pss_cons (ps_set (i := 3) sc_least_factor.nd rfl (Or.inl rfl) (pe_own (ok_factor_for T) (hr.mono (by decide)) rfl (pa_cons (pv 0) (pa_cons (pv 1) (pa_cons (pv 2) pa_nil)))))
      (pss_one (ps_ret (pe_ifExp (pt_cmpR op_le (pv 3) (pe_const rfl T.c_MOST_FACTOR) (nomark _)) (pv 3) pe_non)))))), ?_⟩
    refine run_ws (σ := [some (.int b), some (.int age), some (.int loss), none]) (K := kO (∃ F, Ma.IsFac b age loss F ∧ 1000000 < F) (fun n => Ma.IsFac b age loss n ∧ n ≤ 1000000)) (L := []) ?_ at_nil (eo_O kk1 kk2)
    refine ws_seq ?_
    refine ws_if ?_
    refine wt_not ?_
    refine wt_B ?_
    refine wp_call ?_
    refine wa_cons ?_
    refine wp_var rfl ?_
    refine wa_cons ?_
    refine wp_c ?_
    refine wa_cons ?_
    refine wp_c ?_
    refine wa_nil ?_
    refine wc_is_between ?_
    refine ⟨_, rfl, ?_⟩
    refine ifB (fun hc1 => ?_) (fun hc1 => ?_)
    · try simp only [decide_eq_true_eq, decide_eq_false_iff_not, Bool.and_eq_true, Bool.or_eq_true, Bool.not_eq_true', Bool.and_eq_false_iff, Bool.or_eq_false_iff, Bool.not_eq_false', Bool.not_true, Bool.not_false, Bool.false_or, Bool.true_and, Bool.true_or, Bool.false_and, Bool.and_true, Bool.or_false, reduceCtorEq, not_true_eq_false, not_false_eq_true, decide_true, decide_false] at hc1
      exact ws_never (by first | omega | (simp at *; done) | (exfalso; omega) | (simp at *; omega))
    · try simp only [decide_eq_true_eq, decide_eq_false_iff_not, Bool.and_eq_true, Bool.or_eq_true, Bool.not_eq_true', Bool.and_eq_false_iff, Bool.or_eq_false_iff, Bool.not_eq_false', Bool.not_true, Bool.not_false, Bool.false_or, Bool.true_and, Bool.true_or, Bool.false_and, Bool.and_true, Bool.or_false, reduceCtorEq, not_true_eq_false, not_false_eq_true, decide_true, decide_false] at hc1
      refine ws_next ?_
      refine ws_seq ?_
      refine ws_drop ?_
      refine wp_call ?_
      refine wa_cons ?_
      refine wp_var rfl ?_
      refine wa_cons ?_
      refine wp_var rfl ?_
      refine wa_nil ?_
      refine wc_check_limits (by omega) ?_
      refine ws_seq ?_
      refine ws_set ?_
      refine wp_call ?_
      refine wa_cons ?_
      refine wp_var rfl ?_
      refine wa_cons ?_
      refine wp_var rfl ?_
      refine wa_cons ?_
      refine wp_var rfl ?_
      refine wa_nil ?_
      refine wc_factor_for (by omega) ?_
      intro F2 hF2
      refine ws_ret ?_
      refine wp_if ?_
      refine wt_test ?_
      refine wp_op ?_
      refine wp_var rfl ?_
      refine wp_c ?_
      refine wr0 ?_
      refine ⟨_, rfl, ?_⟩
      refine ifB (fun hc3 => ?_) (fun hc3 => ?_)
      · try simp only [decide_eq_true_eq, decide_eq_false_iff_not, Bool.and_eq_true, Bool.or_eq_true, Bool.not_eq_true', Bool.and_eq_false_iff, Bool.or_eq_false_iff, Bool.not_eq_false', Bool.not_true, Bool.not_false, Bool.false_or, Bool.true_and, Bool.true_or, Bool.false_and, Bool.and_true, Bool.or_false, reduceCtorEq, not_true_eq_false, not_false_eq_true, decide_true, decide_false] at hc3
        refine wp_var rfl ?_
        exact .inr ⟨_, rfl, by assumption, by omega⟩
      · try simp only [decide_eq_true_eq, decide_eq_false_iff_not, Bool.and_eq_true, Bool.or_eq_true, Bool.not_eq_true', Bool.and_eq_false_iff, Bool.or_eq_false_iff, Bool.not_eq_false', Bool.not_true, Bool.not_false, Bool.false_or, Bool.true_and, Bool.true_or, Bool.false_and, Bool.and_true, Bool.or_false, reduceCtorEq, not_true_eq_false, not_false_eq_true, decide_true, decide_false] at hc3
        refine wp_c ?_
        exact .inl ⟨rfl, _, by assumption, by omega⟩
theorem sc__law_unit : FnScope ["_law_radix", "_law_number", "_law_unit_here"] ["_law_radix", "_law_number"] (defScope s__law_unit) := ⟨rfl, rfl, rfl, by decide +kernel, rfl, by decide +kernel, by decide +kernel⟩
def sp__law_unit (CS : Addr) : Sp := fun vs H Q _ => ∃ (b n : Int), (vs = [.int b, .int n]) ∧ (2 ≤ b ∧ b ≤ 1000 ∧ 1 ≤ n ∧ n ≤ 10 ^ 60) ∧ ∀ (H' : Hp), Same H H' → Q (.int (Ma.unitF b n)) H'
theorem wc__law_unit {CS : Addr} {g : Gr} {L : Led} {C : V → Led → Prop} {E : XK} {b n : Int} (hpre : 2 ≤ b ∧ b ≤ 1000 ∧ 1 ≤ n ∧ n ≤ 10 ^ 60) (c : C (.int (Ma.unitF b n)) L) : Wp g L (fun H Q => sp__law_unit CS [.int b, .int n] H Q E) C := fun H z Q q => ⟨b, n, rfl, hpre, fun H' s' => q _ _ _ (c) (z.same s')⟩
theorem ok__law_unit (T : Top K mg CS) : Ok P w K mg base 1 "_law_unit" s__law_unit ["_law_radix", "_law_number"] (sp__law_unit CS) := by
  refine Ok.of T.f__law_unit sc__law_unit (fun _ _ _ _ _ _ us hl => match us, hl with | [_, _], _ => rfl) (fun vs H Q E h => ?_) (fun f cdv A outer s H vs Q E hr h => ?_)
  · obtain ⟨b, n, rfl, _⟩ := h
    rfl
  · obtain ⟨b, n, rfl, hpre, kk⟩ := h
    refine ⟨_, (pss_cons (ps_set (i := 2) sc__law_unit.nd rfl (Or.inl rfl) pe_int)
      (pss_cons (ps_while PassesOwn.never (pt_cmpR op_eq (pe_op op_mod (pe_op op_fdivW (pv 1) (pv 2)) (pv 0)) pe_int (nomark _)) (pss_one (ps_set (i := 2) sc__law_unit.nd rfl (Or.inl rfl) (pe_op op_mulW (pv 2) (pv 0)))))
      (pss_one (ps_ret (pv 2))))), ?_⟩
    refine run_ws (σ := [some (.int b), some (.int n), none]) (K := kV (fun v => v = (.int (Ma.unitF b n)))) (L := []) ?_ at_nil (eo_V fun v H' e s' => e ▸ kk H' s')
    refine ws_seq ?_
    refine ws_set ?_
    refine wp_c ?_
    refine ws_seq ?_
    refine ws_whileS (fun mm vs => ∃ u : Int, vs = [none, none, some (some (.int u))] ∧ (Ma.IsPow b u ∧ u ∣ n) ∧ mm = (n - u).toNat) ?_ ?_
    · exact ⟨_, [none, none, some _], rfl, _, rfl, ⟨Ma.IsPow.one b, Int.one_dvd n⟩, rfl⟩
    rintro mm vs ⟨u, rfl, hI, hmm⟩
    have hu1 := hI.1.pos (b := b) (by omega)
    have hu2 := Int.le_of_dvd (by omega) hI.2
    refine wt_test ?_
    refine wp_op ?_
    refine wp_op ?_
    refine wp_op ?_
    refine wp_var rfl ?_
    refine wp_var rfl ?_
    refine wr1 (by exact divOk (by omega)) ?_
    refine wp_var rfl ?_
    refine wr1 (show (0 : Int) < b by omega) ?_
    refine wp_c ?_
    refine wr_eqI ?_
    refine ⟨_, rfl, ?_⟩
    refine ifB (fun hc => ?_) (fun hc => ?_)
    · try simp only [decide_eq_true_eq, decide_eq_false_iff_not, Bool.and_eq_true, Bool.or_eq_true, Bool.not_eq_true', Bool.and_eq_false_iff, Bool.or_eq_false_iff, Bool.not_eq_false', Bool.not_true, Bool.not_false, Bool.false_or, Bool.true_and, Bool.true_or, Bool.false_and, Bool.and_true, Bool.or_false, reduceCtorEq, not_true_eq_false, not_false_eq_true, decide_true, decide_false] at hc
      have h2 : u * 2 ≤ u * b := Int.mul_le_mul_of_nonneg_left (by omega) (by omega)
      have hd2 : u * b ∣ n := Ma.mod_div hI.2 hc
      have hu3 := Int.le_of_dvd (by omega) hd2
      refine ws_set ?_
      refine wp_op ?_
      refine wp_var rfl ?_
      refine wp_var rfl ?_
      refine wr1 (by exact mulOk (by omega) (by omega)) ?_
      exact ⟨_, [none, none, some _], by omega, ⟨rfl, _, rfl, ⟨hI.1.mul, hd2⟩, rfl⟩, ⟨_, rfl⟩⟩
    · try simp only [decide_eq_true_eq, decide_eq_false_iff_not, Bool.and_eq_true, Bool.or_eq_true, Bool.not_eq_true', Bool.and_eq_false_iff, Bool.or_eq_false_iff, Bool.not_eq_false', Bool.not_true, Bool.not_false, Bool.false_or, Bool.true_and, Bool.true_or, Bool.false_and, Bool.and_true, Bool.or_false, reduceCtorEq, not_true_eq_false, not_false_eq_true, decide_true, decide_false] at hc
      refine ws_ret ?_
      refine wp_var rfl ?_
      refine congrArg V.int (Ma.IsUnit.eq (by omega) (by omega) ⟨hI.1, hI.2, fun q => hc (Ma.div_mod (by omega) hI.2 q)⟩)
theorem sc__law_count : FnScope ["_law_radix", "_law_times", "_law_moment", "_law_n"] ["_law_radix", "_law_times", "_law_moment"] (defScope s__law_count) := ⟨rfl, rfl, rfl, by decide +kernel, rfl, by decide +kernel, by decide +kernel⟩
def sp__law_count (CS : Addr) : Sp := fun vs H Q _ => ∃ (b f t : Int), (vs = [.int b, .int f, .int t]) ∧ (2 ≤ b ∧ b ≤ 1000 ∧ 1 ≤ f ∧ f ≤ 1000000 ∧ 0 ≤ t ∧ t ≤ 1000) ∧ ∀ (H' : Hp), Same H H' → Q (.int (Ma.cntF b f t (t + 1))) H'
theorem wc__law_count {CS : Addr} {g : Gr} {L : Led} {C : V → Led → Prop} {E : XK} {b f t : Int} (hpre : 2 ≤ b ∧ b ≤ 1000 ∧ 1 ≤ f ∧ f ≤ 1000000 ∧ 0 ≤ t ∧ t ≤ 1000) (c : C (.int (Ma.cntF b f t (t + 1))) L) : Wp g L (fun H Q => sp__law_count CS [.int b, .int f, .int t] H Q E) C := fun H z Q q => ⟨b, f, t, rfl, hpre, fun H' s' => q _ _ _ (c) (z.same s')⟩
theorem ok__law_count (T : Top K mg CS) : Ok P w K mg base 2 "_law_count" s__law_count ["_law_radix", "_law_times", "_law_moment"] (sp__law_count CS) := by
  refine Ok.of T.f__law_count sc__law_count (fun _ _ _ _ _ _ us hl => match us, hl with | [_, _, _], _ => rfl) (fun vs H Q E h => ?_) (fun f cdv A outer s H vs Q E hr h => ?_)
  · obtain ⟨b, f, t, rfl, _⟩ := h
    rfl
  · obtain ⟨b, f, t, rfl, hpre, kk⟩ := h
    refine ⟨_, (pss_one (ps_ret (pe_op op_add pe_int (pe_callB c_len (by rfl) T.b_len PySem.boot_len (pa_cons (pe_lc (own := [("_law_n", 3)]) rfl sc__law_count.nd (pi_rangeW rfl T.b_range (pa_cons pe_int (pa_cons (pe_op op_add (pv 2) pe_int) pa_nil))) (blkOk_by (N := ["_law_radix", "_law_times", "_law_moment", "_law_n"]) (sc := defScope s__law_count) (by decide +kernel)) (fun _ _ _ _ _ => (pg_name (i := 3) sc__law_count.nd rfl (Or.inl rfl))) (fun _ _ _ _ _ => (pts_one (pt_cmpR op_le (pv 2) (pe_op op_add (pv 3) (pe_op op_mulW (pv 1) (pe_own (ok__law_unit T) (hr.mono (by decide)) rfl (pa_cons (pv 0) (pa_cons (pv 3) pa_nil))))) (nomark _)))) (fun _ _ _ _ _ => (pv 3))) pa_nil))))), ?_⟩
    refine run_ws (σ := [some (.int b), some (.int f), some (.int t), none]) (K := kV (fun v => v = (.int (Ma.cntF b f t (t + 1))))) (L := []) ?_ at_nil (eo_V fun v H' e s' => e ▸ kk H' s')
    refine ws_ret ?_
    refine wp_op ?_
    refine wp_c ?_
    refine wp_cb ?_
    refine wa_cons ?_
    refine wp_lc ?_
    refine wi_rngW2 ?_
    refine wa_cons ?_
    refine wp_c ?_
    refine wa_cons ?_
    refine wp_op ?_
    refine wp_var rfl ?_
    refine wp_c ?_
    refine wr0 ?_
    refine wa_nil ?_
    refine ⟨_, _, rfl, ?_⟩
    refine lc_Rf (fun n => decide (t ≤ n + f * Ma.unitF b n)) (by omega) ?_ ?_
    · intro n hx0 hx1 D acc
      refine wt_test ?_
      refine wp_op ?_
      refine wp_var rfl ?_
      refine wp_op ?_
      refine wp_var rfl ?_
      refine wp_op ?_
      refine wp_var rfl ?_
      refine wp_call ?_
      refine wa_cons ?_
      refine wp_var rfl ?_
      refine wa_cons ?_
      refine wp_var rfl ?_
      refine wa_nil ?_
      refine wc__law_unit (by omega) ?_
      refine wr1 (by have hu1 := Ma.unitF_pos (b := b) (n := n) (by omega); have hu2 := Ma.unitF_le (b := b) (n := n) (by omega); exact mulOk (by omega) (by omega)) ?_
      refine wr0 ?_
      refine wr0 ?_
      refine ⟨_, rfl, ?_⟩
      refine ⟨rfl, ?_⟩
      refine ifB (fun hc => ?_) (fun hc => ?_)
      · try simp only [decide_eq_true_eq, decide_eq_false_iff_not, Bool.and_eq_true, Bool.or_eq_true, Bool.not_eq_true', Bool.and_eq_false_iff, Bool.or_eq_false_iff, Bool.not_eq_false', Bool.not_true, Bool.not_false, Bool.false_or, Bool.true_and, Bool.true_or, Bool.false_and, Bool.and_true, Bool.or_false, reduceCtorEq, not_true_eq_false, not_false_eq_true, decide_true, decide_false] at hc
        refine wp_var rfl ?_
        exact ⟨rfl, by first | exact List.prefix_refl _ | exact ⟨_, rfl⟩⟩
      · first | exact List.prefix_refl _ | exact ⟨_, rfl⟩
    intro p1
    refine wa_nil ?_
    refine wc_len (seen 0 rfl) ?_
    refine wr0 ?_
    exact congrArg V.int (by rw [List.length_map]; exact Ma.cnt_walk (by omega))
theorem sc_is_enough : FnScope ["scheme", "age", "loss"] ["scheme", "age", "loss"] (defScope s_is_enough) := ⟨rfl, rfl, rfl, by decide +kernel, rfl, by decide +kernel, by decide +kernel⟩
def sp_is_enough (CS : Addr) : Sp := fun vs H Q _ => ∃ (s dx : Addr) (b f : Int) (age loss : Int), (vs = [.ref s, .int age, .int loss]) ∧ (H s = some (.ins CS dx (scF b f))) ∧ (SchOk b f ∧ 0 ≤ age ∧ 0 ≤ loss ∧ loss ≤ 10 ^ 60) ∧ ∀ (F : Int) (H' : Hp), (Ma.IsFac b age loss F) → Same H H' → Q (.bl (decide (F ≤ f))) H'
theorem wc_is_enough {CS : Addr} {g : Gr} {L : Led} {C : V → Led → Prop} {E : XK} {s dx : Addr} {b f : Int} {age loss : Int} {bo0 : Bool} (i0 : Nat) (h0 : L[i0]? = some (s, .ob (.ins CS dx (scF b f)), bo0)) (hpre : SchOk b f ∧ 0 ≤ age ∧ 0 ≤ loss ∧ loss ≤ 10 ^ 60) (c : ∀ (F : Int), (Ma.IsFac b age loss F) → C (.bl (decide (F ≤ f))) L) : Wp g L (fun H Q => sp_is_enough CS [.ref s, .int age, .int loss] H Q E) C := fun H z Q q => ⟨s, dx, b, f, age, loss, rfl, z.get h0, hpre, fun F H' hpost s' => q _ _ _ (c F hpost) (z.same s')⟩
theorem ok_is_enough (T : Top K mg CS) : Ok P w K mg base 3 "is_enough" s_is_enough ["scheme", "age", "loss"] (sp_is_enough CS) := by
  refine Ok.of T.f_is_enough sc_is_enough (fun _ _ _ _ _ _ us hl => match us, hl with | [_, _, _], _ => rfl) (fun vs H Q E h => ?_) (fun f cdv A outer s H vs Q E hr h => ?_)
  · obtain ⟨s, dx, b, f, age, loss, rfl, _⟩ := h
    rfl
  · obtain ⟨s, dx, b, f, age, loss, rfl, hh0, hpre, kk⟩ := h
    have hs := hpre.1
    unfold SchOk at hs
    refine ⟨_, (pss_cons (ps_expr (pe_own (ok_check_limits T) (hr.mono (by decide)) rfl (pa_cons (pv 1) (pa_cons (pv 2) pa_nil))))
      (pss_one (ps_ret (pe_cmpR op_ge (pe_om0 T.cl_Scheme (ok_Scheme_factor T) (hr.mono (by decide)) (pv 0)) (pe_own (ok_factor_for T) (hr.mono (by decide)) rfl (pa_cons (pe_om0 T.cl_Scheme (ok_Scheme_base T) (hr.mono (by decide)) (pv 0)) (pa_cons (pv 1) (pa_cons (pv 2) pa_nil)))) (nomark _))))), ?_⟩
    refine run_ws (σ := [some (.ref s), some (.int age), some (.int loss)]) (K := kV (fun v => ∃ (F : Int), v = (.bl (decide (F ≤ f))) ∧ (Ma.IsFac b age loss F))) (L := [(s, .ob (.ins CS dx (scF b f)), false)]) ?_ (at_one hh0) (eo_V fun v H' ⟨F, e, hpost⟩ s' => e ▸ kk F H' hpost s')
    refine ws_seq ?_
    refine ws_drop ?_
    refine wp_call ?_
    refine wa_cons ?_
    refine wp_var rfl ?_
    refine wa_cons ?_
    refine wp_var rfl ?_
    refine wa_nil ?_
    refine wc_check_limits (by omega) ?_
    refine ws_ret ?_
    refine wp_op ?_
    refine wp_meth 0 ?_
    refine wp_var rfl ?_
    refine ⟨_, _, _, _, rfl, rfl, scF_no _ _ (by decide +kernel) (by decide +kernel), ?_⟩
    refine wa_nil ?_
    refine wc_Scheme_factor 0 rfl ?_
    refine wp_call ?_
    refine wa_cons ?_
    refine wp_meth 0 ?_
    refine wp_var rfl ?_
    refine ⟨_, _, _, _, rfl, rfl, scF_no _ _ (by decide +kernel) (by decide +kernel), ?_⟩
    refine wa_nil ?_
    refine wc_Scheme_base 0 rfl ?_
    refine wa_cons ?_
    refine wp_var rfl ?_
    refine wa_cons ?_
    refine wp_var rfl ?_
    refine wa_nil ?_
    refine wc_factor_for (by omega) ?_
    intro F1 hF1
    refine wr0 ?_
    exact ⟨_, rfl, by assumption⟩
theorem sc_Scheme_eq : FnScope ["self", "other"] ["self", "other"] (defScope s_Scheme_eq) := ⟨rfl, rfl, rfl, by decide +kernel, rfl, by decide +kernel, by decide +kernel⟩
def sp_Scheme_eq (CS : Addr) : Sp := fun vs H Q _ => ∃ (s dx : Addr) (b f : Int) (s2 dx2 : Addr) (b2 f2 : Int), (vs = [.ref s, .ref s2]) ∧ (H s = some (.ins CS dx (scF b f))) ∧ (H s2 = some (.ins CS dx2 (scF b2 f2))) ∧ ∀ (H' : Hp), Same H H' → Q (.bl (decide (b = b2) && decide (f = f2))) H'
theorem wc_Scheme_eq {CS : Addr} {g : Gr} {L : Led} {C : V → Led → Prop} {E : XK} {s dx : Addr} {b f : Int} {s2 dx2 : Addr} {b2 f2 : Int} {bo0 bo1 : Bool} (i0 : Nat) (h0 : L[i0]? = some (s, .ob (.ins CS dx (scF b f)), bo0)) (i1 : Nat) (h1 : L[i1]? = some (s2, .ob (.ins CS dx2 (scF b2 f2)), bo1)) (c : C (.bl (decide (b = b2) && decide (f = f2))) L) : Wp g L (fun H Q => sp_Scheme_eq CS [.ref s, .ref s2] H Q E) C := fun H z Q q => ⟨s, dx, b, f, s2, dx2, b2, f2, rfl, z.get h0, z.get h1, fun H' s' => q _ _ _ (c) (z.same s')⟩
def PScheme (fs : List (Str × V)) : Prop := ∃ b f : Int, SchOk b f ∧ fs = scF b f
theorem sp_same_Scheme {CS : Addr} : ∀ (a b dx dy : Addr) (fs : List (Str × V)) (H : Hp) (Q : VK) (E : XK), PScheme fs → H a = some (.ins CS dx fs) → H b = some (.ins CS dy fs) → (∀ H', Ext H H' → Q (.bl true) H') → sp_Scheme_eq CS [.ref a, .ref b] H Q E :=
  fun a b dx dy fs H Q E ⟨b', f', hs, e⟩ h1 h2 q => ⟨a, dx, b', f', b, dy, b', f', rfl, e ▸ h1, e ▸ h2, fun H' s => by simpa using q H' s⟩

theorem ok_Scheme_eq (T : Top K mg CS) : OkM P w K mg base CS 1 "__eq__" "Scheme.__eq__" s_Scheme_eq ["self", "other"] (sp_Scheme_eq CS) := by
  refine OkM.of T.f_Scheme_eq sc_Scheme_eq (fun _ _ _ _ _ _ us hl => match us, hl with | [_, _], _ => rfl) (fun vs H Q E h => ?_) (fun f cdv A outer s H vs Q E hr h => ?_)
  · obtain ⟨s, dx, b, f, s2, dx2, b2, f2, rfl, _⟩ := h
    rfl
  · obtain ⟨s, dx, b, f, s2, dx2, b2, f2, rfl, hh0, hh1, kk⟩ := h
    refine ⟨_, (pss_one (ps_ret (pe_and (pe_callB (c_isC T.is_Scheme) (by rfl) T.b_isinstance (by decide +kernel) (pa_cons (pv 1) (pa_cons (pe_cls rfl T.m_Scheme) pa_nil))) (pe_one (pe_cmpR (op_eqD hr.units) (pe_tup (pa_cons (pe_fld (pv 0) rfl) (pa_cons (pe_fld (pv 0) rfl) pa_nil))) (pe_tup (pa_cons (pe_fld (pv 1) rfl) (pa_cons (pe_fld (pv 1) rfl) pa_nil))) (nomark _)))))), ?_⟩
    refine run_ws (σ := [some (.ref s), some (.ref s2)]) (K := kV (fun v => v = (.bl (decide (b = b2) && decide (f = f2))))) (L := [(s, .ob (.ins CS dx (scF b f)), false), (s2, .ob (.ins CS dx2 (scF b2 f2)), false)]) ?_ (at_consF (at_one hh1) hh0 rfl (by simp)) (eo_V fun v H' e s' => e ▸ kk H' s')
    refine ws_ret ?_
    refine wp_andV ?_
    refine wp_cb ?_
    refine wa_cons ?_
    refine wp_var rfl ?_
    refine wa_cons ?_
    refine wp_c ?_
    refine wa_nil ?_
    refine wc_isC 1 rfl ?_
    refine ⟨_, rfl, ?_⟩
    refine ifT (by first | rfl | (simp; done) | (simp [*]; done)) ?_
    refine wp_op ?_
    refine wp_tup ?_
    refine wa_cons ?_
    refine wp_fld 0 T.cl_Scheme T.n_Scheme_radix ?_
    refine wp_var rfl ?_
    refine ⟨_, _, _, _, _, rfl, rfl, scF_radix _ _, ?_⟩
    refine wa_cons ?_
    refine wp_fld 0 T.cl_Scheme T.n_Scheme_multiple ?_
    refine wp_var rfl ?_
    refine ⟨_, _, _, _, _, rfl, rfl, scF_multiple _ _, ?_⟩
    refine wa_nil ?_
    refine ⟨by simp, fun p2 => ?_⟩
    refine wp_tup ?_
    refine wa_cons ?_
    refine wp_fld 1 T.cl_Scheme T.n_Scheme_radix ?_
    refine wp_var rfl ?_
    refine ⟨_, _, _, _, _, rfl, rfl, scF_radix _ _, ?_⟩
    refine wa_cons ?_
    refine wp_fld 1 T.cl_Scheme T.n_Scheme_multiple ?_
    refine wp_var rfl ?_
    refine ⟨_, _, _, _, _, rfl, rfl, scF_multiple _ _, ?_⟩
    refine wa_nil ?_
    refine ⟨by simp, fun p3 => ?_⟩
    refine wr_eqD (dp_tup (seenT 2 rfl) (dps_cons dp_int (dps_cons dp_int dps_nil))) (dp_tup (seenT 3 rfl) (dps_cons dp_int (dps_cons dp_int dps_nil))) rfl rfl ?_
    exact congrArg V.bl (by rw [Bool.eq_iff_iff]; simp [PyData.eqv, PyData.eqvAll])
theorem sc_law : FnScope ["_law_script", "_law_cell", "_law_source", "_law_radixes", "_law_years", "_law_most", "_law_moment", "_law_factors", "_law_due", "_law_found", "_law_counts", "_law_every", "_law_huge", "_law_k", "_law_radix", "_law_times", "_law_scheme"] ["_law_script"] (defScope s_law) := ⟨rfl, rfl, rfl, by decide +kernel, rfl, by decide +kernel, by decide +kernel⟩
def sp_law (K : PySem.W.Frag) : Sp := fun vs H Q _ => ∃ (a : Addr) (ns : List Int), vs = [.ref a] ∧ SqL K H a (ns.map V.int) ∧ ns.length ≤ 63 ∧ ∀ H', Q (.bl true) H'

theorem ok_law {f : Addr} {fd : FuncData} (F : Fun K "law" "law" s_law f fd) (T : Top K mg CS) : FnOk P w K mg base CX0 7 f fd ["_law_script"] (sp_law K) := by
  refine F.ok sc_law (fun vs H Q E h => ?_) (fun cdv A outer s H vs Q E hr h => ?_)
  · obtain ⟨a, ns, rfl, _⟩ := h
    rfl
  · obtain ⟨a, ns, rfl, hS0', hlen, kk⟩ := h
    have hS : ∀ {L : Led}, Seen K ⟨H, fun _ => False⟩ L a (ns.map V.int) := seen0 hS0' (fun z => z)
    have hS0 : ∀ {L : Led}, Seen K ⟨H, fun _ => False⟩ L a (ns.map V.int) := hS
    refine ⟨_, (pss_cons (ps_for PassesOwn.never rfl (pi_list (pe_op op_cat (pe_lst (pa_cons (pe_own (ok__law_cell_at T) (hr.mono (by decide)) rfl (pa_cons (pv 0) (pa_cons pe_int pa_nil))) pa_nil)) (pe_slice sl_list (pv 0) (po_some pe_int) (po_some pe_int)))) (pg_name (i := 1) sc_law.nd rfl (Or.inl rfl)) (pss_cons (ps_set (i := 2) sc_law.nd rfl (Or.inr rfl) (pe_own (ok__law_source_of T) (hr.mono (by decide)) rfl (pa_cons (pv 1) pa_nil)))
      (pss_cons (ps_setLc (i := 3) (own := [("_law_k", 13)]) rfl sc_law.nd rfl rfl (sw_true rfl rfl rfl (by decide +kernel)) (pi_rangeW1 rfl T.b_range (pa_cons (pe_op op_add pe_int (pe_own (ok__law_next T) (hr.mono (by decide)) rfl (pa_cons (pv 2) (pa_cons pe_int pa_nil)))) pa_nil)) (blkOk_by (N := ["_law_script", "_law_cell", "_law_source", "_law_radixes", "_law_years", "_law_most", "_law_moment", "_law_factors", "_law_due", "_law_found", "_law_counts", "_law_every", "_law_huge", "_law_k", "_law_radix", "_law_times", "_law_scheme"]) (sc := defScope s_law) (by decide +kernel)) (fun _ _ _ _ _ => (pg_name (i := 13) sc_law.nd rfl (Or.inl rfl))) (fun _ _ _ _ _ => pts_nil) (fun _ _ _ _ _ => (pe_own (ok__law_one T) (hr.mono (by decide)) rfl (pa_cons (pv 2) (pa_cons (pe_lst (pa_cons pe_int (pa_cons pe_int (pa_cons pe_int (pa_cons pe_int (pa_cons pe_int (pa_cons pe_int (pa_cons pe_int (pa_cons pe_int (pa_cons pe_int pa_nil)))))))))) pa_nil)))))
      (pss_cons (ps_set (i := 3) sc_law.nd rfl (Or.inl rfl) (pe_callB (cr_sortedSetO rfl) (by rfl) T.b_sorted (by decide +kernel) (pa_cons (pe_callTy (cr_setI rfl) (by rfl) T.b_set (by decide +kernel) (pa_cons (pv 3) pa_nil)) pa_nil)))
      (pss_cons (ps_set (i := 4) sc_law.nd rfl (Or.inr rfl) (pe_own (ok__law_next T) (hr.mono (by decide)) rfl (pa_cons (pv 2) (pa_cons (pe_own (ok__law_one T) (hr.mono (by decide)) rfl (pa_cons (pv 2) (pa_cons (pe_lst (pa_cons pe_int (pa_cons pe_int pa_nil))) pa_nil))) pa_nil))))
      (pss_cons (ps_set (i := 5) sc_law.nd rfl (Or.inr rfl) (pe_own (ok__law_next T) (hr.mono (by decide)) rfl (pa_cons (pv 2) (pa_cons (pe_own (ok__law_one T) (hr.mono (by decide)) rfl (pa_cons (pv 2) (pa_cons (pe_lst (pa_cons pe_int (pa_cons pe_int (pa_cons pe_int pa_nil)))) pa_nil))) pa_nil))))
      (pss_cons (ps_set (i := 6) sc_law.nd rfl (Or.inr rfl) (pe_own (ok__law_next T) (hr.mono (by decide)) rfl (pa_cons (pv 2) (pa_cons pe_int pa_nil))))
      (pss_cons (ps_setLc (i := 7) (own := [("_law_radix", 14)]) rfl sc_law.nd rfl rfl (sw_true rfl rfl rfl (by decide +kernel)) (pi_list (pv 3)) (blkOk_by (N := ["_law_script", "_law_cell", "_law_source", "_law_radixes", "_law_years", "_law_most", "_law_moment", "_law_factors", "_law_due", "_law_found", "_law_counts", "_law_every", "_law_huge", "_law_k", "_law_radix", "_law_times", "_law_scheme"]) (sc := defScope s_law) (by decide +kernel)) (fun _ _ _ _ _ => (pg_name (i := 14) sc_law.nd rfl (Or.inl rfl))) (fun _ _ _ _ _ => pts_nil) (fun _ _ _ _ _ => (pe_tup (pa_cons (pv 14) (pa_cons (pe_own (ok_least_factor T) (hr.mono (by decide)) rfl (pa_cons (pv 14) (pa_cons (pv 4) (pa_cons (pv 5) pa_nil)))) pa_nil)))))
      (pss_cons (ps_setLc (i := 8) (own := [("_law_radix", 14), ("_law_times", 15)]) rfl sc_law.nd rfl rfl (sw_true rfl rfl rfl (by decide +kernel)) (pi_list (pv 7)) (blkOk_by (N := ["_law_script", "_law_cell", "_law_source", "_law_radixes", "_law_years", "_law_most", "_law_moment", "_law_factors", "_law_due", "_law_found", "_law_counts", "_law_every", "_law_huge", "_law_k", "_law_radix", "_law_times", "_law_scheme"]) (sc := defScope s_law) (by decide +kernel)) (fun _ _ _ _ _ => (pg_tupK (Kf := K) (n := 2) rfl rfl (pgs_cons (pg_name (i := 14) sc_law.nd rfl (Or.inl rfl)) (pgs_cons (pg_name (i := 15) sc_law.nd rfl (Or.inl rfl)) pgs_nil)) rfl)) (fun _ _ _ _ _ => pts_nil) (fun _ _ _ _ _ => (pe_oc (ok_Scheme_init T) (hr.mono (by decide)) rfl (pa_cons (pv 14) (pa_cons (pv 15) pa_nil)))))
      (pss_cons (ps_set (i := 9) sc_law.nd rfl (Or.inl rfl) (pe_own (ok_schemes_for T) (hr.mono (by decide)) rfl (pa_cons (pv 3) (pa_cons (pv 4) (pa_cons (pv 5) pa_nil)))))
      (pss_cons (ps_if (PW.pt (pw_or (pt_cmpR (op_neL mon_own (eqG_own (P := PScheme) (ok_Scheme_eq T) sp_same_Scheme) (hr.mono (by decide))) (pv 9) (pv 8) (nomark _)) (pw_or1 (pt_not (pt_val (pe_callB (cr_all rfl) (by rfl) T.b_all (by decide +kernel) (pa_cons (pe_lc (own := [("_law_scheme", 16)]) rfl sc_law.nd (pi_list (pv 9)) (blkOk_by (N := ["_law_script", "_law_cell", "_law_source", "_law_radixes", "_law_years", "_law_most", "_law_moment", "_law_factors", "_law_due", "_law_found", "_law_counts", "_law_every", "_law_huge", "_law_k", "_law_radix", "_law_times", "_law_scheme"]) (sc := defScope s_law) (by decide +kernel)) (fun _ _ _ _ _ => (pg_name (i := 16) sc_law.nd rfl (Or.inl rfl))) (fun _ _ _ _ _ => pts_nil) (fun _ _ _ _ _ => (pe_own (ok_is_enough T) (hr.mono (by decide)) rfl (pa_cons (pv 16) (pa_cons (pv 4) (pa_cons (pv 5) pa_nil)))))) pa_nil))))))) (pss_one (ps_ret pe_bl)) pss_nil)
      (pss_cons (ps_expr (pe_bm0 PySem.F.plainAttrs_list PySem.F.slot_list_clear PySem.F.type_list_clear mt_clear (pv 9)))
      (pss_cons (ps_if (pt_cmpR (op_neL mon_own (eqG_own (P := PScheme) (ok_Scheme_eq T) sp_same_Scheme) (hr.mono (by decide))) (pe_kw (ks := ["loss", "age", "bases"]) [2, 1, 0] (ok_schemes_for T) (hr.mono (by decide)) rfl (pk_cons (pv 5) (pk_cons (pv 4) (pk_cons (pv 3) pk_nil))) (fun _ _ _ _ _ _ ws hl => match ws, hl with | [_, _, _], _ => rfl)) (pv 8) (nomark _)) (pss_one (ps_ret pe_bl)) pss_nil)
      (pss_cons (ps_setLc (i := 10) (own := [("_law_radix", 14), ("_law_times", 15)]) rfl sc_law.nd rfl rfl (sw_true rfl rfl rfl (by decide +kernel)) (pi_list (pv 7)) (blkOk_by (N := ["_law_script", "_law_cell", "_law_source", "_law_radixes", "_law_years", "_law_most", "_law_moment", "_law_factors", "_law_due", "_law_found", "_law_counts", "_law_every", "_law_huge", "_law_k", "_law_radix", "_law_times", "_law_scheme"]) (sc := defScope s_law) (by decide +kernel)) (fun _ _ _ _ _ => (pg_tupK (Kf := K) (n := 2) rfl rfl (pgs_cons (pg_name (i := 14) sc_law.nd rfl (Or.inl rfl)) (pgs_cons (pg_name (i := 15) sc_law.nd rfl (Or.inl rfl)) pgs_nil)) rfl)) (fun _ _ _ _ _ => pts_nil) (fun _ _ _ _ _ => (pe_tup (pa_cons (pe_own (ok__law_count T) (hr.mono (by decide)) rfl (pa_cons (pv 14) (pa_cons (pv 15) (pa_cons (pv 6) pa_nil)))) (pa_cons (pv 14) (pa_cons (pv 15) pa_nil))))))
      (pss_cons (ps_if (pt_cmpR (op_neD hr.units) (pe_own (ok_fewest_kept T) (hr.mono (by decide)) rfl (pa_cons (pv 3) (pa_cons (pv 4) (pa_cons (pv 5) (pa_cons (pv 6) pa_nil))))) (pe_callB (cr_minDt rfl hr.units) (by rfl) T.b_min (by decide +kernel) (pa_cons (pv 10) pa_nil)) (nomark _)) (pss_one (ps_ret pe_bl)) pss_nil)
      (pss_cons (ps_if (pt_cmpR (op_neD hr.units) (pe_kw (ks := ["time", "loss", "age", "bases"]) [3, 2, 1, 0] (ok_fewest_kept T) (hr.mono (by decide)) rfl (pk_cons (pv 6) (pk_cons (pv 5) (pk_cons (pv 4) (pk_cons (pv 3) pk_nil)))) (fun _ _ _ _ _ _ ws hl => match ws, hl with | [_, _, _, _], _ => rfl)) (pe_callB (cr_minDt rfl hr.units) (by rfl) T.b_min (by decide +kernel) (pa_cons (pv 10) pa_nil)) (nomark _)) (pss_one (ps_ret pe_bl)) pss_nil)
      (pss_cons (ps_set (i := 4) sc_law.nd rfl (Or.inr rfl) (pe_op op_add (pe_own (ok__law_one T) (hr.mono (by decide)) rfl (pa_cons (pv 2) (pa_cons (pe_lst (pa_cons pe_int (pa_cons (pe_op op_pow pe_int pe_int) (pa_cons (pe_op op_mulW pe_int (pe_op op_pow pe_int pe_int)) (pa_cons (pe_op op_pow pe_int pe_int) pa_nil))))) pa_nil))) (pe_own (ok__law_next T) (hr.mono (by decide)) rfl (pa_cons (pv 2) (pa_cons (pe_op op_pow pe_int pe_int) pa_nil)))))
      (pss_cons (ps_setLc (i := 11) (own := [("_law_radix", 14)]) rfl sc_law.nd rfl rfl (sw_true rfl rfl rfl (by decide +kernel)) (pi_list (pv 3)) (blkOk_by (N := ["_law_script", "_law_cell", "_law_source", "_law_radixes", "_law_years", "_law_most", "_law_moment", "_law_factors", "_law_due", "_law_found", "_law_counts", "_law_every", "_law_huge", "_law_k", "_law_radix", "_law_times", "_law_scheme"]) (sc := defScope s_law) (by decide +kernel)) (fun _ _ _ _ _ => (pg_name (i := 14) sc_law.nd rfl (Or.inl rfl))) (fun _ _ _ _ _ => pts_nil) (fun _ _ _ _ _ => (pe_tup (pa_cons (pv 14) (pa_cons (pe_own (ok_least_factor T) (hr.mono (by decide)) rfl (pa_cons (pv 14) (pa_cons (pv 4) (pa_cons pe_int pa_nil)))) pa_nil)))))
      (pss_cons (ps_setLc (i := 8) (own := [("_law_radix", 14), ("_law_times", 15)]) rfl sc_law.nd rfl rfl (sw_true rfl rfl rfl (by decide +kernel)) (pi_list (pv 11)) (blkOk_by (N := ["_law_script", "_law_cell", "_law_source", "_law_radixes", "_law_years", "_law_most", "_law_moment", "_law_factors", "_law_due", "_law_found", "_law_counts", "_law_every", "_law_huge", "_law_k", "_law_radix", "_law_times", "_law_scheme"]) (sc := defScope s_law) (by decide +kernel)) (fun _ _ _ _ _ => (pg_tupK (Kf := K) (n := 2) rfl rfl (pgs_cons (pg_name (i := 14) sc_law.nd rfl (Or.inl rfl)) (pgs_cons (pg_name (i := 15) sc_law.nd rfl (Or.inl rfl)) pgs_nil)) rfl)) (fun _ _ _ _ _ => (pts_one (pt_cmpR op_notN' (pv 15) pe_non (nomark _)))) (fun _ _ _ _ _ => (pe_oc (ok_Scheme_init T) (hr.mono (by decide)) rfl (pa_cons (pv 14) (pa_cons (pv 15) pa_nil)))))
      (pss_cons (ps_if (pt_cmpR (op_neL mon_own (eqG_own (P := PScheme) (ok_Scheme_eq T) sp_same_Scheme) (hr.mono (by decide))) (pe_own (ok_schemes_for T) (hr.mono (by decide)) rfl (pa_cons (pv 3) (pa_cons (pv 4) (pa_cons pe_int pa_nil)))) (pv 8) (nomark _)) (pss_one (ps_ret pe_bl)) pss_nil)
      (pss_cons (ps_set (i := 12) sc_law.nd rfl (Or.inl rfl) (pe_op op_add (pe_op op_pow pe_int pe_int) (pe_own (ok__law_next T) (hr.mono (by decide)) rfl (pa_cons (pv 2) (pa_cons (pe_op op_pow pe_int pe_int) pa_nil)))))
      (pss_cons (ps_if (PW.pt (pw_or (pt_cmpR op_notN' (pe_own (ok_least_factor T) (hr.mono (by decide)) rfl (pa_cons pe_int (pa_cons (pv 12) (pa_cons pe_int pa_nil)))) pe_non (nomark _)) (pw_or1 (pt_cmpR (op_neL mon_own (eqG_own (P := PScheme) (ok_Scheme_eq T) sp_same_Scheme) (hr.mono (by decide))) (pe_own (ok_schemes_for T) (hr.mono (by decide)) rfl (pa_cons (pe_lst (pa_cons pe_int (pa_cons pe_int pa_nil))) (pa_cons (pv 12) (pa_cons pe_int pa_nil)))) (pe_lst pa_nil) (nomark _))))) (pss_one (ps_ret pe_bl)) pss_nil)
      (pss_one (ps_if (pt_cmpR op_notN' (pe_own (ok_fewest_kept T) (hr.mono (by decide)) rfl (pa_cons (pe_lst (pa_cons pe_int (pa_cons pe_int pa_nil))) (pa_cons (pv 12) (pa_cons pe_int (pa_cons (pv 6) pa_nil))))) pe_non (nomark _)) (pss_one (ps_ret pe_bl)) pss_nil))))))))))))))))))))))))
      (pss_one (ps_ret pe_bl))), ?_⟩
    refine run_ws (σ := [some (.ref a), none, none, none, none, none, none, none, none, none, none, none, none, none, none, none, none]) (K := kV (fun v => v = .bl true)) (L := []) ?_ at_nil (eo_V fun v H' e s' => e ▸ kk H')
    refine ws_seq ?_
    refine ws_for ?_
    refine wi_list ?_
    refine wp_op ?_
    refine wp_lst ?_
    refine wa_cons ?_
    refine wp_call ?_
    refine wa_cons ?_
    refine wp_var rfl ?_
    refine wa_cons ?_
    refine wp_c ?_
    refine wa_nil ?_
    refine wc__law_cell_at hS0 (by decide) ?_
    intro n0
    refine wa_nil ?_
    refine ⟨by simp, fun p1 => ?_⟩
    refine wp_sl ?_
    refine wp_var rfl ?_
    refine wo_some ?_
    refine wp_c ?_
    refine ⟨_, rfl, ?_⟩
    refine wo_some ?_
    refine wp_c ?_
    refine ⟨_, rfl, ?_⟩
    refine wr_slL hS ?_
    intro p2
    refine wr_cat 0 1 rfl rfl (by (first | (simp; done) | (simp; have := cutV_length (ns.map V.int) (some 1) (some 4); simp at this; omega))) ?_
    intro p3
    refine ⟨_, _, rfl, (seen 2 rfl), ?_⟩
    refine wf_listS (seen 2 rfl) (fun i vs => ∃ w1 : Option V, ∃ w2 : Option V, ∃ w3 : Option V, ∃ w4 : Option V, ∃ w5 : Option V, ∃ w6 : Option V, ∃ w7 : Option V, ∃ w8 : Option V, ∃ w9 : Option V, ∃ w10 : Option V, ∃ w11 : Option V, ∃ w12 : Option V, vs = [none, some w1, some w2, some w3, some w4, some w5, some w6, some w7, some w8, some w9, some w10, some w11, some w12, none, none, none, none]) ?_ ?_ ?_
    · exact ⟨[none, some _, some _, some _, some _, some _, some _, some _, some _, some _, some _, some _, some _, none, none, none, none], rfl, _, _, _, _, _, _, _, _, _, _, _, _, rfl⟩
    · rintro i x vs hx ⟨w1, w2, w3, w4, w5, w6, w7, w8, w9, w10, w11, w12, rfl⟩
      obtain ⟨c, rfl⟩ : ∃ c : Int, x = .int c := by
        rcases List.mem_append.mp (List.mem_of_getElem? hx) with h | h
        · exact ⟨n0, by simpa using h⟩
        · exact ints_all x (cut_mem h)
      refine wg_name ?_
      refine ws_eq (σ' := [_, _, _, _, _, _, _, _, _, _, _, _, _, _, _, _, _]) rfl ?_
      refine ws_seq ?_
      refine ws_set ?_
      refine wp_call ?_
      refine wa_cons ?_
      refine wp_var rfl ?_
      refine wa_nil ?_
      refine wc__law_source_of ?_
      intro p4
      refine ws_nf (σ' := [_, _, _, _, _, _, _, _, _, _, _, _, _, _, _, _, _]) (L' := [_, _, _, _]) rfl rfl ?_
      refine ws_seq ?_
      refine ws_set ?_
      refine wp_lc ?_
      refine wi_rngW1 ?_
      refine wa_cons ?_
      refine wp_op ?_
      refine wp_c ?_
      refine wp_call ?_
      refine wa_cons ?_
      refine wp_var rfl ?_
      refine wa_cons ?_
      refine wp_c ?_
      refine wa_nil ?_
      refine wc__law_next 3 rfl (by decide) (by omega) ?_
      intro nN hnN
      refine wr0 ?_
      refine wa_nil ?_
      refine ⟨_, rfl, ?_⟩
      refine lc_RDX Ent.src src_le 3 1 6 (fun n => 2 ≤ n ∧ n ≤ 1000) rfl (by omega) (by decide) ?_ ?_
      · intro j x hj hx D acc
        refine wt_yes ?_
        refine ⟨rfl, ?_⟩
        refine wp_call ?_
        refine wa_cons ?_
        refine wp_var rfl ?_
        refine wa_cons ?_
        refine wp_lst ?_
        refine wa_cons ?_
        refine wp_c ?_
        refine wa_cons ?_
        refine wp_c ?_
        refine wa_cons ?_
        refine wp_c ?_
        refine wa_cons ?_
        refine wp_c ?_
        refine wa_cons ?_
        refine wp_c ?_
        refine wa_cons ?_
        refine wp_c ?_
        refine wa_cons ?_
        refine wp_c ?_
        refine wa_cons ?_
        refine wp_c ?_
        refine wa_cons ?_
        refine wp_c ?_
        refine wa_nil ?_
        refine ⟨by simp, fun p5 => ?_⟩
        refine wa_nil ?_
        refine wc__law_one (P := fun n => 2 ≤ n ∧ n ≤ 1000) 3 5 rfl rfl (by decide) (by omega) (by simp) (by (intro v hv; simp only [List.mem_cons, List.not_mem_nil, or_false] at hv; repeat' (rcases hv with hv | hv)) <;> exact ⟨_, rfl, by first | omega | decide⟩) ?_
        intro nR hnR
        exact ⟨⟨_, rfl, by omega⟩, 1, by decide, ⟨_, rfl⟩⟩
      intro p6
      intro ys1 hyl1 hys1
      refine ws_nf (σ' := [_, _, _, _, _, _, _, _, _, _, _, _, _, _, _, _, _]) (L' := [_, _, _, _, _]) rfl rfl ?_
      refine ws_seq ?_
      refine ws_set ?_
      refine wp_cb ?_
      refine wa_cons ?_
      refine wp_cb ?_
      refine wa_cons ?_
      refine wp_var rfl ?_
      refine wa_nil ?_
      refine wc_set (seen 4 rfl) (by omega) ?_
      intro p7 n7 hn7
      refine wa_nil ?_
      refine wc_sortedSet 5 rfl (by have hn_ := hn7; omega) ?_
      intro nsS pS hSS hMS hLS
      simp only [decide_eq_true_eq] at hMS
      have hZS := hn7
      rw [← hLS] at hZS
      have hy1 : 1 ≤ nsS.length := by
        obtain ⟨y, hy⟩ : ∃ y, y ∈ ys1 := List.exists_mem_of_length_pos (by omega)
        exact List.length_pos_of_mem ((hMS y).mpr hy)
      have hbo : Ma.BasOk nsS := Ma.bas_sorted (by omega) (by omega) hSS (fun n hn => hys1 n ((hMS n).mp hn))
      refine ws_nf (σ' := [_, _, _, _, _, _, _, _, _, _, _, _, _, _, _, _, _]) (L' := [_, _, _, _, _, _, _]) rfl rfl ?_
      refine ws_seq ?_
      refine ws_set ?_
      refine wp_call ?_
      refine wa_cons ?_
      refine wp_var rfl ?_
      refine wa_cons ?_
      refine wp_call ?_
      refine wa_cons ?_
      refine wp_var rfl ?_
      refine wa_cons ?_
      refine wp_lst ?_
      refine wa_cons ?_
      refine wp_c ?_
      refine wa_cons ?_
      refine wp_c ?_
      refine wa_nil ?_
      refine ⟨by simp, fun p8 => ?_⟩
      refine wa_nil ?_
      refine wc__law_one (P := fun n => 5 ≤ n ∧ n ≤ 200) 3 7 rfl rfl (by decide) (by decide) (by simp) (by (intro v hv; simp only [List.mem_cons, List.not_mem_nil, or_false] at hv; repeat' (rcases hv with hv | hv)) <;> exact ⟨_, rfl, by first | omega | decide⟩) ?_
      intro nA hnA
      refine wa_nil ?_
      refine wc__law_next 3 rfl (by decide) (by omega) ?_
      intro nY hnY
      refine ws_nf (σ' := [_, _, _, _, _, _, _, _, _, _, _, _, _, _, _, _, _]) (L' := [_, _, _, _, _, _, _, _]) rfl rfl ?_
      refine ws_seq ?_
      refine ws_set ?_
      refine wp_call ?_
      refine wa_cons ?_
      refine wp_var rfl ?_
      refine wa_cons ?_
      refine wp_call ?_
      refine wa_cons ?_
      refine wp_var rfl ?_
      refine wa_cons ?_
      refine wp_lst ?_
      refine wa_cons ?_
      refine wp_c ?_
      refine wa_cons ?_
      refine wp_c ?_
      refine wa_cons ?_
      refine wp_c ?_
      refine wa_nil ?_
      refine ⟨by simp, fun p9 => ?_⟩
      refine wa_nil ?_
      refine wc__law_one (P := fun n => 2 ≤ n ∧ n ≤ 200) 3 8 rfl rfl (by decide) (by decide) (by simp) (by (intro v hv; simp only [List.mem_cons, List.not_mem_nil, or_false] at hv; repeat' (rcases hv with hv | hv)) <;> exact ⟨_, rfl, by first | omega | decide⟩) ?_
      intro nB hnB
      refine wa_nil ?_
      refine wc__law_next 3 rfl (by decide) (by omega) ?_
      intro nM hnM
      refine ws_nf (σ' := [_, _, _, _, _, _, _, _, _, _, _, _, _, _, _, _, _]) (L' := [_, _, _, _, _, _, _, _, _]) rfl rfl ?_
      refine ws_seq ?_
      refine ws_set ?_
      refine wp_call ?_
      refine wa_cons ?_
      refine wp_var rfl ?_
      refine wa_cons ?_
      refine wp_c ?_
      refine wa_nil ?_
      refine wc__law_next 3 rfl (by decide) (by omega) ?_
      intro nT hnT
      refine ws_nf (σ' := [_, _, _, _, _, _, _, _, _, _, _, _, _, _, _, _, _]) (L' := [_, _, _, _, _, _, _, _, _]) rfl rfl ?_
      refine ws_seq ?_
      refine ws_set ?_
      refine wp_lc ?_
      refine wi_list ?_
      refine wp_var rfl ?_
      refine ⟨_, _, rfl, (seen 6 rfl), ?_⟩
      refine lc_T row2 (fun _ => true) (fun b => (b, Ma.facF b nY nM)) (iter_list V.int (seen 6 rfl)) (fun _ => rfl) (by (have := hbo.2.1; omega)) ?_ ?_
      · rintro n hx D acc
        have hn := hbo.2.2.1 n hx
        refine wt_yes ?_
        refine ⟨rfl, ?_⟩
        refine ifT rfl ?_
        refine wp_tup ?_
        refine wa_cons ?_
        refine wp_var rfl ?_
        refine wa_cons ?_
        refine wp_call ?_
        refine wa_cons ?_
        refine wp_var rfl ?_
        refine wa_cons ?_
        refine wp_var rfl ?_
        refine wa_cons ?_
        refine wp_var rfl ?_
        refine wa_nil ?_
        refine wc_least_factor (by omega) ?_ ?_
        · intro hNF
          exfalso
          obtain ⟨F, h1, h2⟩ := hNF
          have := Ma.fac_small (by omega) (by omega) h1
          omega
        · intro vF hVF
          refine wa_nil ?_
          refine ⟨by simp, fun p10 => ?_⟩
          exact ⟨⟨_, 10, _, rfl, by rw [Ma.facF_eq (by omega) hVF.1]; rfl⟩, by first | exact List.prefix_refl _ | exact ⟨_, rfl⟩⟩
      intro p11
      rw [Ma.scl_fac hbo (by omega) (by omega)]
      refine ws_nf (σ' := [_, _, _, _, _, _, _, _, _, _, _, _, _, _, _, _, _]) (L' := [_, _, _, _, _, _, _, _, _, _]) rfl rfl ?_
      refine ws_seq ?_
      refine ws_set ?_
      refine wp_lc ?_
      refine wi_rows 9 ?_
      refine wp_var rfl ?_
      refine ⟨_, _, _, rfl, rfl, ?_⟩
      refine lc_NI CS (fun p : Int × Int => scF p.1 p.2) (fun _ => true) (fun p => p) (iter_rows [14, 15] row2 9 rfl (fun _ => rfl) rfl) (fun _ => rfl) (by (have h1 := Ma.scl_len (ns := nsS) (age := nY) (loss := nM); have := hbo.2.1; omega)) ?_ ?_
      · rintro ⟨b, f⟩ hx D acc
        have hso := Ma.scl_ok hbo (by omega) hx
        dsimp only at hso
        refine wt_yes ?_
        refine ⟨rfl, ?_⟩
        refine ifT rfl ?_
        refine wm_Scheme ?_
        refine wa_cons ?_
        refine wp_var rfl ?_
        refine wa_cons ?_
        refine wp_var rfl ?_
        refine wa_nil ?_
        refine ⟨_, _, rfl, by (unfold SchOk; omega), fun p12 dp12 => ?_⟩
        exact ⟨⟨_, _, 11, _, rfl, rfl⟩, by first | exact List.prefix_refl _ | exact ⟨_, rfl⟩⟩
      intro p13
      rw [Ma.filt_true, List.map_id']
      refine ws_nf (σ' := [_, _, _, _, _, _, _, _, _, _, _, _, _, _, _, _, _]) (L' := [_, _, _, _, _, _, _, _, _, _, _]) rfl rfl ?_
      refine ws_seq ?_
      refine ws_set ?_
      refine wp_call ?_
      refine wa_cons ?_
      refine wp_var rfl ?_
      refine wa_cons ?_
      refine wp_var rfl ?_
      refine wa_cons ?_
      refine wp_var rfl ?_
      refine wa_nil ?_
      refine wc_schemes_for 6 rfl ⟨by assumption, by omega⟩ ?_
      intro p14
      refine ws_nf (σ' := [_, _, _, _, _, _, _, _, _, _, _, _, _, _, _, _, _]) (L' := [_, _, _, _, _, _, _, _, _, _, _, _]) rfl rfl ?_
      refine ws_seq ?_
      refine ws_if ?_
      refine wt_or ?_
      refine wt_test ?_
      refine wp_op ?_
      refine wp_var rfl ?_
      refine wp_var rfl ?_
      refine wr_neLO (P := PScheme) 11 10 rfl rfl (fun fs h => by
          obtain ⟨p, hp, rfl⟩ := List.mem_map.mp h
          have hq := Ma.scl_ok hbo (by omega) hp
          exact ⟨p.1, p.2, by unfold SchOk; omega, rfl⟩) ?_
      refine ⟨_, rfl, ?_⟩
      refine ifF (by first | rfl | (simp; done) | (simp [*]; done)) ?_
      refine wt_not ?_
      refine wt_B ?_
      refine wp_cb ?_
      refine wa_cons ?_
      refine wp_lc ?_
      refine wi_inss 11 ?_
      refine wp_var rfl ?_
      refine ⟨_, _, _, _, rfl, rfl, ?_⟩
      refine lc_VI V.bl (fun _ => true) (fun _ => true) (by unfold FreeI; rfl) (iter_inss 16 (fun p : Int × Int => scF p.1 p.2) 11 rfl) (fun _ _ => rfl) (by (have h1 := Ma.scl_len (ns := nsS) (age := nY) (loss := nM); have := hbo.2.1; omega)) ?_ ?_
      · rintro ⟨b, f⟩ pr dx_ hx D acc
        have hso := Ma.scl_ok hbo (by omega) hx
        dsimp only at hso
        refine wt_yes ?_
        refine ⟨rfl, ?_⟩
        refine ifT rfl ?_
        refine wp_call ?_
        refine wa_cons ?_
        refine wp_var rfl ?_
        refine wa_cons ?_
        refine wp_var rfl ?_
        refine wa_cons ?_
        refine wp_var rfl ?_
        refine wa_nil ?_
        refine wc_is_enough 13 rfl ⟨by (unfold SchOk; omega), by omega⟩ ?_
        intro FI hFI
        exact ⟨congrArg V.bl (decide_eq_true (Ma.scl_enough hx (by omega) hFI)), by first | exact List.prefix_refl _ | exact ⟨_, rfl⟩⟩
      intro p15
      refine wa_nil ?_
      refine wc_all (seen 12 rfl) ?_
      refine ⟨_, rfl, ?_⟩
      refine ifB (fun hc16 => ?_) (fun hc16 => ?_)
      · try simp only [decide_eq_true_eq, decide_eq_false_iff_not, Bool.and_eq_true, Bool.or_eq_true, Bool.not_eq_true', Bool.and_eq_false_iff, Bool.or_eq_false_iff, Bool.not_eq_false', Bool.not_true, Bool.not_false, Bool.false_or, Bool.true_and, Bool.true_or, Bool.false_and, Bool.and_true, Bool.or_false, reduceCtorEq, not_true_eq_false, not_false_eq_true, decide_true, decide_false] at hc16
        all_goals
          exfalso
          simp at hc16
      · try simp only [decide_eq_true_eq, decide_eq_false_iff_not, Bool.and_eq_true, Bool.or_eq_true, Bool.not_eq_true', Bool.and_eq_false_iff, Bool.or_eq_false_iff, Bool.not_eq_false', Bool.not_true, Bool.not_false, Bool.false_or, Bool.true_and, Bool.true_or, Bool.false_and, Bool.and_true, Bool.or_false, reduceCtorEq, not_true_eq_false, not_false_eq_true, decide_true, decide_false] at hc16
        refine ws_next ?_
        refine ws_seq ?_
        refine ws_drop ?_
        refine wp_bm0 ?_
        refine wp_var rfl ?_
        refine ⟨ty_inss 11 rfl, ?_⟩
        refine wr_clearI 11 rfl ?_
        refine ws_seq ?_
        refine ws_if ?_
        refine wt_test ?_
        refine wp_op ?_
        refine wp_kw ?_
        refine wa_cons ?_
        refine wp_var rfl ?_
        refine wa_cons ?_
        refine wp_var rfl ?_
        refine wa_cons ?_
        refine wp_var rfl ?_
        refine wa_nil ?_
        refine ⟨rfl, ?_⟩
        refine wc_schemes_for 6 rfl ⟨by assumption, by omega⟩ ?_
        intro p17
        refine wp_var rfl ?_
        refine wr_neLO (P := PScheme) 13 10 rfl rfl (fun fs h => by
            obtain ⟨p, hp, rfl⟩ := List.mem_map.mp h
            have hq := Ma.scl_ok hbo (by omega) hp
            exact ⟨p.1, p.2, by unfold SchOk; omega, rfl⟩) ?_
        refine ⟨_, rfl, ?_⟩
        refine ifF (by first | rfl | (simp; done) | (simp [*]; done)) ?_
        refine ws_next ?_
        refine ws_seq ?_
        refine ws_set ?_
        refine wp_lc ?_
        refine wi_rows 9 ?_
        refine wp_var rfl ?_
        refine ⟨_, _, _, rfl, rfl, ?_⟩
        refine lc_T row3 (fun _ => true) (fun p => Ma.sclR nT p) (iter_rows [14, 15] row2 9 rfl (fun _ => rfl) rfl) (fun _ => rfl) (by (have h1 := Ma.scl_len (ns := nsS) (age := nY) (loss := nM); have := hbo.2.1; omega)) ?_ ?_
        · rintro ⟨b, f⟩ hx D acc
          have hso := Ma.scl_ok hbo (by omega) hx
          dsimp only at hso
          refine wt_yes ?_
          refine ⟨rfl, ?_⟩
          refine ifT rfl ?_
          refine wp_tup ?_
          refine wa_cons ?_
          refine wp_call ?_
          refine wa_cons ?_
          refine wp_var rfl ?_
          refine wa_cons ?_
          refine wp_var rfl ?_
          refine wa_cons ?_
          refine wp_var rfl ?_
          refine wa_nil ?_
          refine wc__law_count (by omega) ?_
          refine wa_cons ?_
          refine wp_var rfl ?_
          refine wa_cons ?_
          refine wp_var rfl ?_
          refine wa_nil ?_
          refine ⟨by simp, fun p18 => ?_⟩
          exact ⟨⟨_, 15, _, rfl, rfl⟩, by first | exact List.prefix_refl _ | exact ⟨_, rfl⟩⟩
        intro p19
        rw [Ma.filt_true]
        refine ws_nf (σ' := [_, _, _, _, _, _, _, _, _, _, _, _, _, _, _, _, _]) (L' := [_, _, _, _, _, _, _, _, _, _, _, _, _, _, _]) rfl rfl ?_
        refine ws_seq ?_
        refine ws_if ?_
        refine wt_test ?_
        refine wp_op ?_
        refine wp_call ?_
        refine wa_cons ?_
        refine wp_var rfl ?_
        refine wa_cons ?_
        refine wp_var rfl ?_
        refine wa_cons ?_
        refine wp_var rfl ?_
        refine wa_cons ?_
        refine wp_var rfl ?_
        refine wa_nil ?_
        refine wc_fewest_kept 6 rfl ⟨by assumption, by omega⟩ ?_ ?_
        · intro hNP
          exfalso
          exact Ma.scl_ne hbo (by omega) (by omega) hNP
        · intro xP hVP pP
          refine wp_cb ?_
          refine wa_cons ?_
          refine wp_var rfl ?_
          refine wa_nil ?_
          refine wc_minT 14 rfl (fun e => Ma.scl_ne hbo (by omega) (by omega) (List.map_eq_nil_iff.mp e)) ?_
          intro xK hxK hMK pK
          refine wr_neD (dp_tup (seenT 15 rfl) (dps_cons dp_int (dps_cons dp_int (dps_cons dp_int dps_nil)))) (dp_tup (seenT 16 rfl) (dps_cons dp_int (dps_cons dp_int (dps_cons dp_int dps_nil)))) rfl rfl ?_
          refine ⟨_, rfl, ?_⟩
          refine ifB (fun hc20 => ?_) (fun hc20 => ?_)
          · try simp only [decide_eq_true_eq, decide_eq_false_iff_not, Bool.and_eq_true, Bool.or_eq_true, Bool.not_eq_true', Bool.and_eq_false_iff, Bool.or_eq_false_iff, Bool.not_eq_false', Bool.not_true, Bool.not_false, Bool.false_or, Bool.true_and, Bool.true_or, Bool.false_and, Bool.and_true, Bool.or_false, reduceCtorEq, not_true_eq_false, not_false_eq_true, decide_true, decide_false] at hc20
            all_goals
              exfalso
              have e := ltT_uniq hVP.1 hxK hVP.2 hMK
              subst e
              simp [PyData.eqv, PyData.eqvAll] at hc20
          · try simp only [decide_eq_true_eq, decide_eq_false_iff_not, Bool.and_eq_true, Bool.or_eq_true, Bool.not_eq_true', Bool.and_eq_false_iff, Bool.or_eq_false_iff, Bool.not_eq_false', Bool.not_true, Bool.not_false, Bool.false_or, Bool.true_and, Bool.true_or, Bool.false_and, Bool.and_true, Bool.or_false, reduceCtorEq, not_true_eq_false, not_false_eq_true, decide_true, decide_false] at hc20
            refine ws_next ?_
            refine ws_seq ?_
            refine ws_if ?_
            refine wt_test ?_
            refine wp_op ?_
            refine wp_kw ?_
            refine wa_cons ?_
            refine wp_var rfl ?_
            refine wa_cons ?_
            refine wp_var rfl ?_
            refine wa_cons ?_
            refine wp_var rfl ?_
            refine wa_cons ?_
            refine wp_var rfl ?_
            refine wa_nil ?_
            refine ⟨rfl, ?_⟩
            refine wc_fewest_kept 6 rfl ⟨by assumption, by omega⟩ ?_ ?_
            · intro hNQ
              exfalso
              exact Ma.scl_ne hbo (by omega) (by omega) hNQ
            · intro xQ hVQ pQ
              refine wp_cb ?_
              refine wa_cons ?_
              refine wp_var rfl ?_
              refine wa_nil ?_
              refine wc_minT 14 rfl (fun e => Ma.scl_ne hbo (by omega) (by omega) (List.map_eq_nil_iff.mp e)) ?_
              intro xK hxK hMK pK
              refine wr_neD (dp_tup (seenT 17 rfl) (dps_cons dp_int (dps_cons dp_int (dps_cons dp_int dps_nil)))) (dp_tup (seenT 18 rfl) (dps_cons dp_int (dps_cons dp_int (dps_cons dp_int dps_nil)))) rfl rfl ?_
              refine ⟨_, rfl, ?_⟩
              refine ifB (fun hc21 => ?_) (fun hc21 => ?_)
              · try simp only [decide_eq_true_eq, decide_eq_false_iff_not, Bool.and_eq_true, Bool.or_eq_true, Bool.not_eq_true', Bool.and_eq_false_iff, Bool.or_eq_false_iff, Bool.not_eq_false', Bool.not_true, Bool.not_false, Bool.false_or, Bool.true_and, Bool.true_or, Bool.false_and, Bool.and_true, Bool.or_false, reduceCtorEq, not_true_eq_false, not_false_eq_true, decide_true, decide_false] at hc21
                all_goals
                  exfalso
                  have e := ltT_uniq hVQ.1 hxK hVQ.2 hMK
                  subst e
                  simp [PyData.eqv, PyData.eqvAll] at hc21
              · try simp only [decide_eq_true_eq, decide_eq_false_iff_not, Bool.and_eq_true, Bool.or_eq_true, Bool.not_eq_true', Bool.and_eq_false_iff, Bool.or_eq_false_iff, Bool.not_eq_false', Bool.not_true, Bool.not_false, Bool.false_or, Bool.true_and, Bool.true_or, Bool.false_and, Bool.and_true, Bool.or_false, reduceCtorEq, not_true_eq_false, not_false_eq_true, decide_true, decide_false] at hc21
                refine ws_next ?_
                refine ws_seq ?_
                refine ws_set ?_
                refine wp_op ?_
                refine wp_call ?_
                refine wa_cons ?_
                refine wp_var rfl ?_
                refine wa_cons ?_
                refine wp_lst ?_
                refine wa_cons ?_
                refine wp_c ?_
                refine wa_cons ?_
                refine wp_op ?_
                refine wp_c ?_
                refine wp_c ?_
                refine wr_powc (r := 1000000) (powOk (by decide)) (by decide) ?_
                refine wa_cons ?_
                refine wp_op ?_
                refine wp_c ?_
                refine wp_op ?_
                refine wp_c ?_
                refine wp_c ?_
                refine wr_powc (r := 100000000) (powOk (by decide)) (by decide) ?_
                refine wr1 (by exact mulOk (by omega) (by omega)) ?_
                refine wa_cons ?_
                refine wp_op ?_
                refine wp_c ?_
                refine wp_c ?_
                refine wr_powc (r := 10000000000) (powOk (by decide)) (by decide) ?_
                refine wa_nil ?_
                refine ⟨by simp, fun p22 => ?_⟩
                refine wa_nil ?_
                refine wc__law_one (P := fun n => 1 ≤ n ∧ n ≤ 10 ^ 10) 3 19 rfl rfl (by decide) (by decide) (by simp) (by (intro v hv; simp only [List.mem_cons, List.not_mem_nil, or_false] at hv; repeat' (rcases hv with hv | hv)) <;> exact ⟨_, rfl, by first | omega | decide⟩) ?_
                intro nC hnC
                refine wp_call ?_
                refine wa_cons ?_
                refine wp_var rfl ?_
                refine wa_cons ?_
                refine wp_op ?_
                refine wp_c ?_
                refine wp_c ?_
                refine wr_powc (r := 1000000000) (powOk (by decide)) (by decide) ?_
                refine wa_nil ?_
                refine wc__law_next 3 rfl (by decide) (by omega) ?_
                intro nD hnD
                refine wr0 ?_
                refine ws_nf (σ' := [_, _, _, _, _, _, _, _, _, _, _, _, _, _, _, _, _]) (L' := [_, _, _, _, _, _, _, _, _, _, _, _, _, _, _, _, _, _, _, _]) rfl rfl ?_
                refine ws_seq ?_
                refine ws_set ?_
                refine wp_lc ?_
                refine wi_list ?_
                refine wp_var rfl ?_
                refine ⟨_, _, rfl, (seen 6 rfl), ?_⟩
                refine lc_T rowO (fun _ => true) (fun b => (b, Ma.facO b (nC + nD) 1000)) (iter_list V.int (seen 6 rfl)) (fun _ => rfl) (by (have := hbo.2.1; omega)) ?_ ?_
                · rintro n hx D acc
                  have hn := hbo.2.2.1 n hx
                  refine wt_yes ?_
                  refine ⟨rfl, ?_⟩
                  refine ifT rfl ?_
                  refine wp_tup ?_
                  refine wa_cons ?_
                  refine wp_var rfl ?_
                  refine wa_cons ?_
                  refine wp_call ?_
                  refine wa_cons ?_
                  refine wp_var rfl ?_
                  refine wa_cons ?_
                  refine wp_var rfl ?_
                  refine wa_cons ?_
                  refine wp_c ?_
                  refine wa_nil ?_
                  refine wc_opt (fun c1 c2 => wc_least_factor (by omega) c1 c2) ?_
                  intro vE hOE
                  refine wa_nil ?_
                  refine ⟨by simp, fun p23 => ?_⟩
                  exact ⟨⟨_, 21, _, rfl, congrArg (fun r => some (_, Ent.ob (HO.tup r), true)) (Ma.facO_of (by omega) hOE)⟩, by first | exact List.prefix_refl _ | exact ⟨_, rfl⟩⟩
                intro p24
                refine ws_nf (σ' := [_, _, _, _, _, _, _, _, _, _, _, _, _, _, _, _, _]) (L' := [_, _, _, _, _, _, _, _, _, _, _, _, _, _, _, _, _, _, _, _, _]) rfl rfl ?_
                refine ws_seq ?_
                refine ws_set ?_
                refine wp_lc ?_
                refine wi_rows 20 ?_
                refine wp_var rfl ?_
                refine ⟨_, _, _, rfl, rfl, ?_⟩
                refine lc_NI CS (fun p : Int × Int => scF p.1 p.2) (fun p => p.2.isSome) (fun p => (p.1, p.2.getD 0)) (iter_rows [14, 15] rowO 20 rfl (fun _ => rfl) rfl) (fun _ => rfl) (by (rw [List.length_map, Ma.filt_true]; have := hbo.2.1; omega)) ?_ ?_
                · rintro ⟨b, o⟩ hx D acc
                  obtain ⟨hn, hfo⟩ := Ma.facO_mem hbo (by omega) hx
                  rcases o with _ | fz
                  rotate_left
                  have hf2 := hfo _ rfl
                  rotate_left
                  · refine wt_test ?_
                    refine wp_op ?_
                    refine wp_var rfl ?_
                    refine wp_c ?_
                    refine wr_notN ?_
                    refine ⟨_, rfl, ?_⟩
                    refine ⟨rfl, ?_⟩
                    refine ifF rfl ?_
                    first | exact List.prefix_refl _ | exact ⟨_, rfl⟩
                  · refine wt_test ?_
                    refine wp_op ?_
                    refine wp_var rfl ?_
                    refine wp_c ?_
                    refine wr_notN ?_
                    refine ⟨_, rfl, ?_⟩
                    refine ⟨rfl, ?_⟩
                    refine ifT rfl ?_
                    refine wm_Scheme ?_
                    refine wa_cons ?_
                    refine wp_var rfl ?_
                    refine wa_cons ?_
                    refine wp_var rfl ?_
                    refine wa_nil ?_
                    refine ⟨_, _, rfl, by (unfold SchOk; omega), fun p25 dp25 => ?_⟩
                    exact ⟨⟨_, _, 22, _, rfl, rfl⟩, by first | exact List.prefix_refl _ | exact ⟨_, rfl⟩⟩
                intro p26
                rw [Ma.scl_every]
                refine ws_nf (σ' := [_, _, _, _, _, _, _, _, _, _, _, _, _, _, _, _, _]) (L' := [_, _, _, _, _, _, _, _, _, _, _, _, _, _, _, _, _, _, _, _, _, _]) rfl rfl ?_
                refine ws_seq ?_
                refine ws_if ?_
                refine wt_test ?_
                refine wp_op ?_
                refine wp_call ?_
                refine wa_cons ?_
                refine wp_var rfl ?_
                refine wa_cons ?_
                refine wp_var rfl ?_
                refine wa_cons ?_
                refine wp_c ?_
                refine wa_nil ?_
                refine wc_schemes_for 6 rfl ⟨by assumption, by omega⟩ ?_
                intro p27
                refine wp_var rfl ?_
                refine wr_neLO (P := PScheme) 22 21 rfl rfl (fun fs h => by
                    obtain ⟨p, hp, rfl⟩ := List.mem_map.mp h
                    have hq := Ma.scl_ok hbo (by omega) hp
                    exact ⟨p.1, p.2, by unfold SchOk; omega, rfl⟩) ?_
                refine ⟨_, rfl, ?_⟩
                refine ifF (by first | rfl | (simp; done) | (simp [*]; done)) ?_
                refine ws_next ?_
                refine ws_seq ?_
                refine ws_set ?_
                refine wp_op ?_
                refine wp_op ?_
                refine wp_c ?_
                refine wp_c ?_
                refine wr_powc (r := 10000000000) (powOk (by decide)) (by decide) ?_
                refine wp_call ?_
                refine wa_cons ?_
                refine wp_var rfl ?_
                refine wa_cons ?_
                refine wp_op ?_
                refine wp_c ?_
                refine wp_c ?_
                refine wr_powc (r := 100000000000000000000) (powOk (by decide)) (by decide) ?_
                refine wa_nil ?_
                refine wc__law_next 3 rfl (by decide) (by omega) ?_
                intro nH hnH
                refine wr0 ?_
                refine ws_nf (σ' := [_, _, _, _, _, _, _, _, _, _, _, _, _, _, _, _, _]) (L' := [_, _, _, _, _, _, _, _, _, _, _, _, _, _, _, _, _, _, _, _, _, _, _]) rfl rfl ?_
                refine ws_seq ?_
                refine ws_if ?_
                refine wt_or ?_
                refine wt_test ?_
                refine wp_op ?_
                refine wp_call ?_
                refine wa_cons ?_
                refine wp_c ?_
                refine wa_cons ?_
                refine wp_var rfl ?_
                refine wa_cons ?_
                refine wp_c ?_
                refine wa_nil ?_
                refine wc_least_factor (by omega) ?_ ?_
                · intro hNL
                  refine wp_c ?_
                  refine wr_notN ?_
                  refine ⟨_, rfl, ?_⟩
                  refine ifF (by first | rfl | (simp; done) | (simp [*]; done)) ?_
                  refine wt_test ?_
                  refine wp_op ?_
                  refine wp_call ?_
                  refine wa_cons ?_
                  refine wp_lst ?_
                  refine wa_cons ?_
                  refine wp_c ?_
                  refine wa_cons ?_
                  refine wp_c ?_
                  refine wa_nil ?_
                  refine ⟨by simp, fun p28 => ?_⟩
                  refine wa_cons ?_
                  refine wp_var rfl ?_
                  refine wa_cons ?_
                  refine wp_c ?_
                  refine wa_nil ?_
                  refine wc_schemes_for 23 rfl ⟨Ma.bas23, by omega⟩ ?_
                  intro p29
                  refine wp_lst ?_
                  refine wa_nil ?_
                  refine ⟨by simp, fun p30 => ?_⟩
                  refine wr_neLO0 (P := PScheme) 24 25 rfl rfl (by rw [Ma.scl_huge (by simp) (by omega) (by omega)]; rfl) ?_
                  refine ⟨_, rfl, ?_⟩
                  refine ifF (by first | rfl | (simp; done) | (simp [*]; done)) ?_
                  refine ws_next ?_
                  refine ws_if ?_
                  refine wt_test ?_
                  refine wp_op ?_
                  refine wp_call ?_
                  refine wa_cons ?_
                  refine wp_lst ?_
                  refine wa_cons ?_
                  refine wp_c ?_
                  refine wa_cons ?_
                  refine wp_c ?_
                  refine wa_nil ?_
                  refine ⟨by simp, fun p31 => ?_⟩
                  refine wa_cons ?_
                  refine wp_var rfl ?_
                  refine wa_cons ?_
                  refine wp_c ?_
                  refine wa_cons ?_
                  refine wp_var rfl ?_
                  refine wa_nil ?_
                  refine wc_fewest_kept 26 rfl ⟨Ma.bas23, by omega⟩ ?_ ?_
                  · intro hNZ
                    refine wp_c ?_
                    refine wr_notN ?_
                    refine ⟨_, rfl, ?_⟩
                    refine ifF (by first | rfl | (simp; done) | (simp [*]; done)) ?_
                    refine ws_next ?_
                    exact ⟨[none, some _, some _, some _, some _, some _, some _, some _, some _, some _, some _, some _, some _, none, none, none, none], ⟨rfl, _, _, _, _, _, _, _, _, _, _, _, _, rfl⟩, ⟨_, rfl⟩⟩
                  · intro xZ hVZ pZ
                    exfalso
                    rw [Ma.scl_huge (by simp) (by omega) (by omega)] at hVZ
                    simp at hVZ
                · intro vL hVL
                  exfalso
                  have := Ma.fac_huge (by omega) (by omega) (by omega) hVL.1
                  omega
    rintro vs ⟨w1, w2, w3, w4, w5, w6, w7, w8, w9, w10, w11, w12, rfl⟩
    refine ws_nf (σ' := [_, _, _, _, _, _, _, _, _, _, _, _, _, _, _, _, _]) (L' := [_, _, _]) rfl rfl ?_
    refine ws_ret ?_
    refine wp_c ?_
    exact rfl
end
theorem top_mk {K : PySem.W.Frag} {h : Heap} {mg : Str → Option Value} {c_sc : Addr} (X : K.In h) (G : h.Ns mainGlobals mg)
    (aScheme : PySem.W.nsIn K mainGlobals "Scheme" = some (some (.ref c_sc)))
    (b_all : PySem.W.nsIn K mainGlobals "all" = some none)
    (b_bool : PySem.W.nsIn K mainGlobals "bool" = some none)
    (b_int : PySem.W.nsIn K mainGlobals "int" = some none)
    (b_isinstance : PySem.W.nsIn K mainGlobals "isinstance" = some none)
    (b_len : PySem.W.nsIn K mainGlobals "len" = some none)
    (b_list : PySem.W.nsIn K mainGlobals "list" = some none)
    (b_max : PySem.W.nsIn K mainGlobals "max" = some none)
    (b_min : PySem.W.nsIn K mainGlobals "min" = some none)
    (b_range : PySem.W.nsIn K mainGlobals "range" = some none)
    (b_set : PySem.W.nsIn K mainGlobals "set" = some none)
    (b_sorted : PySem.W.nsIn K mainGlobals "sorted" = some none)
    (c_MOST_BASE : ∃ t, PySem.W.nsIn K mainGlobals "MOST_BASE" = some (some (.int 1000 t)))
    (c_MOST_BASES : ∃ t, PySem.W.nsIn K mainGlobals "MOST_BASES" = some (some (.int 50 t)))
    (c_MOST_FACTOR : ∃ t, PySem.W.nsIn K mainGlobals "MOST_FACTOR" = some (some (.int 1000000 t)))
    (pgScheme : PySem.W.plainGet K c_sc Str.empty = true) (hdScheme : PySem.W.hasDictIn K c_sc = true) (poScheme : PySem.W.plainOver K c_sc = true) (saScheme : PySem.W.findIn K (.ref c_sc) "__setattr__" = some (some (.builtin "object.__setattr__")))
    (n_Scheme_radix : PySem.W.findIn K (.ref c_sc) "radix" = some none)
    (n_Scheme_multiple : PySem.W.findIn K (.ref c_sc) "multiple" = some none)
    (neaScheme : PySem.W.findIn K (.ref c_sc) "__ne__" = some (some (.builtin "object.__ne__"))) (nebScheme : PySem.W.mroIn K c_sc (.type "object") = some true)
    (isaScheme : PySem.W.findIn K (.ref c_sc) "__class__" = some (some (.builtin "object.__class__"))) (isbScheme : PySem.W.specialIn K (.builtin "object.__class__") "__get__" = some (some (.builtin "getset_descriptor.__get__"))) (iscScheme : PySem.W.takesIn K (.builtin "object.__class__") = some true) (isdScheme : PySem.W.mroIn K c_sc (.type "object") = some true)
    (f__law_source_of : TopFn K mg "_law_source_of" s__law_source_of)
    (f__law_next : TopFn K mg "_law_next" s__law_next)
    (f_is_integer : TopFn K mg "is_integer" s_is_integer)
    (f_is_between : TopFn K mg "is_between" s_is_between)
    (f_check_bases : TopFn K mg "check_bases" s_check_bases)
    (f_check_limits : TopFn K mg "check_limits" s_check_limits)
    (f_Scheme_init : mg "Scheme" = some (.ref c_sc) → InitFn K mg "Scheme" c_sc "Scheme.__init__" s_Scheme_init)
    (f_factor_for : TopFn K mg "factor_for" s_factor_for)
    (f_schemes_for : TopFn K mg "schemes_for" s_schemes_for)
    (f__law_cell_at : TopFn K mg "_law_cell_at" s__law_cell_at)
    (f__law_one : TopFn K mg "_law_one" s__law_one)
    (f_check_time : TopFn K mg "check_time" s_check_time)
    (f_multiples : TopFn K mg "multiples" s_multiples)
    (f_Scheme_base : MethFn K c_sc "base" "Scheme.base" s_Scheme_base)
    (f_Scheme_factor : MethFn K c_sc "factor" "Scheme.factor" s_Scheme_factor)
    (f_count_living : TopFn K mg "count_living" s_count_living)
    (f_fewest_kept : TopFn K mg "fewest_kept" s_fewest_kept)
    (f_least_factor : TopFn K mg "least_factor" s_least_factor)
    (f__law_unit : TopFn K mg "_law_unit" s__law_unit)
    (f__law_count : TopFn K mg "_law_count" s__law_count)
    (f_is_enough : TopFn K mg "is_enough" s_is_enough)
    (f_Scheme_eq : MethFn K c_sc "__eq__" "Scheme.__eq__" s_Scheme_eq)
    (f_law : TopFn K mg "law" s_law) : Top K mg c_sc :=
  ⟨PySem.W.mg_none_of X G b_all, PySem.W.mg_none_of X G b_bool, PySem.W.mg_none_of X G b_int, PySem.W.mg_none_of X G b_isinstance, PySem.W.mg_none_of X G b_len, PySem.W.mg_none_of X G b_list, PySem.W.mg_none_of X G b_max, PySem.W.mg_none_of X G b_min, PySem.W.mg_none_of X G b_range, PySem.W.mg_none_of X G b_set, PySem.W.mg_none_of X G b_sorted, (by obtain ⟨t, h⟩ := c_MOST_BASE; exact ⟨t, PySem.W.mg_of X G h⟩), (by obtain ⟨t, h⟩ := c_MOST_BASES; exact ⟨t, PySem.W.mg_of X G h⟩), (by obtain ⟨t, h⟩ := c_MOST_FACTOR; exact ⟨t, PySem.W.mg_of X G h⟩), ⟨pgScheme, hdScheme, poScheme, saScheme⟩, n_Scheme_radix, n_Scheme_multiple, ⟨neaScheme, nebScheme⟩, PySem.W.mg_of X G aScheme, ⟨⟨pgScheme, hdScheme, poScheme, saScheme⟩, isaScheme, isbScheme, iscScheme, isdScheme, if_pos (beq_self_eq_true _)⟩, f__law_source_of, f__law_next, f_is_integer, f_is_between, f_check_bases, f_check_limits, (f_Scheme_init (PySem.W.mg_of X G aScheme)), f_factor_for, f_schemes_for, f__law_cell_at, f__law_one, f_check_time, f_multiples, f_Scheme_base, f_Scheme_factor, f_count_living, f_fewest_kept, f_least_factor, f__law_unit, f__law_count, f_is_enough, f_Scheme_eq, f_law⟩
theorem all_mk {l : PySem.W.OpenLaw} {w : World} {K : PySem.W.Frag} {mg : Str → Option Value} {fa CS : Addr} (hfa : mg "law" = some (.ref fa)) (T : Top K mg CS) :
    ∃ fd : FuncData, (∀ (s : Shared) (v : Value), BindsTo s fd ⟨[v], []⟩ [("_law_script", v)]) ∧ ∀ base : Heap, K.In base → base.Ns mainGlobals mg → FnOk l.prog w K mg base CX0 7 fa fd ["_law_script"] (sp_law K) := by
  obtain ⟨f, fd, h1, F⟩ := T.f_law.ex
  have e := hfa.symm.trans h1
  cases e
  have ok := fun base => ok_law (P := l.prog) (w := w) (base := base) F T
  obtain ⟨oc, od, kV, doc, pm, an, cdv, ct, osl, rfl, lk, hcd⟩ := F.ex
  exact ⟨_, fun s v => .of_eq rfl, fun base _ _ => ok base⟩
theorem walk {l : PySem.W.OpenLaw} {q : Program} {loose : List Str} {XP : (Str → Option Value) → Heap → Prop} {YP : World → Heap → Prop} {d : DefRec} {K : Params → PySem.W.Frag} (hn : l.most = some 63) (hdf : d.params.defaults = [])
    (hY : ∀ (w : World) (h : Heap), YP w h → (K w.params).In h)
    (F : ∀ (w : World) (mg : Str → Option Value) (fa : Addr) (h : Heap), (K w.params).In h → h.Ns mainGlobals mg → mg d.name = some (.ref fa) →
      ∃ fd : FuncData, (∀ (s : Shared) (u : Value), BindsTo s fd ⟨[u], []⟩ [("_law_script", u)]) ∧ ∀ base : Heap, (K w.params).In base → base.Ns mainGlobals mg → FnOk l.prog w (K w.params) mg base CX0 7 fa fd ["_law_script"] (sp_law (K w.params))) :
    PySem.W.WalkO q loose XP YP l.row.toRowW d [] (fun f vs => PySem.call f vs) :=
  L2.walk_of (n := 63) (k := 7) (x := "_law_script") (CX := fun _ => CX0) (sp := fun w => sp_law (K w.params)) hn (by decide) hdf ⟨rfl, by decide, by decide⟩ hY F (fun _ _ a ns hl _ hS => ⟨a, ns, rfl, hS, hl, fun _ => rfl⟩) fun _ _ _ _ _ z => z
end Sn
open PySem PySem.W PyProof.Rows
set_option maxRecDepth 100000 in
set_option maxHeartbeats 0 in
theorem PySem.Challenge.cw_snapdigits_k69_schemes_with_the_fewest_k_holds : PySem.Challenge.rw_snapdigits_k69_schemes_with_the_fewest_k.Holds := by
  w_on; o_law; k_head; (case hw => w_witness2)
  k_fill
  refine Sn.walk (l := PySem.Challenge.rw_snapdigits_k69_schemes_with_the_fewest_k) rfl rfl (fun w h Y => PySem.W.kIn_of Y) ?F
  case F =>
    intro w mg fa h KX G hmg
    refine' Sn.all_mk hmg (Sn.top_mk KX G ?aScheme ?b_all ?b_bool ?b_int ?b_isinstance ?b_len ?b_list ?b_max ?b_min ?b_range ?b_set ?b_sorted ?c_MOST_BASE ?c_MOST_BASES ?c_MOST_FACTOR ?pgScheme ?hdScheme ?poScheme ?saScheme ?n_Scheme_radix ?n_Scheme_multiple ?neaScheme ?nebScheme ?isaScheme ?isbScheme ?iscScheme ?isdScheme ?f__law_source_of ?f__law_next ?f_is_integer ?f_is_between ?f_check_bases ?f_check_limits ?f_Scheme_init ?f_factor_for ?f_schemes_for ?f__law_cell_at ?f__law_one ?f_check_time ?f_multiples ?f_Scheme_base ?f_Scheme_factor ?f_count_living ?f_fewest_kept ?f_least_factor ?f__law_unit ?f__law_count ?f_is_enough ?f_Scheme_eq ?f_law)
    (case aScheme => (k_is))
    (case b_all => (k_is))
    (case b_bool => (k_is))
    (case b_int => (k_is))
    (case b_isinstance => (k_is))
    (case b_len => (k_is))
    (case b_list => (k_is))
    (case b_max => (k_is))
    (case b_min => (k_is))
    (case b_range => (k_is))
    (case b_set => (k_is))
    (case b_sorted => (k_is))
    (case c_MOST_BASE => (exact ⟨_, by k_is⟩))
    (case c_MOST_BASES => (exact ⟨_, by k_is⟩))
    (case c_MOST_FACTOR => (exact ⟨_, by k_is⟩))
    (case pgScheme => (k_is))
    (case hdScheme => (k_is))
    (case poScheme => (k_is))
    (case saScheme => (k_is))
    (case n_Scheme_radix => (k_is))
    (case n_Scheme_multiple => (k_is))
    (case neaScheme => (k_is))
    (case nebScheme => (k_is))
    (case isaScheme => (k_is))
    (case isbScheme => (k_is))
    (case iscScheme => (k_is))
    (case isdScheme => (k_is))
    (case f__law_source_of => (refine' Kr.topFn_mk KX G ?a ?l ?c ?k; (case a => k_is); (case l => k_is); (case c => k_is); (case k => k_is)))
    (case f__law_next => (refine' Kr.topFn_mk KX G ?a ?l ?c ?k; (case a => k_is); (case l => k_is); (case c => k_is); (case k => k_is)))
    (case f_is_integer => (refine' Kr.topFn_mk KX G ?a ?l ?c ?k; (case a => k_is); (case l => k_is); (case c => k_is); (case k => k_is)))
    (case f_is_between => (refine' Kr.topFn_mk KX G ?a ?l ?c ?k; (case a => k_is); (case l => k_is); (case c => k_is); (case k => k_is)))
    (case f_check_bases => (refine' Kr.topFn_mk KX G ?a ?l ?c ?k; (case a => k_is); (case l => k_is); (case c => k_is); (case k => k_is)))
    (case f_check_limits => (refine' Kr.topFn_mk KX G ?a ?l ?c ?k; (case a => k_is); (case l => k_is); (case c => k_is); (case k => k_is)))
    (case f_Scheme_init => (intro hC; refine' Kr.initFn_mk hC ?m ?kc ?a ?i ?l ?c ?k; (case m => k_is); (case kc => k_is); (case a => k_is); (case i => k_is); (case l => k_is); (case c => k_is); (case k => k_is)))
    (case f_factor_for => (refine' Kr.topFn_mk KX G ?a ?l ?c ?k; (case a => k_is); (case l => k_is); (case c => k_is); (case k => k_is)))
    (case f_schemes_for => (refine' Kr.topFn_mk KX G ?a ?l ?c ?k; (case a => k_is); (case l => k_is); (case c => k_is); (case k => k_is)))
    (case f__law_cell_at => (refine' Kr.topFn_mk KX G ?a ?l ?c ?k; (case a => k_is); (case l => k_is); (case c => k_is); (case k => k_is)))
    (case f__law_one => (refine' Kr.topFn_mk KX G ?a ?l ?c ?k; (case a => k_is); (case l => k_is); (case c => k_is); (case k => k_is)))
    (case f_check_time => (refine' Kr.topFn_mk KX G ?a ?l ?c ?k; (case a => k_is); (case l => k_is); (case c => k_is); (case k => k_is)))
    (case f_multiples => (refine' Kr.topFn_mk KX G ?a ?l ?c ?k; (case a => k_is); (case l => k_is); (case c => k_is); (case k => k_is)))
    (case f_Scheme_base => (refine' Kr.methFn_mk ?a ?i ?l ?c ?k; (case a => k_is); (case i => k_is); (case l => k_is); (case c => k_is); (case k => k_is)))
    (case f_Scheme_factor => (refine' Kr.methFn_mk ?a ?i ?l ?c ?k; (case a => k_is); (case i => k_is); (case l => k_is); (case c => k_is); (case k => k_is)))
    (case f_count_living => (refine' Kr.topFn_mk KX G ?a ?l ?c ?k; (case a => k_is); (case l => k_is); (case c => k_is); (case k => k_is)))
    (case f_fewest_kept => (refine' Kr.topFn_mk KX G ?a ?l ?c ?k; (case a => k_is); (case l => k_is); (case c => k_is); (case k => k_is)))
    (case f_least_factor => (refine' Kr.topFn_mk KX G ?a ?l ?c ?k; (case a => k_is); (case l => k_is); (case c => k_is); (case k => k_is)))
    (case f__law_unit => (refine' Kr.topFn_mk KX G ?a ?l ?c ?k; (case a => k_is); (case l => k_is); (case c => k_is); (case k => k_is)))
    (case f__law_count => (refine' Kr.topFn_mk KX G ?a ?l ?c ?k; (case a => k_is); (case l => k_is); (case c => k_is); (case k => k_is)))
    (case f_is_enough => (refine' Kr.topFn_mk KX G ?a ?l ?c ?k; (case a => k_is); (case l => k_is); (case c => k_is); (case k => k_is)))
    (case f_Scheme_eq => (refine' Kr.methFn_mk ?a ?i ?l ?c ?k; (case a => k_is); (case i => k_is); (case l => k_is); (case c => k_is); (case k => k_is)))
    (case f_law => (refine' Kr.topFn_mk KX G ?a ?l ?c ?k; (case a => k_is); (case l => k_is); (case c => k_is); (case k => k_is)))
#print axioms PySem.Challenge.cw_snapdigits_k69_schemes_with_the_fewest_k_holds
