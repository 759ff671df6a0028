import PyProof.Rows.All
import Wide.All
import OpenK.AllK
import Wide.FinOn
import HandS.ForMost
import HandS.Wide
import HandS.IsInst
import HandS.SortInts
import HandS.Style
import HandS.Defaults
import HandS.MakeKw
import HandS.Zip
import HandS.Flow
import HandS.SortKw
import HandS.SetFor
import HandS.Strs
import HandS.Conv
import HandS.Codes
import HandS.MakeKwOnly
import HandS.WideBits
import KE.DataMinMax
import KE.SortData
import KE.KSortedM
import HandS.Lambda
import HandS.Deep
import HandS.NoneIn
import HandS.OwnEq
import PyProof.EqAt
import PyProof.EqKinds
import HandS.Dict
import HandS.Iter
import PyProof.ReprDict
import PyProof.ReprHeadsTuple
import HandS.FStr
import HandS.FStrTup
import KE.KExcInit
import HandS.ExcInit
import HandS.ExcField
import HandS.ClsMeth
import HandS.WordsExc
import HandS.ExcOwn
import HandS.ExcCtx
import HandS.Nested
import KE.KDflt
import HandS.ExcIs
import HandS.EndTab
import HandS.HotCalls
import PySem.Challenge.RW_snapdigits_k05_invalid_schemes_numbers_a
set_option Elab.async false
set_option linter.all false
set_option maxRecDepth 100000
set_option maxHeartbeats 1000000
/-! ### range over ints of any size -/
namespace L2
open PySem PySem.Spec PyProof.Rows
theorem turn_long {P : Program} {w : World} {K : PySem.W.Frag} {tg : Expr} (it : Addr) (lo : Int) (n : Nat) : Turn P w K tg (Itr lo n) [it] it (fun i h => IsLongIter h it (lo + (i : Nat) * 1) ((n : Int) - (i : Nat)) 1) where
  mem := by simp
  obj := fun i h st b hb => by
    have e : b = it := by simpa using hb
    subst e
    exact ⟨_, st, fun v z => by
      have z' : Data.fields _ = Data.cell v := z
      cases z'⟩
  keep := fun i h h' st k => k it (by simp) _ st
  item := by
    intro X hP hw hK hc i pins s σ H E I hf st hg
    subst hP hw hK
    obtain ⟨f0, f1, f2, f3, f4, f5⟩ := hf it (by simp)
    have W := Walks.longrange (prog := X.prog) (w := X.w) (I.ok.hd hc) it lo 1 n
    refine W.item i s _ _ hg st fun v h' tk hv st' kk => ?_
    obtain ⟨t, rfl⟩ := hv
    have I1 : Inv X pins σ H { s with heap := h', toks := tk } := I.turned (fun b o hb e => kk b o (by simpa using hb) e) f0 f1 f3 f4 f5
    refine ⟨_, rfl, go_of (s := { s with heap := h', toks := tk }) (n := "longrange_iterator") st' rfl rfl (by decide) ⟨.int (lo + i), H, I1, ⟨t, ?_⟩, ⟨rfl, rfl⟩, st', fun b hb => (hf b hb).1⟩⟩
    rw [Int.mul_one]
  done := by
    intro X hP hw hK hc i pins s σ H E I hf st hg
    subst hP hw hK
    obtain ⟨f0, f1, f2, f3, f4, f5⟩ := hf it (by simp)
    exact wpAny_pyNext_long_end (I.ok.hd hc) st (by have : n ≤ i := hg; omega) fun h' eb => ⟨rfl, I.turned (t' := s.toks) (fun b o hb e => eb b o hb e) f0 f1 f3 f4 f5⟩
  self := fun _ _ _ _ _ st h => wpAny_pyIter_longiter st h
section
variable {X : Cx} {tg : Expr}
theorem range_itW {pins : List (Addr × Obj)} {σ : St} {H : Hp} {s : Shared} {R : It → Hp → Prop} {E : Value → Shared → Prop} {lo hi : Int} {t u v : Tok} {tk : Nat} (I : Inv X pins σ H s)
    (q : R (Itr lo (hi - lo).toNat) H) : wpAny (model X.prog X.w) X.A (pyIter (.ref s.heap.objs.size)) (PIE X pins σ tg R) E { s with heap := s.heap.push { cls := .type "range", data := .fields #[.int lo t, .int hi u, .int 1 v] }, toks := tk } := by
  have I1 : Inv X pins σ H { s with heap := s.heap.push { cls := .type "range", data := .fields #[.int lo t, .int hi u, .int 1 v] }, toks := tk } := I.kept fun b o e => Heap.get?_push_of_some _ e
  have e1 : lo + ((0 : Nat) : Int) * 1 = lo := by simp
  have e2 : (((hi - lo).toNat : Nat) : Int) - ((0 : Nat) : Int) = Builtin.Range.rangeSize lo hi 1 := by rw [rangeSize_one]; split <;> omega
  cases hsm : Builtin.Range.small lo hi 1 with
  | true =>
    refine wpAny_pyIter_range (IsRange.new ..) hsm ?_
    refine ⟨(s.heap.push { cls := .type "range", data := .fields #[.int lo t, .int hi u, .int 1 v] }).objs.size, [(s.heap.push { cls := .type "range", data := .fields #[.int lo t, .int hi u, .int 1 v] }).objs.size], _, _, H, rfl,
      I1.kept (t' := tk) fun b o e => Heap.get?_push_of_some _ e, turn_range _ lo (hi - lo).toNat, ?_, fun b hb => ?_, q⟩
    · show IsRangeIter _ _ (lo + ((0 : Nat) : Int) * 1) ((((hi - lo).toNat : Nat) : Int) - ((0 : Nat) : Int)) 1
      rw [e1, e2]
      exact Heap.get?_push_size _ rfl
    · have e : b = (s.heap.push { cls := .type "range", data := .fields #[.int lo t, .int hi u, .int 1 v] }).objs.size := by simpa using hb
      subst e
      exact I1.fpOk (Nat.le_refl _) (I1.hok.fresh (Nat.le_refl _))
  | false =>
    refine wpAny_pyIter_longrange (IsRange.new ..) hsm ?_
    refine ⟨(s.heap.push { cls := .type "range", data := .fields #[.int lo t, .int hi u, .int 1 v] }).objs.size, [(s.heap.push { cls := .type "range", data := .fields #[.int lo t, .int hi u, .int 1 v] }).objs.size], _, _, H, rfl,
      I1.kept (t' := tk) fun b o e => Heap.get?_push_of_some _ e, turn_long _ lo (hi - lo).toNat, ?_, fun b hb => ?_, q⟩
    · show IsLongIter _ _ (lo + ((0 : Nat) : Int) * 1) ((((hi - lo).toNat : Nat) : Int) - ((0 : Nat) : Int)) 1
      rw [e1, e2]
      exact Heap.get?_push_size _ rfl
    · have e : b = (s.heap.push { cls := .type "range", data := .fields #[.int lo t, .int hi u, .int 1 v] }).objs.size := by simpa using hb
      subst e
      exact I1.fpOk (Nat.le_refl _) (I1.hok.fresh (Nat.le_refl _))
def iRngW (ta : TA) : TI := fun σ H R => ta σ H fun vs H1 => ∃ i j : Int, vs = [.int i, .int j] ∧ R (Itr i (j - i).toNat) H1
theorem pi_rangeW {a b : Expr} {ta : TA} {p pos : Pos} (hg : Gl X "range") (hm : X.mg "range" = none) (ha : PA X [a, b] ta) (hs : starEach [a, b] X.env = [(false, eval a X.env), (false, eval b X.env)] := by rfl) (hs2 : starEach [b] X.env = [(false, eval b X.env)] := by rfl) :
    PI X tg (.Call (.Name "range" p) [a, b] [] pos) (iRngW ta) := by
  refine ⟨fun pins s σ H R I h => ?_⟩
  refine Call_ (ld_blt I hg hm boot_range (PyProof.Rows.callWith_type1 (thn (ha.run pos pins s σ H _ I h) fun us s1 ⟨vs, H1, I1, r1, q1⟩ => ?_) (by rw [hs, hs2]) (by rw [hs2]; rfl)))
  obtain ⟨i, j, e, q⟩ := q1
  subst e
  cases r1 with
  | cons r rr =>
    cases rr with
    | cons r' rr =>
      cases rr
      obtain ⟨t, rfl⟩ := r
      obtain ⟨t', rfl⟩ := r'
      exact call_range_2 (range_itW I1 q)
def iRngW1 (ta : TA) : TI := fun σ H R => ta σ H fun vs H1 => ∃ j : Int, vs = [.int j] ∧ R (Itr 0 j.toNat) H1
theorem pi_rangeW1 {a : Expr} {ta : TA} {p pos : Pos} (hg : Gl X "range") (hm : X.mg "range" = none) (ha : PA X [a] ta) (hs : starEach [a] X.env = [(false, eval a X.env)] := by rfl) : PI X tg (.Call (.Name "range" p) [a] [] pos) (iRngW1 ta) := by
  refine ⟨fun pins s σ H R I h => ?_⟩
  refine Call_ (ld_blt I hg hm boot_range (PyProof.Rows.callWith_type1 (thn (ha.run pos pins s σ H _ I h) fun us s1 ⟨vs, H1, I1, r1, q1⟩ => ?_) hs rfl))
  obtain ⟨j, e, q⟩ := q1
  subst e
  cases r1 with
  | cons r rr =>
    cases rr
    obtain ⟨t, rfl⟩ := r
    exact call_range_1 (range_itW I1 (by simpa using q))
end
end L2
namespace Kr
open PySem L2

/-! ### a ledger: what is known of the heap, place by place -/
/-- what is told of a tuple by the heap: kept by everything that changes no tuple (trees of tuples) -/
structure Fz where
  P : Hp → HO → Prop
  same : ∀ H H' u, Same H H' → P H u → P H' u
  exc : ∀ (H H' : Hp) (u : HO) (a : Addr) (o : HO), H a = some o → (∀ r, o ≠ .tup r) → (∀ c w, H c = some w → c ≠ a → H' c = some w) → P H u → P H' u
  tup : ∀ H u, P H u → ∃ r, u = .tup r
  keep : ∀ (H H' : Hp) (u : HO), (∀ c r, H c = some (.tup r) → H' c = some (.tup r)) → P H u → P H' u
inductive Ent where
  | ob (o : HO)
  | src (n : Nat)
  | well (n : Nat)
  | rows (rs : List (List V))
  | inss (C : Addr) (fss : List (List (Str × V)))
  | tab (q : Str)
  | fro (F : Fz)
def Ent.Is : Ent → HO → Prop
  | .rows _, _ => False
  | .inss _ _, _ => False
  | .tab _, _ => False
  | .fro _, _ => False
  | .ob o, u => u = o
  | .src n, u => ∃ x y z : Int, u = .lst [.int x, .int y, .int z] ∧ 0 ≤ y ∧ y < 2147483648 ∧ 0 ≤ z ∧ z ≤ (n : Int)
  | .well n, u => ∃ x y z : Int, u = .lst [.int x, .int y, .int z] ∧ 0 ≤ z ∧ z ≤ (n : Int)
/-- by the heap: a list of tuples -/
def Ent.In : Ent → Hp → HO → Prop
  | .rows rs, H, u => ∃ as : List Addr, u = .lst (as.map V.ref) ∧ as.length = rs.length ∧ ∀ (k : Nat) (a : Addr) (r : List V), as[k]? = some a → rs[k]? = some r → H a = some (.tup r)
  | .inss C fss, H, u => ∃ as : List Addr, u = .lst (as.map V.ref) ∧ as.length = fss.length ∧ ∀ (k : Nat) (a : Addr) (fs : List (Str × V)), as[k]? = some a → fss[k]? = some fs → ∃ dx, H a = some (.ins C dx fs)
  | .tab q, H, u => ∃ ps : Array Value, u = .tbl ps ∧ TriplesOk ps.toList ∧ ∀ (pos : Pos) (cv : Value), codeAmong pos ps.toList = some cv → ∃ c, cv = .ref c ∧ H c = some (LamX.CodeO c q)
  | .fro F, H, u => F.P H u
  | .ob o, _, u => u = o
  | .src n, _, u => (Ent.src n).Is u
  | .well n, _, u => (Ent.well n).Is u
theorem Ent.in_of {e : Ent} {H : Hp} {o : HO} (h : e.Is o) : e.In H o := by
  cases e with
  | rows rs => exact h.elim
  | inss C fss => exact h.elim
  | tab q => exact h.elim
  | fro F => exact h.elim
  | ob u => exact h
  | src n => exact h
  | well n => exact h
theorem Ent.In.same {e : Ent} {H H' : Hp} {o : HO} (s : Same H H') (h : e.In H o) : e.In H' o := by
  cases e with
  | rows rs =>
    obtain ⟨as, h1, h2, h3⟩ := h
    exact ⟨as, h1, h2, fun k a r q1 q2 => s _ _ (h3 k a r q1 q2)⟩
  | inss C fss =>
    obtain ⟨as, h1, h2, h3⟩ := h
    exact ⟨as, h1, h2, fun k a r q1 q2 => (h3 k a r q1 q2).imp fun dx q => s _ _ q⟩
  | tab q =>
    obtain ⟨ps, h1, h2, h3⟩ := h
    exact ⟨ps, h1, h2, fun pos cv hc => (h3 pos cv hc).imp fun c z => ⟨z.1, s _ _ z.2⟩⟩
  | fro F => exact F.same _ _ _ s h
  | ob u => exact h
  | src n => exact h
  | well n => exact h
/-- no list of instances -/
def Ent.noI : Ent → Bool
  | .inss _ _ => false
  | _ => true
theorem Ent.In.exc {e : Ent} {H H' : Hp} {o u : HO} {a : Addr} (ha : H a = some u) (hu : (∀ r, u ≠ .tup r) ∧ ∀ P, u ≠ .ext P) (hi : e.noI = true ∨ ∀ C dx fs, u ≠ .ins C dx fs) (s : ∀ c o, H c = some o → c ≠ a → H' c = some o) (h : e.In H o) : e.In H' o := by
  cases e with
  | rows rs =>
    obtain ⟨as, h1, h2, h3⟩ := h
    refine ⟨as, h1, h2, fun k b r q1 q2 => s _ _ (h3 k b r q1 q2) fun z => ?_⟩
    subst z
    have q3 := h3 k b r q1 q2
    rw [ha] at q3
    exact hu.1 r (Option.some.inj q3)
  | inss C fss =>
    obtain ⟨as, h1, h2, h3⟩ := h
    refine ⟨as, h1, h2, fun k b r q1 q2 => (h3 k b r q1 q2).imp fun dx q3 => s _ _ q3 fun z => ?_⟩
    subst z
    rw [ha] at q3
    rcases hi with hi | hi
    · cases hi
    · exact hi _ _ _ (Option.some.inj q3)
  | tab q =>
    obtain ⟨ps, h1, h2, h3⟩ := h
    refine ⟨ps, h1, h2, fun pos cv hc => (h3 pos cv hc).imp fun c z => ⟨z.1, s _ _ z.2 fun y => ?_⟩⟩
    have q3 := z.2
    rw [y, ha] at q3
    exact hu.2 _ (Option.some.inj q3)
  | fro F => exact F.exc _ _ _ _ _ ha hu.1 s h
  | ob u => exact h
  | src n => exact h
  | well n => exact h
/-- may change -/
def Ent.mov : Ent → Bool
  | .fro _ => false
  | .ob (.tup _) => false
  | .ob (.ext _) => false
  | _ => true
theorem Ent.mov_ne {e : Ent} {H : Hp} {u : HO} (m : e.mov = true) (h : e.In H u) : (∀ r, u ≠ .tup r) ∧ ∀ P, u ≠ .ext P := by
  cases e with
  | rows rs =>
    obtain ⟨as, h1, _⟩ := h
    subst h1
    exact ⟨fun r q => (by cases q), fun r q => (by cases q)⟩
  | inss C fss =>
    obtain ⟨as, h1, _⟩ := h
    subst h1
    exact ⟨fun r q => (by cases q), fun r q => (by cases q)⟩
  | tab q =>
    obtain ⟨ps, h1, _⟩ := h
    subst h1
    exact ⟨fun r q => (by cases q), fun r q => (by cases q)⟩
  | fro F => cases m
  | ob o =>
    have h : u = o := h
    subst h
    refine ⟨fun r q => ?_, fun r q => ?_⟩ <;> (subst q; cases m)
  | src n =>
    obtain ⟨x, y, z, h1, _⟩ := h
    subst h1
    exact ⟨fun r q => (by cases q), fun r q => (by cases q)⟩
  | well n =>
    obtain ⟨x, y, z, h1, _⟩ := h
    subst h1
    exact ⟨fun r q => (by cases q), fun r q => (by cases q)⟩
/-- an instance itself -/
def Ent.insq : Ent → Bool
  | .ob (.ins _ _ _) => true
  | _ => false
/-- may change, and is no instance -/
def Ent.mov2 : Ent → Bool
  | .fro _ => false
  | .ob (.tup _) => false
  | .ob (.ins _ _ _) => false
  | .ob (.ext _) => false
  | _ => true
theorem Ent.mov2_mov {e : Ent} (m : e.mov2 = true) : e.mov = true := by
  cases e with
  | ob o => cases o <;> first | rfl | cases m
  | fro F => cases m
  | _ => rfl
theorem Ent.insq_ne {e : Ent} {H : Hp} {u : HO} (m : e.insq = false) (h : e.In H u) : ∀ C dx fs, u ≠ .ins C dx fs := by
  intro C dx fs q
  subst q
  cases e with
  | rows rs =>
    obtain ⟨as, h1, _⟩ := h
    cases h1
  | inss C fss =>
    obtain ⟨as, h1, _⟩ := h
    cases h1
  | tab q =>
    obtain ⟨ps, h1, _⟩ := h
    cases h1
  | fro F =>
    obtain ⟨r, h1⟩ := F.tup _ _ h
    cases h1
  | ob o =>
    have h : HO.ins C dx fs = o := h
    subst h
    cases m
  | src n =>
    obtain ⟨x, y, z, h1, _⟩ := h
    cases h1
  | well n =>
    obtain ⟨x, y, z, h1, _⟩ := h
    cases h1
theorem Ent.mov2_insq {e : Ent} (m : e.mov2 = true) : e.insq = false := by
  cases e with
  | ob o => cases o <;> first | rfl | cases m
  | _ => rfl
abbrev Led := List (Addr × Ent × Bool)
structure Gr where
  H0 : Hp
  mu : Addr → Prop
/-- two entries of one place: both tuples, or both not own -/
def NdR (x y : Addr × Ent × Bool) : Prop := x.1 = y.1 → (x.2.1.mov = false ∧ y.2.1.mov = false) ∨ (x.2.2 = false ∧ y.2.2 = false)
theorem ndR_symm {x y : Addr × Ent × Bool} (h : NdR x y) : NdR y x := fun e => (h e.symm).imp (fun z => ⟨z.2, z.1⟩) (fun z => ⟨z.2, z.1⟩)
theorem nd_at {L : Led} (h : L.Pairwise NdR) {i j : Nat} {x y : Addr × Ent × Bool} (hx : L[i]? = some x) (hy : L[j]? = some y) (hij : i ≠ j) : NdR x y := by
  obtain ⟨hi, ei⟩ := List.getElem?_eq_some_iff.mp hx
  obtain ⟨hj, ej⟩ := List.getElem?_eq_some_iff.mp hy
  rcases Nat.lt_or_gt_of_ne hij with q | q
  · have := List.pairwise_iff_getElem.mp h i j hi hj q
    rwa [ei, ej] at this
  · have := List.pairwise_iff_getElem.mp h j i hj hi q
    rw [ei, ej] at this
    exact ndR_symm this
theorem nd_ne {L : Led} (h : L.Pairwise NdR) {i j : Nat} {x y : Addr × Ent × Bool} (hx : L[i]? = some x) (hy : L[j]? = some y) (hij : i ≠ j) (m : x.2.1.mov = true ∨ y.2.1.mov = true) (o : x.2.2 = true ∨ y.2.2 = true) : x.1 ≠ y.1 := by
  intro e
  rcases nd_at h hx hy hij e with z | z
  · rcases m with m | m
    · rw [m] at z; cases z.1
    · rw [m] at z; cases z.2
  · rcases o with o | o
    · rw [o] at z; cases z.1
    · rw [o] at z; cases z.2
theorem nd_set {L : Led} (h : L.Pairwise NdR) {i : Nat} {a : Addr} {e e' : Ent} {b : Bool} (k : L[i]? = some (a, e, b)) (m : e.mov = true) : (L.set i (a, e', b)).Pairwise NdR := by
  rw [List.pairwise_iff_getElem]
  intro p q hp hq hpq ee
  have hp' : p < L.length := by simpa using hp
  have hq' : q < L.length := by simpa using hq
  by_cases h1 : i = p
  · subst h1
    rw [List.getElem_set_self, List.getElem_set_ne (by omega)] at ee ⊢
    rcases nd_at h (x := (a, e, b)) k (List.getElem?_eq_getElem hq') (by omega) ee with z | z
    · rw [m] at z
      cases z.1
    · exact .inr z
  · by_cases h2 : i = q
    · subst h2
      rw [List.getElem_set_self, List.getElem_set_ne (by omega)] at ee ⊢
      rcases nd_at h (y := (a, e, b)) (List.getElem?_eq_getElem hp') k (by omega) ee with z | z
      · rw [m] at z
        cases z.2
      · exact .inr z
    · rw [List.getElem_set_ne h1, List.getElem_set_ne h2] at ee ⊢
      exact List.pairwise_iff_getElem.mp h p q hp' hq' hpq ee
theorem nd_app {L : Led} (h : L.Pairwise NdR) {x : Addr × Ent × Bool} (hn : ∀ y ∈ L, NdR y x) : (L ++ [x]).Pairwise NdR := by
  rw [List.pairwise_append]
  refine ⟨h, List.pairwise_singleton _ _, fun y hy z hz => ?_⟩
  have e : z = x := by simpa using hz
  subst e
  exact hn y hy
structure At (g : Gr) (L : Led) (H : Hp) : Prop where
  old : ∀ b o, g.H0 b = some o → ¬ g.mu b → H b = some o
  led : ∀ p ∈ L, ∃ o, H p.1 = some o ∧ p.2.1.In H o
  own : ∀ p ∈ L, p.2.2 = true → (g.H0 p.1 = none ∨ g.mu p.1)
  nd : L.Pairwise NdR
section
variable {g : Gr} {L : Led} {H H' : Hp} {a p : Addr} {e : Ent} {o u : HO} {b : Bool} {i : Nat}
theorem At.look (h : At g L H) (k : L[i]? = some (a, e, b)) : ∃ o, H a = some o ∧ e.In H o := h.led _ (List.mem_of_getElem? k)
theorem At.get (h : At g L H) (k : L[i]? = some (a, .ob o, b)) : H a = some o := by
  obtain ⟨u, h1, h2⟩ := h.look k
  have h2 : u = o := h2
  rw [h1, h2]
/-- nothing is forgotten -/
theorem At.same (h : At g L H) (s : Same H H') : At g L H' := by
  refine ⟨fun c o e m => s _ _ (h.old c o e m), fun q hq => ?_, h.own, h.nd⟩
  obtain ⟨o, h1, h2⟩ := h.led q hq
  exact ⟨o, s _ _ h1, h2.same s⟩
/-- a new object -/
theorem At.newE (h : At g L H) (s : Same H H') (n : H p = none) (hp : H' p = some o) (he : e.In H' o) : At g (L ++ [(p, e, true)]) H' := by
  refine ⟨fun c o e m => s _ _ (h.old c o e m), fun q hq => ?_, fun q hq => ?_, ?_⟩
  · rcases List.mem_append.mp hq with hq | hq
    · obtain ⟨o, h1, h2⟩ := h.led q hq
      exact ⟨o, s _ _ h1, h2.same s⟩
    · have e : q = (p, e, true) := by simpa using hq
      subst e
      exact ⟨o, hp, he⟩
  · rcases List.mem_append.mp hq with hq | hq
    · exact h.own q hq
    · have e : q = (p, e, true) := by simpa using hq
      subst e
      intro _
      by_cases hmu : g.mu p
      · exact .inr hmu
      · refine .inl ?_
        cases z : g.H0 p with
        | none => rfl
        | some u =>
          rw [h.old p u z hmu] at n
          cases n
  · refine nd_app h.nd fun q hq e3 => ?_
    obtain ⟨o, h1, _⟩ := h.led q hq
    rw [e3, n] at h1
    cases h1
theorem At.new (h : At g L H) (s : Same H H') (n : H p = none) (hp : H' p = some o) : At g (L ++ [(p, .ob o, true)]) H' := h.newE s n hp rfl
theorem At.upd_new (h : At g L H) (n : H p = none) : At g (L ++ [(p, .ob o, true)]) (upd H p o) :=
  h.new (fun c u e => by rw [upd_ne (ne_of_none e n)]; exact e) n upd_same
/-- an own object changes -/
theorem At.chgG (h : At g L H) (k : L[i]? = some (a, e, true)) {e' : Ent} (s : ∀ c o, H c = some o → c ≠ a → H' c = some o) (ho : H' a = some o) (he : e'.In H' o) (hmv : e.mov = true) (hni : (∀ q ∈ L, q.2.1.noI = true) ∨ e.insq = false) : At g (L.set i (a, e', true)) H' := by
  obtain ⟨u0, hu0, hin0⟩ := h.look k
  have hmn := Ent.mov_ne hmv hin0
  have hi : i < L.length := (List.getElem?_eq_some_iff.mp k).1
  have hk : L[i] = (a, e, true) := (List.getElem?_eq_some_iff.mp k).2
  have hown := h.own _ (List.mem_of_getElem? k) rfl
  have hmap : (L.set i (a, e', true)).map (·.1) = L.map (·.1) := by
    rw [List.map_set]
    apply List.ext_getElem?
    intro j
    by_cases hj : i = j
    · subst hj
      rw [List.getElem?_set_self (by simpa using hi), List.getElem?_map, k]
      rfl
    · rw [List.getElem?_set_ne hj]
  refine ⟨fun c o' e1 m => ?_, fun q hq => ?_, fun q hq hb => ?_, ?_⟩
  · refine s _ _ (h.old c o' e1 m) fun z => ?_
    subst z
    rcases hown with z | z
    · rw [show g.H0 c = none from z] at e1
      cases e1
    · exact m z
  · obtain ⟨j, hj, ej⟩ := List.mem_iff_getElem.mp hq
    by_cases hij : i = j
    · subst hij
      rw [List.getElem_set_self] at ej
      subst ej
      exact ⟨o, ho, he⟩
    · rw [List.getElem_set_ne hij] at ej
      have hj' : j < L.length := by simpa using hj
      obtain ⟨o', h1, h2⟩ := h.led q (ej ▸ List.getElem_mem hj')
      refine ⟨o', s _ _ h1 fun z => hij ?_, h2.exc hu0 hmn (hni.imp (fun w => w q (ej ▸ List.getElem_mem hj')) (fun w => Ent.insq_ne w hin0)) s⟩
      exact Decidable.byContradiction fun hij' => nd_ne h.nd k (List.getElem?_eq_getElem hj') hij' (.inl hmv) (.inl rfl) (by rw [ej]; exact z.symm)
  · obtain ⟨j, hj, ej⟩ := List.mem_iff_getElem.mp hq
    by_cases hij : i = j
    · subst hij
      rw [List.getElem_set_self] at ej
      subst ej
      exact hown
    · rw [List.getElem_set_ne hij] at ej
      have hj' : j < L.length := by simpa using hj
      exact h.own q (ej ▸ List.getElem_mem hj') hb
  · exact nd_set h.nd k hmv
theorem At.chg (h : At g L H) (k : L[i]? = some (a, e, true)) {e' : Ent} (s : ∀ c o, H c = some o → c ≠ a → H' c = some o) (ho : H' a = some o) (he : e'.In H' o) (hmv : e.mov2 = true := by rfl) : At g (L.set i (a, e', true)) H' :=
  h.chgG k s ho he (Ent.mov2_mov hmv) (.inr (Ent.mov2_insq hmv))
theorem At.upd_chg (h : At g L H) (k : L[i]? = some (a, e, true)) (hmv : e.mov2 = true := by rfl) : At g (L.set i (a, .ob o, true)) (upd H a o) :=
  h.chg k (fun c u e z => by rw [upd_ne z]; exact e) upd_same rfl hmv
theorem At.upd_fld (h : At g L H) (k : L[i]? = some (a, e, true)) (hmv : e.mov = true) (hni : L.all (fun q => q.2.1.noI) = true) : At g (L.set i (a, .ob o, true)) (upd H a o) :=
  h.chgG k (fun c u e z => by rw [upd_ne z]; exact e) upd_same rfl hmv (.inl (List.all_eq_true.mp hni))
theorem At.sub {L' : Led} (h : At g L' H) (s : L.Sublist L') : At g L H :=
  ⟨h.old, fun q hq => h.led q (s.subset hq), fun q hq => h.own q (s.subset hq), h.nd.sublist s⟩
theorem At.pre {L' : Led} (h : At g L' H) (s : L <+: L') : At g L H := h.sub s.sublist
end

/-! ### readings over a ledger -/
def Wp {α : Type} (g : Gr) (L : Led) (m : Hp → (α → Hp → Prop) → Prop) (C : α → Led → Prop) : Prop :=
  ∀ H, At g L H → ∀ Q : α → Hp → Prop, (∀ v L' H', C v L' → At g L' H' → Q v H') → m H Q
structure Ks where
  nx : St → Led → Prop
  rt : V → Led → Prop
  bk : St → Led → Prop := fun _ _ => False
  ct : St → Led → Prop := fun _ _ => False
structure Eo (g : Gr) (K : Ks) (D : Ends) : Prop where
  nx : ∀ σ L H, K.nx σ L → At g L H → D.nx σ H
  rt : ∀ v L H, K.rt v L → At g L H → D.rt v H
  bk : ∀ σ L H, K.bk σ L → At g L H → D.bk σ H
  ct : ∀ σ L H, K.ct σ L → At g L H → D.ct σ H
def Ws (g : Gr) (L : Led) (t : TS) (σ : St) (K : Ks) : Prop := ∀ H, At g L H → ∀ D, Eo g K D → t D σ H

section
variable {g : Gr} {L : Led} {σ : St} {α β : Type}
theorem Wp.now {m : Hp → (α → Hp → Prop) → Prop} {C : α → Led → Prop} {v : α} (h : ∀ H Q, At g L H → Q v H → m H Q) (c : C v L) : Wp g L m C :=
  fun H a Q q => h H Q a (q v L H c a)
theorem Wp.mono {m : Hp → (α → Hp → Prop) → Prop} {C C' : α → Led → Prop} (h : Wp g L m C) (c : ∀ v L', C v L' → C' v L') : Wp g L m C' :=
  fun H a Q q => h H a Q fun v L' H' z => q v L' H' (c v L' z)
variable {C : V → Led → Prop} {v x y : V} {ta tb tc te : TE} {i j : Nat}
theorem wp_var (h : σ[i]? = some (some v)) (c : C v L) : Wp g L (tVar i σ) C := .now (fun H Q _ q => ⟨v, h, q⟩) c
theorem wp_c (c : C v L) : Wp g L (tC v σ) C := .now (fun _ _ _ q => q) c
theorem wp_op {r : R2} (h : Wp g L (ta σ) fun x L1 => Wp g L1 (tb σ) fun y L2 => Wp g L2 (r x y) C) : Wp g L (tOp r ta tb σ) C :=
  fun H a Q q => h H a _ fun x L1 H1 h1 a1 => h1 H1 a1 _ fun y L2 H2 h2 a2 => h2 H2 a2 Q q
theorem wp_un {r : V → Hp → VK → Prop} (h : Wp g L (ta σ) fun x L1 => Wp g L1 (r x) C) : Wp g L (tUn r ta σ) C :=
  fun H a Q q => h H a _ fun x L1 H1 h1 a1 => h1 H1 a1 Q q
/-- ints -/
theorem wr0 {f : Int → Int → V} {m n : Int} (c : C (f m n) L) : Wp g L (rI0 f (.int m) (.int n)) C := .now (fun _ _ _ q => ⟨m, n, rfl, rfl, q⟩) c
theorem wr1 {P : Int → Int → Prop} {f : Int → Int → V} {m n : Int} (h : P m n) (c : C (f m n) L) : Wp g L (rI P f (.int m) (.int n)) C := .now (fun _ _ _ q => ⟨m, n, rfl, rfl, h, q⟩) c
theorem wu0 {f : Int → V} {m : Int} (c : C (f m) L) : Wp g L (rU f (.int m)) C := .now (fun _ _ _ q => ⟨m, rfl, q⟩) c
theorem wr_modA {m n : Int} (h : 0 < n) (c : ∀ r : Int, 0 ≤ r → r < n → C (.int r) L) : Wp g L (rI (fun _ j => 0 < j) (fun i j => .int (i % j)) (.int m) (.int n)) C := wr1 h (c _ (Int.emod_nonneg _ (by omega)) (Int.emod_lt_of_pos _ h))
theorem wr_powc {m n r : Int} (h : CPow m n) (e : m ^ n.toNat = r) (c : C (.int r) L) : Wp g L (rI CPow (fun i j => .int (i ^ j.toNat)) (.int m) (.int n)) C := wr1 h (by rw [e]; exact c)
theorem wr_eq (h : scal x y = true) (c : C (.bl (decide (x = y))) L) : Wp g L (rEq x y) C := .now (fun _ _ _ q => ⟨h, q⟩) c
theorem wr_ne (h : scal x y = true) (c : C (.bl (!decide (x = y))) L) : Wp g L (rNe x y) C := .now (fun _ _ _ q => ⟨h, q⟩) c
theorem wr_eqI {m n : Int} (c : C (.bl (decide (m = n))) L) : Wp g L (rEq (.int m) (.int n)) C :=
  wr_eq rfl (by rw [show decide (V.int m = V.int n) = decide (m = n) from by simp]; exact c)
theorem wr_neI {m n : Int} (c : C (.bl (!decide (m = n))) L) : Wp g L (rNe (.int m) (.int n)) C :=
  wr_ne rfl (by rw [show decide (V.int m = V.int n) = decide (m = n) from by simp]; exact c)
theorem wr_eqB {m n : Bool} (c : C (.bl (decide (m = n))) L) : Wp g L (rEq (.bl m) (.bl n)) C :=
  wr_eq rfl (by rw [show decide (V.bl m = V.bl n) = decide (m = n) from by simp]; exact c)
theorem wr_neB {m n : Bool} (c : C (.bl (!decide (m = n))) L) : Wp g L (rNe (.bl m) (.bl n)) C :=
  wr_ne rfl (by rw [show decide (V.bl m = V.bl n) = decide (m = n) from by simp]; exact c)
def rIsN' : R2 := fun x y H Q => y = .non ∧ Q (.bl (decide (x = .non))) H
def rNotN' : R2 := fun x y H Q => y = .non ∧ Q (.bl (!decide (x = .non))) H
theorem op_isN' {X : Cx} : OpR X (compareOp .Is) rIsN' := op_isN
theorem op_notN' {X : Cx} : OpR X (compareOp .IsNot) rNotN' := op_notN
theorem wr_isN (c : C (.bl (decide (x = .non))) L) : Wp g L (rIsN' x .non) C := .now (fun _ _ _ q => ⟨rfl, q⟩) c
theorem wr_notN (c : C (.bl (!decide (x = .non))) L) : Wp g L (rNotN' x .non) C := .now (fun _ _ _ q => ⟨rfl, q⟩) c
-- tests
variable {B : Bool → Led → Prop} {t u : TT} {b : Bool}
theorem wt_test (h : Wp g L (te σ) fun v L1 => ∃ b, v = .bl b ∧ B b L1) : Wp g L (tTest te σ) B :=
  fun H a Q q => h H a _ fun v L1 H1 ⟨b, e, k⟩ a1 => ⟨b, e, q b L1 H1 k a1⟩
theorem wt_B (h : Wp g L (te σ) fun v L1 => ∃ b, v = .bl b ∧ B b L1) : Wp g L (tB te σ) B :=
  fun H a Q q => h H a _ fun v L1 H1 ⟨b, e, k⟩ a1 => ⟨b, e, q b L1 H1 k a1⟩
theorem wt_and (h : Wp g L (t σ) fun b L1 => if b = true then Wp g L1 (u σ) B else B false L1) : Wp g L (tAnd t u σ) B :=
  fun H a Q q => h H a _ fun b L1 H1 k a1 => by
    cases b with
    | true => exact (show Wp g L1 (u σ) B from k) H1 a1 Q q
    | false => exact q false L1 H1 k a1
theorem wt_or (h : Wp g L (t σ) fun b L1 => if b = true then B true L1 else Wp g L1 (u σ) B) : Wp g L (tOr t u σ) B :=
  fun H a Q q => h H a _ fun b L1 H1 k a1 => by
    cases b with
    | true => exact q true L1 H1 k a1
    | false => exact (show Wp g L1 (u σ) B from k) H1 a1 Q q
theorem wt_not (h : Wp g L (t σ) fun b L1 => B (!b) L1) : Wp g L (tNot t σ) B := fun H a Q q => h H a _ fun b L1 H1 k a1 => q _ L1 H1 k a1
theorem wt_yes (h : B true L) : Wp g L (tYes σ) B := .now (fun _ _ _ q => q) h
theorem wp_andV (h : Wp g L (ta σ) fun x L1 => ∃ b, x = .bl b ∧ if b = true then Wp g L1 (tb σ) C else C (.bl false) L1) : Wp g L (tAndV ta tb σ) C :=
  fun H a Q q => h H a _ fun x L1 H1 ⟨b, e, k⟩ a1 => ⟨b, e, by
    cases b with
    | true => exact (show Wp g L1 (tb σ) C from k) H1 a1 Q q
    | false => exact q _ L1 H1 k a1⟩
theorem wp_orV (h : Wp g L (ta σ) fun x L1 => ∃ b, x = .bl b ∧ if b = true then C (.bl true) L1 else Wp g L1 (tb σ) C) : Wp g L (tOrV ta tb σ) C :=
  fun H a Q q => h H a _ fun x L1 H1 ⟨b, e, k⟩ a1 => ⟨b, e, by
    cases b with
    | true => exact q _ L1 H1 k a1
    | false => exact (show Wp g L1 (tb σ) C from k) H1 a1 Q q⟩
theorem wp_notV (h : Wp g L (ta σ) fun x L1 => ∃ b, x = .bl b ∧ C (.bl (!b)) L1) : Wp g L (tNotV ta σ) C :=
  fun H a Q q => h H a _ fun x L1 H1 ⟨b, e, k⟩ a1 => ⟨b, e, q _ L1 H1 k a1⟩
theorem wp_if (h : Wp g L (t σ) fun b L1 => if b = true then Wp g L1 (ta σ) C else Wp g L1 (tb σ) C) : Wp g L (tIf t ta tb σ) C :=
  fun H a Q q => h H a _ fun b L1 H1 k a1 => by
    cases b with
    | true => exact (show Wp g L1 (ta σ) C from k) H1 a1 Q q
    | false => exact (show Wp g L1 (tb σ) C from k) H1 a1 Q q
theorem wp_chain {r r' : R2} (h : Wp g L (ta σ) fun x L1 => Wp g L1 (tb σ) fun y L2 => Wp g L2 (r x y) fun z L3 => ∃ b, z = .bl b ∧ if b = true then Wp g L3 (tc σ) fun w L4 => Wp g L4 (r' y w) C else C (.bl false) L3) : Wp g L (tChain r r' ta tb tc σ) C :=
  fun H a Q q => h H a _ fun x L1 H1 h1 a1 => h1 H1 a1 _ fun y L2 H2 h2 a2 => h2 H2 a2 _ fun z L3 H3 ⟨b, e, k⟩ a3 => ⟨b, e, by
    cases b with
    | true => exact (show Wp g L3 (tc σ) _ from k) H3 a3 _ fun w L4 H4 h4 a4 => h4 H4 a4 Q q
    | false => exact q _ L3 H3 k a3⟩
-- arguments
variable {A : List V → Led → Prop} {tr : TA}
theorem wa_nil (h : A [] L) : Wp g L (tNil σ) A := .now (fun _ _ _ q => q) h
theorem wa_cons (h : Wp g L (ta σ) fun x L1 => Wp g L1 (tr σ) fun xs L2 => A (x :: xs) L2) : Wp g L (tCons ta tr σ) A :=
  fun H a Q q => h H a _ fun x L1 H1 h1 a1 => h1 H1 a1 _ fun xs L2 H2 h2 a2 => q _ L2 H2 h2 a2
/-- new things -/
theorem wp_tup (h : Wp g L (tr σ) fun xs L1 => xs.length ≤ 1000 ∧ ∀ p, C (.ref p) (L1 ++ [(p, .ob (.tup xs), true)])) : Wp g L (tTup tr σ) C :=
  fun H a Q q => h H a _ fun xs L1 H1 h1 a1 => ⟨Nat.le_trans h1.1 (by decide), fun p hp => q _ _ _ (h1.2 p) (a1.upd_new hp)⟩
theorem wp_lst (h : Wp g L (tr σ) fun xs L1 => xs.length ≤ 1000 ∧ ∀ p, C (.ref p) (L1 ++ [(p, .ob (.lst xs), true)])) : Wp g L (tLst tr σ) C :=
  fun H a Q q => h H a _ fun xs L1 H1 h1 a1 => ⟨Nat.le_trans h1.1 (by decide), fun p hp => q _ _ _ (h1.2 p) (a1.upd_new hp)⟩
/-- fields -/
theorem wp_fld {K : PySem.W.Frag} {C' : Addr} {f : Str} (i : Nat) (hc : Cls K C') (hn : NoAttr K C' f) (h : Wp g L (ta σ) fun x L1 => ∃ (a dx : Addr) (fs : List (Str × V)) (bo : Bool) (v : V), x = .ref a ∧ L1[i]? = some (a, .ob (.ins C' dx fs), bo) ∧ fs.lookup f = some v ∧ C v L1) : Wp g L (tFld K ta f σ) C :=
  fun H a' Q q => h H a' _ fun x L1 H1 ⟨a, dx, fs, bo, v, e, h1, h2, h3⟩ a1 => ⟨a, C', dx, fs, v, e, a1.get h1, hc, hn, h2, q _ L1 H1 h3 a1⟩
/-- calls -/
theorem wp_call {sp : Sp} {dvs : List V} {E : XK} (h : Wp g L (tr σ) fun vs L1 => Wp g L1 (fun H Q => sp (vs ++ dvs) H Q E) C) : Wp g L (tCall sp dvs E tr σ) C :=
  fun H a Q q => h H a _ fun vs L1 H1 h1 a1 => h1 H1 a1 Q q
theorem wp_callK {sp : Sp} {gV : List V → List V → List V} {E : XK} {tk : TA} (h : Wp g L (tr σ) fun vs L1 => Wp g L1 (tk σ) fun zs L2 => Wp g L2 (fun H Q => sp (gV vs zs) H Q E) C) : Wp g L (tCallK sp gV E tr tk σ) C :=
  fun H a Q q => h H a _ fun vs L1 H1 h1 a1 => h1 H1 a1 _ fun zs L2 H2 h2 a2 => h2 H2 a2 Q q
theorem wp_meth {sp : Sp} {dvs : List V} {E : XK} {C' : Addr} {m : Str} (i : Nat)
    (h : Wp g L (ta σ) fun x L1 => ∃ (a dx : Addr) (fs : List (Str × V)) (bo : Bool), x = .ref a ∧ L1[i]? = some (a, .ob (.ins C' dx fs), bo) ∧ fs.lookup m = none ∧ Wp g L1 (tr σ) fun vs L2 => Wp g L2 (fun H Q => sp (.ref a :: (vs ++ dvs)) H Q E) C) : Wp g L (tMeth C' m sp dvs E ta tr σ) C :=
  fun H a' Q q => h H a' _ fun x L1 H1 ⟨a, dx, fs, bo, e, h1, h2, h3⟩ a1 => by
    subst e
    exact ⟨a, dx, fs, rfl, a1.get h1, h2, h3 H1 a1 _ fun vs L2 H2 k2 a2 => k2 H2 a2 Q q⟩
theorem wp_cb {r : List V → Hp → VK → Prop} (h : Wp g L (tr σ) fun vs L1 => Wp g L1 (r vs) C) : Wp g L (tCB r tr σ) C :=
  fun H a Q q => h H a _ fun vs L1 H1 h1 a1 => h1 H1 a1 Q q
def rMax2 : List V → Hp → VK → Prop := fun xs H Q => ∃ i j, xs = [.int i, .int j] ∧ Q (.int (if j > i then j else i)) H
def rMin2 : List V → Hp → VK → Prop := fun xs H Q => ∃ i j, xs = [.int i, .int j] ∧ Q (.int (if j < i then j else i)) H
def rInt1 : List V → Hp → VK → Prop := fun xs H Q => (∃ i, xs = [.int i] ∧ Q (.int i) H) ∨ ∃ k, xs = [.bl k] ∧ Q (.int (if k then 1 else 0)) H
def rLen (K : PySem.W.Frag) : List V → Hp → VK → Prop := fun xs H Q => ∃ p ys, xs = [.ref p] ∧ (SqL K H p ys ∨ SqT K H p ys) ∧ Q (.int ys.length) H
def rListOf (K : PySem.W.Frag) : List V → Hp → VK → Prop := fun xs H Q => ∃ p ys, xs = [.ref p] ∧ (SqL K H p ys ∨ SqT K H p ys) ∧ ∀ l, H l = none → Q (.ref l) (upd H l (.lst ys))
theorem c_max2 {X : Cx} (hc : X.calm = true) : CallR X (.builtin "max") rMax2 := call_max2 hc
theorem c_min2 {X : Cx} (hc : X.calm = true) : CallR X (.builtin "min") rMin2 := call_min2 hc
theorem c_int1 {X : Cx} : CallR X (.type "int") rInt1 := call_int1
theorem c_len {X : Cx} : CallR X (.builtin "len") (rLen X.K) := call_len_seq
theorem c_list {X : Cx} : CallR X (.type "list") (rListOf X.K) := call_list_of
theorem wc_max2 {m n : Int} (c : C (.int (max m n)) L) : Wp g L (rMax2 [.int m, .int n]) C :=
  .now (fun _ _ _ q => ⟨m, n, rfl, q⟩) (by rw [show (if n > m then n else m) = max m n from by rw [Int.max_def]; split <;> split <;> omega]; exact c)
theorem wc_min2 {m n : Int} (c : C (.int (min m n)) L) : Wp g L (rMin2 [.int m, .int n]) C :=
  .now (fun _ _ _ q => ⟨m, n, rfl, q⟩) (by rw [show (if n < m then n else m) = min m n from by rw [Int.min_def]; split <;> split <;> omega]; exact c)
theorem wc_intB {b : Bool} (c : C (.int (if b then 1 else 0)) L) : Wp g L (rInt1 [.bl b]) C := .now (fun _ _ _ q => .inr ⟨b, rfl, q⟩) c
theorem wr_is_True {m : Bool} (c : C (.bl m) L) : Wp g L (rIsB (.bl m) (.bl true)) C := .now (fun _ _ _ q => ⟨m, true, rfl, rfl, by cases m <;> exact q⟩) c
theorem wr_is_False {m : Bool} (c : C (.bl (!m)) L) : Wp g L (rIsB (.bl m) (.bl false)) C := .now (fun _ _ _ q => ⟨m, false, rfl, rfl, by cases m <;> exact q⟩) c
theorem wr_isnot_True {m : Bool} (c : C (.bl (!m)) L) : Wp g L (rNotB (.bl m) (.bl true)) C := .now (fun _ _ _ q => ⟨m, true, rfl, rfl, by cases m <;> exact q⟩) c
theorem wr_isnot_False {m : Bool} (c : C (.bl m) L) : Wp g L (rNotB (.bl m) (.bl false)) C := .now (fun _ _ _ q => ⟨m, false, rfl, rfl, by cases m <;> exact q⟩) c
/-- a list or tuple that is known to be there -/
structure Seen (K : PySem.W.Frag) (g : Gr) (L : Led) (a : Addr) (xs : List V) : Prop where
  at_ : ∀ H, At g L H → SqL K H a xs
structure SeenT (K : PySem.W.Frag) (g : Gr) (L : Led) (a : Addr) (xs : List V) : Prop where
  at_ : ∀ H, At g L H → SqT K H a xs
theorem seen {K : PySem.W.Frag} {a : Addr} {xs : List V} {bo : Bool} (i : Nat) (h : L[i]? = some (a, .ob (.lst xs), bo)) : Seen K g L a xs := ⟨fun H z => SqL.of (z.get h)⟩
theorem seenT {K : PySem.W.Frag} {a : Addr} {xs : List V} {bo : Bool} (i : Nat) (h : L[i]? = some (a, .ob (.tup xs), bo)) : SeenT K g L a xs := ⟨fun H z => SqT.of (z.get h)⟩
/-- what stood at the entry and is not changed -/
theorem seen0 {K : PySem.W.Frag} {a : Addr} {xs : List V} (h : SqL K g.H0 a xs) (hm : ¬ g.mu a) : Seen K g L a xs := ⟨fun H z => by
  rcases h with (h | ⟨o, h⟩) | h
  · exact .inl (.inl (z.old _ _ h hm))
  · exact .inl (.inr ⟨o, z.old _ _ h hm⟩)
  · exact .inr h⟩
section
variable {K : PySem.W.Frag} {a : Addr} {xs : List V}
theorem wc_len (s : Seen K g L a xs) (c : C (.int (xs.length : Int)) L) : Wp g L (rLen K [.ref a]) C := .now (fun H _ z q => ⟨a, xs, rfl, .inl (s.at_ H z), q⟩) c
theorem wc_lenT (s : SeenT K g L a xs) (c : C (.int (xs.length : Int)) L) : Wp g L (rLen K [.ref a]) C := .now (fun H _ z q => ⟨a, xs, rfl, .inr (s.at_ H z), q⟩) c
theorem wc_list (s : Seen K g L a xs) (c : ∀ p, C (.ref p) (L ++ [(p, .ob (.lst xs), true)])) : Wp g L (rListOf K [.ref a]) C :=
  fun H z Q q => ⟨a, xs, rfl, .inl (s.at_ H z), fun p hp => q _ _ _ (c p) (z.upd_new hp)⟩
theorem wr_ixL {k : Int} (s : Seen K g L a xs) (h : atI xs k = some v) (c : C v L) : Wp g L (rIxL K (.ref a) (.int k)) C := .now (fun H _ z q => ⟨a, xs, k, v, rfl, rfl, s.at_ H z, h, q⟩) c
theorem wr_ixT {k : Int} (s : SeenT K g L a xs) (h : atI xs k = some v) (c : C v L) : Wp g L (rIxT K (.ref a) (.int k)) C := .now (fun H _ z q => ⟨a, xs, k, v, rfl, rfl, s.at_ H z, h, q⟩) c
theorem wr_in {neg : Bool} (s : Seen K g L a xs) (hx : flatV x = true) (hf : xs.all flatV = true) (c : C (.bl (if neg then !inV x xs else inV x xs)) L) : Wp g L (rIn K neg x (.ref a)) C :=
  .now (fun H _ z q => ⟨a, xs, rfl, .inl (s.at_ H z), hx, hf, q⟩) c
theorem inV_ints {m : Int} : ∀ {xs : List Int}, inV (.int m) (xs.map V.int) = decide (m ∈ xs)
  | [] => by simp [inV]
  | x :: r => by
    have ih := inV_ints (m := m) (xs := r)
    unfold inV at *
    rw [List.map_cons, List.any_cons, ih]
    by_cases e : m = x
    · subst e
      simp [eqV]
    · have : (x == m) = false := by simp; omega
      simp [eqV, e]
      omega
theorem flat_ints {xs : List Int} : (xs.map V.int).all flatV = true := by
  rw [List.all_eq_true]
  intro v hv
  obtain ⟨n, _, rfl⟩ := List.mem_map.mp hv
  rfl
theorem wr_inI {m : Int} {ns : List Int} (s : Seen K g L a (ns.map V.int)) (c : C (.bl (decide (m ∈ ns))) L) : Wp g L (rIn K false (.int m) (.ref a)) C :=
  wr_in s rfl flat_ints (by rw [inV_ints]; exact c)
theorem wr_notinI {m : Int} {ns : List Int} (s : Seen K g L a (ns.map V.int)) (c : C (.bl (!decide (m ∈ ns))) L) : Wp g L (rIn K true (.int m) (.ref a)) C :=
  wr_in s rfl flat_ints (by rw [inV_ints]; exact c)
theorem wr_cat {a2 : Addr} {ys : List V} {b1 b2 : Bool} (i j : Nat) (h1 : L[i]? = some (a, .ob (.lst xs), b1)) (h2 : L[j]? = some (a2, .ob (.lst ys), b2)) (hl : xs.length + ys.length ≤ 100000)
    (c : ∀ p, C (.ref p) (L ++ [(p, .ob (.lst (xs ++ ys)), true)])) : Wp g L (rCat (.ref a) (.ref a2)) C :=
  fun H z Q q => ⟨a, a2, xs, ys, rfl, rfl, z.get h1, z.get h2, Nat.le_trans hl (by decide), fun p hp => q _ _ _ (c p) (z.upd_new hp)⟩
-- slices
variable {O : Option Int → Led → Prop} {tl th : TO}
theorem wo_none (h : O none L) : Wp g L (tNoPart σ) O := .now (fun _ _ _ q => q) h
theorem wo_some (h : Wp g L (te σ) fun v L1 => ∃ k, v = .int k ∧ O (some k) L1) : Wp g L (tPart te σ) O := fun H z Q q => h H z _ fun v L1 H1 ⟨k, e, c⟩ z1 => ⟨k, e, q _ L1 H1 c z1⟩
theorem wp_sl {r : V → Option Int → Option Int → Hp → VK → Prop} (h : Wp g L (te σ) fun x L1 => Wp g L1 (tl σ) fun l L2 => Wp g L2 (th σ) fun u L3 => Wp g L3 (r x l u) C) : Wp g L (tSl r te tl th σ) C :=
  fun H z Q q => h H z _ fun x L1 H1 h1 z1 => h1 H1 z1 _ fun l L2 H2 h2 z2 => h2 H2 z2 _ fun u L3 H3 h3 z3 => h3 H3 z3 Q q
theorem wr_slL {lo hi : Option Int} (s : Seen K g L a xs) (c : ∀ p, C (.ref p) (L ++ [(p, .ob (.lst (cutV xs lo hi)), true)])) : Wp g L (rSlL K (.ref a) lo hi) C :=
  fun H z Q q => ⟨a, xs, rfl, s.at_ H z, fun p hp => q _ _ _ (c p) (z.upd_new hp)⟩
/-- a built-in type's method -/
theorem wp_bm {T : String} {r : V → List V → Hp → VK → Prop} (h : Wp g L (te σ) fun x L1 => (∀ H, At g L1 H → tyV K T x H) ∧ Wp g L1 (tr σ) fun vs L2 => Wp g L2 (r x vs) C) : Wp g L (tBM K T r te tr σ) C :=
  fun H z Q q => h H z _ fun x L1 H1 ⟨k, h1⟩ z1 => ⟨k H1 z1, h1 H1 z1 _ fun vs L2 H2 h2 z2 => h2 H2 z2 Q q⟩
theorem ty_list {bo : Bool} (i : Nat) (h : L[i]? = some (a, .ob (.lst xs), bo)) : ∀ H, At g L H → tyV K "list" (.ref a) H := fun H z => .inl ⟨rfl, _, SqL.of (z.get h)⟩
theorem wr_app {e : Ent} (i : Nat) (h : L[i]? = some (a, .ob (.lst xs), true)) (hl : xs.length < 100000) (c : C .non (L.set i (a, .ob (.lst (xs ++ [x])), true))) : Wp g L (rAppend (.ref a) [x]) C :=
  fun H z Q q => ⟨a, xs, x, rfl, rfl, z.get h, Nat.lt_of_lt_of_le hl (by decide), q _ _ _ c (z.upd_chg h)⟩
end

/-! ### statements -/
variable {K : Ks} {t1 t2 : TS} {cT : TT}
theorem ws_seq (h : Ws g L t1 σ { K with nx := fun σ' L' => Ws g L' t2 σ' K }) : Ws g L (tSeq t1 t2) σ K :=
  fun H z D e => h H z { D with nx := t2 D } ⟨fun σ' L' H' k z' => k H' z' D e, e.rt, e.bk, e.ct⟩
theorem ws_eq {σ' : St} (e : σ = σ') (h : Ws g L t1 σ' K) : Ws g L t1 σ K := e ▸ h
theorem ws_nf {σ' : St} {L' : Led} (e : σ = σ') (e2 : L = L') (h : Ws g L' t1 σ' K) : Ws g L t1 σ K := e ▸ e2 ▸ h
theorem ws_next (h : K.nx σ L) : Ws g L tNext σ K := fun H z D e => e.nx _ _ _ h z
theorem ws_brk (h : K.bk σ L) : Ws g L tBreak σ K := fun H z D e => e.bk _ _ _ h z
theorem ws_cont (h : K.ct σ L) : Ws g L tCont σ K := fun H z D e => e.ct _ _ _ h z
theorem ws_drop (h : Wp g L (te σ) fun _ L1 => K.nx σ L1) : Ws g L (tDrop te) σ K := fun H z D e => h H z _ fun _ L1 H1 k z1 => e.nx _ _ _ k z1
theorem ws_ret (h : Wp g L (te σ) fun v L1 => K.rt v L1) : Ws g L (tRet te) σ K := fun H z D e => h H z _ fun v L1 H1 k z1 => e.rt _ _ _ k z1
theorem ws_retN (h : K.rt .non L) : Ws g L tRetN σ K := fun H z D e => e.rt _ _ _ h z
theorem ws_if (h : Wp g L (cT σ) fun b L1 => if b = true then Ws g L1 t1 σ K else Ws g L1 t2 σ K) : Ws g L (tIfS cT t1 t2) σ K :=
  fun H z D e => h H z _ fun b L1 H1 k z1 => by
    cases b with
    | true => exact (show Ws g L1 t1 σ K from k) H1 z1 D e
    | false => exact (show Ws g L1 t2 σ K from k) H1 z1 D e
theorem ws_never (h : False) : Ws g L tNever σ K := h.elim
/-- targets -/
def Wg (g : Gr) (L : Led) (t : TG) (v : V) (σ : St) (N : St → Led → Prop) : Prop := ∀ H, At g L H → ∀ Q : St → Hp → Prop, (∀ σ' L' H', N σ' L' → At g L' H' → Q σ' H') → t v σ H Q
def Wgs (g : Gr) (L : Led) (t : TGs) (vs : List V) (σ : St) (N : St → Led → Prop) : Prop := ∀ H, At g L H → ∀ Q : St → Hp → Prop, (∀ σ' L' H', N σ' L' → At g L' H' → Q σ' H') → t vs σ H Q
variable {N : St → Led → Prop}
theorem wg_name (h : N (σ.set i (some v)) L) : Wg g L (gName i) v σ N := fun H z Q q => q _ _ _ h z
theorem wgs_nil (h : N σ L) : Wgs g L gNil [] σ N := fun H z Q q => ⟨rfl, q _ _ _ h z⟩
theorem wgs_cons {tg : TG} {u : TGs} {vs : List V} (h : Wg g L tg v σ fun σ1 L1 => Wgs g L1 u vs σ1 N) : Wgs g L (gCons tg u) (v :: vs) σ N := fun H z Q q => ⟨v, vs, rfl, h H z _ fun σ1 L1 H1 k z1 => k H1 z1 Q q⟩
theorem wg_tup {Kf : PySem.W.Frag} {n : Nat} {u : TGs} {a : Addr} {xs : List V} (s : SeenT Kf g L a xs) (hn : xs.length = n) (h : Wgs g L u xs σ N) : Wg g L (gTup Kf n u) (.ref a) σ N := fun H z Q q => ⟨a, xs, rfl, s.at_ H z, hn, h H z Q q⟩
theorem ws_asg {tg : TG} (h : Wp g L (te σ) fun v L1 => Wg g L1 tg v σ K.nx) : Ws g L (tAsg te tg) σ K := fun H z D e => h H z _ fun v L1 H1 k z1 => k H1 z1 _ e.nx
theorem ws_set (h : Wp g L (te σ) fun v L1 => K.nx (σ.set i (some v)) L1) : Ws g L (tAsg te (gName i)) σ K := ws_asg (h.mono fun _ _ k => wg_name k)
theorem ws_par (h : Wp g L (tr σ) fun vs L1 => ∃ v w, vs = [v, w] ∧ K.nx ((σ.set i (some v)).set j (some w)) L1) : Ws g L (tPar i j tr) σ K :=
  fun H z D e => h H z _ fun vs L1 H1 ⟨v, w, e1, k⟩ z1 => ⟨v, w, e1, e.nx _ _ _ k z1⟩
theorem wg_sub {to ti : TE} {r : TSet} (h : Wp g L (to σ) fun o L1 => Wp g L1 (ti σ) fun k L2 => Wp g L2 (fun H (Q : Unit → Hp → Prop) => r o k v H (Q ())) fun _ L3 => N σ L3) : Wg g L (gSub to ti r) v σ N :=
  fun H z Q q => h H z _ fun o L1 H1 h1 z1 => h1 H1 z1 _ fun k L2 H2 h2 z2 => h2 H2 z2 (fun _ H3 => Q σ H3) fun _ L3 H3 n z3 => q _ _ _ n z3
theorem wr_setL {a : Addr} {xs : List V} {k : Int} {jj : Nat} {U : Unit → Led → Prop} (i : Nat) (h : L[i]? = some (a, .ob (.lst xs), true)) (hj : ixN xs.length k = some jj) (c : U () (L.set i (a, .ob (.lst (xs.set jj v)), true))) :
    Wp g L (fun H (Q : Unit → Hp → Prop) => rSetL (.ref a) (.int k) v H (Q ())) U := fun H z Q q => ⟨a, xs, k, jj, rfl, rfl, z.get h, hj, q () _ _ c (z.upd_chg h)⟩
/-- field stores -/
theorem ws_fld {Kf : PySem.W.Frag} {tv : TE} {C' : Addr} {f : Str} (i : Nat) (hc : Cls Kf C') (hn : NoAttr Kf C' f)
    (h : Wp g L (tv σ) fun y L1 => Wp g L1 (ta σ) fun x L2 => ∃ (a dx : Addr) (fs : List (Str × V)), x = .ref a ∧ L2[i]? = some (a, .ob (.ins C' dx fs), true) ∧ fs.length < 1000 ∧ L2.all (fun q => q.2.1.noI) = true ∧ K.nx σ (L2.set i (a, .ob (.ins C' dx (putF f y fs)), true))) : Ws g L (sFld Kf ta tv f) σ K :=
  fun H z D e => h H z _ fun y L1 H1 h1 z1 => h1 H1 z1 _ fun x L2 H2 ⟨a, dx, fs, e1, k, hl, hni, n⟩ z2 => ⟨a, C', dx, fs, e1, z2.get k, hc, hn, hl, e.nx _ _ _ n (z2.upd_fld k rfl hni)⟩
/-- while: a word I, a measure μ -/
theorem ws_while (I : St → Led → Prop) (μ : St → Nat) (h0 : I σ L)
    (hs : ∀ σ L, I σ L → Wp g L (cT σ) fun b L1 => if b = true then Ws g L1 t1 σ { K with nx := fun σ' L' => μ σ' < μ σ ∧ ∃ L2, L2 <+: L' ∧ I σ' L2, ct := fun σ' L' => μ σ' < μ σ ∧ ∃ L2, L2 <+: L' ∧ I σ' L2, bk := K.nx } else K.nx σ L1) :
    Ws g L (tWhile cT t1) σ K := fun H z D e => by
  refine ⟨fun m σ H => m = μ σ ∧ ∃ L, I σ L ∧ At g L H, ⟨_, rfl, L, h0, z⟩, ?_⟩
  rintro m σ H ⟨rfl, L, hI, z⟩
  refine hs σ L hI H z _ fun b L1 H1 k z1 => ?_
  cases b with
  | true =>
    have k : Ws g L1 t1 σ _ := k
    have kk : ∀ σ' L' H', (μ σ' < μ σ ∧ ∃ L2, L2 <+: L' ∧ I σ' L2) → At g L' H' → μ σ' < μ σ ∧ ∃ L, I σ' L ∧ At g L H' := fun σ' L' H' ⟨hm, L2, hp, hi⟩ z' => ⟨hm, L2, hi, z'.pre hp⟩
    exact ⟨fun σ' H' => μ σ' < μ σ ∧ ∃ L, I σ' L ∧ At g L H', fun σ' H' ⟨hm, q⟩ => ⟨_, hm, rfl, q⟩, k H1 z1 { D with nx := fun σ' H' => μ σ' < μ σ ∧ ∃ L, I σ' L ∧ At g L H', ct := fun σ' H' => μ σ' < μ σ ∧ ∃ L, I σ' L ∧ At g L H', bk := D.nx } ⟨kk, e.rt, e.nx, kk⟩⟩
  | false => exact e.nx _ _ _ k z1
/-- while: a word with its measure -/
theorem ws_whileN (I : Nat → St → Led → Prop) (h0 : ∃ m, I m σ L)
    (hs : ∀ m σ L, I m σ L → Wp g L (cT σ) fun b L1 => if b = true then Ws g L1 t1 σ { K with nx := fun σ' L' => ∃ m' L2, m' < m ∧ I m' σ' L2 ∧ L2 <+: L', ct := fun σ' L' => ∃ m' L2, m' < m ∧ I m' σ' L2 ∧ L2 <+: L', bk := K.nx } else K.nx σ L1) :
    Ws g L (tWhile cT t1) σ K := fun H z D e => by
  obtain ⟨m, h0⟩ := h0
  refine ⟨fun m σ H => ∃ L, I m σ L ∧ At g L H, ⟨m, L, h0, z⟩, ?_⟩
  rintro m σ H ⟨L, hI, z⟩
  refine hs m σ L hI H z _ fun b L1 H1 k z1 => ?_
  cases b with
  | true =>
    have k : Ws g L1 t1 σ _ := k
    have kk : ∀ σ' L' H', (∃ m' L2, m' < m ∧ I m' σ' L2 ∧ L2 <+: L') → At g L' H' → ∃ m', m' < m ∧ ∃ L, I m' σ' L ∧ At g L H' := fun σ' L' H' ⟨m', L2, hm, hi, hp⟩ z' => ⟨m', hm, L2, hi, z'.pre hp⟩
    exact ⟨fun σ' H' => ∃ m', m' < m ∧ ∃ L, I m' σ' L ∧ At g L H', fun σ' H' q => q, k H1 z1 { D with nx := fun σ' H' => ∃ m', m' < m ∧ ∃ L, I m' σ' L ∧ At g L H', ct := fun σ' H' => ∃ m', m' < m ∧ ∃ L, I m' σ' L ∧ At g L H', bk := D.nx } ⟨kk, e.rt, e.nx, kk⟩⟩
  | false => exact e.nx _ _ _ k z1
/-- for over range(n), range(lo, hi) -/
def WFor (g : Gr) (L : Led) (J : It) (tg : TG) (tb : TS) (σ : St) (K : Ks) : Prop := ∀ H, At g L H → ∀ D, Eo g K D → ∃ W : Nat → Nat → St → Hp → Prop, (∃ m, W 0 m σ H) ∧ ∀ i m σ H, W i m σ H →
  (J.stop i H ∧ D.nx σ H) ∨ (J.go i H ∧ ∃ N : St → Hp → Prop, (∀ σ' H', N σ' H' → ∃ m', m' < m ∧ W (i + 1) m' σ' H') ∧ ∀ x H', J.yld i H x H' → tg x σ H' fun σ2 H2 => tb { D with nx := N, ct := N, bk := D.nx } σ2 H2)
theorem ws_for {wi : TI} {tg : TG} {tb : TS} (h : Wp g L (wi σ) fun J L1 => WFor g L1 J tg tb σ K) : Ws g L (tFor wi tg tb) σ K := fun H z D e => h H z _ fun J L1 H1 k z1 => k H1 z1 D e
variable {T : It → Led → Prop}
theorem wi_list {Kf : PySem.W.Frag} {tl : TE} (h : Wp g L (tl σ) fun x L1 => ∃ (a : Addr) (xs : List V), x = .ref a ∧ Seen Kf g L1 a xs ∧ T (Itl Kf a) L1) : Wp g L (iList Kf tl σ) T :=
  fun H z Q q => h H z _ fun x L1 H1 ⟨a, xs, e, s, k⟩ z1 => ⟨a, e, ⟨xs, s.at_ H1 z1⟩, q _ _ _ k z1⟩
theorem wi_rng1 (h : Wp g L (tr σ) fun vs L1 => ∃ n : Int, vs = [.int n] ∧ -1000000 ≤ n ∧ n ≤ 1000000 ∧ T (Itr 0 n.toNat) L1) : Wp g L (iRng1 tr σ) T :=
  fun H z Q q => h H z _ fun vs L1 H1 ⟨n, e, h0, h1, k⟩ z1 => ⟨n, e, by omega, by omega, q _ _ _ k z1⟩
theorem wi_rngW1 (h : Wp g L (tr σ) fun vs L1 => ∃ n : Int, vs = [.int n] ∧ T (Itr 0 n.toNat) L1) : Wp g L (iRngW1 tr σ) T :=
  fun H z Q q => h H z _ fun vs L1 H1 ⟨n, e, k⟩ z1 => ⟨n, e, q _ _ _ k z1⟩
theorem wi_rngW2 (h : Wp g L (tr σ) fun vs L1 => ∃ m n : Int, vs = [.int m, .int n] ∧ T (Itr m (n - m).toNat) L1) : Wp g L (iRngW tr σ) T :=
  fun H z Q q => h H z _ fun vs L1 H1 ⟨m, n, e, k⟩ z1 => ⟨m, n, e, q _ _ _ k z1⟩
theorem wi_rng2 (h : Wp g L (tr σ) fun vs L1 => ∃ m n : Int, vs = [.int m, .int n] ∧ (-(2 ^ 62) ≤ m ∧ m < 2 ^ 62 ∧ -(2 ^ 62) ≤ n ∧ n < 2 ^ 62) ∧ T (Itr m (n - m).toNat) L1) : Wp g L (iRng2 tr σ) T :=
  fun H z Q q => h H z _ fun vs L1 H1 ⟨m, n, e, hb, k⟩ z1 => ⟨m, n, e, hb, q _ _ _ k z1⟩
/-- the turns of a for over a list that stands still -/
theorem wf_list {Kf : PySem.W.Frag} {a : Addr} {xs : List V} {tg : TG} {tb : TS} (s0 : Seen Kf g L a xs) (I : Nat → St → Led → Prop) (h0 : I 0 σ L) (hl : ∀ i σ L, i ≤ xs.length → I i σ L → Seen Kf g L a xs)
    (hs : ∀ i x σ L, xs[i]? = some x → I i σ L → Wg g L tg x σ fun σ2 L2 => Ws g L2 tb σ2 { K with nx := fun σ' L' => ∃ L3, I (i + 1) σ' L3 ∧ L3 <+: L', ct := fun σ' L' => ∃ L3, I (i + 1) σ' L3 ∧ L3 <+: L', bk := K.nx })
    (hd : ∀ σ L, I xs.length σ L → K.nx σ L) : WFor g L (Itl Kf a) tg tb σ K := fun H z D e => by
  refine for_list (K := Kf) (a := a) (xs := xs) (fun i σ H => ∃ L, I i σ L ∧ At g L H) ⟨L, h0, z⟩ (fun i σ H hi ⟨L, k, z⟩ => (hl i σ L hi k).at_ H z) ?_ fun σ H ⟨L, k, z⟩ => e.nx _ _ _ (hd σ L k) z
  rintro i x σ H hx ⟨L, k, z⟩
  refine hs i x σ L hx k H z _ fun σ2 L2 H2 k2 z2 => ?_
  have kk : ∀ σ' L' H', (∃ L3, I (i + 1) σ' L3 ∧ L3 <+: L') → At g L' H' → ∃ L, I (i + 1) σ' L ∧ At g L H' := fun σ' L' H' ⟨L3, hi, hp⟩ z' => ⟨L3, hi, z'.pre hp⟩
  exact k2 H2 z2 _ ⟨kk, e.rt, e.nx, kk⟩
theorem wf_rng {lo : Int} {n : Nat} {tg : TG} {tb : TS} (I : Nat → St → Led → Prop) (h0 : I 0 σ L)
    (hs : ∀ i σ L, i < n → I i σ L → Wg g L tg (.int (lo + i)) σ fun σ2 L2 => Ws g L2 tb σ2 { K with nx := fun σ' L' => ∃ L3, I (i + 1) σ' L3 ∧ L3 <+: L', ct := fun σ' L' => ∃ L3, I (i + 1) σ' L3 ∧ L3 <+: L', bk := K.nx })
    (hd : ∀ σ L, I n σ L → K.nx σ L) : WFor g L (Itr lo n) tg tb σ K := fun H z D e => by
  refine for_range (lo := lo) (n := n) (fun i σ H => ∃ L, I i σ L ∧ At g L H) ⟨L, h0, z⟩ ?_ fun σ H ⟨L, k, z⟩ => e.nx _ _ _ (hd σ L k) z
  rintro i σ H hx ⟨L, k, z⟩
  refine hs i σ L hx k H z _ fun σ2 L2 H2 k2 z2 => ?_
  have kk : ∀ σ' L' H', (∃ L3, I (i + 1) σ' L3 ∧ L3 <+: L') → At g L' H' → ∃ L, I (i + 1) σ' L ∧ At g L H' := fun σ' L' H' ⟨L3, hi, hp⟩ z' => ⟨L3, hi, z'.pre hp⟩
  exact k2 H2 z2 _ ⟨kk, e.rt, e.nx, kk⟩
end

/-! ### loops by the slots that they store; the ledger as at the start, a source's draws counted -/
def putA : St → List (Option (Option V)) → St
  | s :: σ, none :: ms => s :: putA σ ms
  | _ :: σ, some v :: ms => v :: putA σ ms
  | σ, _ => σ
section
variable {g : Gr} {L : Led} {σ : St} {K : Ks} {t1 : TS} {cT : TT} {tg : TG} {tb : TS}
theorem wf_rngS {lo : Int} {n : Nat} (I : Nat → List (Option (Option V)) → Prop) (h0 : ∃ vs, σ = putA σ vs ∧ I 0 vs)
    (hs : ∀ (i : Nat) (x : Int) vs, i < n → x = lo + i → I i vs → Wg g L tg (.int x) (putA σ vs) fun σ2 L2 => Ws g L2 tb σ2 { K with nx := fun σ' L' => ∃ vs', (σ' = putA σ vs' ∧ I (i + 1) vs') ∧ L <+: L', ct := fun σ' L' => ∃ vs', (σ' = putA σ vs' ∧ I (i + 1) vs') ∧ L <+: L', bk := K.nx })
    (hd : ∀ vs, I n vs → K.nx (putA σ vs) L) : WFor g L (Itr lo n) tg tb σ K := by
  refine wf_rng (fun i σ' L' => ∃ vs, (σ' = putA σ vs ∧ I i vs) ∧ L' = L) (by obtain ⟨vs, h1, h2⟩ := h0; exact ⟨vs, ⟨h1, h2⟩, rfl⟩) ?_ ?_
  · rintro i σ' L' hi ⟨vs, ⟨rfl, k⟩, rfl⟩
    intro H z Q q
    refine hs i _ vs hi rfl k H z Q fun σ2 L2 H2 k2 z2 => q σ2 L2 H2 ?_ z2
    intro H3 z3 D e
    have kk : ∀ σ' L'' H', (∃ vs', (σ' = putA σ vs' ∧ I (i + 1) vs') ∧ L' <+: L'') → At g L'' H' → D.nx σ' H' := fun σ' L'' H' ⟨vs', h1, h2⟩ z' => e.nx σ' L'' H' ⟨L', ⟨vs', h1, rfl⟩, h2⟩ z'
    have kc : ∀ σ' L'' H', (∃ vs', (σ' = putA σ vs' ∧ I (i + 1) vs') ∧ L' <+: L'') → At g L'' H' → D.ct σ' H' := fun σ' L'' H' ⟨vs', h1, h2⟩ z' => e.ct σ' L'' H' ⟨L', ⟨vs', h1, rfl⟩, h2⟩ z'
    exact k2 H3 z3 D ⟨kk, e.rt, e.bk, kc⟩
  · rintro σ' L' ⟨vs, ⟨rfl, k⟩, rfl⟩
    exact hd vs k
theorem wf_listS {Kf : PySem.W.Frag} {a : Addr} {xs : List V} (s0 : Seen Kf g L a xs) (I : Nat → List (Option (Option V)) → Prop) (h0 : ∃ vs, σ = putA σ vs ∧ I 0 vs)
    (hs : ∀ i x vs, xs[i]? = some x → I i vs → Wg g L tg x (putA σ vs) fun σ2 L2 => Ws g L2 tb σ2 { K with nx := fun σ' L' => ∃ vs', (σ' = putA σ vs' ∧ I (i + 1) vs') ∧ L <+: L', ct := fun σ' L' => ∃ vs', (σ' = putA σ vs' ∧ I (i + 1) vs') ∧ L <+: L', bk := K.nx })
    (hd : ∀ vs, I xs.length vs → K.nx (putA σ vs) L) : WFor g L (Itl Kf a) tg tb σ K := by
  refine wf_list s0 (fun i σ' L' => ∃ vs, (σ' = putA σ vs ∧ I i vs) ∧ L' = L) (by obtain ⟨vs, h1, h2⟩ := h0; exact ⟨vs, ⟨h1, h2⟩, rfl⟩) (fun i σ' L' _ ⟨vs, _, e⟩ => e ▸ s0) ?_ ?_
  · rintro i x σ' L' hi ⟨vs, ⟨rfl, k⟩, rfl⟩
    intro H z Q q
    refine hs i x vs hi k H z Q fun σ2 L2 H2 k2 z2 => q σ2 L2 H2 ?_ z2
    intro H3 z3 D e
    have kk : ∀ σ' L'' H', (∃ vs', (σ' = putA σ vs' ∧ I (i + 1) vs') ∧ L' <+: L'') → At g L'' H' → D.nx σ' H' := fun σ' L'' H' ⟨vs', h1, h2⟩ z' => e.nx σ' L'' H' ⟨L', ⟨vs', h1, rfl⟩, h2⟩ z'
    have kc : ∀ σ' L'' H', (∃ vs', (σ' = putA σ vs' ∧ I (i + 1) vs') ∧ L' <+: L'') → At g L'' H' → D.ct σ' H' := fun σ' L'' H' ⟨vs', h1, h2⟩ z' => e.ct σ' L'' H' ⟨L', ⟨vs', h1, rfl⟩, h2⟩ z'
    exact k2 H3 z3 D ⟨kk, e.rt, e.bk, kc⟩
  · rintro σ' L' ⟨vs, ⟨rfl, k⟩, rfl⟩
    exact hd vs k
theorem ws_whileS (I : Nat → List (Option (Option V)) → Prop) (h0 : ∃ m vs, σ = putA σ vs ∧ I m vs)
    (hs : ∀ m vs, I m vs → Wp g L (cT (putA σ vs)) fun b L1 => if b = true then Ws g L1 t1 (putA σ vs) { K with nx := fun σ' L' => ∃ m' vs', m' < m ∧ (σ' = putA σ vs' ∧ I m' vs') ∧ L <+: L', ct := fun σ' L' => ∃ m' vs', m' < m ∧ (σ' = putA σ vs' ∧ I m' vs') ∧ L <+: L', bk := K.nx } else K.nx (putA σ vs) L1) :
    Ws g L (tWhile cT t1) σ K := by
  obtain ⟨m0, vs0, h1, h2⟩ := h0
  refine ws_whileN (fun m σ' L' => ∃ vs, (σ' = putA σ vs ∧ I m vs) ∧ L' = L) ⟨m0, vs0, ⟨h1, h2⟩, rfl⟩ ?_
  rintro m σ' L' ⟨vs, ⟨rfl, k⟩, rfl⟩
  refine (hs m vs k).mono fun b L1 q => ?_
  cases b with
  | true =>
    have q : Ws g L1 t1 _ _ := q
    show Ws g L1 t1 _ _
    intro H3 z3 D e
    have kk : ∀ σ' L'' H', (∃ m' vs', m' < m ∧ (σ' = putA σ vs' ∧ I m' vs') ∧ L' <+: L'') → At g L'' H' → D.nx σ' H' := fun σ' L'' H' ⟨m', vs', h0, h1, h2⟩ z' => e.nx σ' L'' H' ⟨m', L', h0, ⟨vs', h1, rfl⟩, h2⟩ z'
    have kc : ∀ σ' L'' H', (∃ m' vs', m' < m ∧ (σ' = putA σ vs' ∧ I m' vs') ∧ L' <+: L'') → At g L'' H' → D.ct σ' H' := fun σ' L'' H' ⟨m', vs', h0, h1, h2⟩ z' => e.ct σ' L'' H' ⟨m', L', h0, ⟨vs', h1, rfl⟩, h2⟩ z'
    exact q H3 z3 D ⟨kk, e.rt, e.bk, kc⟩
  | false => exact q
end
/-! ### small words for tests -/
theorem ifB {b : Bool} {A B : Prop} (h1 : b = true → A) (h2 : b = false → B) : if b = true then A else B := by
  cases b with
  | true => exact h1 rfl
  | false => exact (show B from h2 rfl)
theorem ifD {c : Prop} [Decidable c] {A B : Prop} (h1 : c → A) (h2 : ¬ c → B) : if decide c = true then A else B := by
  by_cases h : c
  · rw [decide_eq_true h]
    exact h1 h
  · rw [decide_eq_false h]
    exact (show B from h2 h)
theorem ifN {c : Prop} [Decidable c] {A B : Prop} (h1 : ¬ c → A) (h2 : c → B) : if (!decide c) = true then A else B := by
  by_cases h : c
  · rw [decide_eq_true h]
    exact (show B from h2 h)
  · rw [decide_eq_false h]
    exact (show A from h1 h)
theorem ifT {b : Bool} {A B : Prop} (e : b = true) (h : A) : if b = true then A else B := by
  rw [if_pos e]
  exact h
theorem ifF {b : Bool} {A B : Prop} (e : b = false) (h : B) : if b = true then A else B := by
  rw [e]
  exact (show B from h)
section
variable {g : Gr} {L : Led} {σ : St} {B : Bool → Led → Prop} {t u : TT} {C : V → Led → Prop} {ta tb : TE} 
theorem andK {P Q : Bool → Prop} {b2 : Bool} (h1 : P b2) (h2 : Q b2) : ∃ b2, P b2 ∧ Q b2 := ⟨b2, h1, h2⟩
/-- and, or whose second part is known -/
theorem wt_andP (h : Wp g L (t σ) fun b L1 => ∃ b2, (b = true → Wp g L1 (u σ) fun c L2 => c = b2 ∧ L2 = L1) ∧ B (b && b2) L1) : Wp g L (tAnd t u σ) B := wt_and (h.mono fun b L1 ⟨b2, k⟩ => by
  cases b with
  | true =>
    refine (k.1 rfl).mono fun c L2 z => ?_
    rw [z.1, z.2]
    exact k.2
  | false => exact k.2)
theorem wt_orP (h : Wp g L (t σ) fun b L1 => ∃ b2, (b = false → Wp g L1 (u σ) fun c L2 => c = b2 ∧ L2 = L1) ∧ B (b || b2) L1) : Wp g L (tOr t u σ) B := wt_or (h.mono fun b L1 ⟨b2, k⟩ => by
  cases b with
  | true => exact k.2
  | false =>
    refine (k.1 rfl).mono fun c L2 z => ?_
    rw [z.1, z.2]
    exact k.2)
theorem wp_andVP (h : Wp g L (ta σ) fun x L1 => ∃ b, x = .bl b ∧ ∃ b2, (b = true → Wp g L1 (tb σ) fun c L2 => c = .bl b2 ∧ L2 = L1) ∧ C (.bl (b && b2)) L1) : Wp g L (tAndV ta tb σ) C := wp_andV (h.mono fun x L1 ⟨b, e, b2, k⟩ => ⟨b, e, by
  cases b with
  | true =>
    refine (k.1 rfl).mono fun c L2 z => ?_
    rw [z.1, z.2]
    exact k.2
  | false => exact k.2⟩)
theorem wp_orVP (h : Wp g L (ta σ) fun x L1 => ∃ b, x = .bl b ∧ ∃ b2, (b = false → Wp g L1 (tb σ) fun c L2 => c = .bl b2 ∧ L2 = L1) ∧ C (.bl (b || b2)) L1) : Wp g L (tOrV ta tb σ) C := wp_orV (h.mono fun x L1 ⟨b, e, b2, k⟩ => ⟨b, e, by
  cases b with
  | true => exact k.2
  | false =>
    refine (k.1 rfl).mono fun c L2 z => ?_
    rw [z.1, z.2]
    exact k.2⟩)
theorem wp_chainP {r r' : R2} {tc : TE} (h : Wp g L (ta σ) fun x L1 => Wp g L1 (tb σ) fun y L2 => Wp g L2 (r x y) fun z L3 => ∃ b, z = .bl b ∧ ∃ b2, (b = true → Wp g L3 (tc σ) fun w L4 => Wp g L4 (r' y w) fun c L5 => c = .bl b2 ∧ L5 = L3) ∧ C (.bl (b && b2)) L3) : Wp g L (tChain r r' ta tb tc σ) C :=
  wp_chain (h.mono fun x L1 k1 => k1.mono fun y L2 k2 => k2.mono fun z L3 ⟨b, e, b2, k⟩ => ⟨b, e, by
    cases b with
    | true =>
      refine (k.1 rfl).mono fun w L4 k4 => k4.mono fun c L5 z => ?_
      rw [z.1, z.2]
      exact k.2
    | false => exact k.2⟩)
end

/-! ### defs of the top, methods, classes -/
structure TopFn (K : PySem.W.Frag) (mg : Str → Option Value) (x : Str) (st : Stmt) : Prop where
  ex : ∃ f fd, mg x = some (.ref f) ∧ Fun K x x st f fd
structure MethFn (K : PySem.W.Frag) (C : Addr) (m qual : Str) (st : Stmt) : Prop where
  ex : ∃ f fd, Meth K C m f ∧ Fun K m qual st f fd
structure InitFn (K : PySem.W.Frag) (mg : Str → Option Value) (x : Str) (C : Addr) (qual : Str) (st : Stmt) : Prop where
  mg : mg x = some (.ref C)
  ex : ∃ f fd, Mk K C f ∧ Fun K "__init__" qual st f fd
structure Ok (P : Program) (w : World) (K : PySem.W.Frag) (mg : Str → Option Value) (base : Heap) (k : Nat) (x : Str) (st : Stmt) (ps : List Str) (sp : Sp) : Prop where
  ex : ∃ f fd, mg x = some (.ref f) ∧ Fun K x x st f fd ∧ Binds K fd ps [] ∧ FnOk P w K mg base CX0 k f fd ps sp
structure OkM (P : Program) (w : World) (K : PySem.W.Frag) (mg : Str → Option Value) (base : Heap) (C : Addr) (k : Nat) (m qual : Str) (st : Stmt) (ps : List Str) (sp : Sp) : Prop where
  ex : ∃ f fd, Meth K C m f ∧ Fun K m qual st f fd ∧ Binds K fd ps [] ∧ FnOk P w K mg base CX0 k f fd ps sp
structure OkC (P : Program) (w : World) (K : PySem.W.Frag) (mg : Str → Option Value) (base : Heap) (x : Str) (C : Addr) (k : Nat) (qual : Str) (st : Stmt) (ps : List Str) (sp : Sp) : Prop where
  ex : ∃ f fd, mg x = some (.ref C) ∧ Mk K C f ∧ Fun K "__init__" qual st f fd ∧ Binds K fd ps [] ∧ FnOk P w K mg base CX0 k f fd ps sp
section
variable {P : Program} {w : World} {K : PySem.W.Frag} {mg : Str → Option Value} {base : Heap}
abbrev BodyOk (P : Program) (w : World) (K : PySem.W.Frag) (mg : Str → Option Value) (base : Heap) (qual : Str) (st : Stmt) (N : List Str) (k : Nat) (sp : Sp) : Prop :=
  ∀ (f : Addr) (cdv : Value) (A : Around) (outer : List Env) (s : Shared) (H : Hp) (vs : List V) (Q : VK) (E : XK), Room k (A.deeper (PyProof.Rows.envOfC qual (defScope st) s.heap.objs.size f cdv)) → sp vs H Q E →
      ∃ t, PSs (cxOf CX0 P w K mg base N qual (defScope st) f cdv A outer s H E).nox (defBody st) t ∧ t { nx := fun _ H' => Q .non H', rt := Q } (start N vs) H
theorem Ok.of {x : Str} {st : Stmt} {N ps : List Str} {k : Nat} {sp : Sp} (T : TopFn K mg x st) (S : FnScope N ps (defScope st))
    (hb : ∀ (kV doc pm : Value) (an : Option Addr) (cdv ct : Value) (us : List Value), us.length = ps.length → bindArgs (PySem.W.fnOf x x (defArgs st) (defBody st) (defScope st) .none kV doc pm an cdv ct) ⟨us, []⟩ = pure (ps.zip us))
    (len : ∀ vs H Q E, sp vs H Q E → vs.length = ps.length) (body : BodyOk P w K mg base x st N k sp) : Ok P w K mg base (k + 1) x st ps sp := by
  obtain ⟨f, fd, h1, F⟩ := T.ex
  exact ⟨f, fd, h1, F, F.binds hb, F.ok S len (body f)⟩
theorem OkM.of {C : Addr} {m qual : Str} {st : Stmt} {N ps : List Str} {k : Nat} {sp : Sp} (T : MethFn K C m qual st) (S : FnScope N ps (defScope st))
    (hb : ∀ (kV doc pm : Value) (an : Option Addr) (cdv ct : Value) (us : List Value), us.length = ps.length → bindArgs (PySem.W.fnOf m qual (defArgs st) (defBody st) (defScope st) .none kV doc pm an cdv ct) ⟨us, []⟩ = pure (ps.zip us))
    (len : ∀ vs H Q E, sp vs H Q E → vs.length = ps.length) (body : BodyOk P w K mg base qual st N k sp) : OkM P w K mg base C (k + 1) m qual st ps sp := by
  obtain ⟨f, fd, h1, F⟩ := T.ex
  exact ⟨f, fd, h1, F, F.binds hb, F.ok S len (body f)⟩
theorem OkC.of {C : Addr} {x qual : Str} {st : Stmt} {N ps : List Str} {k : Nat} {sp : Sp} (T : InitFn K mg x C qual st) (S : FnScope N ps (defScope st))
    (hb : ∀ (kV doc pm : Value) (an : Option Addr) (cdv ct : Value) (us : List Value), us.length = ps.length → bindArgs (PySem.W.fnOf "__init__" qual (defArgs st) (defBody st) (defScope st) .none kV doc pm an cdv ct) ⟨us, []⟩ = pure (ps.zip us))
    (len : ∀ vs H Q E, sp vs H Q E → vs.length = ps.length) (body : BodyOk P w K mg base qual st N k sp) : OkC P w K mg base x C (k + 1) qual st ps sp := by
  obtain ⟨f, fd, h1, F⟩ := T.ex
  exact ⟨f, fd, T.mg, h1, F, F.binds hb, F.ok S len (body f)⟩
/-- what the top has written -/
theorem topFn_mk {h : Heap} {x : Str} {st : Stmt} {f : Addr} {oc : Value} {od an : Option Addr} {osl : Array (Option Value)} {kV doc pm cdv ct : Value} (X : K.In h) (G : h.Ns mainGlobals mg) (a : PySem.W.nsIn K mainGlobals x = some (some (.ref f)))
    (l : K.lookup f = some ⟨oc, od, .func (PySem.W.fnOf x x (defArgs st) (defBody st) (defScope st) .none kV doc pm an cdv ct), osl⟩) (c : PySem.W.codeIn K cdv x = true) (k : PySem.W.keepIn K (.ref f) = true) : TopFn K mg x st :=
  ⟨f, _, PySem.W.mg_of X G a, fun_mk l c k⟩
theorem methFn_mk {C : Addr} {m qual : Str} {st : Stmt} {f : Addr} {oc : Value} {od an : Option Addr} {osl : Array (Option Value)} {kV doc pm cdv ct : Value} (a : PySem.W.findIn K (.ref C) m = some (some (.ref f))) (i : PySem.W.isFn K (.ref f) = true)
    (l : K.lookup f = some ⟨oc, od, .func (PySem.W.fnOf m qual (defArgs st) (defBody st) (defScope st) .none kV doc pm an cdv ct), osl⟩) (c : PySem.W.codeIn K cdv qual = true) (k : PySem.W.keepIn K (.ref f) = true) : MethFn K C m qual st :=
  ⟨f, _, ⟨a, i, k⟩, fun_mk l c k⟩
theorem initFn_mk {x : Str} {C : Addr} {qual : Str} {st : Stmt} {f : Addr} {oc : Value} {od an : Option Addr} {osl : Array (Option Value)} {kV doc pm cdv ct : Value} (hm : mg x = some (.ref C)) (mk : PySem.W.makesIn K C = true) (kc : PySem.W.keepIn K (.ref C) = true)
    (a : PySem.W.findIn K (.ref C) "__init__" = some (some (.ref f))) (i : PySem.W.isFn K (.ref f) = true)
    (l : K.lookup f = some ⟨oc, od, .func (PySem.W.fnOf "__init__" qual (defArgs st) (defBody st) (defScope st) .none kV doc pm an cdv ct), osl⟩) (c : PySem.W.codeIn K cdv qual = true) (k : PySem.W.keepIn K (.ref f) = true) : InitFn K mg x C qual st :=
  ⟨hm, f, _, ⟨mk, a, i, kc⟩, fun_mk l c k⟩
end
-- the rules of a derivation
section
variable {X : Cx} {k : Nat} {x m : Str} {ps : List Str} {sp : Sp} {p pos apos : Pos} {e o : Expr} {es : List Expr} {t : TA} {ta : TE} {C : Addr} {st : Stmt} {qual : Str}
theorem pe_own (O : Ok X.prog X.w X.K X.mg X.base k x st ps sp) (hr : Room k X.A) (hg : Gl X x) (ha : PA X (e :: es) t) (hdb : (x == ("__debug__" : Str)) = false := by decide) (he : starEach (e :: es) X.env = (false, eval e X.env) :: starEach es X.env := by rfl) (hpl : (backTo pos (starEach es X.env)).any (·.1) = false := by rfl) :
    PE X (.Call (.Name x p) (e :: es) [] pos) (tCall sp [] E0 t) := by
  obtain ⟨f, fd, h1, h2, h3, F⟩ := O.ex
  exact pe_call F hr hg h1 h2.kp h3 .nil pass0 ha hdb he hpl
theorem pe_own0 (O : Ok X.prog X.w X.K X.mg X.base k x st ps sp) (hr : Room k X.A) (hg : Gl X x) (hdb : (x == ("__debug__" : Str)) = false := by decide) : PE X (.Call (.Name x p) [] [] pos) (tCall sp [] E0 tNil) := by
  obtain ⟨f, fd, h1, h2, h3, F⟩ := O.ex
  exact pe_call0 F hr hg h1 h2.kp h3 .nil pass0 hdb
theorem pe_om {pl : Sem Bool} (c : Cls X.K C) (O : OkM X.prog X.w X.K X.mg X.base C k m qual st ps sp) (hr : Room k X.A) (ho : PE X o ta) (ha : PA X (e :: es) t)
    (hst : starEach (e :: es) X.env = (false, eval e X.env) :: starEach es X.env := by rfl) (hpl : (backTo pos (starEach es X.env)).any (·.1) = false := by rfl)
    (ht : eval (.Call (.Attribute o m apos) (e :: es) [] pos) X.env = (do
      let ov ← eval o X.env
      standAt apos.atName
      let (f, first) ← holding [ov] (getMethod ov m pl)
      callWith pos f first (backTo pos (starEach (e :: es) X.env)) (backToKw pos (keywordEach [] X.env))) := by rfl) :
    PE X (.Call (.Attribute o m apos) (e :: es) [] pos) (tMeth C m sp [] E0 ta t) := by
  obtain ⟨f, fd, h1, _, h3, F⟩ := O.ex
  exact pe_meth ho c h1 F hr h3 .nil pass0 ha hst hpl ht
theorem pe_om0 {pl : Sem Bool} (c : Cls X.K C) (O : OkM X.prog X.w X.K X.mg X.base C k m qual st ps sp) (hr : Room k X.A) (ho : PE X o ta)
    (ht : eval (.Call (.Attribute o m apos) [] [] pos) X.env = (do
      let ov ← eval o X.env
      standAt apos.atName
      let (f, first) ← holding [ov] (getMethod ov m pl)
      callWith pos f first (backTo pos (starEach [] X.env)) (backToKw pos (keywordEach [] X.env))) := by rfl) :
    PE X (.Call (.Attribute o m apos) [] [] pos) (tMeth C m sp [] E0 ta tNil) := by
  obtain ⟨f, fd, h1, _, h3, F⟩ := O.ex
  exact pe_meth0 ho c h1 F hr h3 .nil pass0 ht
theorem pe_oc (O : OkC X.prog X.w X.K X.mg X.base x C k qual st ps sp) (hr : Room (k + 1) X.A) (hg : Gl X x) (ha : PA X (e :: es) t) (hdb : (x == ("__debug__" : Str)) = false := by decide) (he : starEach (e :: es) X.env = (false, eval e X.env) :: starEach es X.env := by rfl) (hpl : (backTo pos (starEach es X.env)).any (·.1) = false := by rfl) :
    PE X (.Call (.Name x p) (e :: es) [] pos) (tMake C sp [] E0 t) := by
  obtain ⟨f, fd, h1, h2, _, h3, F⟩ := O.ex
  exact pe_make h2 F hr hg h1 h3 .nil pass0 ha hdb he hpl
/-! calls by keywords alone: perm tells for each parameter the place of its keyword -/
def pick {α : Type} (perm : List Nat) (ws : List α) : List α := perm.filterMap fun i => ws[i]?
theorem pick_vals {zs : List V} {ws : List Value} (r : Vals zs ws) : ∀ perm : List Nat, Vals (pick perm zs) (pick perm ws)
  | [] => .nil
  | i :: q => by
    have ih := pick_vals r q
    unfold pick at *
    rw [List.filterMap_cons, List.filterMap_cons]
    cases h : zs[i]? with
    | none =>
      rw [r.none_of h]
      exact ih
    | some x =>
      obtain ⟨u, h1, h2⟩ := r.get h
      rw [h1]
      exact .cons h2 ih
def tKw (sp : Sp) (perm : List Nat) (m : Nat) (E : XK) (tk : TA) : TE := fun σ H Q => tk σ H fun zs H1 => zs.length = m ∧ sp (pick perm zs) H1 Q E
def tKwM (C : Addr) (m : Str) (sp : Sp) (perm : List Nat) (n : Nat) (E : XK) (ta : TE) (tk : TA) : TE := fun σ H Q => ta σ H fun x H1 => ∃ a dx fs, x = .ref a ∧ H1 a = some (.ins C dx fs) ∧ fs.lookup m = none ∧ tk σ H1 fun zs H2 => zs.length = n ∧ sp (.ref a :: pick perm zs) H2 Q E
def tKwC (C : Addr) (sp : Sp) (perm : List Nat) (n : Nat) (E : XK) (tk : TA) : TE := fun σ H Q => tk σ H fun zs H1 => zs.length = n ∧ ∀ x dx, H1 x = none → H1 dx = none → dx ≠ x →
  sp (.ref x :: pick perm zs) (upd (upd H1 dx (.own x)) x (.ins C dx [])) (fun v H2 => v = .non ∧ Q (.ref x) H2) E
variable {kws : List Keyword} {tk : TA} {ks : List Str}
theorem pe_kw (perm : List Nat) (O : Ok X.prog X.w X.K X.mg X.base k x st ps sp) (hr : Room k X.A) (hg : Gl X x) (hkw : PK X kws tk)
    (hb : ∀ (kV doc pm : Value) (an : Option Addr) (cdv ct : Value) (ws : List Value), ws.length = ks.length → bindArgs (PySem.W.fnOf x x (defArgs st) (defBody st) (defScope st) .none kV doc pm an cdv ct) ⟨[], ks.zip ws⟩ = pure (ps.zip (pick perm ws)))
    (hall : (backToKw pos (keywordEach kws X.env)).all (·.1.isSome) = true := by rfl) (hks : (backToKw pos (keywordEach kws X.env)).filterMap (·.1) = ks := by rfl) (hdb : (x == ("__debug__" : Str)) = false := by decide)
    (hpl : ((backTo pos (starEach [] X.env)).any (·.1) || (backToKw pos (keywordEach kws X.env)).any (·.1.isNone)) = false := by rfl) : PE X (.Call (.Name x p) [] kws pos) (tKw sp perm ks.length E0 tk) := by
  obtain ⟨f, fd, h1, h2, h3, F⟩ := O.ex
  have kb : KBn X.K fd ps 0 ks (fun us ws => us ++ pick perm ws) (fun vs zs => vs ++ pick perm zs) := by
    obtain ⟨oc, od, kV, doc, pm, an, cdv, ct, osl, rfl, lk, hcd⟩ := h2.ex
    refine ⟨fun s us ws _ l1 l2 => ?_, fun r1 r2 => Vals.append r1 (pick_vals r2 perm)⟩
    have e : us = [] := List.length_eq_zero_iff.mp l1
    subst e
    exact .of_eq (hb kV doc pm an cdv ct ws l2)
  refine ⟨fun pins s σ H Q I h => ?_⟩
  refine wpAny_Call_Name_kw (ld_glob I hg h1 ?_ hdb)
  refine PySem.W.callWith_KW0 (h₀ := X.base) I.ok.mod.kin h2.kp hall (thn (hkw.run pos pins s σ H _ I h) fun ws s2 ⟨zs, H2, I2, rz, l2, q2⟩ => ⟨I2.kIn, ?_⟩) hpl
  rw [hks]
  exact run_fnN (us := []) (vs := []) F hr kb pass0 I2 .nil rz rfl l2 q2
theorem pe_kwM {pl : Sem Bool} (perm : List Nat) (c : Cls X.K C) (O : OkM X.prog X.w X.K X.mg X.base C k m qual st ps sp) (hr : Room k X.A) (ho : PE X o ta) (hkw : PK X kws tk)
    (hb : ∀ (kV doc pm : Value) (an : Option Addr) (cdv ct : Value) (u : Value) (ws : List Value), ws.length = ks.length → bindArgs (PySem.W.fnOf m qual (defArgs st) (defBody st) (defScope st) .none kV doc pm an cdv ct) ⟨[u], ks.zip ws⟩ = pure (ps.zip (u :: pick perm ws)))
    (hall : (backToKw pos (keywordEach kws X.env)).all (·.1.isSome) = true := by rfl) (hks : (backToKw pos (keywordEach kws X.env)).filterMap (·.1) = ks := by rfl)
    (hpl : ((backTo pos (starEach [] X.env)).any (·.1) || (backToKw pos (keywordEach kws X.env)).any (·.1.isNone)) = false := by rfl)
    (ht : eval (.Call (.Attribute o m apos) [] kws pos) X.env = (do
      let ov ← eval o X.env
      standAt apos.atName
      let (f, first) ← holding [ov] (getMethod ov m pl)
      callWith pos f first (backTo pos (starEach [] X.env)) (backToKw pos (keywordEach kws X.env))) := by rfl) : PE X (.Call (.Attribute o m apos) [] kws pos) (tKwM C m sp perm ks.length E0 ta tk) := by
  obtain ⟨f, fd, h1, h2, h3, F⟩ := O.ex
  have kb : KBn X.K fd ps 1 ks (fun us ws => us ++ pick perm ws) (fun vs zs => vs ++ pick perm zs) := by
    obtain ⟨oc, od, kV, doc, pm, an, cdv, ct, osl, rfl, lk, hcd⟩ := h2.ex
    refine ⟨fun s us ws _ l1 l2 => ?_, fun r1 r2 => Vals.append r1 (pick_vals r2 perm)⟩
    match us, l1 with
    | [u], _ => exact .of_eq (hb kV doc pm an cdv ct u ws l2)
  refine ⟨fun pins s σ H Q I h => ?_⟩
  refine PySem.W.methodCall_KW (pl := pl) (thn (ho.run pins s σ H _ I h) fun u s1 ⟨y, H1, I1, rx, a, dx, fs, ex, ea, l, q⟩ => ?_) ht
  subst ex
  obtain rfl : u = Value.ref a := rx
  refine getmeth_ok I1 ea c h1 l ?_
  refine PySem.W.callWith_KW0 (first := [.ref a]) (h₀ := X.base) I.ok.mod.kin h1.kp hall (thn (hkw.run pos pins s1 σ H1 _ I1 q) fun ws s2 ⟨zs, H2, I2, rz, l2, q2⟩ => ⟨I2.kIn, ?_⟩) hpl
  rw [hks]
  exact run_fnN (us := [.ref a]) (vs := [.ref a]) F hr kb pass0 I2 (.cons rfl .nil) rz rfl l2 q2
theorem pe_kwC (perm : List Nat) (O : OkC X.prog X.w X.K X.mg X.base x C k qual st ps sp) (hr : Room (k + 1) X.A) (hg : Gl X x) (hkw : PK X kws tk)
    (hb : ∀ (kV doc pm : Value) (an : Option Addr) (cdv ct : Value) (u : Value) (ws : List Value), ws.length = ks.length → bindArgs (PySem.W.fnOf "__init__" qual (defArgs st) (defBody st) (defScope st) .none kV doc pm an cdv ct) ⟨[u], ks.zip ws⟩ = pure (ps.zip (u :: pick perm ws)))
    (hall : (backToKw pos (keywordEach kws X.env)).all (·.1.isSome) = true := by rfl) (hks : (backToKw pos (keywordEach kws X.env)).filterMap (·.1) = ks := by rfl) (hdb : (x == ("__debug__" : Str)) = false := by decide)
    (hpl : ((backTo pos (starEach [] X.env)).any (·.1) || (backToKw pos (keywordEach kws X.env)).any (·.1.isNone)) = false := by rfl) : PE X (.Call (.Name x p) [] kws pos) (tKwC C sp perm ks.length E0 tk) := by
  obtain ⟨f, fd, h1, M, h2, h3, F⟩ := O.ex
  have kb : KBn X.K fd ps (0 + 1) ks (fun us ws => us ++ pick perm ws) (fun vs zs => vs ++ pick perm zs) := by
    obtain ⟨oc, od, kV, doc, pm, an, cdv, ct, osl, rfl, lk, hcd⟩ := h2.ex
    refine ⟨fun s us ws _ l1 l2 => ?_, fun r1 r2 => Vals.append r1 (pick_vals r2 perm)⟩
    match us, l1 with
    | [u], _ => exact .of_eq (hb kV doc pm an cdv ct u ws l2)
  refine ⟨fun pins s σ H Q I h => ?_⟩
  refine wpAny_Call_Name_kw (ld_glob I hg h1 ?_ hdb)
  refine PySem.W.callWith_KW0 (h₀ := X.base) I.ok.mod.kin M.kp hall (thn (hkw.run pos pins s σ H _ I h) fun ws s2 ⟨zs, H2, I2, rz, l2, q2⟩ => ⟨I2.kIn, ?_⟩) hpl
  rw [hks]
  exact run_makeN (us := []) (vs := []) M F hr kb pass0 I2 .nil rz rfl l2 q2
theorem wp_kw {g : Gr} {L : Led} {σ : St} {D : V → Led → Prop} {perm : List Nat} {n : Nat} {E : XK} (h : Wp g L (tk σ) fun zs L1 => zs.length = n ∧ Wp g L1 (fun H Q => sp (pick perm zs) H Q E) D) : Wp g L (tKw sp perm n E tk σ) D :=
  fun H z Q q => h H z _ fun zs L1 H1 ⟨e, k⟩ z1 => ⟨e, k H1 z1 Q q⟩
theorem wp_kwM {g : Gr} {L : Led} {σ : St} {D : V → Led → Prop} {perm : List Nat} {n : Nat} {E : XK} (i : Nat)
    (h : Wp g L (ta σ) fun x L1 => ∃ (a dx : Addr) (fs : List (Str × V)) (bo : Bool), x = .ref a ∧ L1[i]? = some (a, .ob (.ins C dx fs), bo) ∧ fs.lookup m = none ∧ Wp g L1 (tk σ) fun zs L2 => zs.length = n ∧ Wp g L2 (fun H Q => sp (.ref a :: pick perm zs) H Q E) D) : Wp g L (tKwM C m sp perm n E ta tk σ) D :=
  fun H a' Q q => h H a' _ fun x L1 H1 ⟨a, dx, fs, bo, e, h1, h2, h3⟩ a1 => by
    subst e
    exact ⟨a, dx, fs, rfl, a1.get h1, h2, h3 H1 a1 _ fun zs L2 H2 ⟨e, k2⟩ a2 => ⟨e, k2 H2 a2 Q q⟩⟩
theorem pe_const {n : Int} (hg : Gl X x) (hm : ∃ t, X.mg x = some (.int n t)) (hd : (x == ("__debug__" : Str)) = false := by decide) : PE X (.Name x pos) (tC (.int n)) := by
  obtain ⟨t, h⟩ := hm
  exact pe_glob hg h ⟨t, rfl⟩ hd
theorem pe_tyint (hg : Gl X "int") (hm : X.mg "int" = none) : PE X (.Name "int" pos) (tC (.ty "int")) := pe_bltn hg hm (by decide +kernel) rfl
theorem pe_tybool (hg : Gl X "bool") (hm : X.mg "bool" = none) : PE X (.Name "bool" pos) (tC (.ty "bool")) := pe_bltn hg hm (by decide +kernel) rfl
end
/-! ### from a ledger to a promise -/
section
variable {g : Gr} {L : Led} {H : Hp} {a : Addr} {e : Ent} {o : HO} {b : Bool} {t : TS} {σ : St} {K : Ks} {D : Ends}
theorem run_ws (h : Ws g L t σ K) (z : At g L H) (e : Eo g K D) : t D σ H := h H z D e
theorem at_nil {mu : Addr → Prop} : At ⟨H, mu⟩ [] H := ⟨fun _ _ h _ => h, (fun _ h => nomatch h), (fun _ h => nomatch h), .nil⟩
theorem at_cons (z : At g L H) (h : H a = some o) (he : e.In H o) (hn : a ∉ L.map (·.1)) (ho : b = true → (g.H0 a = none ∨ g.mu a)) : At g ((a, e, b) :: L) H := by
  refine ⟨z.old, fun q hq => ?_, fun q hq hb => ?_, ?_⟩
  · rcases List.mem_cons.mp hq with r | r
    · subst r
      exact ⟨o, h, he⟩
    · exact z.led q r
  · rcases List.mem_cons.mp hq with r | r
    · subst r
      exact ho hb
    · exact z.own q r hb
  · rw [List.pairwise_cons]
    exact ⟨fun q hq ee => absurd (List.mem_map.mpr ⟨q, hq, ee.symm⟩) hn, z.nd⟩
theorem at_one {mu : Addr → Prop} (h : H a = some o) : At ⟨H, mu⟩ [(a, .ob o, false)] H := at_cons at_nil h rfl (by simp) (by simp)
/-- one that is only read, before others that are only read -/
theorem at_consF (z : At g L H) (h : H a = some o) (he : e.In H o) (hn : ∀ q ∈ L, q.2.2 = false) : At g ((a, e, false) :: L) H := by
  refine ⟨z.old, fun q hq => ?_, fun q hq hb => ?_, ?_⟩
  · rcases List.mem_cons.mp hq with r | r
    · subst r
      exact ⟨o, h, he⟩
    · exact z.led q r
  · rcases List.mem_cons.mp hq with r | r
    · subst r
      cases hb
    · exact z.own q r hb
  · rw [List.pairwise_cons]
    exact ⟨fun q hq _ => .inr ⟨rfl, hn q hq⟩, z.nd⟩
theorem at_two {mu : Addr → Prop} {a2 : Addr} {o2 : HO} (h : H a = some o) (h2 : H a2 = some o2) (n : a ≠ a2) : At ⟨H, mu⟩ [(a, .ob o, false), (a2, .ob o2, false)] H := at_cons (at_one h2) h rfl (by simpa using n) (by simp)
theorem At.since {H0 : Hp} (z : At ⟨H0, fun _ => False⟩ L H) : Same H0 H := fun b o h => z.old b o h (fun q => q)
/-- a value that is told -/
def kV (R : V → Prop) : Ks := { nx := fun _ _ => R .non, rt := fun v _ => R v }
theorem eo_V {H0 : Hp} {R : V → Prop} {Q : VK} (h : ∀ v H', R v → Same H0 H' → Q v H') : Eo ⟨H0, fun _ => False⟩ (kV R) { nx := fun _ H' => Q .non H', rt := Q } :=
  ⟨fun σ L H k z => h _ _ k z.since, fun v L H k z => h _ _ k z.since, fun _ _ _ k _ => k.elim, fun _ _ _ k _ => k.elim⟩
/-- None, or a number that is told -/
def kO (A : Prop) (R : Int → Prop) : Ks := { nx := fun _ _ => A, rt := fun v _ => (v = .non ∧ A) ∨ ∃ n, v = .int n ∧ R n }
theorem eo_O {H0 : Hp} {A : Prop} {R : Int → Prop} {Q : VK} (h1 : A → ∀ H', Same H0 H' → Q .non H') (h2 : ∀ n, R n → ∀ H', Same H0 H' → Q (.int n) H') : Eo ⟨H0, fun _ => False⟩ (kO A R) { nx := fun _ H' => Q .non H', rt := Q } :=
  ⟨fun σ L H k z => h1 k _ z.since, fun v L H k z => by
    rcases k with ⟨e, k⟩ | ⟨n, e, k⟩
    · subst e
      exact h1 k _ z.since
    · subst e
      exact h2 n k _ z.since, fun _ _ _ k _ => k.elim, fun _ _ _ k _ => k.elim⟩
/-- a new object, told by a relation -/
def kR (R : HO → Prop) : Ks := { nx := fun _ _ => False, rt := fun v L => ∃ (p : Addr) (i : Nat) (o : HO), v = .ref p ∧ L[i]? = some (p, Ent.ob o, true) ∧ R o }
theorem eo_R {H0 : Hp} {R : HO → Prop} {Q : VK} (h : ∀ p H' o, R o → H0 p = none → Same H0 H' → H' p = some o → Q (.ref p) H') : Eo ⟨H0, fun _ => False⟩ (kR R) { nx := fun _ H' => Q .non H', rt := Q } :=
  ⟨fun _ _ _ k _ => k.elim, fun v L H ⟨p, i, o, e, k, r⟩ z => by
    subst e
    refine h p H o r ?_ z.since (z.get k)
    rcases z.own _ (List.mem_of_getElem? k) rfl with q | q
    · exact q
    · exact q.elim, fun _ _ _ k _ => k.elim, fun _ _ _ k _ => k.elim⟩
/-- what is at a place, by an entry -/
def EntAt (e : Ent) (H : Hp) (a : Addr) : Prop := ∃ o, H a = some o ∧ e.In H o
/-- all but one place -/
def Exc (a : Addr) (H H' : Hp) : Prop := ∀ c o, H c = some o → c ≠ a → H' c = some o
theorem At.draw {i : Nat} {e' : Ent} {H' : Hp} (z : At g L H) (k : L[i]? = some (a, e, true)) (s : Exc a H H') (h : EntAt e' H' a) (hmv : e.mov2 = true := by rfl) : At g (L.set i (a, e', true)) H' := by
  obtain ⟨o, h1, h2⟩ := h
  exact z.chg k s h1 h2 hmv
/-- a value, one place changed -/
def kM (a : Addr) (e : Ent) (i : Nat) (R : V → Prop) : Ks := { nx := fun _ _ => False, rt := fun v L => R v ∧ L[i]? = some (a, e, true) }
theorem eo_M {H0 : Hp} {a : Addr} {e : Ent} {i : Nat} {R : V → Prop} {Q : VK} (h : ∀ v H', R v → EntAt e H' a → Exc a H0 H' → Q v H') : Eo ⟨H0, fun c => c = a⟩ (kM a e i R) { nx := fun _ H' => Q .non H', rt := Q } :=
  ⟨fun _ _ _ k _ => k.elim, fun v L H ⟨r, k⟩ z => h v H r (z.look k) fun c o h hn => z.old c o h hn, fun _ _ _ k _ => k.elim, fun _ _ _ k _ => k.elim⟩
/-- a value; a place whose object is written out is told by an entry -/
def kS (a : Addr) (e : Ent) (R : V → Prop) : Ks := { nx := fun _ _ => False, rt := fun v L => R v ∧ ∃ (i : Nat) (o : HO), L[i]? = some (a, Ent.ob o, true) ∧ e.Is o }
theorem eo_S {H0 : Hp} {a : Addr} {e : Ent} {R : V → Prop} {Q : VK} (h : ∀ v H', R v → EntAt e H' a → Exc a H0 H' → Q v H') : Eo ⟨H0, fun c => c = a⟩ (kS a e R) { nx := fun _ H' => Q .non H', rt := Q } :=
  ⟨fun _ _ _ k _ => k.elim, fun v L H ⟨r, i, o, k, he⟩ z => h v H r ⟨o, z.get k, Ent.in_of he⟩ fun c o h hn => z.old c o h hn, fun _ _ _ k _ => k.elim, fun _ _ _ k _ => k.elim⟩
theorem At.ne {i j : Nat} {a2 : Addr} {e2 : Ent} {b2 : Bool} (z : At g L H) (h1 : L[i]? = some (a, e, b)) (h2 : L[j]? = some (a2, e2, b2)) (hij : i ≠ j) (m : e.mov = true ∨ e2.mov = true := by first | exact .inl rfl | exact .inr rfl) (o : b = true ∨ b2 = true := by first | exact .inl rfl | exact .inr rfl) : a ≠ a2 := nd_ne z.nd h1 h2 hij m o
/-- a tuple that stands there -/
theorem At.addT {r : List V} (z : At g L H) (h : H a = some (.tup r)) : At g (L ++ [(a, .ob (.tup r), false)]) H := by
  refine ⟨z.old, fun q hq => ?_, fun q hq hb => ?_, nd_app z.nd fun q hq e => ?_⟩
  · rcases List.mem_append.mp hq with hq | hq
    · exact z.led q hq
    · have e : q = (a, Ent.ob (.tup r), false) := by simpa using hq
      subst e
      exact ⟨_, h, rfl⟩
  · rcases List.mem_append.mp hq with hq | hq
    · exact z.own q hq hb
    · have e : q = (a, Ent.ob (.tup r), false) := by simpa using hq
      subst e
      cases hb
  · refine .inl ⟨?_, rfl⟩
    obtain ⟨o, h1, h2⟩ := z.led q hq
    rw [show q.1 = a from e, h] at h1
    have h1 := Option.some.inj h1
    subst h1
    cases hm : q.2.1.mov with
    | false => rfl
    | true => exact absurd rfl ((Ent.mov_ne hm h2).1 r)
/-- an entry weakened -/
theorem At.weak {i : Nat} {e' : Ent} (z : At g L H) (k : L[i]? = some (a, e, b)) (h : ∀ H o, e.In H o → e'.In H o) (hmv : e.mov2 = true := by rfl) : At g (L.set i (a, e', b)) H := by
  refine ⟨z.old, fun q hq => ?_, fun q hq hb => ?_, nd_set z.nd k (Ent.mov2_mov hmv)⟩
  · rcases List.mem_or_eq_of_mem_set hq with r | r
    · exact z.led q r
    · subst r
      obtain ⟨o, h1, h2⟩ := z.look k
      exact ⟨o, h1, h H o h2⟩
  · rcases List.mem_or_eq_of_mem_set hq with r | r
    · exact z.own q r hb
    · subst r
      exact z.own (a, e, b) (List.mem_of_getElem? k) hb
theorem ws_weak {i : Nat} {e' : Ent} (k : L[i]? = some (a, e, b)) (h : ∀ H o, e.In H o → e'.In H o) (c : Ws g (L.set i (a, e', b)) t σ K) (hmv : e.mov2 = true := by rfl) : Ws g L t σ K := fun H z D eo => c H (z.weak k h hmv) D eo
/-- an entry opened -/
theorem ws_src {i n : Nat} (k : L[i]? = some (a, .src n, b)) (c : ∀ x y z : Int, 0 ≤ y → y < 2147483648 → 0 ≤ z → z ≤ (n : Int) → Ws g (L.set i (a, .ob (.lst [.int x, .int y, .int z]), b)) t σ K) : Ws g L t σ K := fun H z D eo => by
  obtain ⟨o, h1, x, y, zz, e, h2, h3, h4, h5⟩ := z.look k
  subst e
  refine c x y zz h2 h3 h4 h5 H ?_ D eo
  refine ⟨z.old, fun q hq => ?_, fun q hq hb => ?_, nd_set z.nd k rfl⟩
  · rcases List.mem_or_eq_of_mem_set hq with r | r
    · exact z.led q r
    · subst r
      exact ⟨_, h1, rfl⟩
  · rcases List.mem_or_eq_of_mem_set hq with r | r
    · exact z.own q r hb
    · subst r
      exact z.own (a, Ent.src n, b) (List.mem_of_getElem? k) hb
/-- a new object -/
def kN (o : HO) : Ks := { nx := fun _ _ => False, rt := fun v L => ∃ (p : Addr) (i : Nat), v = .ref p ∧ L[i]? = some (p, Ent.ob o, true) }
theorem eo_N {H0 : Hp} {o : HO} {Q : VK} (h : ∀ p H', H0 p = none → Same H0 H' → H' p = some o → Q (.ref p) H') : Eo ⟨H0, fun _ => False⟩ (kN o) { nx := fun _ H' => Q .non H', rt := Q } :=
  ⟨fun _ _ _ k _ => k.elim, fun v L H ⟨p, i, e, k⟩ z => by
    subst e
    refine h p H ?_ z.since (z.get k)
    rcases z.own _ (List.mem_of_getElem? k) rfl with q | q
    · exact q
    · exact q.elim, fun _ _ _ k _ => k.elim, fun _ _ _ k _ => k.elim⟩
/-- an int that a slot holds -/
def slotI (σ : St) (i : Nat) : Int := match σ[i]? with
  | some (some (.int n)) => n
  | _ => 0
end
section
variable {g : Gr} {L : Led} {σ : St} {K : Ks} {t1 : TS} {cT : TT} {tg : TG} {tb : TS}
/-- .. where each turn makes c draws from the source in place j -/
theorem src_le {n m : Nat} {H : Hp} {o : HO} (h : n ≤ m) (x : (Ent.src n).In H o) : (Ent.src m).In H o := by
  obtain ⟨x, y, zz, e1, e2, e3, e4, e5⟩ := x
  exact ⟨x, y, zz, e1, e2, e3, e4, by omega⟩
theorem well_le {n m : Nat} {H : Hp} {o : HO} (h : n ≤ m) (x : (Ent.well n).In H o) : (Ent.well m).In H o := by
  obtain ⟨x, y, zz, e1, e2, e3⟩ := x
  exact ⟨x, y, zz, e1, e2, by omega⟩
theorem wf_rngD (E : Nat → Ent) (hE : ∀ {n m : Nat} {H : Hp} {o : HO}, n ≤ m → (E n).In H o → (E m).In H o) {lo : Int} {n : Nat} (j c : Nat) {a : Addr} {n0 : Nat} (I : Nat → List (Option (Option V)) → Prop) (hj : L[j]? = some (a, E n0, true)) (h0 : ∃ vs, σ = putA σ vs ∧ I 0 vs)
    (hs : ∀ (i : Nat) (x : Int) vs, i < n → x = lo + i → I i vs → Wg g (L.set j (a, E (n0 + c * i), true)) tg (.int x) (putA σ vs) fun σ2 L2 => Ws g L2 tb σ2 { K with nx := fun σ' L' => ∃ vs', (σ' = putA σ vs' ∧ I (i + 1) vs') ∧ ∃ k, k ≤ c ∧ L.set j (a, E (n0 + c * i + k), true) <+: L', ct := fun σ' L' => ∃ vs', (σ' = putA σ vs' ∧ I (i + 1) vs') ∧ ∃ k, k ≤ c ∧ L.set j (a, E (n0 + c * i + k), true) <+: L', bk := K.nx })
    (hd : ∀ vs, I n vs → K.nx (putA σ vs) (L.set j (a, E (n0 + c * n), true))) (hEm : ∀ n, (E n).mov2 = true := by intro _; rfl) : WFor g L (Itr lo n) tg tb σ K := by
  have hjl : j < L.length := (List.getElem?_eq_some_iff.mp hj).1
  have hse : L.set j (a, E (n0 + c * 0), true) = L := by
    rw [Nat.mul_zero, Nat.add_zero]
    apply List.ext_getElem?
    intro q
    by_cases e : j = q
    · subst e
      rw [List.getElem?_set_self hjl, hj]
    · rw [List.getElem?_set_ne e]
  intro H z D e
  refine for_range (lo := lo) (n := n) (fun i σ' H' => ∃ vs, (σ' = putA σ vs ∧ I i vs) ∧ At g (L.set j (a, E (n0 + c * i), true)) H') (by obtain ⟨vs, h1, h2⟩ := h0; exact ⟨vs, ⟨h1, h2⟩, hse.symm ▸ z⟩) ?_ ?_
  · rintro i σ' H' hi ⟨vs, ⟨rfl, k⟩, z⟩
    refine hs i _ vs hi rfl k H' z _ fun σ2 L2 H2 k2 z2 => ?_
    have kk : ∀ σ' L'' H', (∃ vs', (σ' = putA σ vs' ∧ I (i + 1) vs') ∧ ∃ k, k ≤ c ∧ L.set j (a, E (n0 + c * i + k), true) <+: L'') → At g L'' H' → ∃ vs, (σ' = putA σ vs ∧ I (i + 1) vs) ∧ At g (L.set j (a, E (n0 + c * (i + 1)), true)) H' := fun σ' L'' H' ⟨vs', h1, kd, hk, h2⟩ z' => by
      refine ⟨vs', h1, ?_⟩
      have z3 := z'.pre h2
      have z4 := z3.weak (i := j) (e' := E (n0 + c * (i + 1))) (List.getElem?_set_self hjl) (fun _ o ho => hE (by have : c * (i + 1) = c * i + c := Nat.mul_succ c i; omega) ho) (hEm _)
      rw [List.set_set] at z4
      exact z4
    exact k2 H2 z2 _ ⟨kk, e.rt, e.nx, kk⟩
  · rintro σ' H' ⟨vs, ⟨rfl, k⟩, z⟩
    exact e.nx _ _ _ (hd vs k) z
end
/-! ### == and != of data -/
section
variable {K : PySem.W.Frag} {g : Gr} {L : Led} {C : V → Led → Prop} {x y : V} {d e : PyData} {a : Addr}
def DpA (K : PySem.W.Frag) (g : Gr) (L : Led) (x : V) (d : PyData) : Prop := ∀ H, At g L H → Dp K H x d
def DpS (K : PySem.W.Frag) (g : Gr) (L : Led) (xs : List V) (ds : List PyData) : Prop := ∀ H, At g L H → DpAll K H xs ds
theorem dp_non : DpA K g L .non .none := fun _ _ => .non
theorem dp_bl {b : Bool} : DpA K g L (.bl b) (.bool b) := fun _ _ => .bl b
theorem dp_int {n : Int} : DpA K g L (.int n) (.int n) := fun _ _ => .int n
theorem dp_str {z : Str} : DpA K g L (.str z) (.str z) := fun _ _ => .str z
theorem dps_nil : DpS K g L [] [] := fun _ _ => .nil
theorem dps_cons {xs : List V} {ds : List PyData} (h : DpA K g L x d) (t : DpS K g L xs ds) : DpS K g L (x :: xs) (d :: ds) := fun H z => .cons (h H z) (t H z)
theorem dp_tup {xs : List V} {ds : List PyData} (s : SeenT K g L a xs) (t : DpS K g L xs ds) : DpA K g L (.ref a) (.tuple ds) := fun H z => .tup (s.at_ H z) (t H z)
theorem dp_lst {xs : List V} {ds : List PyData} (s : Seen K g L a xs) (t : DpS K g L xs ds) : DpA K g L (.ref a) (.list ds) := fun H z => .lst (s.at_ H z) (t H z)
theorem dps_ints {ns : List Int} : DpS K g L (ns.map V.int) (ns.map PyData.int) := by
  induction ns with
  | nil => exact dps_nil
  | cons n r ih => exact dps_cons dp_int ih
theorem dp_ints {ns : List Int} (s : Seen K g L a (ns.map V.int)) : DpA K g L (.ref a) (.list (ns.map PyData.int)) := dp_lst s dps_ints
theorem eqvAll_ints : ∀ ms ns : List Int, PyData.eqvAll (ms.map PyData.int) (ns.map PyData.int) = decide (ms = ns)
  | [], [] => by simp [PyData.eqvAll]
  | [], _ :: _ => by simp [PyData.eqvAll]
  | _ :: _, [] => by simp [PyData.eqvAll]
  | m :: ms, n :: ns => by
    rw [List.map_cons, List.map_cons]
    unfold PyData.eqvAll
    rw [eqvAll_ints ms ns]
    unfold PyData.eqv
    rw [Bool.eq_iff_iff]
    simp
theorem eqv_ints (ms ns : List Int) : PyData.eqv (.list (ms.map PyData.int)) (.list (ns.map PyData.int)) = decide (ms = ns) := by
  unfold PyData.eqv
  exact eqvAll_ints ms ns
theorem wr_eqD (h1 : DpA K g L x d) (h2 : DpA K g L y e) (s1 : SeqAt.shaped d = true) (s2 : SeqAt.shaped e = true) (c : C (.bl (PyData.eqv d e)) L) : Wp g L (rEqD K x y) C := .now (fun H _ z q => ⟨d, e, h1 H z, h2 H z, s1, s2, q⟩) c
theorem wr_neD (h1 : DpA K g L x d) (h2 : DpA K g L y e) (s1 : SeqAt.shaped d = true) (s2 : SeqAt.shaped e = true) (c : C (.bl (!PyData.eqv d e)) L) : Wp g L (rNeD K x y) C := .now (fun H _ z q => ⟨d, e, h1 H z, h2 H z, s1, s2, q⟩) c
theorem wr_eqLI {a2 : Addr} {ms ns : List Int} (s1 : Seen K g L a (ms.map V.int)) (s2 : Seen K g L a2 (ns.map V.int)) (c : C (.bl (decide (ms = ns))) L) : Wp g L (rEqD K (.ref a) (.ref a2)) C :=
  wr_eqD (dp_ints s1) (dp_ints s2) (PySem.W.shaped_ints _) (PySem.W.shaped_ints _) (by rw [eqv_ints]; exact c)
theorem wr_neLI {a2 : Addr} {ms ns : List Int} (s1 : Seen K g L a (ms.map V.int)) (s2 : Seen K g L a2 (ns.map V.int)) (c : C (.bl (!decide (ms = ns))) L) : Wp g L (rNeD K (.ref a) (.ref a2)) C :=
  wr_neD (dp_ints s1) (dp_ints s2) (PySem.W.shaped_ints _) (PySem.W.shaped_ints _) (by rw [eqv_ints]; exact c)
/-- all, any of a list of bools; sorted, max, min, sum of ints -/
theorem wc_all {bs : List Bool} (s : Seen K g L a (bs.map V.bl)) (c : C (.bl (bs.all id)) L) : Wp g L (rAll K [.ref a]) C := .now (fun H _ z q => ⟨a, bs, rfl, s.at_ H z, q⟩) c
theorem wc_any {bs : List Bool} (s : Seen K g L a (bs.map V.bl)) (c : C (.bl (bs.any id)) L) : Wp g L (rAny K [.ref a]) C := .now (fun H _ z q => ⟨a, bs, rfl, s.at_ H z, q⟩) c
theorem wc_sum {ns : List Int} (s : Seen K g L a (ns.map V.int)) (c : C (.int ns.sum) L) : Wp g L (rSum K [.ref a]) C := .now (fun H _ z q => ⟨a, ns, rfl, s.at_ H z, q⟩) c
theorem wc_sorted {ns : List Int} (s : Seen K g L a (ns.map V.int)) (c : ∀ (ns' : List Int) (p : Addr), ns'.Perm ns → ns'.Pairwise (· ≤ ·) → C (.ref p) (L ++ [(p, .ob (.lst (ns'.map V.int)), true)])) : Wp g L (rSortedI K [.ref a]) C :=
  fun H z Q q => ⟨a, ns, rfl, s.at_ H z, fun ns' p h1 h2 hp => q _ _ _ (c ns' p h1 h2) (z.upd_new hp)⟩
theorem wc_maxL {ns : List Int} (s : Seen K g L a (ns.map V.int)) (h0 : 0 < ns.length) (c : ∀ m : Int, m ∈ ns → (∀ k ∈ ns, k ≤ m) → C (.int m) L) : Wp g L (rMax K [.ref a]) C :=
  fun H z Q q => ⟨a, ns, rfl, s.at_ H z, h0, fun m h1 h2 => q _ _ _ (c m h1 h2) z⟩
end
/-! ### comprehensions over ints whose element and test are functions of the item -/
section
variable {g : Gr} {L : Led} {σ : St} {C : V → Led → Prop} {tt : TT} {te : TE} {i : Nat}
def WLc (g : Gr) (L : Led) (J : It) (tg : TG) (tt : TT) (te : TE) (vs : List Nat) (σ : St) (C : V → Led → Prop) : Prop := ∀ H, At g L H → ∀ Q : VK, (∀ v L' H', C v L' → At g L' H' → Q v H') → ∀ D, H D = none → ∃ W : Nat → Nat → Hp → Prop, (∃ m, W 0 m (upd H D (.lst []))) ∧ ∀ i m H, W i m H →
  (J.stop i H ∧ Q (.ref D) H) ∨ (J.go i H ∧ ∃ Nx : Hp → Prop, (∀ H', Nx H' → ∃ m', m' < m ∧ W (i + 1) m' H') ∧ ∀ x H', J.yld i H x H' → tg x (wipe σ vs) H' fun σ2 H2 => wipe σ2 vs = wipe σ vs ∧ tt σ2 H2 fun b H3 =>
    if b = true then te σ2 H3 fun y H4 => ∃ acc, H4 D = some (.lst acc) ∧ acc.length < sizeLine ∧ Nx (upd H4 D (.lst (acc ++ [y]))) else Nx H3)
theorem wp_lc {wi : TI} {tg : TG} {vs : List Nat} (h : Wp g L (wi σ) fun J L1 => WLc g L1 J tg tt te vs σ C) : Wp g L (tLc wi tg tt te vs σ) C := fun H z Q q => h H z _ fun J L1 H1 k z1 => fun D hD => k H1 z1 Q q D hD
theorem wipe1 (σ : St) (i : Nat) (v : Option V) : wipe ((wipe σ [i]).set i v) [i] = wipe σ [i] := by
  show (((σ.set i none).set i v).set i none) = σ.set i none
  rw [List.set_set, List.set_set]
theorem filter_take_succ {α β : Type} (p : α → Bool) (f : α → β) {xs : List α} {k : Nat} {x : α} (h : xs[k]? = some x) : ((xs.take (k + 1)).filter p).map f = ((xs.take k).filter p).map f ++ (if p x = true then [f x] else []) := by
  rw [List.take_add_one, h]
  simp only [Option.toList, List.filter_append, List.map_append]
  congr 1
  rw [List.filter_cons]
  split <;> simp
/-- the ints lo, lo + 1, .. -/
def rngI (lo : Int) (n : Nat) : List Int := (List.range n).map fun (k : Nat) => lo + (k : Int)
theorem rngI_get {lo : Int} {n k : Nat} (h : k < n) : (rngI lo n)[k]? = some (lo + (k : Int)) := by
  unfold rngI
  rw [List.getElem?_map, List.getElem?_range h]
  rfl
theorem mem_rngI {lo x : Int} {n : Nat} : x ∈ rngI lo n ↔ lo ≤ x ∧ x < lo + (n : Int) := by
  unfold rngI
  rw [List.mem_map]
  constructor
  · rintro ⟨k, hk, rfl⟩
    have := List.mem_range.mp hk
    omega
  · rintro ⟨h1, h2⟩
    exact ⟨(x - lo).toNat, List.mem_range.mpr (by omega), by omega⟩
theorem rngI_len {lo : Int} {n : Nat} : (rngI lo n).length = n := by simp [rngI]
/-- one turn -/
abbrev LcTurn (g : Gr) (L : Led) (i : Nat) (tt : TT) (te : TE) (σ : St) (p : Int → Bool) (f : Int → V) (n : Int) : Prop := ∀ (D : Addr) (acc : List V), Wp g (L ++ [(D, .ob (.lst acc), true)]) (tt ((wipe σ [i]).set i (some (.int n)))) fun b L2 => b = p n ∧
  if b = true then Wp g L2 (te ((wipe σ [i]).set i (some (.int n)))) fun y L3 => y = f n ∧ (L ++ [(D, .ob (.lst acc), true)]) <+: L3 else (L ++ [(D, .ob (.lst acc), true)]) <+: L2
theorem lc_turn {p : Int → Bool} {f : Int → V} {n : Int} {D : Addr} {acc acc' : List V} {H : Hp} {Nx : Hp → Prop} (h : LcTurn g L i tt te σ p f n) (z : At g (L ++ [(D, .ob (.lst acc), true)]) H) (hl : acc.length < 100000)
    (e : acc' = acc ++ (if p n = true then [f n] else [])) (hN : ∀ H', At g (L ++ [(D, .ob (.lst acc'), true)]) H' → Nx H') :
    tt ((wipe σ [i]).set i (some (.int n))) H fun b H3 => if b = true then te ((wipe σ [i]).set i (some (.int n))) H3 fun y H4 => ∃ acc, H4 D = some (.lst acc) ∧ acc.length < sizeLine ∧ Nx (upd H4 D (.lst (acc ++ [y]))) else Nx H3 := by
  have hi : ∀ o : HO, (L ++ [(D, Ent.ob o, true)])[L.length]? = some (D, Ent.ob o, true) := fun o => by simp
  refine h D acc H z _ fun b L2 H2 ⟨eb, k⟩ z2 => ?_
  subst eb
  cases hp : p n with
  | true =>
    rw [hp] at k e
    have k : Wp g L2 _ _ := k
    refine k H2 z2 _ fun y L3 H3 ⟨ey, hpre⟩ z3 => ?_
    have z4 := z3.pre hpre
    refine ⟨acc, z4.get (hi _), Nat.lt_of_lt_of_le hl (by decide), hN _ ?_⟩
    have z5 := z4.upd_chg (o := .lst (acc ++ [y])) (hi _)
    rw [List.set_append_right _ _ (Nat.le_refl _), Nat.sub_self] at z5
    subst ey
    rw [e]
    exact z5
  | false =>
    rw [hp] at k e
    have k : _ <+: L2 := k
    have e2 : acc' = acc := by rw [e]; simp
    rw [e2] at hN
    exact hN _ (z2.pre k)
theorem lc_I {Kf : PySem.W.Frag} {a : Addr} {ns : List Int} (p : Int → Bool) (f : Int → V) (s : Seen Kf g L a (ns.map V.int)) (hl : ns.length ≤ 99999) (hs : ∀ n, n ∈ ns → LcTurn g L i tt te σ p f n)
    (c : ∀ D, C (.ref D) (L ++ [(D, .ob (.lst ((ns.filter p).map f)), true)])) : WLc g L (Itl Kf a) (gName i) tt te [i] σ C := fun H z Q q D hD => by
  have sub : ∀ {D o} {H : Hp}, At g (L ++ [(D, Ent.ob o, true)]) H → At g L H := fun z => z.pre ⟨_, rfl⟩
  refine lc_list (K := Kf) (a := a) (xs := ns.map V.int) (fun k H => At g (L ++ [(D, .ob (.lst (((ns.take k).filter p).map f)), true)]) H) (by simpa using z.upd_new hD) (fun k H _ z => s.at_ H (sub z)) (fun k x H hx z => ?_) fun H z => q _ _ _ (c D) ?_
  · rw [List.getElem?_map] at hx
    cases hn : ns[k]? with
    | none => rw [hn] at hx; cases hx
    | some n =>
      rw [hn] at hx
      have hx : V.int n = x := Option.some.inj hx
      subst hx
      refine ⟨wipe1 σ i _, ?_⟩
      refine lc_turn (hs n (List.mem_of_getElem? hn)) z ?_ (filter_take_succ p f hn) fun H' z' => z'
      have := List.length_filter_le p (ns.take k)
      have := List.length_take_le k ns
      rw [List.length_map]
      have h3 : (ns.take k).length ≤ ns.length := by simp; omega
      omega
  · rw [List.length_map, List.take_length] at z
    exact z
theorem lc_R {lo : Int} {n : Nat} (p : Int → Bool) (f : Int → V) (hl : n ≤ 99999) (hs : ∀ x, lo ≤ x → x < lo + (n : Int) → LcTurn g L i tt te σ p f x)
    (c : ∀ D, C (.ref D) (L ++ [(D, .ob (.lst (((rngI lo n).filter p).map f)), true)])) : WLc g L (Itr lo n) (gName i) tt te [i] σ C := fun H z Q q D hD => by
  refine lc_range (lo := lo) (n := n) (fun k H => At g (L ++ [(D, .ob (.lst ((((rngI lo n).take k).filter p).map f)), true)]) H) (by simpa using z.upd_new hD) (fun k H hk z => ?_) fun H z => q _ _ _ (c D) ?_
  · refine ⟨wipe1 σ i _, ?_⟩
    refine lc_turn (hs _ (by omega) (by omega)) z ?_ (filter_take_succ p f (rngI_get hk)) fun H' z' => z'
    have := List.length_filter_le p ((rngI lo n).take k)
    have h3 : ((rngI lo n).take k).length ≤ n := by simp [rngI]; omega
    rw [List.length_map]
    omega
  · rw [List.take_of_length_le (by rw [rngI_len]; exact Nat.le_refl _)] at z
    exact z
theorem lc_If {Kf : PySem.W.Frag} {a : Addr} {ns : List Int} (p : Int → Bool) (s : Seen Kf g L a (ns.map V.int)) (hl : ns.length ≤ 99999) (hs : ∀ n, n ∈ ns → LcTurn g L i tt te σ p V.int n)
    (c : ∀ D, C (.ref D) (L ++ [(D, .ob (.lst ((ns.filter p).map V.int)), true)])) : WLc g L (Itl Kf a) (gName i) tt te [i] σ C := lc_I p V.int s hl hs c
theorem lc_Rf {lo : Int} {n : Nat} (p : Int → Bool) (hl : n ≤ 99999) (hs : ∀ x, lo ≤ x → x < lo + (n : Int) → LcTurn g L i tt te σ p V.int x)
    (c : ∀ D, C (.ref D) (L ++ [(D, .ob (.lst (((rngI lo n).filter p).map V.int)), true)])) : WLc g L (Itr lo n) (gName i) tt te [i] σ C := lc_R p V.int hl hs c
theorem lc_It {α : Type} (T : α → V) {Kf : PySem.W.Frag} {a : Addr} {ns : List Int} (p : Int → Bool) (h : Int → α) (s : Seen Kf g L a (ns.map V.int)) (hl : ns.length ≤ 99999) (hs : ∀ n, n ∈ ns → LcTurn g L i tt te σ p (fun n => T (h n)) n)
    (c : ∀ D, C (.ref D) (L ++ [(D, .ob (.lst (((ns.filter p).map h).map T)), true)])) : WLc g L (Itl Kf a) (gName i) tt te [i] σ C := lc_I p (fun n => T (h n)) s hl hs fun D => by
  have e : (ns.filter p).map (fun n => T (h n)) = ((ns.filter p).map h).map T := by rw [List.map_map]; rfl
  rw [e]
  exact c D
theorem lc_Rt {α : Type} (T : α → V) {lo : Int} {n : Nat} (p : Int → Bool) (h : Int → α) (hl : n ≤ 99999) (hs : ∀ x, lo ≤ x → x < lo + (n : Int) → LcTurn g L i tt te σ p (fun n => T (h n)) x)
    (c : ∀ D, C (.ref D) (L ++ [(D, .ob (.lst ((((rngI lo n).filter p).map h).map T)), true)])) : WLc g L (Itr lo n) (gName i) tt te [i] σ C := lc_R p (fun n => T (h n)) hl hs fun D => by
  have e : ((rngI lo n).filter p).map (fun n => T (h n)) = (((rngI lo n).filter p).map h).map T := by rw [List.map_map]; rfl
  rw [e]
  exact c D
theorem lc_Im {α : Type} (T : α → V) {Kf : PySem.W.Frag} {a : Addr} {ns : List Int} (h : Int → α) (s : Seen Kf g L a (ns.map V.int)) (hl : ns.length ≤ 99999) (hs : ∀ n, n ∈ ns → LcTurn g L i tt te σ (fun _ => true) (fun n => T (h n)) n)
    (c : ∀ D, C (.ref D) (L ++ [(D, .ob (.lst ((ns.map h).map T)), true)])) : WLc g L (Itl Kf a) (gName i) tt te [i] σ C := lc_It T (fun _ => true) h s hl hs fun D => by
  rw [List.filter_eq_self.mpr (fun _ _ => rfl)]
  exact c D
theorem lc_Rm {α : Type} (T : α → V) {lo : Int} {n : Nat} (h : Int → α) (hl : n ≤ 99999) (hs : ∀ x, lo ≤ x → x < lo + (n : Int) → LcTurn g L i tt te σ (fun _ => true) (fun n => T (h n)) x)
    (c : ∀ D, C (.ref D) (L ++ [(D, .ob (.lst (((rngI lo n).map h).map T)), true)])) : WLc g L (Itr lo n) (gName i) tt te [i] σ C := lc_Rt T (fun _ => true) h hl hs fun D => by
  rw [List.filter_eq_self.mpr (fun _ _ => rfl)]
  exact c D
theorem ws_setLc {y : Nat} {wi : TI} {tg : TG} {vs : List Nat} {K : Ks} (h : Wp g L (wi σ) fun J L1 => WLc g L1 J tg tt te vs σ fun v L2 => K.nx (σ.set y (some v)) L2) : Ws g L (tAsg (tLc wi tg tt te vs) (gName y)) σ K := ws_set (wp_lc h)
end
/-! ### defs that draw from a source -/
section
variable {g : Gr} {L : Led} {H H' : Hp} {a p : Addr} {e : Ent} {o : HO} {b : Bool} {i : Nat}
theorem At.draw_new {e' : Ent} (z : At g L H) (k : L[i]? = some (a, e, true)) (s : Exc a H H') (h : EntAt e' H' a) (n : H p = none) (hp : H' p = some o) (hmv : e.mov2 = true := by rfl) : At g (L.set i (a, e', true) ++ [(p, .ob o, true)]) H' := by
  have z2 := z.draw k s h hmv
  refine ⟨z2.old, fun q hq => ?_, fun q hq => ?_, ?_⟩
  · rcases List.mem_append.mp hq with hq | hq
    · exact z2.led q hq
    · have e : q = (p, Ent.ob o, true) := by simpa using hq
      subst e
      exact ⟨o, hp, rfl⟩
  · rcases List.mem_append.mp hq with hq | hq
    · exact z2.own q hq
    · have e : q = (p, Ent.ob o, true) := by simpa using hq
      subst e
      intro _
      by_cases hmu : g.mu p
      · exact .inr hmu
      · refine .inl ?_
        cases q2 : g.H0 p with
        | none => rfl
        | some u =>
          rw [z.old p u q2 hmu] at n
          cases n
  · refine nd_app z2.nd fun q hq e3 => ?_
    rcases List.mem_or_eq_of_mem_set hq with r | r
    · obtain ⟨u, h1, _⟩ := z.led q r
      rw [e3, n] at h1
      cases h1
    · subst r
      obtain ⟨u, h1, _⟩ := z.look k
      rw [show a = p from e3, n] at h1
      cases h1
theorem src_mono {m k c : Nat} (h : k ≤ c) {H : Hp} {a : Addr} (x : EntAt (.src (m + k)) H a) : EntAt (.src (m + c)) H a := by
  obtain ⟨o, h1, x, y, z, e1, e2, e3, e4, e5⟩ := x
  exact ⟨o, h1, x, y, z, e1, e2, e3, e4, by omega⟩
theorem well_mono {m k c : Nat} (h : k ≤ c) {H : Hp} {a : Addr} (x : EntAt (.well (m + k)) H a) : EntAt (.well (m + c)) H a := by
  obtain ⟨o, h1, x, y, z, e1, e2, e3⟩ := x
  exact ⟨o, h1, x, y, z, e1, e2, by omega⟩
/-- a value, at most c draws -/
def kD (E : Nat → Ent) (a : Addr) (m c : Nat) (R : V → Prop) : Ks := { nx := fun _ _ => False, rt := fun v L => R v ∧ ∃ k, k ≤ c ∧ L[0]? = some (a, E (m + k), true) }
theorem eo_D {E : Nat → Ent} {H0 : Hp} {a : Addr} {m c : Nat} {R : V → Prop} {Q : VK} (mono : ∀ {k : Nat} {H : Hp}, k ≤ c → EntAt (E (m + k)) H a → EntAt (E (m + c)) H a) (h : ∀ v H', R v → EntAt (E (m + c)) H' a → Exc a H0 H' → Q v H') : Eo ⟨H0, fun c => c = a⟩ (kD E a m c R) { nx := fun _ H' => Q .non H', rt := Q } :=
  ⟨fun _ _ _ k _ => k.elim, fun v L H ⟨r, k, hk, e⟩ z => h v H r (mono hk (z.look e)) fun c o h hn => z.old c o h hn, fun _ _ _ k _ => k.elim, fun _ _ _ k _ => k.elim⟩
/-- a new object, at most c draws -/
def kDN (E : Nat → Ent) (a : Addr) (m c : Nat) (R : HO → Prop) : Ks := { nx := fun _ _ => False, rt := fun v L => ∃ (p : Addr) (i : Nat) (o : HO), v = .ref p ∧ L[i + 1]? = some (p, Ent.ob o, true) ∧ R o ∧ ∃ k, k ≤ c ∧ L[0]? = some (a, E (m + k), true) }
theorem eo_DN {E : Nat → Ent} {H0 : Hp} {a : Addr} {m c : Nat} {R : HO → Prop} {Q : VK} (mono : ∀ {k : Nat} {H : Hp}, k ≤ c → EntAt (E (m + k)) H a → EntAt (E (m + c)) H a) (h : ∀ p H' o, R o → H0 p = none → H' p = some o → EntAt (E (m + c)) H' a → Exc a H0 H' → Q (.ref p) H') (hEm : ∀ n, (E n).mov2 = true := by intro _; rfl) : Eo ⟨H0, fun c => c = a⟩ (kDN E a m c R) { nx := fun _ H' => Q .non H', rt := Q } :=
  ⟨fun _ _ _ k _ => k.elim, fun v L H ⟨p, i, o, ev, hp, r, k, hk, e⟩ z => by
    subst ev
    have hn : H0 p = none := by
      rcases z.own _ (List.mem_of_getElem? hp) rfl with q | q
      · exact q
      · exact absurd q (z.ne hp e (by omega) (.inr (Ent.mov2_mov (hEm _))))
    exact h p H o r hn (z.get hp) (mono hk (z.look e)) fun c o h hn => z.old c o h hn, fun _ _ _ k _ => k.elim, fun _ _ _ k _ => k.elim⟩
end
section
variable {K : PySem.W.Frag} {g : Gr} {L : Led} {C : V → Led → Prop} {σ : St} {ta : TE}
theorem wp_lenSet (h : Wp g L (ta σ) fun x L1 => ∃ (a : Addr) (ns : List Int), x = .ref a ∧ Seen K g L1 a (ns.map V.int) ∧ ns.Nodup ∧ ns.length ≤ 4000 ∧ C (.int (ns.length : Nat)) L1) : Wp g L (RZ.tLenSetI K ta σ) C :=
  fun H z Q q => h H z _ fun x L1 H1 ⟨a, ns, e, s, nd, hl, c⟩ z1 => ⟨a, ns, e, s.at_ H1 z1, nd, hl, q _ _ _ c z1⟩
end
/-! ### three comparisons in a chain -/
section
open PySem.Spec PyProof.Rows
variable {X : Cx} {a b c d : Expr} {pos : Pos} {ta tb tc td : TE}
def tChain3 (r r' r'' : R2) (ta tb tc td : TE) : TE := fun σ H Q => ta σ H fun x H1 => tb σ H1 fun y H2 => r x y H2 fun z H3 => ∃ k, z = .bl k ∧
  (if k = true then tc σ H3 fun w H4 => r' y w H4 fun z2 H5 => ∃ k2, z2 = .bl k2 ∧ (if k2 = true then td σ H5 fun u H6 => r'' w u H6 Q else Q (.bl false) H5) else Q (.bl false) H3)
theorem pe_chain3 {op op' op'' : CmpOp} {r r' r'' : R2} (ho : OpR X (compareOp op) r) (ho' : OpR X (compareOp op') r') (ho'' : OpR X (compareOp op'') r'') (ha : PE X a ta) (hb : PE X b tb) (hc : PE X c tc) (hd : PE X d td)
    (hm : lastMarks [op, op', op''] [b, c, d] = false := by with_unfolding_all rfl) : PE X (.Compare a [op, op', op''] [b, c, d] pos) (tChain3 r r' r'' ta tb tc td) := by
  refine ⟨fun pins s σ H Q I h => ?_⟩
  refine Compare_chain (thn (ha.run pins s σ H _ I h) fun v s1 ⟨x, H1, I1, r1, q1⟩ => chain_link (thn (hb.run pins s1 σ H1 _ I1 q1) fun u s2 ⟨y, H2, I2, r2, q2⟩ =>
    thn (ho pins s2 σ H2 x y v u _ I2 r1 r2 q2) fun d s3 ⟨z, H3, I3, r3, k, e, q3⟩ => ?_)) hm
  subst e
  cases r3
  refine wpAny_truthy_bool ?_
  cases k with
  | false => exact ite_ff ⟨.bl false, H3, I3, rfl, q3⟩
  | true =>
    refine ite_tt (chain_link (thn (hc.run pins s3 σ H3 _ I3 q3) fun w' s4 ⟨z', H4, I4, r4, q4⟩ => thn (ho' pins s4 σ H4 y z' u w' _ I4 r2 r4 q4) fun d2 s5 ⟨z2, H5, I5, r5, k2, e2, q5⟩ => ?_))
    subst e2
    cases r5
    refine wpAny_truthy_bool ?_
    cases k2 with
    | false => exact ite_ff ⟨.bl false, H5, I5, rfl, q5⟩
    | true => exact ite_tt (chain_last (thn (hd.run pins s5 σ H5 _ I5 q5) fun w2 s6 ⟨z3, H6, I6, r6, q6⟩ => ho'' pins s6 σ H6 z' z3 w' w2 Q I6 r4 r6 q6))
theorem wp_chain3P {g : Gr} {L : Led} {σ : L2.St} {C : V → Led → Prop} {r r' r'' : R2} (h : Wp g L (ta σ) fun x L1 => Wp g L1 (tb σ) fun y L2 => Wp g L2 (r x y) fun z L3 => ∃ b, z = .bl b ∧ ∃ b2, (b = true → Wp g L3 (tc σ) fun w L4 => Wp g L4 (r' y w) fun c L5 => ∃ k, c = .bl k ∧ ∃ k2, (k = true → Wp g L5 (td σ) fun u L6 => Wp g L6 (r'' w u) fun d L7 => d = .bl k2 ∧ L7 = L3) ∧ (L5 = L3 ∧ b2 = (k && k2))) ∧ C (.bl (b && b2)) L3) : Wp g L (tChain3 r r' r'' ta tb tc td σ) C :=
  fun H a Q q => h H a _ fun x L1 H1 h1 a1 => h1 H1 a1 _ fun y L2 H2 h2 a2 => h2 H2 a2 _ fun z L3 H3 ⟨b, e, b2, k, c⟩ a3 => ⟨b, e, by
    cases b with
    | false => exact q _ L3 H3 c a3
    | true =>
      refine k rfl H3 a3 _ fun w L4 H4 h4 a4 => h4 H4 a4 _ fun z2 L5 H5 ⟨k1, e1, k2, f, hL, hb⟩ a5 => ⟨k1, e1, ?_⟩
      subst hL hb
      cases k1 with
      | false => exact q _ _ H5 c a5
      | true => exact f rfl H5 a5 _ fun u L6 H6 h6 a6 => h6 H6 a6 _ fun d L7 H7 ⟨e7, l7⟩ a7 => q _ _ H7 (by rw [e7, l7]; exact c) a7⟩
end
/-! ### comprehensions over a range whose element draws -/
section
variable {g : Gr} {L : Led} {σ : St} {C : V → Led → Prop} {tt : TT} {te : TE} {i : Nat}
theorem set_self {j : Nat} {x : Addr × Ent × Bool} (hj : L[j]? = some x) : L.set j x = L := by
  apply List.ext_getElem?
  intro q
  by_cases e : j = q
  · subst e
    rw [List.getElem?_set_self (List.getElem?_eq_some_iff.mp hj).1, hj]
  · rw [List.getElem?_set_ne e]
theorem lc_RD (E : Nat → Ent) (hE : ∀ {n m : Nat} {H : Hp} {o : HO}, n ≤ m → (E n).In H o → (E m).In H o) {lo : Int} {n : Nat} (j c : Nat) {a : Addr} {n0 : Nat} (P : Int → Prop) (hj : L[j]? = some (a, E n0, true)) (hl : n ≤ 99999)
    (hs : ∀ (k : Nat) (x : Int), k < n → x = lo + (k : Int) → ∀ (D : Addr) (acc : List V), Wp g (L.set j (a, E (n0 + c * k), true) ++ [(D, .ob (.lst acc), true)]) (tt ((wipe σ [i]).set i (some (.int x)))) fun b L2 => b = true ∧
      Wp g L2 (te ((wipe σ [i]).set i (some (.int x)))) fun y L3 => (∃ v : Int, y = .int v ∧ P v) ∧ ∃ d, d ≤ c ∧ (L.set j (a, E (n0 + c * k + d), true) ++ [(D, .ob (.lst acc), true)]) <+: L3)
    (cc : ∀ (D : Addr) (ys : List Int), ys.length = n → (∀ y ∈ ys, P y) → C (.ref D) (L.set j (a, E (n0 + c * n), true) ++ [(D, .ob (.lst (ys.map V.int)), true)])) (hEm : ∀ n, (E n).mov2 = true := by intro _; rfl) : WLc g L (Itr lo n) (gName i) tt te [i] σ C := fun H z Q q D hD => by
  have hjl : j < L.length := (List.getElem?_eq_some_iff.mp hj).1
  have hi : ∀ (e : Addr × Ent × Bool) (o : HO), (L.set j e ++ [(D, Ent.ob o, true)])[L.length]? = some (D, Ent.ob o, true) := fun e o => by
    rw [List.getElem?_append_right (by rw [List.length_set]; exact Nat.le_refl _), List.length_set, Nat.sub_self]
    rfl
  refine lc_range (lo := lo) (n := n) (fun k H => ∃ ys : List Int, ys.length = k ∧ (∀ y ∈ ys, P y) ∧ At g (L.set j (a, E (n0 + c * k), true) ++ [(D, .ob (.lst (ys.map V.int)), true)]) H) ⟨[], rfl, fun y h => (by cases h), ?_⟩ (fun k H hk ⟨ys, h1, h2, z⟩ => ?_) fun H ⟨ys, h1, h2, z⟩ => q _ _ _ (cc D ys h1 h2) z
  · rw [Nat.mul_zero, Nat.add_zero, set_self hj]
    exact z.upd_new hD
  · refine ⟨wipe1 σ i _, ?_⟩
    refine hs k _ hk rfl D _ H z _ fun b L2 H2 ⟨eb, kk⟩ z2 => ?_
    subst eb
    show te _ _ _
    refine kk H2 z2 _ fun y L3 H3 ⟨⟨v, ey, hv⟩, d, hd, hpre⟩ z3 => ?_
    subst ey
    have z4 := z3.pre hpre
    refine ⟨ys.map V.int, z4.get (hi _ _), by rw [List.length_map, h1]; exact Nat.lt_of_lt_of_le (Nat.lt_of_lt_of_le hk hl) (by decide), ys ++ [v], by simp [h1], fun y hy => ?_, ?_⟩
    · rcases List.mem_append.mp hy with h | h
      · exact h2 y h
      · have : y = v := by simpa using h
        exact this ▸ hv
    · have z5 := z4.upd_chg (o := .lst (ys.map V.int ++ [.int v])) (hi _ _)
      have e1 : (L.set j (a, E (n0 + c * k + d), true) ++ [(D, Ent.ob (.lst (ys.map V.int)), true)]).set L.length (D, Ent.ob (.lst (ys.map V.int ++ [.int v])), true) = L.set j (a, E (n0 + c * k + d), true) ++ [(D, Ent.ob (.lst (ys.map V.int ++ [.int v])), true)] := by
        rw [List.set_append_right _ _ (by rw [List.length_set]; exact Nat.le_refl _), List.length_set, Nat.sub_self]
        rfl
      rw [e1] at z5
      have hj2 : (L.set j (a, E (n0 + c * k + d), true) ++ [(D, Ent.ob (.lst (ys.map V.int ++ [.int v])), true)])[j]? = some (a, E (n0 + c * k + d), true) := by
        rw [List.getElem?_append_left (by rw [List.length_set]; exact hjl), List.getElem?_set_self hjl]
      have z6 := z5.weak (i := j) (e' := E (n0 + c * (k + 1))) hj2 (fun _ o ho => hE (by have : c * (k + 1) = c * k + c := Nat.mul_succ c k; omega) ho) (hEm _)
      rw [List.set_append_left _ _ (by rw [List.length_set]; exact hjl), List.set_set] at z6
      rw [List.map_append]
      exact z6
end
section
variable {g : Gr} {L : Led} {σ : St} {C C' : V → Led → Prop} {tt : TT} {te : TE} {i : Nat}
theorem wlc_mono {J : It} {tg : TG} {vs : List Nat} (h : WLc g L J tg tt te vs σ C') (k : ∀ v L', C' v L' → ∃ L'', C v L'' ∧ ∀ H, At g L' H → At g L'' H) : WLc g L J tg tt te vs σ C :=
  fun H z Q q => h H z Q fun v L' H' c z' => let ⟨L'', c', w⟩ := k v L' c; q v L'' H' c' (w H' z')
theorem lc_RDN (E : Nat → Ent) (hE : ∀ {n m : Nat} {H : Hp} {o : HO}, n ≤ m → (E n).In H o → (E m).In H o) {lo : Int} {n : Nat} (j c N : Nat) {a : Addr} {n0 : Nat} (P : Int → Prop) (hj : L[j]? = some (a, E n0, true)) (hN : n ≤ N) (hl : N ≤ 99999)
    (hs : ∀ (k : Nat) (x : Int), k < n → x = lo + (k : Int) → ∀ (D : Addr) (acc : List V), Wp g (L.set j (a, E (n0 + c * k), true) ++ [(D, .ob (.lst acc), true)]) (tt ((wipe σ [i]).set i (some (.int x)))) fun b L2 => b = true ∧
      Wp g L2 (te ((wipe σ [i]).set i (some (.int x)))) fun y L3 => (∃ v : Int, y = .int v ∧ P v) ∧ ∃ d, d ≤ c ∧ (L.set j (a, E (n0 + c * k + d), true) ++ [(D, .ob (.lst acc), true)]) <+: L3)
    (cc : ∀ (D : Addr) (ys : List Int), ys.length ≤ N → (∀ y ∈ ys, P y) → C (.ref D) (L.set j (a, E (n0 + c * N), true) ++ [(D, .ob (.lst (ys.map V.int)), true)])) (hEm : ∀ n, (E n).mov2 = true := by intro _; rfl) : WLc g L (Itr lo n) (gName i) tt te [i] σ C := by
  have hjl : j < L.length := (List.getElem?_eq_some_iff.mp hj).1
  refine wlc_mono (C' := fun v L' => ∃ D ys, v = .ref D ∧ ys.length = n ∧ (∀ y ∈ ys, P y) ∧ L' = L.set j (a, E (n0 + c * n), true) ++ [(D, .ob (.lst (ys.map V.int)), true)]) (lc_RD E hE j c P hj (by omega) hs (fun D ys h1 h2 => ⟨D, ys, rfl, h1, h2, rfl⟩) hEm) ?_
  rintro v L' ⟨D, ys, rfl, h1, h2, rfl⟩
  refine ⟨_, cc D ys (by omega) h2, fun H z => ?_⟩
  have hj2 : (L.set j (a, E (n0 + c * n), true) ++ [(D, Ent.ob (.lst (ys.map V.int)), true)])[j]? = some (a, E (n0 + c * n), true) := by
    rw [List.getElem?_append_left (by rw [List.length_set]; exact hjl), List.getElem?_set_self hjl]
  have z6 := z.weak (i := j) (e' := E (n0 + c * N)) hj2 (fun _ o ho => hE (by have := Nat.mul_le_mul_left c hN; omega) ho) (hEm _)
  rw [List.set_append_left _ _ (by rw [List.length_set]; exact hjl), List.set_set] at z6
  exact z6
end
/-! ### x or y by truth; a list times an int -/
section
variable {K : PySem.W.Frag} {g : Gr} {L : Led} {σ : St} {C : V → Led → Prop} {ta tb : TE}
theorem wp_orTN (h : Wp g L (ta σ) fun x L1 => x = .non ∧ Wp g L1 (tb σ) C) : Wp g L (tOrT K ta tb σ) C :=
  fun H a Q q => h H a _ fun x L1 H1 ⟨e, k⟩ a1 => ⟨false, by subst e; exact rfl, k H1 a1 Q q⟩
theorem wp_orT0 (h : Wp g L (ta σ) fun x L1 => ∃ n : Int, x = .int n ∧ C (.int n) L1) : Wp g L (tOrT K ta (tC (.int 0)) σ) C :=
  fun H a Q q => h H a _ fun x L1 H1 ⟨n, e, c⟩ a1 => ⟨n != 0, by subst e; exact rfl, by
    subst e
    by_cases hn : n = 0
    · subst hn
      exact q _ _ _ c a1
    · rw [if_pos (by simpa using hn)]
      exact q _ _ _ c a1⟩
theorem wr_rep {l : Addr} {k : Int} {xs : List V} {bo : Bool} (i : Nat) (h : L[i]? = some (l, .ob (.lst xs), bo)) (h1 : 0 ≤ k ∧ k < 2 ^ 63) (h2 : xs.length * k.toNat ≤ 100000)
    (c : ∀ p, C (.ref p) (L ++ [(p, .ob (.lst (List.replicate k.toNat xs).flatten), true)])) : Wp g L (rRep (.ref l) (.int k)) C :=
  fun H z Q q => ⟨l, k, xs, rfl, rfl, z.get h, by omega, h1.2, Nat.le_trans h2 (by decide), fun p hp => q _ _ _ (c p) (z.upd_new hp)⟩
end
end Kr

set_option Elab.async false
set_option linter.all false
set_option maxRecDepth 100000
set_option maxHeartbeats 1000000
namespace Kr
open PySem L2
theorem ix_tupK {X : Cx} {Kf : PySem.W.Frag} (hK : X.K = Kf) : IxR X (rIxT Kf) := hK ▸ ix_tup
theorem ix_listK {X : Cx} {Kf : PySem.W.Frag} (hK : X.K = Kf) : IxR X (rIxL Kf) := hK ▸ ix_list
theorem c_lenK {X : Cx} {Kf : PySem.W.Frag} (hK : X.K = Kf) : CallR X (.builtin "len") (rLen Kf) := hK ▸ c_len
theorem pg_tupK {X : Cx} {Kf : PySem.W.Frag} {es : List Expr} {k : Nat} {pos : Pos} {t : TGs} {n : Nat} (hK : X.K = Kf) (hc : X.calm = true) (h : PGs X es t) (hn : (assignEach es X.env).length = n) (hst : (assignEach es X.env).findIdx? (·.1) = none := by rfl) : PG X (.Tuple es k pos) (gTup Kf n t) := hK ▸ pg_tup hc h hn hst
/-! ### what an iterator hands on, item by item -/
structure Iter {α : Type} (g : Gr) (L : Led) (J : It) (tg : TG) (xs : List α) (S : α → St → St) : Prop where
  at_ : ∀ H, At g L H → J.stop xs.length H ∧ ∀ i x, xs[i]? = some x → J.go i H ∧ ∀ v H', J.yld i H v H' → Same H H' ∧ ∀ σ (Q : St → Hp → Prop), Q (S x σ) H' → tg v σ H' Q
/-- several names at once -/
def setL : List Nat → List V → St → St
  | i :: is, v :: vs, σ => setL is vs (σ.set i (some v))
  | _, _, σ => σ
def gNames : List Nat → TGs
  | [] => gNil
  | i :: is => gCons (gName i) (gNames is)
theorem gNames_ok : ∀ (is : List Nat) (vs : List V) {σ : St} {H : Hp} {Q : St → Hp → Prop}, is.length = vs.length → Q (setL is vs σ) H → gNames is vs σ H Q
  | [], [], _, _, _, _, q => ⟨rfl, q⟩
  | [], _ :: _, _, _, _, h, _ => by cases h
  | _ :: _, [], _, _, _, h, _ => by cases h
  | i :: is, v :: vs, σ, H, Q, h, q => ⟨v, vs, rfl, gNames_ok is vs (by simpa using h) q⟩
section
variable {α : Type} {g : Gr} {L : Led} {a : Addr} {i : Nat} {Kf : PySem.W.Frag} {bo : Bool}
theorem same_refl {H : Hp} : Same H H := fun _ _ h => h
theorem iter_rng {lo : Int} {n : Nat} : Iter g L (Itr lo n) (gName i) (rngI lo n) (fun x σ => σ.set i (some (.int x))) := ⟨fun H z => by
  refine ⟨show n ≤ (rngI lo n).length by rw [rngI_len]; exact Nat.le_refl _, fun k x hx => ?_⟩
  have hk : k < n := by
    have := (List.getElem?_eq_some_iff.mp hx).1
    rw [rngI_len] at this
    exact this
  rw [rngI_get hk] at hx
  have hx := Option.some.inj hx
  subst hx
  refine ⟨hk, fun v H' hy => ?_⟩
  obtain ⟨e1, e2⟩ := hy
  subst e1 e2
  exact ⟨same_refl, fun σ Q q => q⟩⟩
theorem iter_list (T : α → V) {xs : List α} (s : Seen Kf g L a (xs.map T)) : Iter g L (Itl Kf a) (gName i) xs (fun x σ => σ.set i (some (T x))) := ⟨fun H z => by
  have hs := s.at_ H z
  refine ⟨⟨_, hs, by rw [List.length_map]; exact Nat.le_refl _⟩, fun k x hx => ?_⟩
  have hx2 : (xs.map T)[k]? = some (T x) := by rw [List.getElem?_map, hx]; rfl
  refine ⟨⟨_, _, hs, hx2⟩, fun v H' hy => ?_⟩
  obtain ⟨e1, e2⟩ := hy
  subst e1
  have e3 := e2 _ hs
  rw [hx2] at e3
  have e3 := Option.some.inj e3
  subst e3
  exact ⟨same_refl, fun σ Q q => q⟩⟩
theorem iter_rev (T : α → V) {xs : List α} {n : Nat} (hn : n = xs.length) (s : Seen Kf g L a (xs.map T)) : Iter g L (Itv Kf a n) (gName i) xs.reverse (fun x σ => σ.set i (some (T x))) := ⟨fun H z => by
  have hs := s.at_ H z
  refine ⟨show n ≤ _ by rw [List.length_reverse, hn]; exact Nat.le_refl _, fun k x hx => ?_⟩
  have hk : k < n := by
    have := (List.getElem?_eq_some_iff.mp hx).1
    rw [List.length_reverse] at this
    omega
  have hx2 : (xs.map T)[n - 1 - k]? = some (T x) := by
    rw [List.getElem?_reverse (by omega)] at hx
    rw [List.getElem?_map, hn, hx]
    rfl
  refine ⟨⟨hk, _, _, hs, hx2⟩, fun v H' hy => ?_⟩
  obtain ⟨e1, e2⟩ := hy
  subst e1
  have e3 := e2 _ hs
  rw [hx2] at e3
  have e3 := Option.some.inj e3
  subst e3
  exact ⟨same_refl, fun σ Q q => q⟩⟩
/-- a list of tuples -/
theorem iter_rows (is : List Nat) (row : α → List V) {xs : List α} {n : Nat} (j : Nat) (hj : L[j]? = some (a, .rows (xs.map row), bo)) (hn : ∀ x, (row x).length = n) (hi : is.length = n) :
    Iter g L (Itl Kf a) (gTup Kf n (gNames is)) xs (fun x σ => setL is (row x) σ) := ⟨fun H z => by
  obtain ⟨o, h1, as, e1, hl, hr⟩ := z.look hj
  subst e1
  rw [List.length_map] at hl
  have hs : SqL Kf H a (as.map V.ref) := SqL.of h1
  refine ⟨⟨_, hs, by rw [List.length_map, hl]; exact Nat.le_refl _⟩, fun k x hx => ?_⟩
  have hk : k < as.length := by
    have := (List.getElem?_eq_some_iff.mp hx).1
    omega
  have hx2 : (as.map V.ref)[k]? = some (.ref as[k]) := by rw [List.getElem?_map, List.getElem?_eq_getElem hk]; rfl
  have hx3 := hr k as[k] (row x) (List.getElem?_eq_getElem hk) (by rw [List.getElem?_map, hx]; rfl)
  refine ⟨⟨_, _, hs, hx2⟩, fun v H' hy => ?_⟩
  obtain ⟨e1, e2⟩ := hy
  subst e1
  have e3 := e2 _ hs
  rw [hx2] at e3
  have e3 := Option.some.inj e3
  subst e3
  exact ⟨same_refl, fun σ Q q => ⟨_, _, rfl, SqT.of hx3, hn x, gNames_ok is (row x) (by rw [hi, hn]) q⟩⟩⟩
theorem iter_revrows (is : List Nat) (row : α → List V) {xs : List α} {n m : Nat} (hm : m = xs.length) (j : Nat) (hj : L[j]? = some (a, .rows (xs.map row), bo)) (hn : ∀ x, (row x).length = n) (hi : is.length = n) :
    Iter g L (Itv Kf a m) (gTup Kf n (gNames is)) xs.reverse (fun x σ => setL is (row x) σ) := ⟨fun H z => by
  obtain ⟨o, h1, as, e1, hl, hr⟩ := z.look hj
  subst e1
  rw [List.length_map] at hl
  have hs : SqL Kf H a (as.map V.ref) := SqL.of h1
  refine ⟨show m ≤ _ by rw [List.length_reverse, hm]; exact Nat.le_refl _, fun k x hx => ?_⟩
  have hk0 : k < m := by
    have := (List.getElem?_eq_some_iff.mp hx).1
    rw [List.length_reverse] at this
    omega
  rw [List.getElem?_reverse (by omega), ← hm] at hx
  have hk : m - 1 - k < as.length := by omega
  have hx2 : (as.map V.ref)[m - 1 - k]? = some (.ref as[m - 1 - k]) := by rw [List.getElem?_map, List.getElem?_eq_getElem hk]; rfl
  have hx3 := hr (m - 1 - k) as[m - 1 - k] (row x) (List.getElem?_eq_getElem hk) (by rw [List.getElem?_map, hx]; rfl)
  refine ⟨⟨hk0, _, _, hs, hx2⟩, fun v H' hy => ?_⟩
  obtain ⟨e1, e2⟩ := hy
  subst e1
  have e3 := e2 _ hs
  rw [hx2] at e3
  have e3 := Option.some.inj e3
  subst e3
  exact ⟨same_refl, fun σ Q q => ⟨_, _, rfl, SqT.of hx3, hn x, gNames_ok is (row x) (by rw [hi, hn]) q⟩⟩⟩
/-- enumerate(list) -/
theorem iter_enum (i1 i2 : Nat) (T : α → V) {xs : List α} (s : Seen Kf g L a (xs.map T)) : Iter g L (Ite Kf a) (gTup Kf 2 (gNames [i1, i2])) xs.zipIdx (fun x σ => (σ.set i1 (some (.int (x.2 : Nat)))).set i2 (some (T x.1))) := ⟨fun H z => by
  have hs := s.at_ H z
  refine ⟨⟨_, hs, by rw [List.length_map, List.length_zipIdx]; exact Nat.le_refl _⟩, fun k x hx => ?_⟩
  rw [List.getElem?_zipIdx] at hx
  cases hq : xs[k]? with
  | none => rw [hq] at hx; cases hx
  | some y =>
    rw [hq] at hx
    have hx : (y, 0 + k) = x := Option.some.inj hx
    subst hx
    have hx2 : (xs.map T)[k]? = some (T y) := by rw [List.getElem?_map, hq]; rfl
    refine ⟨⟨_, _, hs, hx2⟩, fun v H' hy => ?_⟩
    obtain ⟨t, w, e1, e2, e3, e4⟩ := hy
    have e5 := e4 _ hs
    rw [hx2] at e5
    have e5 := Option.some.inj e5
    subst e5 e1 e3
    refine ⟨fun c u h => by rw [upd_ne (ne_of_none h e2)]; exact h, fun σ Q q => ⟨t, _, rfl, SqT.of upd_same, rfl, ?_⟩⟩
    refine gNames_ok [i1, i2] [.int (k : Nat), T y] rfl ?_
    have e6 : (0 + k : Nat) = k := Nat.zero_add k
    have q : Q ((σ.set i1 (some (.int ((0 + k : Nat) : Int)))).set i2 (some (T y))) _ := q
    rw [e6] at q
    exact q⟩
end
/-! ### loops -/
section
variable {α : Type} {g : Gr} {L : Led} {σ : St} {K : Ks} {tg : TG} {tb : TS} {J : It} {xs : List α} {S : α → St → St}
/-- a general word -/
theorem wf_G (I : Nat → St → Led → Prop) (it : ∀ i σ L, I i σ L → Iter g L J tg xs S) (h0 : I 0 σ L)
    (hs : ∀ i x σ L, xs[i]? = some x → I i σ L → Ws g L tb (S x σ) { K with nx := fun σ' L' => ∃ L3, I (i + 1) σ' L3 ∧ L3 <+: L', ct := fun σ' L' => ∃ L3, I (i + 1) σ' L3 ∧ L3 <+: L', bk := K.nx })
    (hd : ∀ σ L, I xs.length σ L → K.nx σ L) : WFor g L J tg tb σ K := fun H z D e => by
  refine ⟨fun i m σ H => i ≤ xs.length ∧ m = xs.length - i ∧ ∃ L, I i σ L ∧ At g L H, ⟨xs.length, Nat.zero_le _, rfl, L, h0, z⟩, ?_⟩
  rintro i m σ H ⟨hi, rfl, L, k, z⟩
  obtain ⟨h1, h2⟩ := (it i σ L k).at_ H z
  by_cases hlt : i < xs.length
  · obtain ⟨h3, h4⟩ := h2 i xs[i] (List.getElem?_eq_getElem hlt)
    refine .inr ⟨h3, fun σ' H' => ∃ L, I (i + 1) σ' L ∧ At g L H', fun σ' H' q => ⟨xs.length - (i + 1), by omega, hlt, rfl, q⟩, fun v H' y => ?_⟩
    obtain ⟨h5, h6⟩ := h4 v H' y
    refine h6 σ _ ?_
    have kk : ∀ σ' L' H', (∃ L3, I (i + 1) σ' L3 ∧ L3 <+: L') → At g L' H' → ∃ L, I (i + 1) σ' L ∧ At g L H' := fun σ' L' H' ⟨L3, hi, hp⟩ z' => ⟨L3, hi, z'.pre hp⟩
    exact hs i xs[i] σ L (List.getElem?_eq_getElem hlt) k H' (z.same h5) _ ⟨kk, e.rt, e.nx, kk⟩
  · have e1 : i = xs.length := by omega
    subst e1
    exact .inl ⟨h1, e.nx _ _ _ (hd σ L k) z⟩
/-- the ledger as at the start -/
theorem wf_S (it : Iter g L J tg xs S) (I : Nat → List (Option (Option V)) → Prop) (h0 : ∃ vs, σ = putA σ vs ∧ I 0 vs)
    (hs : ∀ i x vs, xs[i]? = some x → I i vs → Ws g L tb (S x (putA σ vs)) { K with nx := fun σ' L' => ∃ vs', (σ' = putA σ vs' ∧ I (i + 1) vs') ∧ L <+: L', ct := fun σ' L' => ∃ vs', (σ' = putA σ vs' ∧ I (i + 1) vs') ∧ L <+: L', bk := K.nx })
    (hd : ∀ vs, I xs.length vs → K.nx (putA σ vs) L) : WFor g L J tg tb σ K := by
  obtain ⟨vs0, e0, k0⟩ := h0
  refine wf_G (xs := xs) (S := S) (fun i σ' L' => ∃ vs, (σ' = putA σ vs ∧ I i vs) ∧ L' = L) (fun i σ' L' ⟨vs, _, e⟩ => e ▸ it) ⟨vs0, ⟨e0, k0⟩, rfl⟩ ?_ ?_
  · rintro i x σ' L' hi ⟨vs, ⟨rfl, k⟩, rfl⟩
    intro H3 z3 D e
    have kk : ∀ σ' L'' H', (∃ vs', (σ' = putA σ vs' ∧ I (i + 1) vs') ∧ L' <+: L'') → At g L'' H' → D.nx σ' H' := fun σ' L'' H' ⟨vs', h1, h2⟩ z' => e.nx σ' L'' H' ⟨L', ⟨vs', h1, rfl⟩, h2⟩ z'
    have kc : ∀ σ' L'' H', (∃ vs', (σ' = putA σ vs' ∧ I (i + 1) vs') ∧ L' <+: L'') → At g L'' H' → D.ct σ' H' := fun σ' L'' H' ⟨vs', h1, h2⟩ z' => e.ct σ' L'' H' ⟨L', ⟨vs', h1, rfl⟩, h2⟩ z'
    exact hs i x vs hi k H3 z3 D ⟨kk, e.rt, e.bk, kc⟩
  · rintro σ' L' ⟨vs, ⟨rfl, k⟩, rfl⟩
    exact hd vs k
/-- one own object grows -/
theorem wf_A (j : Nat) {a : Addr} {e0 : Ent} (hj : L[j]? = some (a, e0, true)) (it : ∀ e, Iter g (L.set j (a, e, true)) J tg xs S) (I : Nat → List (Option (Option V)) → Ent → Prop) (h0 : ∃ vs, σ = putA σ vs ∧ I 0 vs e0)
    (hs : ∀ i x vs e, xs[i]? = some x → I i vs e → Ws g (L.set j (a, e, true)) tb (S x (putA σ vs)) { K with nx := fun σ' L' => ∃ vs' e', (σ' = putA σ vs' ∧ I (i + 1) vs' e') ∧ L.set j (a, e', true) <+: L', ct := fun σ' L' => ∃ vs' e', (σ' = putA σ vs' ∧ I (i + 1) vs' e') ∧ L.set j (a, e', true) <+: L', bk := K.nx })
    (hd : ∀ vs e, I xs.length vs e → K.nx (putA σ vs) (L.set j (a, e, true))) : WFor g L J tg tb σ K := by
  obtain ⟨vs0, e0', k0⟩ := h0
  refine wf_G (xs := xs) (S := S) (fun i σ' L' => ∃ vs e, (σ' = putA σ vs ∧ I i vs e) ∧ L' = L.set j (a, e, true)) (fun i σ' L' ⟨vs, e, _, q⟩ => q ▸ it e) ⟨vs0, _, ⟨e0', k0⟩, (set_self hj).symm⟩ ?_ ?_
  · rintro i x σ' L' hi ⟨vs, en, ⟨rfl, k⟩, rfl⟩
    intro H3 z3 D e
    have kk : ∀ σ' L'' H', (∃ vs' e', (σ' = putA σ vs' ∧ I (i + 1) vs' e') ∧ L.set j (a, e', true) <+: L'') → At g L'' H' → D.nx σ' H' := fun σ' L'' H' ⟨vs', e', h1, h2⟩ z' => e.nx σ' L'' H' ⟨_, ⟨vs', e', h1, rfl⟩, h2⟩ z'
    have kc : ∀ σ' L'' H', (∃ vs' e', (σ' = putA σ vs' ∧ I (i + 1) vs' e') ∧ L.set j (a, e', true) <+: L'') → At g L'' H' → D.ct σ' H' := fun σ' L'' H' ⟨vs', e', h1, h2⟩ z' => e.ct σ' L'' H' ⟨_, ⟨vs', e', h1, rfl⟩, h2⟩ z'
    exact hs i x vs en hi k H3 z3 D ⟨kk, e.rt, e.bk, kc⟩
  · rintro σ' L' ⟨vs, en, ⟨rfl, k⟩, rfl⟩
    exact hd vs en k
/-- draws are counted -/
theorem wf_D (E : Nat → Ent) (hE : ∀ {n m : Nat} {H : Hp} {o : HO}, n ≤ m → (E n).In H o → (E m).In H o) (j c : Nat) {a : Addr} {n0 : Nat} (hj : L[j]? = some (a, E n0, true)) (it : ∀ e, Iter g (L.set j (a, e, true)) J tg xs S) (I : Nat → List (Option (Option V)) → Prop) (h0 : ∃ vs, σ = putA σ vs ∧ I 0 vs)
    (hs : ∀ i x vs, xs[i]? = some x → I i vs → Ws g (L.set j (a, E (n0 + c * i), true)) tb (S x (putA σ vs)) { K with nx := fun σ' L' => ∃ vs', (σ' = putA σ vs' ∧ I (i + 1) vs') ∧ ∃ k, k ≤ c ∧ L.set j (a, E (n0 + c * i + k), true) <+: L', ct := fun σ' L' => ∃ vs', (σ' = putA σ vs' ∧ I (i + 1) vs') ∧ ∃ k, k ≤ c ∧ L.set j (a, E (n0 + c * i + k), true) <+: L', bk := K.nx })
    (hd : ∀ vs, I xs.length vs → K.nx (putA σ vs) (L.set j (a, E (n0 + c * xs.length), true))) (hEm : ∀ n, (E n).mov2 = true := by intro _; rfl) : WFor g L J tg tb σ K := fun H z D e => by
  have hjl : j < L.length := (List.getElem?_eq_some_iff.mp hj).1
  have hse : L.set j (a, E (n0 + c * 0), true) = L := by
    rw [Nat.mul_zero, Nat.add_zero]
    exact set_self hj
  obtain ⟨vs0, e0, k0⟩ := h0
  refine ⟨fun i m σ' H' => i ≤ xs.length ∧ m = xs.length - i ∧ ∃ vs, (σ' = putA σ vs ∧ I i vs) ∧ At g (L.set j (a, E (n0 + c * i), true)) H', ⟨xs.length, Nat.zero_le _, rfl, vs0, ⟨e0, k0⟩, hse.symm ▸ z⟩, ?_⟩
  rintro i m σ' H ⟨hi, rfl, vs, ⟨rfl, k⟩, z⟩
  obtain ⟨h1, h2⟩ := (it (E (n0 + c * i))).at_ H z
  by_cases hlt : i < xs.length
  · obtain ⟨h3, h4⟩ := h2 i xs[i] (List.getElem?_eq_getElem hlt)
    refine .inr ⟨h3, fun σ' H' => ∃ vs, (σ' = putA σ vs ∧ I (i + 1) vs) ∧ At g (L.set j (a, E (n0 + c * (i + 1)), true)) H', fun σ' H' q => ⟨xs.length - (i + 1), by omega, hlt, rfl, q⟩, fun v H' y => ?_⟩
    obtain ⟨h5, h6⟩ := h4 v H' y
    refine h6 _ _ ?_
    have kk : ∀ σ' L'' H', (∃ vs', (σ' = putA σ vs' ∧ I (i + 1) vs') ∧ ∃ k, k ≤ c ∧ L.set j (a, E (n0 + c * i + k), true) <+: L'') → At g L'' H' → ∃ vs, (σ' = putA σ vs ∧ I (i + 1) vs) ∧ At g (L.set j (a, E (n0 + c * (i + 1)), true)) H' := fun σ' L'' H' ⟨vs', h1, kd, hk, h2⟩ z' => by
      refine ⟨vs', h1, ?_⟩
      have z3 := z'.pre h2
      have z4 := z3.weak (i := j) (e' := E (n0 + c * (i + 1))) (List.getElem?_set_self hjl) (fun _ o ho => hE (by have : c * (i + 1) = c * i + c := Nat.mul_succ c i; omega) ho) (hEm _)
      rw [List.set_set] at z4
      exact z4
    exact hs i xs[i] vs (List.getElem?_eq_getElem hlt) k H' (z.same h5) _ ⟨kk, e.rt, e.nx, kk⟩
  · have e1 : i = xs.length := by omega
    subst e1
    exact .inl ⟨h1, e.nx _ _ _ (hd vs k) z⟩
/-- draws are counted, and an object of the last turn stays -/
theorem wf_DX (E : Nat → Ent) (hE : ∀ {n m : Nat} {H : Hp} {o : HO}, n ≤ m → (E n).In H o → (E m).In H o) (j c : Nat) {a : Addr} {n0 : Nat} (hj : L[j]? = some (a, E n0, true)) (it : ∀ e, Iter g (L.set j (a, e, true)) J tg xs S) (I : Nat → List (Option (Option V)) → Option (Addr × Ent × Bool) → Prop) (h0 : ∃ vs, σ = putA σ vs ∧ I 0 vs none)
    (hs : ∀ i x vs ex, xs[i]? = some x → I i vs ex → Ws g (L.set j (a, E (n0 + c * i), true)) tb (S x (putA σ vs)) { K with nx := fun σ' L' => ∃ vs' ex', (σ' = putA σ vs' ∧ I (i + 1) vs' ex') ∧ ∃ k, k ≤ c ∧ L.set j (a, E (n0 + c * i + k), true) <+: L' ∧ ∀ x, ex' = some x → ∃ q, L.length ≤ q ∧ L'[q]? = some x, ct := fun σ' L' => ∃ vs' ex', (σ' = putA σ vs' ∧ I (i + 1) vs' ex') ∧ ∃ k, k ≤ c ∧ L.set j (a, E (n0 + c * i + k), true) <+: L' ∧ ∀ x, ex' = some x → ∃ q, L.length ≤ q ∧ L'[q]? = some x, bk := K.nx })
    (hd : ∀ vs ex, I xs.length vs ex → K.nx (putA σ vs) (L.set j (a, E (n0 + c * xs.length), true) ++ ex.toList)) (hEm : ∀ n, (E n).mov2 = true := by intro _; rfl) : WFor g L J tg tb σ K := fun H z D e => by
  have hjl : j < L.length := (List.getElem?_eq_some_iff.mp hj).1
  have hse : L.set j (a, E (n0 + c * 0), true) = L := by
    rw [Nat.mul_zero, Nat.add_zero]
    exact set_self hj
  obtain ⟨vs0, e0, k0⟩ := h0
  refine ⟨fun i m σ' H' => i ≤ xs.length ∧ m = xs.length - i ∧ ∃ vs ex, (σ' = putA σ vs ∧ I i vs ex) ∧ At g (L.set j (a, E (n0 + c * i), true) ++ ex.toList) H', ⟨xs.length, Nat.zero_le _, rfl, vs0, none, ⟨e0, k0⟩, by rw [hse]; simpa using z⟩, ?_⟩
  rintro i m σ' H ⟨hi, rfl, vs, ex, ⟨rfl, k⟩, z0⟩
  have z := z0.pre (L := L.set j (a, E (n0 + c * i), true)) ⟨_, rfl⟩
  obtain ⟨h1, h2⟩ := (it (E (n0 + c * i))).at_ H z
  by_cases hlt : i < xs.length
  · obtain ⟨h3, h4⟩ := h2 i xs[i] (List.getElem?_eq_getElem hlt)
    refine .inr ⟨h3, fun σ' H' => ∃ vs ex, (σ' = putA σ vs ∧ I (i + 1) vs ex) ∧ At g (L.set j (a, E (n0 + c * (i + 1)), true) ++ ex.toList) H', fun σ' H' q => ⟨xs.length - (i + 1), by omega, hlt, rfl, q⟩, fun v H' y => ?_⟩
    obtain ⟨h5, h6⟩ := h4 v H' y
    refine h6 _ _ ?_
    have kk : ∀ σ' L'' H', (∃ vs' ex', (σ' = putA σ vs' ∧ I (i + 1) vs' ex') ∧ ∃ k, k ≤ c ∧ L.set j (a, E (n0 + c * i + k), true) <+: L'' ∧ ∀ x, ex' = some x → ∃ q, L.length ≤ q ∧ L''[q]? = some x) → At g L'' H' → ∃ vs ex, (σ' = putA σ vs ∧ I (i + 1) vs ex) ∧ At g (L.set j (a, E (n0 + c * (i + 1)), true) ++ ex.toList) H' := fun σ' L'' H' ⟨vs', ex', h1, kd, hk, h2, h3⟩ z' => by
      refine ⟨vs', ex', h1, ?_⟩
      have hsub : (L.set j (a, E (n0 + c * i + kd), true) ++ ex'.toList).Sublist L'' := by
        obtain ⟨r, hr⟩ := h2
        subst hr
        refine List.Sublist.append (List.Sublist.refl _) ?_
        cases ex' with
        | none => exact List.nil_sublist _
        | some x =>
          obtain ⟨q, hq, hx⟩ := h3 x rfl
          rw [List.getElem?_append_right (by rw [List.length_set]; exact hq)] at hx
          exact List.singleton_sublist.mpr (List.mem_of_getElem? hx)
      have z3 := z'.sub hsub
      have hg : (L.set j (a, E (n0 + c * i + kd), true) ++ ex'.toList)[j]? = some (a, E (n0 + c * i + kd), true) := by
        rw [List.getElem?_append_left (by rw [List.length_set]; exact hjl), List.getElem?_set_self hjl]
      have z4 := z3.weak (i := j) (e' := E (n0 + c * (i + 1))) hg (fun _ o ho => hE (by have : c * (i + 1) = c * i + c := Nat.mul_succ c i; omega) ho) (hEm _)
      rw [List.set_append_left _ _ (by rw [List.length_set]; exact hjl), List.set_set] at z4
      exact z4
    exact hs i xs[i] vs ex (List.getElem?_eq_getElem hlt) k H' (z.same h5) _ ⟨kk, e.rt, e.nx, kk⟩
  · have e1 : i = xs.length := by omega
    subst e1
    exact .inl ⟨h1, e.nx _ _ _ (hd vs ex k) z0⟩
/-- while: one own object grows -/
theorem ws_whileA {t1 : TS} {cT : TT} (j : Nat) {a : Addr} {e0 : Ent} (hj : L[j]? = some (a, e0, true)) (I : Nat → List (Option (Option V)) → Ent → Prop) (h0 : ∃ m vs, σ = putA σ vs ∧ I m vs e0)
    (hs : ∀ m vs e, I m vs e → Wp g (L.set j (a, e, true)) (cT (putA σ vs)) fun b L1 => if b = true then Ws g L1 t1 (putA σ vs) { K with nx := fun σ' L' => ∃ m' vs' e', m' < m ∧ (σ' = putA σ vs' ∧ I m' vs' e') ∧ L.set j (a, e', true) <+: L', ct := fun σ' L' => ∃ m' vs' e', m' < m ∧ (σ' = putA σ vs' ∧ I m' vs' e') ∧ L.set j (a, e', true) <+: L', bk := K.nx } else K.nx (putA σ vs) L1) :
    Ws g L (tWhile cT t1) σ K := by
  obtain ⟨m0, vs0, h1, h2⟩ := h0
  refine ws_whileN (fun m σ' L' => ∃ vs e, (σ' = putA σ vs ∧ I m vs e) ∧ L' = L.set j (a, e, true)) ⟨m0, vs0, e0, ⟨h1, h2⟩, (set_self hj).symm⟩ ?_
  rintro m σ' L' ⟨vs, en, ⟨rfl, k⟩, rfl⟩
  refine (hs m vs en k).mono fun b L1 q => ?_
  cases b with
  | true =>
    have q : Ws g L1 t1 _ _ := q
    show Ws g L1 t1 _ _
    intro H3 z3 D e
    have kk : ∀ σ' L'' H', (∃ m' vs' e', m' < m ∧ (σ' = putA σ vs' ∧ I m' vs' e') ∧ L.set j (a, e', true) <+: L'') → At g L'' H' → D.nx σ' H' := fun σ' L'' H' ⟨m', vs', e', h0, h1, h2⟩ z' => e.nx σ' L'' H' ⟨m', _, h0, ⟨vs', e', h1, rfl⟩, h2⟩ z'
    have kc : ∀ σ' L'' H', (∃ m' vs' e', m' < m ∧ (σ' = putA σ vs' ∧ I m' vs' e') ∧ L.set j (a, e', true) <+: L'') → At g L'' H' → D.ct σ' H' := fun σ' L'' H' ⟨m', vs', e', h0, h1, h2⟩ z' => e.ct σ' L'' H' ⟨m', _, h0, ⟨vs', e', h1, rfl⟩, h2⟩ z'
    exact q H3 z3 D ⟨kk, e.rt, e.bk, kc⟩
  | false => exact q
end
/-! ### comprehensions -/
section
variable {α : Type} {g : Gr} {L : Led} {σ : St} {C : V → Led → Prop} {tt : TT} {te : TE} {tg : TG} {J : It} {xs : List α} {S : α → St → St} {vs : List Nat}
/-- the list that grows is told by an entry of what it has -/
theorem lc_G {β : Type} (En : List β → Ent) (hmv : ∀ ys, (En ys).mov2 = true) (p : α → Bool) (f : α → β) (it : Iter g L J tg xs S) (hw : ∀ x, wipe (S x (wipe σ vs)) vs = wipe σ vs) (hl : xs.length ≤ 99999)
    (e0 : ∀ H, (En []).In H (.lst []))
    (hs : ∀ x, x ∈ xs → ∀ (D : Addr) (acc : List β), Wp g (L ++ [(D, En acc, true)]) (tt (S x (wipe σ vs))) fun b L2 => b = p x ∧
      if b = true then Wp g L2 (te (S x (wipe σ vs))) fun y L3 => (L ++ [(D, En acc, true)]) <+: L3 ∧ ∀ H, At g L3 H → ∃ ac, H D = some (.lst ac) ∧ ac.length = acc.length ∧ (En (acc ++ [f x])).In (upd H D (.lst (ac ++ [y]))) (.lst (ac ++ [y])) else (L ++ [(D, En acc, true)]) <+: L2)
    (c : ∀ D, C (.ref D) (L ++ [(D, En ((xs.filter p).map f), true)])) : WLc g L J tg tt te vs σ C := fun H z Q q D hD => by
  have hi : ∀ e : Ent, (L ++ [(D, e, true)])[L.length]? = some (D, e, true) := fun o => by simp
  have hsub : ∀ {e : Ent} {H : Hp}, At g (L ++ [(D, e, true)]) H → At g L H := fun z => z.pre ⟨_, rfl⟩
  refine ⟨fun i m H => i ≤ xs.length ∧ m = xs.length - i ∧ At g (L ++ [(D, En (((xs.take i).filter p).map f), true)]) H, ⟨xs.length, Nat.zero_le _, rfl, ?_⟩, ?_⟩
  · refine z.newE (fun c u e => by rw [upd_ne (ne_of_none e hD)]; exact e) hD upd_same ?_
    simpa using e0 _
  rintro i m H ⟨hi0, rfl, z⟩
  obtain ⟨h1, h2⟩ := it.at_ H (hsub z)
  by_cases hlt : i < xs.length
  · have hxi := List.getElem?_eq_getElem hlt
    obtain ⟨h3, h4⟩ := h2 i xs[i] hxi
    refine .inr ⟨h3, fun H' => At g (L ++ [(D, En (((xs.take (i + 1)).filter p).map f), true)]) H', fun H' q => ⟨xs.length - (i + 1), by omega, hlt, rfl, q⟩, fun v H' y => ?_⟩
    obtain ⟨h5, h6⟩ := h4 v H' y
    refine h6 _ _ ⟨hw _, ?_⟩
    have hacc := filter_take_succ p f hxi
    have hlen : (((xs.take i).filter p).map f).length < 100000 := by
      have := List.length_filter_le p (xs.take i)
      have h3 : (xs.take i).length ≤ xs.length := by simp; omega
      rw [List.length_map]
      omega
    generalize ((xs.take i).filter p).map f = acc at z hacc hlen
    refine hs xs[i] (List.mem_of_getElem? hxi) D acc H' (z.same h5) _ fun b L2 H2 ⟨eb, k⟩ z2 => ?_
    subst eb
    cases hp : p xs[i] with
    | true =>
      rw [hp] at k hacc
      have k : Wp g L2 _ _ := k
      refine k H2 z2 _ fun y L3 H3 ⟨hpre, hn⟩ z3 => ?_
      obtain ⟨ac, q1, q2, q3⟩ := hn H3 z3
      have z4 := z3.pre hpre
      refine ⟨ac, q1, by rw [q2]; exact Nat.lt_of_lt_of_le hlen (by decide), ?_⟩
      have z5 := z4.chg (e' := En (acc ++ [f xs[i]])) (H' := upd H3 D (.lst (ac ++ [y]))) (o := .lst (ac ++ [y])) (hi _) (fun c u e z => by rw [upd_ne z]; exact e) upd_same q3 (hmv _)
      rw [List.set_append_right _ _ (Nat.le_refl _), Nat.sub_self] at z5
      rw [hacc]
      exact z5
    | false =>
      rw [hp] at k hacc
      have k : _ <+: L2 := k
      have e2 : ((xs.take (i + 1)).filter p).map f = acc := by rw [hacc]; simp
      show At g _ H2
      rw [e2]
      exact z2.pre k
  · have e1 : i = xs.length := by omega
    subst e1
    rw [List.take_length] at z
    exact .inl ⟨h1, q _ _ _ (c D) z⟩
/-- a list of values -/
theorem lc_V {β : Type} (T : β → V) (p : α → Bool) (f : α → β) (it : Iter g L J tg xs S) (hw : ∀ x, wipe (S x (wipe σ vs)) vs = wipe σ vs) (hl : xs.length ≤ 99999)
    (hs : ∀ x, x ∈ xs → ∀ (D : Addr) (acc : List V), Wp g (L ++ [(D, .ob (.lst acc), true)]) (tt (S x (wipe σ vs))) fun b L2 => b = p x ∧
      if b = true then Wp g L2 (te (S x (wipe σ vs))) fun y L3 => y = T (f x) ∧ (L ++ [(D, .ob (.lst acc), true)]) <+: L3 else (L ++ [(D, .ob (.lst acc), true)]) <+: L2)
    (c : ∀ D, C (.ref D) (L ++ [(D, .ob (.lst (((xs.filter p).map f).map T)), true)])) : WLc g L J tg tt te vs σ C := by
  refine lc_G (fun ys => .ob (.lst (ys.map T))) (fun _ => rfl) p f it hw hl (fun _ => rfl) (fun x hx D acc => ?_) c
  refine (hs x hx D (acc.map T)).mono fun b L2 ⟨e, k⟩ => ⟨e, ?_⟩
  cases b with
  | true =>
    refine Wp.mono (show Wp g L2 _ _ from k) fun y L3 ⟨ey, hp⟩ => ⟨hp, fun H z => ?_⟩
    have hg := (z.pre hp).get (i := L.length) (a := D) (o := .lst (acc.map T)) (b := true) (by simp)
    subst ey
    refine ⟨_, hg, by rw [List.length_map], ?_⟩
    show HO.lst _ = HO.lst _
    rw [List.map_append]
    rfl
  | false => exact k
/-- a list of tuples -/
theorem rows_snoc {rs : List (List V)} {r : List V} {H : Hp} {D p : Addr} (h : (Ent.rows rs).In H (.lst ac)) (hD : H D = some (.lst ac)) (hp : H p = some (.tup r)) : (Ent.rows (rs ++ [r])).In (upd H D (.lst (ac ++ [.ref p]))) (.lst (ac ++ [.ref p])) := by
  obtain ⟨as, e, hl, h3⟩ := h
  have e : ac = as.map V.ref := by injection e
  subst e
  refine ⟨as ++ [p], by simp, by simp [hl], fun k a r' q1 q2 => ?_⟩
  have hne : H a = some (.tup r') → upd H D (.lst (as.map V.ref ++ [.ref p])) a = some (.tup r') := fun h => by
    rw [upd_ne]
    · exact h
    · intro z
      subst z
      rw [hD] at h
      cases h
  apply hne
  by_cases hk : k < as.length
  · rw [List.getElem?_append_left hk] at q1
    rw [List.getElem?_append_left (by omega)] at q2
    exact h3 k a r' q1 q2
  · rw [List.getElem?_append_right (by omega)] at q1
    rw [List.getElem?_append_right (by omega)] at q2
    rw [hl] at q1
    have hk0 : k - rs.length = 0 := by
      have := (List.getElem?_eq_some_iff.mp q1).1
      simp at this
      omega
    rw [hk0] at q1 q2
    have q1 : p = a := by simpa using q1
    have q2 : r = r' := by simpa using q2
    subst q1 q2
    exact hp
theorem lc_T {β : Type} (row : β → List V) (p : α → Bool) (f : α → β) (it : Iter g L J tg xs S) (hw : ∀ x, wipe (S x (wipe σ vs)) vs = wipe σ vs) (hl : xs.length ≤ 99999)
    (hs : ∀ x, x ∈ xs → ∀ (D : Addr) (acc : List (List V)), Wp g (L ++ [(D, .rows acc, true)]) (tt (S x (wipe σ vs))) fun b L2 => b = p x ∧
      if b = true then Wp g L2 (te (S x (wipe σ vs))) fun y L3 => (∃ (q : Addr) (j : Nat) (bo : Bool), y = .ref q ∧ L3[j]? = some (q, .ob (.tup (row (f x))), bo)) ∧ (L ++ [(D, .rows acc, true)]) <+: L3 else (L ++ [(D, .rows acc, true)]) <+: L2)
    (c : ∀ D, C (.ref D) (L ++ [(D, .rows (((xs.filter p).map f).map row), true)])) : WLc g L J tg tt te vs σ C := by
  refine lc_G (fun ys => .rows (ys.map row)) (fun _ => rfl) p f it hw hl (fun _ => ⟨[], rfl, rfl, fun k a r h => by simp at h⟩) (fun x hx D acc => ?_) c
  refine (hs x hx D (acc.map row)).mono fun b L2 ⟨e, k⟩ => ⟨e, ?_⟩
  cases b with
  | true =>
    refine Wp.mono (show Wp g L2 _ _ from k) fun y L3 ⟨⟨q, j, bo, ey, hq⟩, hp⟩ => ⟨hp, fun H z => ?_⟩
    obtain ⟨o, hg, hin⟩ := (z.pre hp).look (i := L.length) (a := D) (e := .rows (acc.map row)) (b := true) (by simp)
    subst ey
    obtain ⟨as, e1, hl1, h3⟩ := hin
    subst e1
    refine ⟨_, hg, by rw [List.length_map, hl1, List.length_map], ?_⟩
    show (Ent.rows ((acc ++ [f x]).map row)).In _ _
    rw [List.map_append]
    exact rows_snoc ⟨as, rfl, hl1, h3⟩ hg (z.get hq)
  | false => exact k
end
/-! ### lists of tuples -/
section
variable {K : PySem.W.Frag} {g : Gr} {L : Led} {σ : St} {C : V → Led → Prop} {a p : Addr} {bo : Bool} {Kz : Ks} {t : TS}
theorem rows_nil {H : Hp} {o : HO} (h : (Ent.ob (.lst [])).In H o) : (Ent.rows []).In H o := ⟨[], h, rfl, fun k a r h => by simp at h⟩
theorem ws_rows (i : Nat) (k : L[i]? = some (a, .ob (.lst []), bo)) (c : Ws g (L.set i (a, .rows [], bo)) t σ Kz) : Ws g L t σ Kz := ws_weak k (fun _ _ h => rows_nil h) c
theorem ty_rows {rs : List (List V)} (i : Nat) (h : L[i]? = some (a, .rows rs, bo)) : ∀ H, At g L H → tyV K "list" (.ref a) H := fun H z => by
  obtain ⟨o, h1, as, e1, _⟩ := z.look h
  subst e1
  exact .inl ⟨rfl, _, SqL.of h1⟩
theorem wr_appT {rs : List (List V)} {r : List V} (i j : Nat) (h : L[i]? = some (a, .rows rs, true)) (hj : L[j]? = some (p, .ob (.tup r), bo)) (hl : rs.length < 100000) (c : C .non (L.set i (a, .rows (rs ++ [r]), true))) : Wp g L (rAppend (.ref a) [.ref p]) C :=
  fun H z Q q => by
    obtain ⟨o, h1, as, e1, hl1, h3⟩ := z.look h
    subst e1
    refine ⟨a, _, .ref p, rfl, rfl, h1, Nat.lt_of_lt_of_le (by rw [List.length_map, hl1]; exact hl) (by decide), q _ _ _ c ?_⟩
    exact z.chg h (fun c u e z => by rw [upd_ne z]; exact e) upd_same (rows_snoc ⟨as, rfl, hl1, h3⟩ h1 (z.get hj))
theorem wc_lenR {rs : List (List V)} (i : Nat) (h : L[i]? = some (a, .rows rs, bo)) (c : C (.int (rs.length : Int)) L) : Wp g L (rLen K [.ref a]) C := .now (fun H _ z q => by
  obtain ⟨o, h1, as, e1, hl1, h3⟩ := z.look h
  subst e1
  exact ⟨a, _, rfl, .inl (SqL.of h1), by rw [List.length_map, hl1]; exact q⟩) c
/-- extend by a list -/
theorem wr_ext {a2 : Addr} {xs ys : List V} {b2 : Bool} (i j : Nat) (h1 : L[i]? = some (a, .ob (.lst xs), true)) (h2 : L[j]? = some (a2, .ob (.lst ys), b2)) (hl : xs.length + ys.length ≤ 100000)
    (c : C .non (L.set i (a, .ob (.lst (xs ++ ys)), true))) : Wp g L (rExtend (.ref a) [.ref a2]) C :=
  fun H z Q q => ⟨a, a2, xs, ys, rfl, rfl, z.get h1, z.get h2, Nat.le_trans hl (by decide), q _ _ _ c (z.upd_chg h1)⟩
/-- iterators -/
theorem wi_rows {te : TE} {T : It → Led → Prop} (j : Nat) (h : Wp g L (te σ) fun x L1 => ∃ (a : Addr) (bo : Bool) (rs : List (List V)), x = .ref a ∧ L1[j]? = some (a, .rows rs, bo) ∧ T (Itl K a) L1) : Wp g L (iList K te σ) T :=
  fun H z Q q => h H z _ fun x L1 H1 ⟨a, bo, rs, e, s, k⟩ z1 => by
    obtain ⟨o, h1, as, e1, _⟩ := z1.look s
    subst e1
    exact ⟨a, e, ⟨_, SqL.of h1⟩, q _ _ _ k z1⟩
theorem wi_enum {tr : TA} {T : It → Led → Prop} (h : Wp g L (tr σ) fun vs L1 => ∃ (a : Addr) (xs : List V), vs = [.ref a] ∧ Seen K g L1 a xs ∧ T (Ite K a) L1) : Wp g L (iEnum K tr σ) T :=
  fun H z Q q => h H z _ fun x L1 H1 ⟨a, xs, e, s, k⟩ z1 => ⟨a, xs, e, s.at_ H1 z1, q _ _ _ k z1⟩
theorem wi_rev {tr : TA} {T : It → Led → Prop} (h : Wp g L (tr σ) fun vs L1 => ∃ (a : Addr) (xs : List V), vs = [.ref a] ∧ Seen K g L1 a xs ∧ T (Itv K a xs.length) L1) : Wp g L (iRev K tr σ) T :=
  fun H z Q q => h H z _ fun x L1 H1 ⟨a, xs, e, s, k⟩ z1 => ⟨a, xs, e, s.at_ H1 z1, q _ _ _ k z1⟩
theorem wi_revrows {tr : TA} {T : It → Led → Prop} (j : Nat) (h : Wp g L (tr σ) fun vs L1 => ∃ (a : Addr) (bo : Bool) (rs : List (List V)), vs = [.ref a] ∧ L1[j]? = some (a, .rows rs, bo) ∧ T (Itv K a rs.length) L1) : Wp g L (iRev K tr σ) T :=
  fun H z Q q => h H z _ fun x L1 H1 ⟨a, bo, rs, e, s, k⟩ z1 => by
    obtain ⟨o, h1, as, e1, hl, _⟩ := z1.look s
    subst e1
    refine ⟨a, _, e, SqL.of h1, ?_⟩
    rw [List.length_map, hl]
    exact q _ _ _ k z1
end
/-! ### promises with lists of tuples -/
section
def kRows (R : List (List V) → Prop) : Ks := { nx := fun _ _ => False, rt := fun v L => ∃ (p : Addr) (i : Nat) (rs : List (List V)), v = .ref p ∧ L[i]? = some (p, Ent.rows rs, true) ∧ R rs }
theorem eo_Rows {H0 : Hp} {R : List (List V) → Prop} {Q : VK} (h : ∀ p H' rs, R rs → H0 p = none → Same H0 H' → EntAt (.rows rs) H' p → Q (.ref p) H') : Eo ⟨H0, fun _ => False⟩ (kRows R) { nx := fun _ H' => Q .non H', rt := Q } :=
  ⟨fun _ _ _ k _ => k.elim, fun v L H ⟨p, i, rs, e, k, r⟩ z => by
    subst e
    refine h p H rs r ?_ z.since (z.look k)
    rcases z.own _ (List.mem_of_getElem? k) rfl with q | q
    · exact q
    · exact q.elim, fun _ _ _ k _ => k.elim, fun _ _ _ k _ => k.elim⟩
theorem At.newEA {g : Gr} {L : Led} {H H' : Hp} {p : Addr} {e : Ent} (h : At g L H) (s : Same H H') (n : H p = none) (he : EntAt e H' p) : At g (L ++ [(p, e, true)]) H' := by
  obtain ⟨o, h1, h2⟩ := he
  exact h.newE s n h1 h2
end
theorem rng_of {lo x : Int} {n i : Nat} (h : (rngI lo n)[i]? = some x) : i < n ∧ x = lo + (i : Int) := by
  have hk : i < n := by
    have := (List.getElem?_eq_some_iff.mp h).1
    rw [rngI_len] at this
    exact this
  rw [rngI_get hk] at h
  exact ⟨hk, (Option.some.inj h).symm⟩
/-! ### x += e -/
theorem ws_aug {g : Gr} {L : Led} {σ : St} {K : Ks} {i : Nat} {m : Int} {f : Int → Int → Int} {te : TE} (h0 : σ[i]? = some (some (.int m))) (h : Wp g L (te σ) fun y L1 => ∃ n : Int, y = .int n ∧ K.nx (σ.set i (some (.int (f m n)))) L1) : Ws g L (tAug i te (ipI f)) σ K :=
  fun H z D e => ⟨_, h0, h H z _ fun y L1 H1 ⟨n, e1, k⟩ z1 => ⟨m, n, rfl, e1, e.nx _ _ _ k z1⟩⟩
/-! ### rows of ints -/
def row2 (x : Int × Int) : List V := [.int x.1, .int x.2]
def row3 (x : Int × Int × Int) : List V := [.int x.1, .int x.2.1, .int x.2.2]
def row4 (x : Int × Int × Int × Int) : List V := [.int x.1, .int x.2.1, .int x.2.2.1, .int x.2.2.2]
theorem app_row2 {xs : List (Int × Int)} {a b : Int} : xs.map row2 ++ [[V.int a, .int b]] = (xs ++ [(a, b)]).map row2 := by rw [List.map_append]; rfl
theorem app_row3 {xs : List (Int × Int × Int)} {a b c : Int} : xs.map row3 ++ [[V.int a, .int b, .int c]] = (xs ++ [(a, b, c)]).map row3 := by rw [List.map_append]; rfl
theorem app_row4 {xs : List (Int × Int × Int × Int)} {a b c d : Int} : xs.map row4 ++ [[V.int a, .int b, .int c, .int d]] = (xs ++ [(a, b, c, d)]).map row4 := by rw [List.map_append]; rfl
theorem app_ints {xs : List Int} {v : Int} : xs.map V.int ++ [V.int v] = (xs ++ [v]).map V.int := by rw [List.map_append]; rfl
/-- the first of a list, or None -/
def headV (ys : List Int) : V := match ys with
  | [] => .non
  | y :: _ => .int y
theorem headV_at (ys : List Int) : atI (ys.map V.int ++ [.non]) 0 = some (headV ys) := by
  cases ys with
  | nil => rfl
  | cons y r => exact at_of (j := 0) (by decide) rfl
end Kr

set_option Elab.async false
set_option linter.all false
set_option maxRecDepth 100000
set_option maxHeartbeats 1000000
/-! ### min(x, default=d), max(x, default=d), min(x) over data -/
namespace L2
open PySem PySem.Spec PyProof.Rows PySem.W
def rMinDf (K : PySem.W.Frag) : List V → List V → Hp → VK → Prop := fun vs zs H Q => ∃ (a : Addr) (xs : List V) (ds : List PyData) (d : V), vs = [.ref a] ∧ zs = [d] ∧ SqL K H a xs ∧ DpAll K H xs ds ∧ AlikeAll ds ∧ PyData.depthAll ds ≤ 60 ∧ (ds = [] → Q d H) ∧
  ∀ (i : Nat) (x : V) (y : PyData) (ys : List PyData), ds = y :: ys → xs[i]? = some x → ds[i]? = some (minD y ys) → Q x H
def rMaxDf (K : PySem.W.Frag) : List V → List V → Hp → VK → Prop := fun vs zs H Q => ∃ (a : Addr) (xs : List V) (ds : List PyData) (d : V), vs = [.ref a] ∧ zs = [d] ∧ SqL K H a xs ∧ DpAll K H xs ds ∧ AlikeAll ds ∧ PyData.depthAll ds ≤ 60 ∧ (ds = [] → Q d H) ∧
  ∀ (i : Nat) (x : V) (y : PyData) (ys : List PyData), ds = y :: ys → xs[i]? = some x → ds[i]? = some (maxD y ys) → Q x H
def rMinDt (K : PySem.W.Frag) : List V → Hp → VK → Prop := fun vs H Q => ∃ (a : Addr) (xs : List V) (y : PyData) (ys : List PyData), vs = [.ref a] ∧ SqL K H a xs ∧ DpAll K H xs (y :: ys) ∧ AlikeAll (y :: ys) ∧ PyData.depthAll (y :: ys) ≤ 60 ∧
  ∀ (i : Nat) (x : V), xs[i]? = some x → (y :: ys)[i]? = some (minD y ys) → Q x H
section
variable {X : Cx}
theorem vals_at {xs : List V} {us : List Value} {i : Nat} {u : Value} (r : Vals xs us) (h : us[i]? = some u) : ∃ x, xs[i]? = some x ∧ RelV x u := by
  cases hx : xs[i]? with
  | none =>
    rw [r.none_of hx] at h
    cases h
  | some x =>
    obtain ⟨v, h1, h2⟩ := r.get hx
    rw [h] at h1
    cases h1
    exact ⟨x, rfl, h2⟩
theorem item_data {h h' : Heap} {its : List Value} {ds : List PyData} {as : List Addr} {i : Nat} {v : Value} {d : PyData} {bs : List Addr} (hr : ReadsAll h its ds as) (hv : its[i]? = some v) (hk : ∀ b o, h.get? b = some o → h'.get? b = some o) (r : Reads h' v d bs) : ds[i]? = some d := by
  obtain ⟨cs, r1, hi, _, _⟩ := readsAll_at hr i v hv
  have r2 := reads_keeps hk r1
  have e := (r2.unique _ _ r).1
  rw [← e, List.getD_eq_getElem?_getD, List.getElem?_eq_getElem hi]
  rfl
theorem cr_minDf (hc : X.calm = true) (hu : X.A.units + 64 < cLine) : CallRK X (.builtin "min") ["default"] (rMinDf X.K) := by
  intro pins s σ H vs zs us ws Q I r1 r2 h
  obtain ⟨a, xs, ds, d, rfl, rfl, hs, hd, ha, hdep, h0, h1⟩ := h
  obtain ⟨its, rv, hl, _⟩ := I.list hs
  obtain ⟨as, hr⟩ := Dp.readsAll I ds xs its hd rv
  rw [Vals.ref1 r1]
  cases r2 with
  | cons rw rr =>
    cases rr
    refine min_list_default (vs := its.toArray) (xs := ds) (I.ok.hd hc) hl.isList (by simpa using hr) ha (by omega) (fun e h' tk hk => ⟨d, H, I.kept hk, rw, h0 e⟩) fun y ys i v h' tk bs e hv hrd hk => ?_
    have hv : its[i]? = some v := by simpa using hv
    obtain ⟨x, hx, rx⟩ := vals_at rv hv
    exact ⟨x, H, I.kept hk, rx, h1 i x y ys e hx (item_data hr hv hk hrd)⟩
theorem cr_maxDf (hc : X.calm = true) (hu : X.A.units + 64 < cLine) : CallRK X (.builtin "max") ["default"] (rMaxDf X.K) := by
  intro pins s σ H vs zs us ws Q I r1 r2 h
  obtain ⟨a, xs, ds, d, rfl, rfl, hs, hd, ha, hdep, h0, h1⟩ := h
  obtain ⟨its, rv, hl, _⟩ := I.list hs
  obtain ⟨as, hr⟩ := Dp.readsAll I ds xs its hd rv
  rw [Vals.ref1 r1]
  cases r2 with
  | cons rw rr =>
    cases rr
    refine max_list_default (vs := its.toArray) (xs := ds) (I.ok.hd hc) hl.isList (by simpa using hr) ha (by omega) (fun e h' tk hk => ⟨d, H, I.kept hk, rw, h0 e⟩) fun y ys i v h' tk bs e hv hrd hk => ?_
    have hv : its[i]? = some v := by simpa using hv
    obtain ⟨x, hx, rx⟩ := vals_at rv hv
    exact ⟨x, H, I.kept hk, rx, h1 i x y ys e hx (item_data hr hv hk hrd)⟩
theorem cr_minDt (hc : X.calm = true) (hu : X.A.units + 64 < cLine) : CallR X (.builtin "min") (rMinDt X.K) := by
  intro pins s σ H vs us Q I r1 h
  obtain ⟨a, xs, y, ys, rfl, hs, hd, ha, hdep, h1⟩ := h
  obtain ⟨its, rv, hl, _⟩ := I.list hs
  obtain ⟨as, hr⟩ := Dp.readsAll I (y :: ys) xs its hd rv
  rw [Vals.ref1 r1]
  refine min_list_data (vs := its.toArray) (x := y) (xs := ys) (I.ok.hd hc) hl.isList (by simpa using hr) ha (by omega) fun i v h' tk bs hv hrd hk => ?_
  have hv : its[i]? = some v := by simpa using hv
  obtain ⟨x, hx, rx⟩ := vals_at rv hv
  exact ⟨x, H, I.kept hk, rx, h1 i x hx (item_data hr hv hk hrd)⟩
end
end L2
namespace Kr
open PySem L2 PySem.W
theorem wp_ckw {g : Gr} {L : Led} {σ : St} {C : V → Led → Prop} {r : List V → List V → Hp → VK → Prop} {tr tk : TA} (h : Wp g L (tr σ) fun vs L1 => Wp g L1 (tk σ) fun zs L2 => Wp g L2 (r vs zs) C) : Wp g L (tCKw r tr tk σ) C :=
  fun H a Q q => h H a _ fun vs L1 H1 h1 a1 => h1 H1 a1 _ fun zs L2 H2 h2 a2 => h2 H2 a2 Q q
/-! ### ints -/
theorem alike_ints (ns : List Int) : AlikeAll (ns.map PyData.int) := by
  refine ⟨fun x hx y hy => ?_, fun x hx => ?_⟩
  · obtain ⟨m, _, rfl⟩ := List.mem_map.mp hx
    obtain ⟨n, _, rfl⟩ := List.mem_map.mp hy
    rfl
  · obtain ⟨m, _, rfl⟩ := List.mem_map.mp hx
    exact fun h => nomatch h
theorem depth_ints : ∀ ns : List Int, PyData.depthAll (ns.map PyData.int) ≤ 60
  | [] => by simp [PyData.depthAll]
  | n :: r => by
    have := depth_ints r
    rw [List.map_cons]
    simp only [PyData.depthAll, PyData.depth]
    omega
theorem foldmin_is : ∀ (r : List Int) (n : Int), r.foldl min n ∈ n :: r ∧ ∀ k ∈ n :: r, r.foldl min n ≤ k
  | [], n => ⟨by simp, fun k hk => by have : k = n := by simpa using hk
                                      subst this; exact Int.le_refl _⟩
  | x :: r, n => by
    obtain ⟨h1, h2⟩ := foldmin_is r (min n x)
    rw [List.foldl_cons]
    refine ⟨?_, fun k hk => ?_⟩
    · rcases List.mem_cons.mp h1 with h | h
      · rw [h]
        rcases Int.le_total n x with q | q
        · rw [Int.min_eq_left q]; simp
        · rw [Int.min_eq_right q]; simp
      · simp [h]
    · have h0 := h2 (min n x) (by simp)
      rcases List.mem_cons.mp hk with h | h
      · omega
      · rcases List.mem_cons.mp h with h | h
        · omega
        · exact h2 k (by simp [h])
theorem foldmax_is : ∀ (r : List Int) (n : Int), r.foldl max n ∈ n :: r ∧ ∀ k ∈ n :: r, k ≤ r.foldl max n
  | [], n => ⟨by simp, fun k hk => by have : k = n := by simpa using hk
                                      subst this; exact Int.le_refl _⟩
  | x :: r, n => by
    obtain ⟨h1, h2⟩ := foldmax_is r (max n x)
    rw [List.foldl_cons]
    refine ⟨?_, fun k hk => ?_⟩
    · rcases List.mem_cons.mp h1 with h | h
      · rw [h]
        rcases Int.le_total n x with q | q
        · rw [Int.max_eq_right q]; simp
        · rw [Int.max_eq_left q]; simp
      · simp [h]
    · have h0 := h2 (max n x) (by simp)
      rcases List.mem_cons.mp hk with h | h
      · omega
      · rcases List.mem_cons.mp h with h | h
        · omega
        · exact h2 k (by simp [h])
section
variable {K : PySem.W.Frag} {g : Gr} {L : Led} {C : V → Led → Prop} {a : Addr} {d : V}
theorem dpAll_ints {H : Hp} : ∀ ns : List Int, DpAll K H (ns.map V.int) (ns.map PyData.int)
  | [] => .nil
  | n :: r => .cons (.int n) (dpAll_ints r)
theorem wc_minDI {ns : List Int} (s : Seen K g L a (ns.map V.int)) (c0 : ns = [] → C d L) (c : ∀ m, m ∈ ns → (∀ k ∈ ns, m ≤ k) → C (.int m) L) : Wp g L (rMinDf K [.ref a] [d]) C :=
  fun H z Q q => ⟨a, ns.map V.int, ns.map PyData.int, d, rfl, rfl, s.at_ H z, dpAll_ints ns, alike_ints ns, depth_ints ns, fun e => q _ _ _ (c0 (List.map_eq_nil_iff.mp e)) z, fun i x y ys e hx hm => by
    cases ns with
    | nil => cases e
    | cons n r =>
      rw [List.map_cons] at e
      injection e with e1 e2
      subst e1 e2
      rw [minD_ints] at hm
      rw [List.getElem?_map] at hx hm
      cases hi : (n :: r)[i]? with
      | none => rw [hi] at hx; cases hx
      | some k =>
        rw [hi] at hx hm
        have hx : V.int k = x := Option.some.inj hx
        have hm : PyData.int k = .int (r.foldl min n) := Option.some.inj hm
        injection hm with hm
        subst hx hm
        obtain ⟨h1, h2⟩ := foldmin_is r n
        exact q _ _ _ (c _ h1 h2) z⟩
theorem wc_maxDI {ns : List Int} (s : Seen K g L a (ns.map V.int)) (c0 : ns = [] → C d L) (c : ∀ m, m ∈ ns → (∀ k ∈ ns, k ≤ m) → C (.int m) L) : Wp g L (rMaxDf K [.ref a] [d]) C :=
  fun H z Q q => ⟨a, ns.map V.int, ns.map PyData.int, d, rfl, rfl, s.at_ H z, dpAll_ints ns, alike_ints ns, depth_ints ns, fun e => q _ _ _ (c0 (List.map_eq_nil_iff.mp e)) z, fun i x y ys e hx hm => by
    cases ns with
    | nil => cases e
    | cons n r =>
      rw [List.map_cons] at e
      injection e with e1 e2
      subst e1 e2
      rw [maxD_ints] at hm
      rw [List.getElem?_map] at hx hm
      cases hi : (n :: r)[i]? with
      | none => rw [hi] at hx; cases hx
      | some k =>
        rw [hi] at hx hm
        have hx : V.int k = x := Option.some.inj hx
        have hm : PyData.int k = .int (r.foldl max n) := Option.some.inj hm
        injection hm with hm
        subst hx hm
        obtain ⟨h1, h2⟩ := foldmax_is r n
        exact q _ _ _ (c _ h1 h2) z⟩
end
/-! ### pairs of ints -/
def dpP (x : Int × Int) : PyData := .tuple [.int x.1, .int x.2]
def ltP (y x : Int × Int) : Prop := y.1 < x.1 ∨ (y.1 = x.1 ∧ y.2 < x.2)
theorem dpP_inj {x y : Int × Int} (h : dpP x = dpP y) : x = y := by
  unfold dpP at h
  simp only [PyData.tuple.injEq, List.cons.injEq, PyData.int.injEq, and_true] at h
  exact Prod.ext h.1 h.2
theorem alike_P (xs : List (Int × Int)) : AlikeAll (xs.map dpP) := by
  refine ⟨fun x hx y hy => ?_, fun x hx => ?_⟩
  · obtain ⟨m, _, rfl⟩ := List.mem_map.mp hx
    obtain ⟨n, _, rfl⟩ := List.mem_map.mp hy
    rfl
  · obtain ⟨m, _, rfl⟩ := List.mem_map.mp hx
    exact fun h => nomatch h
theorem depth_P : ∀ xs : List (Int × Int), PyData.depthAll (xs.map dpP) ≤ 60
  | [] => by simp [PyData.depthAll]
  | n :: r => by
    have := depth_P r
    rw [List.map_cons]
    simp only [PyData.depthAll, PyData.depth, dpP]
    omega
theorem minP_is : ∀ (r : List (Int × Int)) (n : Int × Int), ∃ m, minD (dpP n) (r.map dpP) = dpP m ∧ m ∈ n :: r ∧ ∀ k ∈ n :: r, ¬ ltP k m
  | [], n => ⟨n, rfl, by simp, fun k hk => by
      have : k = n := by simpa using hk
      subst this
      unfold ltP
      omega⟩
  | x :: r, n => by
    have e : minD (dpP n) ((x :: r).map dpP) = minD (dpP (if x.1 < n.1 ∨ (x.1 = n.1 ∧ x.2 < n.2) then x else n)) (r.map dpP) := by
      unfold minD
      rw [List.map_cons, List.foldl_cons]
      congr 1
      unfold dpP
      rw [dataLt_ii]
      by_cases h : x.1 < n.1 ∨ (x.1 = n.1 ∧ x.2 < n.2)
      · rw [if_pos h, if_pos (decide_eq_true h)]
      · rw [if_neg h, if_neg (by simpa using h)]
    rw [e]
    by_cases h : x.1 < n.1 ∨ (x.1 = n.1 ∧ x.2 < n.2)
    · rw [if_pos h]
      obtain ⟨m, h1, h2, h3⟩ := minP_is r x
      refine ⟨m, h1, List.mem_cons_of_mem _ h2, fun k hk => ?_⟩
      rcases List.mem_cons.mp hk with q | q
      · have := h3 x (by simp)
        subst q
        unfold ltP at *
        omega
      · exact h3 k q
    · rw [if_neg h]
      obtain ⟨m, h1, h2, h3⟩ := minP_is r n
      refine ⟨m, h1, ?_, fun k hk => ?_⟩
      · rcases List.mem_cons.mp h2 with q | q
        · simp [q]
        · simp [q]
      · rcases List.mem_cons.mp hk with q | q
        · exact h3 k (by simp [q])
        · rcases List.mem_cons.mp q with q | q
          · have := h3 n (by simp)
            subst q
            unfold ltP at *
            omega
          · exact h3 k (by simp [q])
section
variable {K : PySem.W.Frag} {g : Gr} {L : Led} {C : V → Led → Prop} {a : Addr} {d : V} {bo : Bool}
theorem dpAll_P {H : Hp} : ∀ (as : List Addr) (xs : List (Int × Int)), as.length = xs.length → (∀ (k : Nat) (b : Addr) (r : List V), as[k]? = some b → (xs.map row2)[k]? = some r → H b = some (.tup r)) → DpAll K H (as.map V.ref) (xs.map dpP)
  | [], [], _, _ => .nil
  | [], _ :: _, h, _ => by cases h
  | _ :: _, [], h, _ => by cases h
  | b :: as, x :: xs, h, k => .cons (.tup (SqT.of (k 0 b (row2 x) rfl rfl)) (.cons (.int _) (.cons (.int _) .nil))) (dpAll_P as xs (by simpa using h) fun i c r h1 h2 => k (i + 1) c r h1 h2)
/-- the least of a list of pairs, or the default -/
theorem wc_minDP {xs : List (Int × Int)} (j : Nat) (hj : L[j]? = some (a, .rows (xs.map row2), bo)) (c0 : xs = [] → C d L) (c : ∀ x, x ∈ xs → (∀ y ∈ xs, ¬ ltP y x) → ∀ p, C (.ref p) (L ++ [(p, .ob (.tup (row2 x)), false)])) : Wp g L (rMinDf K [.ref a] [d]) C :=
  fun H z Q q => by
    obtain ⟨o, h1, as, e1, hl, hr⟩ := z.look hj
    subst e1
    refine ⟨a, as.map V.ref, xs.map dpP, d, rfl, rfl, SqL.of h1, dpAll_P as xs (by simpa using hl) hr, alike_P xs, depth_P xs, fun e => q _ _ _ (c0 (List.map_eq_nil_iff.mp e)) z, fun i x y ys e hx hm => ?_⟩
    cases xs with
    | nil => cases e
    | cons n r =>
      rw [List.map_cons] at e
      injection e with e1 e2
      subst e1 e2
      obtain ⟨m, h2, h3, h4⟩ := minP_is r n
      rw [h2, List.getElem?_map] at hm
      cases hi : (n :: r)[i]? with
      | none => rw [hi] at hm; cases hm
      | some k =>
        rw [hi] at hm
        have hm : dpP k = dpP m := Option.some.inj hm
        have hm := dpP_inj hm
        subst hm
        rw [List.getElem?_map] at hx
        cases hb : as[i]? with
        | none => rw [hb] at hx; cases hx
        | some b =>
          rw [hb] at hx
          have hx : V.ref b = x := Option.some.inj hx
          subst hx
          exact q _ _ _ (c k h3 h4 b) (z.addT (hr i b (row2 k) hb (by rw [List.getElem?_map, hi]; rfl)))
theorem wc_minP {xs : List (Int × Int)} (j : Nat) (hj : L[j]? = some (a, .rows (xs.map row2), bo)) (hne : xs ≠ []) (c : ∀ x, x ∈ xs → (∀ y ∈ xs, ¬ ltP y x) → ∀ p, C (.ref p) (L ++ [(p, .ob (.tup (row2 x)), false)])) : Wp g L (rMinDt K [.ref a]) C :=
  fun H z Q q => by
    obtain ⟨o, h1, as, e1, hl, hr⟩ := z.look hj
    subst e1
    cases xs with
    | nil => exact absurd rfl hne
    | cons n r =>
      refine ⟨a, as.map V.ref, dpP n, r.map dpP, rfl, SqL.of h1, dpAll_P as (n :: r) (by simpa using hl) hr, alike_P (n :: r), depth_P (n :: r), fun i x hx hm => ?_⟩
      obtain ⟨m, h2, h3, h4⟩ := minP_is r n
      rw [h2] at hm
      have hm : ((n :: r).map dpP)[i]? = some (dpP m) := hm
      rw [List.getElem?_map] at hm
      cases hi : (n :: r)[i]? with
      | none => rw [hi] at hm; cases hm
      | some k =>
        rw [hi] at hm
        have hm := dpP_inj (Option.some.inj hm)
        subst hm
        rw [List.getElem?_map] at hx
        cases hb : as[i]? with
        | none => rw [hb] at hx; cases hx
        | some b =>
          rw [hb] at hx
          have hx : V.ref b = x := Option.some.inj hx
          subst hx
          exact q _ _ _ (c k h3 h4 b) (z.addT (hr i b (row2 k) hb (by rw [List.getElem?_map, hi]; rfl)))
/-- found.extend([t] * int(..)) of tuples -/
theorem wr_extT {rs : List (List V)} {r : List V} {a2 p : Addr} {ys : List V} {b2 b3 : Bool} (i j k : Nat) (h : L[i]? = some (a, .rows rs, true)) (h2 : L[j]? = some (a2, .ob (.lst ys), b2)) (hy : ys = [.ref p]) (h3 : L[k]? = some (p, .ob (.tup r), b3)) (hl : rs.length < 99999)
    (c : C .non (L.set i (a, .rows (rs ++ [r]), true))) : Wp g L (rExtend (.ref a) [.ref a2]) C :=
  fun H z Q q => by
    obtain ⟨o, h1, as, e1, hl1, h4⟩ := z.look h
    subst e1 hy
    refine ⟨a, a2, _, _, rfl, rfl, h1, z.get h2, Nat.le_trans (show _ ≤ 100000 by rw [List.length_map, hl1]; simp; omega) (by decide), q _ _ _ c ?_⟩
    exact z.chg h (fun c u e z => by rw [upd_ne z]; exact e) upd_same (rows_snoc ⟨as, rfl, hl1, h4⟩ h1 (z.get h3))
theorem wr_extN {rs : List (List V)} {a2 : Addr} {ys : List V} {b2 : Bool} (i j : Nat) (h : L[i]? = some (a, .rows rs, true)) (h2 : L[j]? = some (a2, .ob (.lst ys), b2)) (hy : ys = []) (hl : rs.length < 99999) (c : C .non (L.set i (a, .rows rs, true))) : Wp g L (rExtend (.ref a) [.ref a2]) C :=
  fun H z Q q => by
    obtain ⟨o, h1, as, e1, hl1, h4⟩ := z.look h
    subst e1 hy
    refine ⟨a, a2, _, _, rfl, rfl, h1, z.get h2, Nat.le_trans (show _ ≤ 100000 by rw [List.length_map, hl1]; simp; omega) (by decide), q _ _ _ c ?_⟩
    rw [List.append_nil]
    refine z.chg h (fun c u e z => by rw [upd_ne z]; exact e) upd_same ⟨as, rfl, hl1, fun k b r q1 q2 => ?_⟩
    have q3 := h4 k b r q1 q2
    rw [upd_ne]
    · exact q3
    · intro e
      subst e
      rw [h1] at q3
      cases q3
end
/-! ### a promise: None, or a new pair of ints -/
section
def kP (A : Prop) (R : Int → Int → Prop) : Ks := { nx := fun _ _ => A, rt := fun v L => (v = .non ∧ A) ∨ ∃ (x y : Int) (p : Addr) (i : Nat), v = .ref p ∧ L[i]? = some (p, Ent.ob (.tup [.int x, .int y]), true) ∧ R x y }
theorem eo_P {H0 : Hp} {A : Prop} {R : Int → Int → Prop} {Q : VK} (h1 : A → ∀ H', Same H0 H' → Q .non H') (h2 : ∀ x y p H', R x y → H0 p = none → Same H0 H' → H' p = some (.tup [.int x, .int y]) → Q (.ref p) H') : Eo ⟨H0, fun _ => False⟩ (kP A R) { nx := fun _ H' => Q .non H', rt := Q } :=
  ⟨fun σ L H k z => h1 k _ z.since, fun v L H k z => by
    rcases k with ⟨e, k⟩ | ⟨x, y, p, i, e, k, r⟩
    · subst e
      exact h1 k _ z.since
    · subst e
      refine h2 x y p H r ?_ z.since (z.get k)
      rcases z.own _ (List.mem_of_getElem? k) rfl with q | q
      · exact q
      · exact q.elim, fun _ _ _ k _ => k.elim, fun _ _ _ k _ => k.elim⟩
end
/-! ### a list of pairs compared -/
theorem canLay_P : ∀ xs : List (Int × Int), PyData.canLayAll0 (xs.map dpP) = true
  | [] => by simp [PyData.canLayAll0]
  | x :: r => by
    rw [List.map_cons]
    simp only [PyData.canLayAll0, dpP, PyData.canLay0, canLay_P r, Bool.and_true, Bool.true_and]
theorem shaped_P (xs : List (Int × Int)) : SeqAt.shaped (.list (xs.map dpP)) = true := by
  have h1 := depth_P xs
  have h2 : PyData.depth (.list (xs.map dpP)) ≤ 64 := by simp only [PyData.depth]; omega
  show (PyData.canLay0 (.list (xs.map dpP)) && decide (PyData.depth (.list (xs.map dpP)) ≤ 64)) = true
  rw [Bool.and_eq_true]
  exact ⟨by simp only [PyData.canLay0]; exact canLay_P xs, decide_eq_true h2⟩
section
variable {K : PySem.W.Frag} {g : Gr} {L : Led} {C : V → Led → Prop} {a a2 : Addr} {bo : Bool}
theorem dp_rows {xs : List (Int × Int)} (j : Nat) (hj : L[j]? = some (a, .rows (xs.map row2), bo)) : DpA K g L (.ref a) (.list (xs.map dpP)) := fun H z => by
  obtain ⟨o, h1, as, e1, hl, hr⟩ := z.look hj
  subst e1
  exact .lst (SqL.of h1) (dpAll_P as xs (by simpa using hl) hr)
theorem eqv_P : ∀ xs ys : List (Int × Int), PyData.eqvAll (xs.map dpP) (ys.map dpP) = decide (xs = ys)
  | [], [] => by simp [PyData.eqvAll]
  | [], _ :: _ => by simp [PyData.eqvAll]
  | _ :: _, [] => by simp [PyData.eqvAll]
  | x :: xs, y :: ys => by
    rw [List.map_cons, List.map_cons]
    unfold PyData.eqvAll
    rw [eqv_P xs ys]
    have e : PyData.eqv (dpP x) (dpP y) = decide (x = y) := by
      unfold dpP
      rw [Bool.eq_iff_iff]
      simp only [PyData.eqv, PyData.eqvAll, Bool.and_eq_true, decide_eq_true_eq, beq_iff_eq, and_true]
      exact ⟨fun h => Prod.ext h.1 h.2, fun h => by rw [h]; exact ⟨rfl, rfl⟩⟩
    rw [e, Bool.eq_iff_iff]
    simp
theorem wr_neRN {xs : List (Int × Int)} (j : Nat) (hj : L[j]? = some (a, .rows (xs.map row2), bo)) (s2 : Seen K g L a2 []) (c : C (.bl (!decide (xs = []))) L) : Wp g L (rNeD K (.ref a) (.ref a2)) C :=
  wr_neD (dp_rows j hj) (dp_lst s2 dps_nil) (shaped_P xs) rfl (by
    have e : PyData.eqv (.list (xs.map dpP)) (.list []) = decide (xs = []) := by
      unfold PyData.eqv
      exact eqv_P xs []
    rw [e]
    exact c)
end
theorem eqv_pair (x y : Int) : PyData.eqv (.tuple [.int x, .int y]) (.tuple [.int x, .int y]) = true := by
  simp [PyData.eqv, PyData.eqvAll]
/-! ### several new objects at once -/
theorem At.news {g : Gr} {L E : Led} {H H' : Hp} (z : At g L H) (s : Same H H') (h : ∀ q ∈ E, H q.1 = none ∧ ∃ o, H' q.1 = some o ∧ q.2.1.In H' o) (nd : (E.map (·.1)).Nodup) : At g (L ++ E) H' := by
  refine ⟨fun c o e m => s _ _ (z.old c o e m), fun q hq => ?_, fun q hq hb => ?_, ?_⟩
  · rcases List.mem_append.mp hq with hq | hq
    · obtain ⟨o, h1, h2⟩ := z.led q hq
      exact ⟨o, s _ _ h1, h2.same s⟩
    · exact (h q hq).2
  · rcases List.mem_append.mp hq with hq | hq
    · exact z.own q hq hb
    · by_cases hmu : g.mu q.1
      · exact .inr hmu
      · refine .inl ?_
        cases e : g.H0 q.1 with
        | none => rfl
        | some u =>
          have := (h q hq).1
          rw [z.old q.1 u e hmu] at this
          cases this
  · rw [List.pairwise_append]
    refine ⟨z.nd, ?_, fun x hx y hy e => ?_⟩
    · have := List.nodup_iff_pairwise_ne.mp nd
      rw [List.pairwise_map] at this
      exact this.imp fun hne e => absurd e hne
    · obtain ⟨o, h1, _⟩ := z.led x hx
      rw [e, (h y hy).1] at h1
      cases h1
end Kr

set_option Elab.async false
set_option linter.all false
set_option maxRecDepth 100000
/-! ### more rules -/
namespace Kr
open PySem L2
section
variable {K : PySem.W.Frag} {g : Gr} {L : Led} {C : V → Led → Prop} {a : Addr}
/-- None or a number, told as one value -/
def IsOpt (N : Prop) (S : Int → Prop) (v : V) : Prop := (v = .non ∧ N) ∨ ∃ n : Int, v = .int n ∧ S n
theorem wc_opt {m : Hp → (V → Hp → Prop) → Prop} {N : Prop} {S : Int → Prop} (w : (N → C .non L) → (∀ n : Int, S n → C (.int n) L) → Wp g L m C) (h : ∀ v : V, IsOpt N S v → C v L) : Wp g L m C :=
  w (fun q => h _ (.inl ⟨rfl, q⟩)) (fun n q => h _ (.inr ⟨n, rfl, q⟩))
theorem cut_one (ns : List Int) : cutV (ns.map V.int) (some 1) none = (ns.drop 1).map V.int := by
  unfold cutV
  have h1 : HT.sIx (ns.map V.int).length 0 (some 1) = min 1 ns.length := by
    unfold HT.sIx
    simp
  have h2 : HT.sIx (ns.map V.int).length (ns.map V.int).length none = (ns.map V.int).length := rfl
  rw [h1, h2, List.length_map, ← List.map_drop]
  cases ns with
  | nil => rfl
  | cons n r =>
    simp
    rw [List.take_of_length_le (by simp)]
theorem wr_slO {ms : List Int} (s : Seen K g L a (ms.map V.int)) (c : ∀ p, C (.ref p) (L ++ [(p, .ob (.lst ((ms.drop 1).map V.int)), true)])) : Wp g L (rSlL K (.ref a) (some 1) none) C :=
  wr_slL s (by rw [cut_one]; exact c)
end
end Kr

set_option Elab.async false
set_option linter.all false
set_option maxRecDepth 100000
set_option maxHeartbeats 1000000
/-! ### a list of tuples, item by item by one name -/
namespace Kr
open PySem L2
structure IterN {α : Type} (g : Gr) (L : Led) (J : It) (tg : TG) (xs : List α) (row : α → List V) (S : α → Addr → St → St) : Prop where
  at_ : ∀ H, At g L H → J.stop xs.length H ∧ ∀ i x, xs[i]? = some x → J.go i H ∧ ∀ v H', J.yld i H v H' → Same H H' ∧ ∃ pr : Addr, H' pr = some (.tup (row x)) ∧ ∀ σ (Q : St → Hp → Prop), Q (S x pr σ) H' → tg v σ H' Q
theorem iter_rowsN {α : Type} {g : Gr} {L : Led} {a : Addr} {Kf : PySem.W.Frag} {bo : Bool} (i : Nat) (row : α → List V) {xs : List α} (j : Nat) (hj : L[j]? = some (a, .rows (xs.map row), bo)) :
    IterN g L (Itl Kf a) (gName i) xs row (fun _ pr σ => σ.set i (some (.ref pr))) := ⟨fun H z => by
  obtain ⟨o, h1, as, e1, hl, hr⟩ := z.look hj
  subst e1
  rw [List.length_map] at hl
  have hs : SqL Kf H a (as.map V.ref) := SqL.of h1
  refine ⟨⟨_, hs, by rw [List.length_map, hl]; exact Nat.le_refl _⟩, fun k x hx => ?_⟩
  have hk : k < as.length := by
    have := (List.getElem?_eq_some_iff.mp hx).1
    omega
  have hx2 : (as.map V.ref)[k]? = some (.ref as[k]) := by rw [List.getElem?_map, List.getElem?_eq_getElem hk]; rfl
  have hx3 := hr k as[k] (row x) (List.getElem?_eq_getElem hk) (by rw [List.getElem?_map, hx]; rfl)
  refine ⟨⟨_, _, hs, hx2⟩, fun v H' hy => ?_⟩
  obtain ⟨e1, e2⟩ := hy
  subst e1
  have e3 := e2 _ hs
  rw [hx2] at e3
  have e3 := Option.some.inj e3
  subst e3
  exact ⟨same_refl, as[k], hx3, fun σ Q q => q⟩⟩
section
variable {α : Type} {g : Gr} {L : Led} {σ : St} {K : Ks} {tg : TG} {tb : TS} {J : It} {xs : List α} {row : α → List V} {S : α → Addr → St → St}
theorem wf_GN (I : Nat → St → Led → Prop) (it : ∀ i σ L, I i σ L → IterN g L J tg xs row S) (h0 : I 0 σ L)
    (hs : ∀ i x pr σ L, xs[i]? = some x → I i σ L → Ws g (L ++ [(pr, .ob (.tup (row x)), false)]) tb (S x pr σ) { K with nx := fun σ' L' => ∃ L3, I (i + 1) σ' L3 ∧ L3 <+: L', ct := fun σ' L' => ∃ L3, I (i + 1) σ' L3 ∧ L3 <+: L', bk := K.nx })
    (hd : ∀ σ L, I xs.length σ L → K.nx σ L) : WFor g L J tg tb σ K := fun H z D e => by
  refine ⟨fun i m σ H => i ≤ xs.length ∧ m = xs.length - i ∧ ∃ L, I i σ L ∧ At g L H, ⟨xs.length, Nat.zero_le _, rfl, L, h0, z⟩, ?_⟩
  rintro i m σ H ⟨hi, rfl, L, k, z⟩
  obtain ⟨h1, h2⟩ := (it i σ L k).at_ H z
  by_cases hlt : i < xs.length
  · obtain ⟨h3, h4⟩ := h2 i xs[i] (List.getElem?_eq_getElem hlt)
    refine .inr ⟨h3, fun σ' H' => ∃ L, I (i + 1) σ' L ∧ At g L H', fun σ' H' q => ⟨xs.length - (i + 1), by omega, hlt, rfl, q⟩, fun v H' y => ?_⟩
    obtain ⟨h5, pr, hpr, h6⟩ := h4 v H' y
    refine h6 σ _ ?_
    have kk : ∀ σ' L' H', (∃ L3, I (i + 1) σ' L3 ∧ L3 <+: L') → At g L' H' → ∃ L, I (i + 1) σ' L ∧ At g L H' := fun σ' L' H' ⟨L3, hi, hp⟩ z' => ⟨L3, hi, z'.pre hp⟩
    exact hs i xs[i] pr σ L (List.getElem?_eq_getElem hlt) k H' ((z.same h5).addT hpr) _ ⟨kk, e.rt, e.nx, kk⟩
  · have e1 : i = xs.length := by omega
    subst e1
    exact .inl ⟨h1, e.nx _ _ _ (hd σ L k) z⟩
theorem wf_SN (it : IterN g L J tg xs row S) (I : Nat → List (Option (Option V)) → Prop) (h0 : ∃ vs, σ = putA σ vs ∧ I 0 vs)
    (hs : ∀ i x pr vs, xs[i]? = some x → I i vs → Ws g (L ++ [(pr, .ob (.tup (row x)), false)]) tb (S x pr (putA σ vs)) { K with nx := fun σ' L' => ∃ vs', (σ' = putA σ vs' ∧ I (i + 1) vs') ∧ L <+: L', ct := fun σ' L' => ∃ vs', (σ' = putA σ vs' ∧ I (i + 1) vs') ∧ L <+: L', bk := K.nx })
    (hd : ∀ vs, I xs.length vs → K.nx (putA σ vs) L) : WFor g L J tg tb σ K := by
  obtain ⟨vs0, e0, k0⟩ := h0
  refine wf_GN (xs := xs) (S := S) (fun i σ' L' => ∃ vs, (σ' = putA σ vs ∧ I i vs) ∧ L' = L) (fun i σ' L' ⟨vs, _, e⟩ => e ▸ it) ⟨vs0, ⟨e0, k0⟩, rfl⟩ ?_ ?_
  · rintro i x pr σ' L' hi ⟨vs, ⟨rfl, k⟩, rfl⟩
    intro H3 z3 D e
    have kk : ∀ σ' L'' H', (∃ vs', (σ' = putA σ vs' ∧ I (i + 1) vs') ∧ L' <+: L'') → At g L'' H' → D.nx σ' H' := fun σ' L'' H' ⟨vs', h1, h2⟩ z' => e.nx σ' L'' H' ⟨L', ⟨vs', h1, rfl⟩, h2⟩ z'
    have kc : ∀ σ' L'' H', (∃ vs', (σ' = putA σ vs' ∧ I (i + 1) vs') ∧ L' <+: L'') → At g L'' H' → D.ct σ' H' := fun σ' L'' H' ⟨vs', h1, h2⟩ z' => e.ct σ' L'' H' ⟨L', ⟨vs', h1, rfl⟩, h2⟩ z'
    exact hs i x pr vs hi k H3 z3 D ⟨kk, e.rt, e.bk, kc⟩
  · rintro σ' L' ⟨vs, ⟨rfl, k⟩, rfl⟩
    exact hd vs k
theorem wf_AN (j : Nat) {a : Addr} {e0 : Ent} (hj : L[j]? = some (a, e0, true)) (it : ∀ e, IterN g (L.set j (a, e, true)) J tg xs row S) (I : Nat → List (Option (Option V)) → Ent → Prop) (h0 : ∃ vs, σ = putA σ vs ∧ I 0 vs e0)
    (hs : ∀ i x pr vs e, xs[i]? = some x → I i vs e → Ws g (L.set j (a, e, true) ++ [(pr, .ob (.tup (row x)), false)]) tb (S x pr (putA σ vs)) { K with nx := fun σ' L' => ∃ vs' e', (σ' = putA σ vs' ∧ I (i + 1) vs' e') ∧ L.set j (a, e', true) <+: L', ct := fun σ' L' => ∃ vs' e', (σ' = putA σ vs' ∧ I (i + 1) vs' e') ∧ L.set j (a, e', true) <+: L', bk := K.nx })
    (hd : ∀ vs e, I xs.length vs e → K.nx (putA σ vs) (L.set j (a, e, true))) : WFor g L J tg tb σ K := by
  obtain ⟨vs0, e0', k0⟩ := h0
  refine wf_GN (xs := xs) (S := S) (fun i σ' L' => ∃ vs e, (σ' = putA σ vs ∧ I i vs e) ∧ L' = L.set j (a, e, true)) (fun i σ' L' ⟨vs, e, _, q⟩ => q ▸ it e) ⟨vs0, _, ⟨e0', k0⟩, (set_self hj).symm⟩ ?_ ?_
  · rintro i x pr σ' L' hi ⟨vs, en, ⟨rfl, k⟩, rfl⟩
    intro H3 z3 D e
    have kk : ∀ σ' L'' H', (∃ vs' e', (σ' = putA σ vs' ∧ I (i + 1) vs' e') ∧ L.set j (a, e', true) <+: L'') → At g L'' H' → D.nx σ' H' := fun σ' L'' H' ⟨vs', e', h1, h2⟩ z' => e.nx σ' L'' H' ⟨_, ⟨vs', e', h1, rfl⟩, h2⟩ z'
    have kc : ∀ σ' L'' H', (∃ vs' e', (σ' = putA σ vs' ∧ I (i + 1) vs' e') ∧ L.set j (a, e', true) <+: L'') → At g L'' H' → D.ct σ' H' := fun σ' L'' H' ⟨vs', e', h1, h2⟩ z' => e.ct σ' L'' H' ⟨_, ⟨vs', e', h1, rfl⟩, h2⟩ z'
    exact hs i x pr vs en hi k H3 z3 D ⟨kk, e.rt, e.bk, kc⟩
  · rintro σ' L' ⟨vs, en, ⟨rfl, k⟩, rfl⟩
    exact hd vs en k
end
section
variable {α : Type} {g : Gr} {L : Led} {σ : St} {C : V → Led → Prop} {tt : TT} {te : TE} {tg : TG} {J : It} {xs : List α} {row : α → List V} {S : α → Addr → St → St} {vs : List Nat}
theorem lc_GN {β : Type} (En : List β → Ent) (hmv : ∀ ys, (En ys).mov2 = true) (p : α → Bool) (f : α → β) (it : IterN g L J tg xs row S) (hw : ∀ x pr, wipe (S x pr (wipe σ vs)) vs = wipe σ vs) (hl : xs.length ≤ 99999)
    (e0 : ∀ H, (En []).In H (.lst []))
    (hs : ∀ x pr, x ∈ xs → ∀ (D : Addr) (acc : List β), Wp g (L ++ [(D, En acc, true)] ++ [(pr, .ob (.tup (row x)), false)]) (tt (S x pr (wipe σ vs))) fun b L2 => b = p x ∧
      if b = true then Wp g L2 (te (S x pr (wipe σ vs))) fun y L3 => (L ++ [(D, En acc, true)]) <+: L3 ∧ ∀ H, At g L3 H → ∃ ac, H D = some (.lst ac) ∧ ac.length = acc.length ∧ (En (acc ++ [f x])).In (upd H D (.lst (ac ++ [y]))) (.lst (ac ++ [y])) else (L ++ [(D, En acc, true)]) <+: L2)
    (c : ∀ D, C (.ref D) (L ++ [(D, En ((xs.filter p).map f), true)])) : WLc g L J tg tt te vs σ C := fun H z Q q D hD => by
  have hi : ∀ e : Ent, (L ++ [(D, e, true)])[L.length]? = some (D, e, true) := fun o => by simp
  have hsub : ∀ {e : Ent} {H : Hp}, At g (L ++ [(D, e, true)]) H → At g L H := fun z => z.pre ⟨_, rfl⟩
  refine ⟨fun i m H => i ≤ xs.length ∧ m = xs.length - i ∧ At g (L ++ [(D, En (((xs.take i).filter p).map f), true)]) H, ⟨xs.length, Nat.zero_le _, rfl, ?_⟩, ?_⟩
  · refine z.newE (fun c u e => by rw [upd_ne (ne_of_none e hD)]; exact e) hD upd_same ?_
    simpa using e0 _
  rintro i m H ⟨hi0, rfl, z⟩
  obtain ⟨h1, h2⟩ := it.at_ H (hsub z)
  by_cases hlt : i < xs.length
  · have hxi := List.getElem?_eq_getElem hlt
    obtain ⟨h3, h4⟩ := h2 i xs[i] hxi
    refine .inr ⟨h3, fun H' => At g (L ++ [(D, En (((xs.take (i + 1)).filter p).map f), true)]) H', fun H' q => ⟨xs.length - (i + 1), by omega, hlt, rfl, q⟩, fun v H' y => ?_⟩
    obtain ⟨h5, pr, hpr, h6⟩ := h4 v H' y
    refine h6 _ _ ⟨hw _ _, ?_⟩
    have hacc := filter_take_succ p f hxi
    have hlen : (((xs.take i).filter p).map f).length < 100000 := by
      have := List.length_filter_le p (xs.take i)
      have h3 : (xs.take i).length ≤ xs.length := by simp; omega
      rw [List.length_map]
      omega
    generalize ((xs.take i).filter p).map f = acc at z hacc hlen
    refine hs xs[i] pr (List.mem_of_getElem? hxi) D acc H' ((z.same h5).addT hpr) _ fun b L2 H2 ⟨eb, k⟩ z2 => ?_
    subst eb
    cases hp : p xs[i] with
    | true =>
      rw [hp] at k hacc
      have k : Wp g L2 _ _ := k
      refine k H2 z2 _ fun y L3 H3 ⟨hpre, hn⟩ z3 => ?_
      obtain ⟨ac, q1, q2, q3⟩ := hn H3 z3
      have z4 := z3.pre hpre
      refine ⟨ac, q1, by rw [q2]; exact Nat.lt_of_lt_of_le hlen (by decide), ?_⟩
      have z5 := z4.chg (e' := En (acc ++ [f xs[i]])) (H' := upd H3 D (.lst (ac ++ [y]))) (o := .lst (ac ++ [y])) (hi _) (fun c u e z => by rw [upd_ne z]; exact e) upd_same q3 (hmv _)
      rw [List.set_append_right _ _ (Nat.le_refl _), Nat.sub_self] at z5
      rw [hacc]
      exact z5
    | false =>
      rw [hp] at k hacc
      have k : _ <+: L2 := k
      have e2 : ((xs.take (i + 1)).filter p).map f = acc := by rw [hacc]; simp
      show At g _ H2
      rw [e2]
      exact z2.pre k
  · have e1 : i = xs.length := by omega
    subst e1
    rw [List.take_length] at z
    exact .inl ⟨h1, q _ _ _ (c D) z⟩
theorem lc_VN {β : Type} (T : β → V) (p : α → Bool) (f : α → β) (it : IterN g L J tg xs row S) (hw : ∀ x pr, wipe (S x pr (wipe σ vs)) vs = wipe σ vs) (hl : xs.length ≤ 99999)
    (hs : ∀ x pr, x ∈ xs → ∀ (D : Addr) (acc : List V), Wp g (L ++ [(D, .ob (.lst acc), true)] ++ [(pr, .ob (.tup (row x)), false)]) (tt (S x pr (wipe σ vs))) fun b L2 => b = p x ∧
      if b = true then Wp g L2 (te (S x pr (wipe σ vs))) fun y L3 => y = T (f x) ∧ (L ++ [(D, .ob (.lst acc), true)]) <+: L3 else (L ++ [(D, .ob (.lst acc), true)]) <+: L2)
    (c : ∀ D, C (.ref D) (L ++ [(D, .ob (.lst (((xs.filter p).map f).map T)), true)])) : WLc g L J tg tt te vs σ C := by
  refine lc_GN (fun ys => .ob (.lst (ys.map T))) (fun _ => rfl) p f it hw hl (fun _ => rfl) (fun x pr hx D acc => ?_) c
  refine (hs x pr hx D (acc.map T)).mono fun b L2 ⟨e, k⟩ => ⟨e, ?_⟩
  cases b with
  | true =>
    refine Wp.mono (show Wp g L2 _ _ from k) fun y L3 ⟨ey, hp⟩ => ⟨hp, fun H z => ?_⟩
    have hg := (z.pre hp).get (i := L.length) (a := D) (o := .lst (acc.map T)) (b := true) (by simp)
    subst ey
    refine ⟨_, hg, by rw [List.length_map], ?_⟩
    show HO.lst _ = HO.lst _
    rw [List.map_append]
    rfl
  | false => exact k
theorem lc_TN {β : Type} (rw_ : β → List V) (p : α → Bool) (f : α → β) (it : IterN g L J tg xs row S) (hw : ∀ x pr, wipe (S x pr (wipe σ vs)) vs = wipe σ vs) (hl : xs.length ≤ 99999)
    (hs : ∀ x pr, x ∈ xs → ∀ (D : Addr) (acc : List (List V)), Wp g (L ++ [(D, .rows acc, true)] ++ [(pr, .ob (.tup (row x)), false)]) (tt (S x pr (wipe σ vs))) fun b L2 => b = p x ∧
      if b = true then Wp g L2 (te (S x pr (wipe σ vs))) fun y L3 => (∃ (q : Addr) (j : Nat) (bo : Bool), y = .ref q ∧ L3[j]? = some (q, .ob (.tup (rw_ (f x))), bo)) ∧ (L ++ [(D, .rows acc, true)]) <+: L3 else (L ++ [(D, .rows acc, true)]) <+: L2)
    (c : ∀ D, C (.ref D) (L ++ [(D, .rows (((xs.filter p).map f).map rw_), true)])) : WLc g L J tg tt te vs σ C := by
  refine lc_GN (fun ys => .rows (ys.map rw_)) (fun _ => rfl) p f it hw hl (fun _ => ⟨[], rfl, rfl, fun k a r h => by simp at h⟩) (fun x pr hx D acc => ?_) c
  refine (hs x pr hx D (acc.map rw_)).mono fun b L2 ⟨e, k⟩ => ⟨e, ?_⟩
  cases b with
  | true =>
    refine Wp.mono (show Wp g L2 _ _ from k) fun y L3 ⟨⟨q, j, bo, ey, hq⟩, hp⟩ => ⟨hp, fun H z => ?_⟩
    obtain ⟨o, hg, hin⟩ := (z.pre hp).look (i := L.length) (a := D) (e := .rows (acc.map rw_)) (b := true) (by simp)
    subst ey
    obtain ⟨as, e1, hl1, h3⟩ := hin
    subst e1
    refine ⟨_, hg, by rw [List.length_map, hl1, List.length_map], ?_⟩
    show (Ent.rows ((acc ++ [f x]).map rw_)).In _ _
    rw [List.map_append]
    exact rows_snoc ⟨as, rfl, hl1, h3⟩ hg (z.get hq)
  | false => exact k
end
/-- an item of a list of tuples -/
theorem wr_ixR {K : PySem.W.Frag} {g : Gr} {L : Led} {C : V → Led → Prop} {a : Addr} {bo : Bool} {rs : List (List V)} {r : List V} {k : Int} {jj : Nat} (j : Nat) (hj : L[j]? = some (a, .rows rs, bo)) (hk : ixN rs.length k = some jj) (hr : rs[jj]? = some r) (c : ∀ p, C (.ref p) (L ++ [(p, .ob (.tup r), false)])) : Wp g L (rIxL K (.ref a) (.int k)) C :=
  fun H z Q q => by
    obtain ⟨o, h1, as, e1, hl, hrs⟩ := z.look hj
    subst e1
    have hlt : jj < as.length := by rw [hl]; exact (List.getElem?_eq_some_iff.mp hr).1
    have hx3 := hrs jj as[jj] r (List.getElem?_eq_getElem hlt) hr
    refine ⟨a, as.map V.ref, k, .ref as[jj], rfl, rfl, SqL.of h1, ?_, q _ _ _ (c _) (z.addT hx3)⟩
    unfold atI
    rw [List.length_map, hl, hk]
    show (as.map V.ref)[jj]? = _
    rw [List.getElem?_map, List.getElem?_eq_getElem hlt]
    rfl
end Kr
/-! ### rows of numbers and None as data -/
namespace Kr
open PySem L2
def plV : V → Bool
  | .int _ => true
  | .non => true
  | _ => false
def dV : V → PyData
  | .int n => .int n
  | _ => .none
def dR (r : List V) : PyData := .tuple (r.map dV)
section
variable {K : PySem.W.Frag} {H : Hp}
theorem dp_dV {v : V} (h : plV v = true) : Dp K H v (dV v) := by
  cases v with
  | int n => exact .int n
  | non => exact .non
  | _ => cases h
theorem dpAll_dV : ∀ {r : List V}, r.all plV = true → DpAll K H r (r.map dV)
  | [], _ => .nil
  | v :: r, h => by
    rw [List.all_cons, Bool.and_eq_true] at h
    exact .cons (dp_dV h.1) (dpAll_dV h.2)
theorem eqv_dV {v w : V} (h1 : plV v = true) (h2 : plV w = true) : (dV v).eqv (dV w) = decide (v = w) := by
  cases v with
  | int n =>
    cases w with
    | int m =>
      rw [Bool.eq_iff_iff]
      simp [dV, PyData.eqv]
    | non => simp [dV, PyData.eqv]
    | _ => cases h2
  | non =>
    cases w with
    | int m => simp [dV, PyData.eqv]
    | non => simp [dV, PyData.eqv]
    | _ => cases h2
  | _ => cases h1
theorem eqvAll_dV : ∀ {r q : List V}, r.all plV = true → q.all plV = true → PyData.eqvAll (r.map dV) (q.map dV) = decide (r = q)
  | [], [], _, _ => by simp [PyData.eqvAll]
  | [], _ :: _, _, _ => by simp [PyData.eqvAll]
  | _ :: _, [], _, _ => by simp [PyData.eqvAll]
  | v :: r, w :: q, h1, h2 => by
    rw [List.all_cons, Bool.and_eq_true] at h1 h2
    rw [List.map_cons, List.map_cons]
    unfold PyData.eqvAll
    rw [eqv_dV h1.1 h2.1, eqvAll_dV h1.2 h2.2, Bool.eq_iff_iff]
    simp
theorem eqv_dR {r q : List V} (h1 : r.all plV = true) (h2 : q.all plV = true) : (dR r).eqv (dR q) = decide (r = q) := by
  unfold dR PyData.eqv
  exact eqvAll_dV h1 h2
theorem eqvAll_dR : ∀ {rs qs : List (List V)}, rs.all (fun r => r.all plV) = true → qs.all (fun r => r.all plV) = true → PyData.eqvAll (rs.map dR) (qs.map dR) = decide (rs = qs)
  | [], [], _, _ => by simp [PyData.eqvAll]
  | [], _ :: _, _, _ => by simp [PyData.eqvAll]
  | _ :: _, [], _, _ => by simp [PyData.eqvAll]
  | v :: r, w :: q, h1, h2 => by
    rw [List.all_cons, Bool.and_eq_true] at h1 h2
    rw [List.map_cons, List.map_cons]
    unfold PyData.eqvAll
    rw [eqv_dR h1.1 h2.1, eqvAll_dR h1.2 h2.2, Bool.eq_iff_iff]
    simp
theorem canLay_dV (v : V) : PyData.canLay0 (dV v) = true := by
  cases v <;> simp [dV, PyData.canLay0]
theorem canLayAll_dV : ∀ r : List V, PyData.canLayAll0 (r.map dV) = true
  | [] => by simp [PyData.canLayAll0]
  | v :: r => by
    rw [List.map_cons]
    simp only [PyData.canLayAll0, canLay_dV v, canLayAll_dV r, Bool.and_true]
theorem canLayAll_dR : ∀ rs : List (List V), PyData.canLayAll0 (rs.map dR) = true
  | [] => by simp [PyData.canLayAll0]
  | r :: rs => by
    rw [List.map_cons]
    simp only [PyData.canLayAll0, dR, PyData.canLay0, canLayAll_dV r, canLayAll_dR rs, Bool.and_true]
theorem depth_dV : ∀ r : List V, PyData.depthAll (r.map dV) ≤ 10
  | [] => by simp [PyData.depthAll]
  | v :: r => by
    have := depth_dV r
    have h : PyData.depth (dV v) ≤ 10 := by cases v <;> simp [dV, PyData.depth]
    rw [List.map_cons]
    simp only [PyData.depthAll]
    omega
theorem depth_dR : ∀ rs : List (List V), PyData.depthAll (rs.map dR) ≤ 20
  | [] => by simp [PyData.depthAll]
  | r :: rs => by
    have := depth_dR rs
    have h := depth_dV r
    rw [List.map_cons]
    simp only [PyData.depthAll, dR, PyData.depth]
    omega
theorem shaped_dR (rs : List (List V)) : SeqAt.shaped (.list (rs.map dR)) = true := by
  have h1 := depth_dR rs
  have h2 : PyData.depth (.list (rs.map dR)) ≤ 64 := by simp only [PyData.depth]; omega
  show (PyData.canLay0 (.list (rs.map dR)) && decide (PyData.depth (.list (rs.map dR)) ≤ 64)) = true
  rw [Bool.and_eq_true]
  exact ⟨by simp only [PyData.canLay0]; exact canLayAll_dR rs, decide_eq_true h2⟩
theorem dpAll_dR {H : Hp} : ∀ (as : List Addr) (rs : List (List V)), as.length = rs.length → rs.all (fun r => r.all plV) = true → (∀ (k : Nat) (b : Addr) (r : List V), as[k]? = some b → rs[k]? = some r → H b = some (.tup r)) → DpAll K H (as.map V.ref) (rs.map dR)
  | [], [], _, _, _ => .nil
  | [], _ :: _, h, _, _ => by cases h
  | _ :: _, [], h, _, _ => by cases h
  | a :: as, r :: rs, h, hp, hr => by
    rw [List.all_cons, Bool.and_eq_true] at hp
    exact .cons (.tup (SqT.of (hr 0 a r rfl rfl)) (dpAll_dV hp.1)) (dpAll_dR as rs (by simpa using h) hp.2 fun k b q h1 h2 => hr (k + 1) b q h1 h2)
end
section
variable {K : PySem.W.Frag} {g : Gr} {L : Led} {C : V → Led → Prop} {a a2 : Addr} {bo b2 : Bool}
theorem dp_rowsG {rs : List (List V)} (j : Nat) (hj : L[j]? = some (a, .rows rs, bo)) (hp : rs.all (fun r => r.all plV) = true) : DpA K g L (.ref a) (.list (rs.map dR)) := fun H z => by
  obtain ⟨o, h1, as, e1, hl, hr⟩ := z.look hj
  subst e1
  exact .lst (SqL.of h1) (dpAll_dR as rs hl hp hr)
theorem eqv_rows {rs qs : List (List V)} (h1 : rs.all (fun r => r.all plV) = true) (h2 : qs.all (fun r => r.all plV) = true) : PyData.eqv (.list (rs.map dR)) (.list (qs.map dR)) = decide (rs = qs) := by
  unfold PyData.eqv
  exact eqvAll_dR h1 h2
theorem wr_neRR {rs qs : List (List V)} (i j : Nat) (hi : L[i]? = some (a, .rows rs, bo)) (hj : L[j]? = some (a2, .rows qs, b2)) (h1 : rs.all (fun r => r.all plV) = true) (h2 : qs.all (fun r => r.all plV) = true) (c : C (.bl (!decide (rs = qs))) L) : Wp g L (rNeD K (.ref a) (.ref a2)) C :=
  wr_neD (dp_rowsG i hi h1) (dp_rowsG j hj h2) (shaped_dR rs) (shaped_dR qs) (by rw [eqv_rows h1 h2]; exact c)
theorem wr_eqRR {rs qs : List (List V)} (i j : Nat) (hi : L[i]? = some (a, .rows rs, bo)) (hj : L[j]? = some (a2, .rows qs, b2)) (h1 : rs.all (fun r => r.all plV) = true) (h2 : qs.all (fun r => r.all plV) = true) (c : C (.bl (decide (rs = qs))) L) : Wp g L (rEqD K (.ref a) (.ref a2)) C :=
  wr_eqD (dp_rowsG i hi h1) (dp_rowsG j hj h2) (shaped_dR rs) (shaped_dR qs) (by rw [eqv_rows h1 h2]; exact c)
theorem wr_neRL {rs : List (List V)} (i : Nat) (hi : L[i]? = some (a, .rows rs, bo)) (h1 : rs.all (fun r => r.all plV) = true) (s2 : Seen K g L a2 []) (c : C (.bl (!decide (rs = []))) L) : Wp g L (rNeD K (.ref a) (.ref a2)) C :=
  wr_neD (dp_rowsG i hi h1) (dp_lst s2 dps_nil) (shaped_dR rs) rfl (by
    have e := eqv_rows (rs := rs) (qs := []) h1 rfl
    rw [show PyData.eqv (.list (rs.map dR)) (.list []) = decide (rs = []) from e]
    exact c)
theorem wr_eqRL {rs : List (List V)} (i : Nat) (hi : L[i]? = some (a, .rows rs, bo)) (h1 : rs.all (fun r => r.all plV) = true) (s2 : Seen K g L a2 []) (c : C (.bl (decide (rs = []))) L) : Wp g L (rEqD K (.ref a) (.ref a2)) C :=
  wr_eqD (dp_rowsG i hi h1) (dp_lst s2 dps_nil) (shaped_dR rs) rfl (by
    have e := eqv_rows (rs := rs) (qs := []) h1 rfl
    rw [show PyData.eqv (.list (rs.map dR)) (.list []) = decide (rs = []) from e]
    exact c)
theorem pl_row2 (xs : List (Int × Int)) : (xs.map row2).all (fun r => r.all plV) = true := by
  rw [List.all_eq_true]
  intro r hr
  obtain ⟨x, _, rfl⟩ := List.mem_map.mp hr
  rfl
theorem pl_row3 (xs : List (Int × Int × Int)) : (xs.map row3).all (fun r => r.all plV) = true := by
  rw [List.all_eq_true]
  intro r hr
  obtain ⟨x, _, rfl⟩ := List.mem_map.mp hr
  rfl
theorem pl_row4 (xs : List (Int × Int × Int × Int)) : (xs.map row4).all (fun r => r.all plV) = true := by
  rw [List.all_eq_true]
  intro r hr
  obtain ⟨x, _, rfl⟩ := List.mem_map.mp hr
  rfl
end
end Kr
/-! ### over a tuple -/
namespace Kr
open PySem L2
theorem wi_tup {g : Gr} {L : Led} {σ : St} {T : It → Led → Prop} {Kf : PySem.W.Frag} {tl : TE} (h : Wp g L (tl σ) fun x L1 => ∃ (a : Addr) (xs : List V), x = V.ref a ∧ SeenT Kf g L1 a xs ∧ T (Itt Kf a) L1) : Wp g L (iTup Kf tl σ) T :=
  fun H z Q q => h H z _ fun x L1 H1 ⟨a, xs, e, s, c⟩ z1 => ⟨a, e, ⟨xs, s.at_ H1 z1⟩, q _ _ _ c z1⟩
theorem iter_tup {g : Gr} {L : Led} {a : Addr} {i : Nat} {Kf : PySem.W.Frag} {xs : List V} (s : SeenT Kf g L a xs) : Iter g L (Itt Kf a) (gName i) xs (fun x σ => σ.set i (some x)) := ⟨fun H z => by
  have hs := s.at_ H z
  refine ⟨⟨_, hs, Nat.le_refl _⟩, fun k x hx => ?_⟩
  refine ⟨⟨_, _, hs, hx⟩, fun v H' hy => ?_⟩
  obtain ⟨e1, e2⟩ := hy
  subst e1
  have e3 := e2 _ hs
  rw [hx] at e3
  have e3 := Option.some.inj e3
  subst e3
  exact ⟨same_refl, fun σ Q q => q⟩⟩
end Kr

set_option Elab.async false
set_option linter.all false
set_option maxRecDepth 100000
set_option maxHeartbeats 4000000
/-! ### set(xs) of a list of ints; sorted of it, any number of members -/
namespace Kr
open PySem PySem.Spec PyProof.Rows L2
section
variable {P : Program} {w : World} {A : Around} {E : Value → Shared → Prop} {s : Shared}
theorem call_set_listI {l : Addr} {items : Array Value} (ns : List Int) {Q : Value → Shared → Prop} (hh : A.handled = none) (hl : s.heap.IsList l items) (hit : IntsAre items.toList ns) (hb : ns.length + 1 < scanBound)
    (h : ∀ (h' : Heap) (tk c : Nat), SetR w h' s.heap.objs.size (fun j => decide (j ∈ ns)) c → c ≤ ns.length → (∀ b o, s.heap.get? b = some o → h'.get? b = some o) → Q (.ref s.heap.objs.size) { s with heap := h', toks := tk }) :
    wpAny (model P w) A (call (.type "set") [.ref l]) Q E s := by
  have hisz : items.size = ns.length := by
    have q := IntsAre.length hit
    rw [Array.length_toList] at q
    exact q
  obtain ⟨c, tl, hmro⟩ := F.called_set.mro
  have hmade := F.called_set.made
  have hsub := F.called_set.sub
  refine wpAny_call (codeAny_of_tree ?_)
  show wpAny _ _ (callAny (.type "set") _) _ _ _
  refine wpAny_pure ⟨Code.quiet_builtin _ (by decide +kernel), codeAny_builtin F.entry_type_call ?_⟩
  rw [Around.under_plain (weight_type_call_type "set" [.ref l] []) rfl]
  have h1 := F.called_set.notType
  have h2 := F.called_set.canCreate
  have hct := F.typeCall_set_1 (.ref l)
  repeat (any_goals (first | assumption | wp_step))
  refine codeAny_mono (code_set_led1 (.ref l) (E := E) (Q₁ := fun obj s₁ => obj = .ref s.heap.objs.size ∧ s₁ = { s with heap := s.heap.push { cls := .type "set", dict := none, data := .set #[] 0 (.fresh 0 0 (!w.params.followText "set-order")) } }) ⟨rfl, rfl⟩) fun r s₁ hr => ?_
  cases r with
  | error e => exact hr
  | ok fl =>
    cases fl with
    | ret obj =>
      obtain ⟨rfl, rfl⟩ := hr
      have hS : (s.heap.push { cls := .type "set", dict := none, data := .set #[] 0 (.fresh 0 0 (!w.params.followText "set-order")) }).get? s.heap.objs.size = some { cls := .type "set", dict := none, data := .set #[] 0 (.fresh 0 0 (!w.params.followText "set-order")) } := Heap.get?_push_size _ rfl
      have hT : Shared.TypeIs { s with heap := s.heap.push { cls := .type "set", dict := none, data := .set #[] 0 (.fresh 0 0 (!w.params.followText "set-order")) } } (.ref s.heap.objs.size) "set" := ⟨_, hS, rfl⟩
      have hli := F.called_set.init.lookup
      have hbi := F.called_set.init.bind (.ref s.heap.objs.size)
      repeat (any_goals (first | assumption | wp_step))
      refine codeAny_mono (codeAny_call_builtin (R := wants (fun r s₂ => r = .none ∧ ∃ h' tk c, s₂ = { s with heap := h', toks := tk } ∧ SetR w h' s.heap.objs.size (fun j => decide (j ∈ ns)) c ∧ c ≤ ns.length ∧
          (∀ b o, s.heap.get? b = some o → h'.get? b = some o)) E) F.called_set.init.plain F.entry_set_init (check_set_init_1 hT ?_)) fun r₂ s₂ hr₂ => ?_
      · obtain ⟨ol, hol, hcl, nl, hdl⟩ := hl
        obtain ⟨ocls, odict, odata, oslots⟩ := ol
        simp only at hcl hdl
        subst hcl; subst hdl
        have hol' : (s.heap.push { cls := .type "set", dict := none, data := .set #[] 0 (.fresh 0 0 (!w.params.followText "set-order")) }).get? l = some { cls := .type "list", dict := odict, data := .seq items nl, slots := oslots } := Heap.get?_push_of_some _ hol
        have hsls := F.sub_list_set
        have hslf := F.sub_list_frozenset
        have hne : (Value.type "list" == Value.type "dict") = false := by decide
        have hl1 : (s.heap.push { cls := .type "set", dict := none, data := .set #[] 0 (.fresh 0 0 (!w.params.followText "set-order")) }).IsList l items := ⟨_, hol', rfl, nl, rfl⟩
        unfold Builtin.«set.__init__» noKeywords Builtin.Frozenset.updateFrom
        generalize hPI : pyIter = PI
        wp_walk
        subst hPI
        refine wpAny_pyIter_list hl1 ?_
        refine wpAny_bind (wpAny_runValue ?_)
        have hlS : l < s.heap.objs.size := Heap.lt_size hol
        have hh3 : A.in1.in1.in1.handled = none := by simp [hh]
        have hz1 : (s.heap.push { cls := .type "set", dict := none, data := .set #[] 0 (.fresh 0 0 (!w.params.followText "set-order")) }).objs.size = s.heap.objs.size + 1 := Heap.size_push ..
        have hneI : l ≠ (s.heap.push { cls := .type "set", dict := none, data := .set #[] 0 (.fresh 0 0 (!w.params.followText "set-order")) }).objs.size := by
          rw [Heap.size_push]; exact Nat.ne_of_lt (Nat.lt_succ_of_lt hlS)
        have hSf : s.heap.objs.size ∉ [(s.heap.push { cls := .type "set", dict := none, data := .set #[] 0 (.fresh 0 0 (!w.params.followText "set-order")) }).objs.size, l] := by
          rw [Heap.size_push]; simp only [List.mem_cons, List.mem_singleton, List.not_mem_nil, or_false, not_or]
          exact ⟨Nat.ne_of_lt (Nat.lt_succ_self _), Nat.ne_of_gt hlS⟩
        have hval : ∀ (i : Nat) (v : Value), items[i]? = some v → ∃ k t, ns[i]? = some k ∧ v = .int k t := fun i v hv => by
          have hi : i < ns.length := by rw [← hisz]; exact (Array.getElem?_eq_some_iff.mp hv).1
          obtain ⟨t, e⟩ := PyProof.Rows.IntsAre.int_at hit i v (by rw [Array.getElem?_toList]; exact hv)
          refine ⟨ns[i], t, List.getElem?_eq_getElem hi, ?_⟩
          rw [e, List.getD_eq_getElem?_getD, List.getElem?_eq_getElem hi] <;> rfl
        refine set_update_ints ((Walks.list hh3 _ l hneI items).toS) s.heap.objs.size
          hSf ns hisz hb hval (items.size - 0) 0 _ (by omega) (Nat.zero_le _)
          ⟨⟨_, Heap.get?_push_size _ rfl, rfl, rfl⟩, (hl1.push _)⟩ ?hS0 ?hR
        case hS0 =>
          have hget : ((s.heap.push { cls := .type "set", dict := none, data := .set #[] 0 (.fresh 0 0 (!w.params.followText "set-order")) }).push { cls := .type "list_iterator", data := .fields #[.ref l, .int 0 0] }).get? s.heap.objs.size
              = some { cls := .type "set", dict := none, data := .set #[] 0 (.fresh 0 0 (!w.params.followText "set-order")) } := Heap.get?_push_of_some _ hS
          exact ⟨0, Nat.le_refl 0, setR_new_at hget⟩
        case hR =>
          intro s' c' hm hc' hS'
          obtain ⟨h', g2, d', tk', os'⟩ := s'
          have eg : g2 = s.gens := hm.gens
          have ed : d' = s.drawn := hm.drawn
          have eo : os' = s.os := hm.os
          subst eg; subst ed; subst eo
          show wpAny _ _ _ _ _ _
          refine wpAny_pure ?_
          show wpAny _ _ (ret Value.none) _ _ _
          rw [hisz] at hc'
          refine wpAny_pure ⟨rfl, h', tk', c', rfl, hS', hc', fun b o e => ?_⟩
          have hb0 : b < s.heap.objs.size := Heap.lt_size e
          have hb1 : b ≠ s.heap.objs.size := Nat.ne_of_lt hb0
          have hb2 : b ≠ (s.heap.push { cls := .type "set", dict := none, data := .set #[] 0 (.fresh 0 0 (!w.params.followText "set-order")) }).objs.size := by
            rw [Heap.size_push]; exact Nat.ne_of_lt (Nat.lt_succ_of_lt hb0)
          exact hm.heap b o (by simp only [List.mem_cons, List.mem_singleton, List.not_mem_nil, or_false, not_or]; exact ⟨hb1, hb2⟩) (Heap.get?_push_of_some _ (Heap.get?_push_of_some _ e))
      · cases r₂ with
        | error e => exact hr₂
        | ok fl₂ =>
          cases fl₂ with
          | ret r =>
            obtain ⟨rfl, h', tk, c', rfl, hS', hc', hk'⟩ := hr₂
            repeat (any_goals (first | assumption | wp_step))
            exact h _ _ _ hS' hc' hk'
          | _ => exact hr₂.elim
    | _ => exact hr.elim
/-- sorted(found), any number of members -/
theorem sorted_setO {a : Addr} {S : Int → Bool} {n : Nat} {Q : Value → Shared → Prop} (R : SetR w s.heap a S n) (hh : A.handled = none) (hz : n ≤ sizeLine)
    (hQ : ∀ s' p (out : Array Value) (c : Nat) (ns : List Int), (∀ b o, s.heap.get? b = some o → s'.heap.get? b = some o) → s'.gens = s.gens → s'.os = s.os → s.heap.objs.size ≤ p →
      s'.heap.get? p = some (seqObj "list" out c) → IntsAre out.toList ns → ns.Pairwise (· < ·) → (∀ k, k ∈ ns ↔ S k = true) → ns.length = n → Q (.ref p) s') :
    wpAny (model P w) A (call (.builtin "sorted") [.ref a]) Q E s := by
  obtain ⟨o, es, ep, t, ho, hex, hd, g, nd, hm, hb, hf, hn, hr, hl⟩ := R
  refine Calls.call_function_entry kind_sorted plain_sorted entry_sorted (args_sorted1 _) ?_
  unfold Builtin.«sorted»
  refine wpAny_bind (m := checkCount "sorted" 1 1 _) (wpAny_pure ?_)
  refine wpAny_bind (collect_set (A := A.in1) hh ⟨o, ho, hex.1, hd⟩ hf hb hr hl fun s1 vs k1 hz1 g1 o1 pm => ?_)
  have hvl : vs.length = n := by rw [pm.length_eq, List.length_map, Array.length_toList]; exact hn
  have hI : IntsAre vs (vs.map SrtO.iv) := SrtO.ints_iv fun v hv => by
    obtain ⟨e, he, q⟩ := List.mem_map.mp (pm.mem_iff.mp hv)
    obtain ⟨k, tk, h1, _⟩ := g e he
    exact ⟨k, tk, by rw [← q]; exact h1⟩
  have hkey : ∀ e ∈ es.toList, SrtO.iv e.2 = keyOf e := fun e he => by
    obtain ⟨k, tk, h1, _⟩ := g e he
    unfold keyOf
    rw [h1]
    rfl
  have pk : (vs.map SrtO.iv).Perm (es.toList.map keyOf) := by
    have q := pm.map SrtO.iv
    rw [List.map_map] at q
    have e2 : es.toList.map (SrtO.iv ∘ fun x => x.2) = es.toList.map keyOf := List.map_congr_left fun e he => hkey e he
    rw [← e2]
    exact q
  refine wpAny_bind (wpAny_newList ?_ (by rw [hvl]; exact hz))
  have hoL : (s1.heap.push (seqObj "list" vs.toArray 0)).get? s1.heap.objs.size = some (seqObj "list" vs.toArray 0) := Heap.get?_push_size _ rfl
  refine wpAny_bind (wpAny_holding (wpAny_call_entry PyProof.Rows.slot_list_sort ⟨_, hoL, rfl⟩ PyProof.Rows.entry_list_sort (SrtO.list_sort_ord SrtO.swo_int hoL (by rw [hvl]; exact hz) (fun h2 => SrtO.ints_sortable hI h2) fun out h1 h2 => ⟨_, rfl, ?_⟩) (PyProof.Rows.args_list_sort _)))
  obtain ⟨q1, q2, q3⟩ := SrtO.ints_out hI h1 h2
  obtain ⟨c, hc⟩ := PyProof.Rows.sortedHeap_at (vs := vs) (out := out.toArray) hoL
  have pn : (out.map SrtO.iv).Perm (es.toList.map keyOf) := q2.trans pk
  refine wpAny_pure ⟨_, rfl, hQ _ s1.heap.objs.size out.toArray c (out.map SrtO.iv) (fun b u e => ?_) g1 o1 hz1 hc (by simpa using q1) (lt_of_le_nodup _ q3 (pn.nodup_iff.mpr nd)) (fun k => by rw [pn.mem_iff, ← hm k]) ?_⟩
  · have q := k1 b u e
    have hlt := Heap.lt_size q
    show (sortedHeap (s1.heap.push (seqObj "list" vs.toArray 0)) s1.heap.objs.size vs out.toArray).get? b = some u
    rw [PyProof.Rows.sortedHeap_old (Nat.ne_of_lt hlt) (by rw [size_push']; exact Nat.lt_succ_of_lt hlt)]
    exact Heap.get?_push_of_some _ q
  · rw [pn.length_eq, List.length_map, Array.length_toList]; exact hn
end
section
variable {X : Cx}
def rSetI (K : PySem.W.Frag) (w : World) : List V → Hp → VK → Prop := fun xs H Q => ∃ (l : Addr) (ns : List Int), xs = [V.ref l] ∧ SqL K H l (ns.map V.int) ∧ ns.length ≤ 4000 ∧ ∀ (p : Addr) (c : Nat), H p = none → c ≤ ns.length → Q (.ref p) (upd H p (SetO w p (fun j => decide (j ∈ ns)) c))
theorem cr_setI (hc : X.calm = true) : CallR X (.type "set") (rSetI X.K X.w) := by
  intro pins s σ H xs us Q I r h
  obtain ⟨l, ns, rfl, hq, hl, q⟩ := h
  rw [Vals.ref1 r]
  obtain ⟨its, rv, pl, hz⟩ := I.list hq
  refine call_set_listI ns (I.ok.hd hc) pl.isList (by simpa using RZ.intsAre_vals rv) (by unfold scanBound; omega) fun h' tk c hS hc' hk => ?_
  exact ⟨.ref _, upd H s.heap.objs.size (SetO X.w s.heap.objs.size (fun j => decide (j ∈ ns)) c), I.laid (t' := tk) hk (Nat.le_refl _) (setO_new hS), rfl, q _ c (I.hok.fresh (Nat.le_refl _)) hc'⟩
def rSortedSetO (w : World) : List V → Hp → VK → Prop := fun vs H Q => ∃ (a : Addr) (S : Int → Bool) (n : Nat), vs = [V.ref a] ∧ H a = some (SetO w a S n) ∧ n ≤ 4000 ∧
  ∀ (ns : List Int) (p : Addr), ns.Pairwise (· < ·) → (∀ k : Int, k ∈ ns ↔ S k = true) → ns.length = n → H p = none → Q (.ref p) (upd H p (.lst (ns.map V.int)))
theorem cr_sortedSetO (hc : X.calm = true) : CallR X (.builtin "sorted") (rSortedSetO X.w) := by
  intro pins s σ H vs us Q I r h
  obtain ⟨a, S, n, rfl, ha, h64, q⟩ := h
  have R := setO_get I ha
  rw [Vals.ref1 r]
  refine sorted_setO R (I.ok.hd hc) (by rw [sizeLine_eq]; omega) fun s' p out c ns k g o hp hg hi hs hm hl => ?_
  have hlen : (ns.map V.int).length ≤ sizeLine := by rw [List.length_map, hl, sizeLine_eq]; omega
  have hn : H p = none := I.hok.fresh hp
  have J : Inv X pins σ (upd H p (.lst (ns.map V.int))) { s with heap := s'.heap, gens := s'.gens, drawn := s'.drawn, toks := s'.toks } :=
    I.call (ch := []) (Un.laid k hp hn) (I.hok.laid k hp ⟨hlen, out.toList, c, vals_of_ints hi, hg⟩) (by rw [g]; exact I.bare) (fun _ z => nomatch z)
  have e : s' = { s with heap := s'.heap, gens := s'.gens, drawn := s'.drawn, toks := s'.toks } := by
    cases s'
    cases s
    cases o
    rfl
  rw [e]
  exact ⟨.ref p, _, J, rfl, q ns p hs hm hl hn⟩
end
section
variable {K : PySem.W.Frag} {w : World} {g : Gr} {L : Led} {C : V → Led → Prop} {a : Addr}
theorem wc_set {ns : List Int} (s : Seen K g L a (ns.map V.int)) (hl : ns.length ≤ 4000) (c : ∀ (p : Addr) (n : Nat), n ≤ ns.length → C (.ref p) (L ++ [(p, .ob (SetO w p (fun j => decide (j ∈ ns)) n), true)])) : Wp g L (rSetI K w [.ref a]) C :=
  fun H z Q q => ⟨a, ns, rfl, s.at_ H z, hl, fun p n hp hn => q _ _ _ (c p n hn) (z.upd_new hp)⟩
theorem wc_sortedSet {S : Int → Bool} {n : Nat} {bo : Bool} (i : Nat) (h : L[i]? = some (a, .ob (SetO w a S n), bo)) (hn : n ≤ 4000) (c : ∀ (ns : List Int) (p : Addr), ns.Pairwise (· < ·) → (∀ k : Int, k ∈ ns ↔ S k = true) → ns.length = n → C (.ref p) (L ++ [(p, .ob (.lst (ns.map V.int)), true)])) : Wp g L (rSortedSetO w [.ref a]) C :=
  fun H z Q q => ⟨a, S, n, rfl, z.get h, hn, fun ns p h1 h2 h3 hp => q _ _ _ (c ns p h1 h2 h3) (z.upd_new hp)⟩
end
end Kr

set_option Elab.async false
set_option linter.all false
set_option maxRecDepth 100000
/-! ### None or a number, compared -/
namespace Kr
open PySem L2
def leV (v : V) (hi : Int) : Bool := match v with
  | .int n => decide (n ≤ hi)
  | _ => false
def ltV (v : V) (hi : Int) : Bool := match v with
  | .int n => decide (n < hi)
  | _ => false
section
variable {g : Gr} {L : Led} {C : V → Led → Prop}
theorem wr_leO {v : V} {hi : Int} (h : ∃ n : Int, v = .int n) (c : C (.bl (leV v hi)) L) : Wp g L (rI0 (fun i j => .bl (decide (i ≤ j))) v (.int hi)) C := by
  obtain ⟨n, rfl⟩ := h
  exact wr0 c
theorem wr_ltO {v : V} {hi : Int} (h : ∃ n : Int, v = .int n) (c : C (.bl (ltV v hi)) L) : Wp g L (rI0 (fun i j => .bl (decide (i < j))) v (.int hi)) C := by
  obtain ⟨n, rfl⟩ := h
  exact wr0 c
end
end Kr
namespace Kr
open PySem L2
def inO (v : V) (ns : List Int) : Bool := match v with
  | .int n => decide (n ∈ ns)
  | _ => false
theorem wr_inO {K : PySem.W.Frag} {g : Gr} {L : Led} {C : V → Led → Prop} {a : Addr} {v : V} {ns : List Int} (h : v = .non ∨ ∃ n : Int, v = .int n) (s : Seen K g L a (ns.map V.int)) (c : C (.bl (inO v ns)) L) : Wp g L (rIn K false v (.ref a)) C := by
  rcases h with rfl | ⟨n, rfl⟩
  · refine wr_in s rfl flat_ints ?_
    have e : inV .non (ns.map V.int) = false := by
      unfold inV
      rw [List.any_eq_false]
      intro x hx
      obtain ⟨m, _, rfl⟩ := List.mem_map.mp hx
      simp [eqV]
    rw [e]
    exact c
  · exact wr_inI s c
end Kr

set_option Elab.async false
set_option linter.all false
set_option maxRecDepth 100000
set_option maxHeartbeats 1000000
/-! ### for archives: old objects, classes as values, calls with keyword-only parameters -/
namespace Kr
open PySem L2
section
variable {g : Gr} {L : Led} {H : Hp} {a : Addr} {o : HO} {t : TS} {σ : St} {K : Ks}
/-- an object that stood at the entry -/
theorem At.addOld (z : At g L H) (h : g.H0 a = some o) (hm : ¬ g.mu a) : At g (L ++ [(a, .ob o, false)]) H := by
  refine ⟨z.old, fun q hq => ?_, fun q hq hb => ?_, nd_app z.nd fun q hq e => ?_⟩
  · rcases List.mem_append.mp hq with hq | hq
    · exact z.led q hq
    · have e : q = (a, Ent.ob o, false) := by simpa using hq
      subst e
      exact ⟨_, z.old a o h hm, rfl⟩
  · rcases List.mem_append.mp hq with hq | hq
    · exact z.own q hq hb
    · have e : q = (a, Ent.ob o, false) := by simpa using hq
      subst e
      cases hb
  · refine .inr ⟨?_, rfl⟩
    cases hb : q.2.2 with
    | false => rfl
    | true =>
      rcases z.own q hq hb with y | y
      · rw [show q.1 = a from e, h] at y
        cases y
      · rw [show q.1 = a from e] at y
        exact absurd y hm
theorem ws_old (h : g.H0 a = some o) (hm : ¬ g.mu a) (c : Ws g (L ++ [(a, .ob o, false)]) t σ K) : Ws g L t σ K := fun H z D e => c H (z.addOld h hm) D e
theorem wp_old {α : Type} {m : Hp → (α → Hp → Prop) → Prop} {C : α → Led → Prop} (h : g.H0 a = some o) (hm : ¬ g.mu a) (c : Wp g (L ++ [(a, .ob o, false)]) m C) : Wp g L m C := fun H z Q q => c H (z.addOld h hm) Q q
end
section
variable {X : Cx} {x : Str} {pos : Pos} {C : Addr}
theorem pe_cls (hg : Gl X x) (hm : X.mg x = some (.ref C)) (hd : (x == ("__debug__" : Str)) = false := by decide) : PE X (.Name x pos) (tC (.ref C)) := pe_glob hg hm rfl hd
theorem pe_tylist (hg : Gl X "list") (hm : X.mg "list" = none) : PE X (.Name "list" pos) (tC (.ty "list")) := pe_bltn hg hm (by decide +kernel) rfl
def rIsC (C : Addr) : List V → Hp → VK → Prop := fun xs H Q => ∃ a dx fs, xs = [.ref a, .ref C] ∧ H a = some (.ins C dx fs) ∧ Q (.bl true) H
theorem c_isC (c : C8.InsC X.K C) : CallR X (.builtin "isinstance") (rIsC C) := C8.call_isC c
end
section
variable {Kf : PySem.W.Frag} {g : Gr} {L : Led} {C : V → Led → Prop} {σ : St} {a : Addr} {ta tb : TE}
theorem wc_isC {D dx : Addr} {fs : List (Str × V)} {bo : Bool} (i : Nat) (h : L[i]? = some (a, .ob (.ins D dx fs), bo)) (c : C (.bl true) L) : Wp g L (rIsC D [.ref a, .ref D]) C :=
  .now (fun H _ z q => ⟨a, dx, fs, rfl, z.get h, q⟩) c
theorem wc_isi_list {xs : List V} {bo : Bool} (i : Nat) (h : L[i]? = some (a, .ob (.lst xs), bo)) (c : C (.bl true) L) : Wp g L (rIsi Kf [.ref a, .ty "list"]) C :=
  .now (fun H _ z q => ⟨.ref a, .ty "list", _, _, true, rfl, .ty _, .base (.lst (z.get h)), kit_ty (by decide +kernel), q⟩) c
theorem rgV_eq (i j : Int) : rgV i j = (rngI i (j - i).toNat).map V.int := by
  unfold rgV rngI
  rw [List.map_map]
  rfl
theorem wp_listRg2 (h : Wp g L (ta σ) fun x L1 => Wp g L1 (tb σ) fun y L2 => ∃ i j : Int, x = .int i ∧ y = .int j ∧ RgOk i j ∧ ∀ p, C (.ref p) (L2 ++ [(p, .ob (.lst ((rngI i (j - i).toNat).map V.int)), true)])) : Wp g L (tLstRg (tRg2 ta tb) σ) C :=
  fun H z Q q => h H z _ fun x L1 H1 h1 z1 => h1 H1 z1 _ fun y L2 H2 ⟨i, j, e1, e2, ok, c⟩ z2 => ⟨i, j, e1, e2, ok, fun p hp => by
    rw [rgV_eq]
    exact q _ _ _ (c p) (z2.upd_new hp)⟩
theorem wp_listRg1 (h : Wp g L (ta σ) fun y L2 => ∃ j : Int, y = .int j ∧ RgOk 0 j ∧ ∀ p, C (.ref p) (L2 ++ [(p, .ob (.lst ((rngI 0 j.toNat).map V.int)), true)])) : Wp g L (tLstRg (tRg1 ta) σ) C :=
  fun H z Q q => h H z _ fun y L2 H2 ⟨j, e2, ok, c⟩ z2 => ⟨j, e2, ok, fun p hp => by
    rw [rgV_eq, Int.sub_zero]
    exact q _ _ _ (c p) (z2.upd_new hp)⟩
end
/-! ### classes whose __init__ has keyword-only parameters -/
structure InitFnK (K : PySem.W.Frag) (mg : Str → Option Value) (x : Str) (C : Addr) (qual : Str) (st : Stmt) (kwd : List (Str × V)) : Prop where
  mg : mg x = some (.ref C)
  ex : ∃ f fd, Mk K C f ∧ FunD K "__init__" qual (defArgs st) (defBody st) (defScope st) [] kwd f fd
structure OkCK (P : Program) (w : World) (K : PySem.W.Frag) (mg : Str → Option Value) (base : Heap) (x : Str) (C : Addr) (k : Nat) (qual : Str) (st : Stmt) (kwd : List (Str × V)) (ps : List Str) (sp : Sp) : Prop where
  ex : ∃ f fd, mg x = some (.ref C) ∧ Mk K C f ∧ FunD K "__init__" qual (defArgs st) (defBody st) (defScope st) [] kwd f fd ∧ FnOk P w K mg base CX0 k f fd ps sp
section
variable {P : Program} {w : World} {K : PySem.W.Frag} {mg : Str → Option Value} {base : Heap}
theorem OkCK.of {C : Addr} {x qual : Str} {st : Stmt} {kwd : List (Str × V)} {N ps : List Str} {k : Nat} {sp : Sp} (T : InitFnK K mg x C qual st kwd) (S : FnScope N ps (defScope st))
    (len : ∀ vs H Q E, sp vs H Q E → vs.length = ps.length) (body : BodyOk P w K mg base qual st N k sp) : OkCK P w K mg base x C (k + 1) qual st kwd ps sp := by
  obtain ⟨f, fd, h1, F⟩ := T.ex
  refine ⟨f, fd, T.mg, h1, F, F.ok S len fun cdv A outer s H vs Q E hr hsp => ?_⟩
  obtain ⟨t, h, q⟩ := body f cdv A outer s H vs Q E hr hsp
  exact ⟨t, h.nox, q⟩
theorem initFnK_mk {x : Str} {C : Addr} {qual : Str} {st : Stmt} {f D : Addr} {oc : Value} {od an : Option Addr} {osl : Array (Option Value)} {doc pm cdv ct : Value} {n1 n2 n3 n4 : Str} (hm : mg x = some (.ref C)) (mk : PySem.W.makesIn K C = true) (kc : PySem.W.keepIn K (.ref C) = true)
    (a : PySem.W.findIn K (.ref C) "__init__" = some (some (.ref f))) (i : PySem.W.isFn K (.ref f) = true)
    (l : K.lookup f = some ⟨oc, od, .func (PySem.W.fnOf "__init__" qual (defArgs st) (defBody st) (defScope st) .none (.ref D) doc pm an cdv ct), osl⟩) (c : PySem.W.codeIn K cdv qual = true) (k : PySem.W.keepIn K (.ref f) = true)
    (d1 : PySem.W.nsIn K D n1 = some (some .none)) (d2 : PySem.W.nsIn K D n2 = some (some .none)) (d3 : PySem.W.nsIn K D n3 = some (some .none)) (d4 : PySem.W.nsIn K D n4 = some (some .none)) : InitFnK K mg x C qual st [(n1, .non), (n2, .non), (n3, .non), (n4, .non)] :=
  ⟨hm, f, _, ⟨mk, a, i, kc⟩, ⟨_, _, _, _, _, _, _, _, _, _, rfl, l, c, .inl ⟨rfl, rfl⟩, .inr ⟨D, rfl, fun q hq => by
    simp only [List.mem_cons, List.not_mem_nil, or_false] at hq
    rcases hq with rfl | rfl | rfl | rfl
    · exact ⟨_, d1, rfl⟩
    · exact ⟨_, d2, rfl⟩
    · exact ⟨_, d3, rfl⟩
    · exact ⟨_, d4, rfl⟩⟩⟩, k⟩
end
/-- positional values, then for each keyword-only parameter its keyword's value or its default -/
def mixL {α : Type} (mv ws : List α) : List (Nat ⊕ Nat) → List α
  | [] => []
  | .inl i :: q => (ws[i]?).toList ++ mixL mv ws q
  | .inr j :: q => (mv[j]?).toList ++ mixL mv ws q
def mix {α : Type} (perm : List (Nat ⊕ Nat)) (us mv ws : List α) : List α := us ++ mixL mv ws perm
theorem opt_vals {zs : List V} {ws : List Value} (r : Vals zs ws) (i : Nat) : Vals (zs[i]?).toList (ws[i]?).toList := by
  cases h : zs[i]? with
  | none => rw [r.none_of h]; exact .nil
  | some x =>
    obtain ⟨u, h1, h2⟩ := r.get h
    rw [h1]
    exact .cons h2 .nil
theorem mix_vals {mz zs : List V} {mv ws : List Value} (r2 : Vals mz mv) (r3 : Vals zs ws) : ∀ perm : List (Nat ⊕ Nat), Vals (mixL mz zs perm) (mixL mv ws perm)
  | [] => .nil
  | .inl i :: q => Vals.append (opt_vals r3 i) (mix_vals r2 r3 q)
  | .inr i :: q => Vals.append (opt_vals r2 i) (mix_vals r2 r3 q)
theorem mix_rel (perm : List (Nat ⊕ Nat)) {vs mz zs : List V} {us mv ws : List Value} (r1 : Vals vs us) (r2 : Vals mz mv) (r3 : Vals zs ws) : Vals (mix perm vs mz zs) (mix perm us mv ws) :=
  Vals.append r1 (mix_vals r2 r3 perm)
section
variable {X : Cx} {k n : Nat} {x : Str} {ps ks : List Str} {sp : Sp} {p pos : Pos} {e : Expr} {es : List Expr} {t tk : TA} {C : Addr} {st : Stmt} {qual : Str} {kwd ms : List (Str × V)} {kws : List Keyword}
theorem pe_ocK (perm : List (Nat ⊕ Nat)) (O : OkCK X.prog X.w X.K X.mg X.base x C k qual st kwd ps sp) (hr : Room (k + 1) X.A) (hg : Gl X x) (ha : PA X (e :: es) t) (hkw : PK X kws tk) (hk : kwd ≠ []) (hms : ∀ q ∈ ms, q ∈ kwd)
    (hb : ∀ (D : Addr) (doc pm : Value) (an : Option Addr) (cdv ct : Value) (us mv ws : List Value), us.length = n + 1 → mv.length = ms.length → ws.length = ks.length →
      KwChain D ((ms.map (·.1)).zip mv) (bindArgs (PySem.W.fnOf "__init__" qual (defArgs st) (defBody st) (defScope st) .none (.ref D) doc pm an cdv ct) ⟨us, ks.zip ws⟩) (ps.zip (mix perm us mv ws)))
    (hall : (backToKw pos (keywordEach kws X.env)).all (·.1.isSome) = true := by rfl) (hks : (backToKw pos (keywordEach kws X.env)).filterMap (·.1) = ks := by rfl) (hdb : (x == ("__debug__" : Str)) = false := by decide)
    (he : starEach (e :: es) X.env = (false, eval e X.env) :: starEach es X.env := by rfl) (hpl : ((backTo pos (starEach (e :: es) X.env)).any (·.1) || (backToKw pos (keywordEach kws X.env)).any (·.1.isNone)) = false := by rfl) :
    PE X (.Call (.Name x p) (e :: es) kws pos) (tMakeK C n ks.length sp (fun vs zs => mix perm vs (ms.map (·.2)) zs) E0 t tk) := by
  obtain ⟨f, fd, h1, M, F, O⟩ := O.ex
  obtain ⟨mv, kb⟩ := F.kbinds0 (ps := ps) (n + 1) ks ms (fun us mv ws => mix perm us mv ws) hk hms (fun r1 r2 r3 => mix_rel perm r1 r2 r3) hb
  exact pe_makeK M O hr hg h1 kb pass0 ha hkw hall hks hdb he hpl
end
theorem wp_makeK {g : Gr} {L : Led} {σ : St} {D : V → Led → Prop} {C : Addr} {n m : Nat} {sp : Sp} {gV : List V → List V → List V} {E : XK} {t tk : TA}
    (h : Wp g L (t σ) fun vs L1 => Wp g L1 (tk σ) fun zs L2 => vs.length = n ∧ zs.length = m ∧ ∀ H2, At g L2 H2 → ∀ Q : V → Hp → Prop, (∀ v L' H', D v L' → At g L' H' → Q v H') → ∀ x dx, H2 x = none → H2 dx = none → dx ≠ x →
      sp (gV (.ref x :: vs) zs) (upd (upd H2 dx (.own x)) x (.ins C dx [])) (fun v H3 => v = .non ∧ Q (.ref x) H3) E) : Wp g L (tMakeK C n m sp gV E t tk σ) D :=
  fun H z Q q => h H z _ fun vs L1 H1 h1 z1 => h1 H1 z1 _ fun zs L2 H2 ⟨e1, e2, k⟩ z2 => ⟨e1, e2, fun x dx hx hdx hne => k H2 z2 Q q x dx hx hdx hne⟩
end Kr
namespace Kr
open PySem L2
theorem pe_fldK {X : Cx} {Kf : PySem.W.Frag} {e : Expr} {f : Str} {pos : Pos} {ta : TE} (hK : X.K = Kf) (he : PE X e ta) (hb : attributeBase e f X.env (eval e X.env) = eval e X.env) : PE X (.Attribute e f pos) (tFld Kf ta f) := hK ▸ pe_fld he hb
end Kr
namespace Kr
open PySem L2
theorem At.draw_news {g : Gr} {L E : Led} {H H' : Hp} {a : Addr} {e e' : Ent} {i : Nat} (z : At g L H) (k : L[i]? = some (a, e, true)) (s : Exc a H H') (h : EntAt e' H' a) (hE : ∀ q ∈ E, H q.1 = none ∧ ∃ o, H' q.1 = some o ∧ q.2.1.In H' o) (nd : (E.map (·.1)).Nodup) (hmv : e.mov2 = true := by rfl) : At g (L.set i (a, e', true) ++ E) H' := by
  have z2 := z.draw k s h hmv
  refine ⟨z2.old, fun q hq => ?_, fun q hq hb => ?_, ?_⟩
  · rcases List.mem_append.mp hq with hq | hq
    · exact z2.led q hq
    · exact (hE q hq).2
  · rcases List.mem_append.mp hq with hq | hq
    · exact z2.own q hq hb
    · by_cases hmu : g.mu q.1
      · exact .inr hmu
      · refine .inl ?_
        cases e : g.H0 q.1 with
        | none => rfl
        | some u =>
          have := (hE q hq).1
          rw [z.old q.1 u e hmu] at this
          cases this
  · rw [List.pairwise_append]
    refine ⟨z2.nd, ?_, fun x hx y hy e2 => ?_⟩
    · have := List.nodup_iff_pairwise_ne.mp nd
      rw [List.pairwise_map] at this
      exact this.imp fun hne e => absurd e hne
    · have hn := (hE y hy).1
      rcases List.mem_or_eq_of_mem_set hx with r | r
      · obtain ⟨o, h1, _⟩ := z.led x r
        rw [e2, hn] at h1
        cases h1
      · subst r
        obtain ⟨o, h1, _⟩ := z.look k
        rw [show a = y.1 from e2, hn] at h1
        cases h1
theorem wr_catI {g : Gr} {L : Led} {C : V → Led → Prop} {a a2 : Addr} {xs ys : List Int} {b1 b2 : Bool} (i j : Nat) (h1 : L[i]? = some (a, .ob (.lst (xs.map V.int)), b1)) (h2 : L[j]? = some (a2, .ob (.lst (ys.map V.int)), b2)) (hl : xs.length + ys.length ≤ 100000)
    (c : ∀ p, C (.ref p) (L ++ [(p, .ob (.lst ((xs ++ ys).map V.int)), true)])) : Wp g L (rCat (.ref a) (.ref a2)) C :=
  wr_cat i j h1 h2 (by rw [List.length_map, List.length_map]; exact hl) (by rw [← List.map_append]; exact c)
end Kr

set_option Elab.async false
set_option linter.all false
set_option maxRecDepth 100000
set_option maxHeartbeats 1000000
/-! ### least of a list; something else put into a list of tuples -/
open PySem L2
namespace Kr
section
variable {K : PySem.W.Frag} {g : Gr} {L : Led} {σ : St} {C : V → Led → Prop} {a p : Addr} {bo : Bool}
theorem wp_lst0 (c : ∀ p, C (.ref p) (L ++ [(p, .ob (.lst (([] : List Int).map V.int)), true)])) : Wp g L (tLst tNil σ) C := wp_lst (wa_nil ⟨by simp, c⟩)
theorem wc_minL {ns : List Int} (s : Seen K g L a (ns.map V.int)) (h0 : 0 < ns.length) (c : ∀ m : Int, m ∈ ns → (∀ k ∈ ns, m ≤ k) → C (.int m) L) : Wp g L (rMin K [.ref a]) C :=
  fun H z Q q => ⟨a, ns, rfl, s.at_ H z, h0, fun m h1 h2 => q _ _ _ (c m h1 h2) z⟩
theorem wr_appX {rs : List (List V)} {x : V} (i : Nat) (h : L[i]? = some (a, .rows rs, true)) (hl : rs.length < 100000) (c : ∀ xs : List V, C .non (L.set i (a, .ob (.lst xs), true))) : Wp g L (rAppend (.ref a) [x]) C :=
  fun H z Q q => by
    obtain ⟨o, h1, as, e1, hl1, h3⟩ := z.look h
    subst e1
    refine ⟨a, _, x, rfl, rfl, h1, Nat.lt_of_lt_of_le (by rw [List.length_map, hl1]; exact hl) (by decide), q _ _ _ (c (as.map V.ref ++ [x])) ?_⟩
    exact z.chg h (fun c u e z => by rw [upd_ne z]; exact e) upd_same rfl
theorem wp_bm0 {T : String} {r : V → List V → Hp → VK → Prop} {te : TE} (h : Wp g L (te σ) fun x L1 => (∀ H, At g L1 H → tyV K T x H) ∧ Wp g L1 (r x []) C) : Wp g L (tBM0 K T r te σ) C :=
  fun H z Q q => h H z _ fun x L1 H1 ⟨k, h1⟩ z1 => ⟨k H1 z1, h1 H1 z1 Q q⟩
/-- the last row taken off a list of tuples -/
theorem wr_popR {rs : List (List V)} {r : List V} (i : Nat) (h : L[i]? = some (a, .rows (rs ++ [r]), true)) (c : ∀ p, C (.ref p) (L.set i (a, .rows rs, true) ++ [(p, .ob (.tup r), false)])) : Wp g L (rPop (.ref a) []) C :=
  fun H z Q q => by
    obtain ⟨o, h1, as, e1, hl1, h3⟩ := z.look h
    subst e1
    have hne : as ≠ [] := fun e => by
      subst e
      simp at hl1
    obtain ⟨as0, p, rfl⟩ : ∃ as0 p, as = as0 ++ [p] := ⟨as.dropLast, as.getLast hne, (List.dropLast_concat_getLast hne).symm⟩
    have hl0 : as0.length = rs.length := by simpa using hl1
    have hp : H p = some (.tup r) := h3 as0.length p r (by simp) (by rw [hl0]; simp)
    have hup : ∀ (c : Addr) (u : List V) (w : HO), H c = some (.tup u) → upd H a w c = some (.tup u) := fun c u w e => by
      rw [upd_ne (fun z => by
        subst z
        rw [h1] at e
        cases e)]
      exact e
    refine ⟨a, _, .ref p, rfl, rfl, h1, by simp, q _ _ _ (c p) ?_⟩
    rw [show ((as0 ++ [p]).map V.ref).dropLast = as0.map V.ref by simp]
    have z2 := z.chg (e' := .rows rs) h (fun c u e z => by rw [upd_ne z]; exact e) (upd_same (o := .lst (as0.map V.ref))) ⟨as0, rfl, hl0, fun k c u hk hu => hup _ _ _ (h3 k c u (by rw [List.getElem?_append_left (List.getElem?_eq_some_iff.mp hk).1]; exact hk) (by rw [List.getElem?_append_left (List.getElem?_eq_some_iff.mp hu).1]; exact hu))⟩
    exact z2.addT (hup _ _ _ hp)
theorem wr_popM {α : Type} {rs : List α} {x : α} {f : α → List V} (i : Nat) (h : L[i]? = some (a, .rows ((rs ++ [x]).map f), true)) (c : ∀ p, C (.ref p) (L.set i (a, .rows (rs.map f), true) ++ [(p, .ob (.tup (f x)), false)])) : Wp g L (rPop (.ref a) []) C :=
  wr_popR i (by rw [h, List.map_append]; rfl) c
end
/-! ### enumerate of a list of tuples, with a target in a target -/
section
variable {α : Type} {g : Gr} {L : Led} {a : Addr} {i : Nat} {Kf : PySem.W.Frag} {bo : Bool} {K : PySem.W.Frag} {σ : St}
theorem iter_enumR (i1 : Nat) (is : List Nat) (row : α → List V) {xs : List α} {n : Nat} (j : Nat) (hj : L[j]? = some (a, .rows (xs.map row), bo)) (hn : ∀ x, (row x).length = n) (hi : is.length = n) :
    Iter g L (Ite Kf a) (gTup Kf 2 (gCons (gName i1) (gCons (gTup Kf n (gNames is)) gNil))) xs.zipIdx (fun x σ => setL is (row x.1) (σ.set i1 (some (.int (x.2 : Nat))))) := ⟨fun H z => by
  obtain ⟨o, h1, as, e1, hl, hr⟩ := z.look hj
  subst e1
  rw [List.length_map] at hl
  have hs : SqL Kf H a (as.map V.ref) := SqL.of h1
  refine ⟨⟨_, hs, by rw [List.length_map, List.length_zipIdx, hl]; exact Nat.le_refl _⟩, fun k x hx => ?_⟩
  rw [List.getElem?_zipIdx] at hx
  cases hq : xs[k]? with
  | none => rw [hq] at hx; cases hx
  | some y =>
    rw [hq] at hx
    have hx : (y, 0 + k) = x := Option.some.inj hx
    subst hx
    have hk : k < as.length := by
      have := (List.getElem?_eq_some_iff.mp hq).1
      omega
    have hx2 : (as.map V.ref)[k]? = some (.ref as[k]) := by rw [List.getElem?_map, List.getElem?_eq_getElem hk]; rfl
    have hx3 := hr k as[k] (row y) (List.getElem?_eq_getElem hk) (by rw [List.getElem?_map, hq]; rfl)
    refine ⟨⟨_, _, hs, hx2⟩, fun v H' hy => ?_⟩
    obtain ⟨t, w, e1, e2, e3, e4⟩ := hy
    have e5 := e4 _ hs
    rw [hx2] at e5
    have e5 := Option.some.inj e5
    subst e5 e1 e3
    have hx4 : upd H t (.tup [.int (k : Nat), .ref as[k]]) as[k] = some (.tup (row y)) := by rw [upd_ne (ne_of_none hx3 e2)]; exact hx3
    refine ⟨fun c u h => by rw [upd_ne (ne_of_none h e2)]; exact h, fun σ Q q => ⟨t, _, rfl, SqT.of upd_same, rfl, ?_⟩⟩
    have e6 : (0 + k : Nat) = k := Nat.zero_add k
    have q : Q (setL is (row y) (σ.set i1 (some (.int ((0 + k : Nat) : Int))))) _ := q
    rw [e6] at q
    exact ⟨_, _, rfl, _, _, rfl, _, _, rfl, SqT.of hx4, hn y, gNames_ok is (row y) (by rw [hi, hn]) ⟨rfl, q⟩⟩⟩
theorem wi_enumR {tr : TA} {T : It → Led → Prop} (j : Nat) (h : Wp g L (tr σ) fun vs L1 => ∃ (a : Addr) (bo : Bool) (rs : List (List V)), vs = [.ref a] ∧ L1[j]? = some (a, .rows rs, bo) ∧ T (Ite K a) L1) : Wp g L (iEnum K tr σ) T :=
  fun H z Q q => h H z _ fun x L1 H1 ⟨a, bo, rs, e, s, k⟩ z1 => by
    obtain ⟨o, h1, as, e1, _⟩ := z1.look s
    subst e1
    exact ⟨a, _, e, SqL.of h1, q _ _ _ k z1⟩
theorem room65 {k : Nat} {A : Around} (r : Room k A) : A.units + 65 < cLine := by have := r.un; omega
/-- None is no tuple of a list -/
theorem wr_inRN {C : V → Led → Prop} {rs : List (List V)} (i : Nat) (hi : L[i]? = some (a, .rows rs, bo)) (h1 : rs.all (fun r => r.all plV) = true) (c : C (.bl false) L) : Wp g L (rInD K .non (.ref a)) C :=
  .now (fun H _ z q => ⟨_, _, dp_non H z, dp_rowsG i hi h1 H z, rfl, shaped_dR rs, by
    have e : ((rs.map dR).any fun z => PyData.eqv z .none) = false := by
      rw [List.any_eq_false]
      intro x hx
      obtain ⟨r, _, rfl⟩ := List.mem_map.mp hx
      unfold dR
      simp [PyData.eqv]
    rw [e]
    exact q⟩) c
end
end Kr

set_option Elab.async false
set_option linter.all false
set_option maxRecDepth 100000
set_option maxHeartbeats 1000000
/-! ### a comprehension over a few written items, turn by turn; lists of lists -/
open PySem L2
namespace Kr
section
variable {α : Type} {g : Gr} {L : Led} {σ : St} {C : V → Led → Prop} {tt : TT} {te : TE} {tg : TG} {J : It} {S : α → St → St} {vs : List Nat}
/-- what is left to do: the items that are left, what the list at D has, the ledger -/
def Un (g : Gr) (J : It) (tg : TG) (tt : TT) (te : TE) (vs : List Nat) (σ : St) (S : α → St → St) (C : V → Led → Prop) (xs0 : List α) (D : Addr) (j : Nat) : List α → List V → Led → Prop
  | [], _, L => Iter g L J tg xs0 S ∧ C (.ref D) L
  | x :: r, acc, L => Iter g L J tg xs0 S ∧ Wp g L (tt (S x (wipe σ vs))) fun b L2 => if b = true then Wp g L2 (te (S x (wipe σ vs))) fun y L3 => L3[j]? = some (D, .ob (.lst acc), true) ∧ acc.length < 100000 ∧ Un g J tg tt te vs σ S C xs0 D j r (acc ++ [y]) (L3.set j (D, .ob (.lst (acc ++ [y])), true)) else L2[j]? = some (D, .ob (.lst acc), true) ∧ Un g J tg tt te vs σ S C xs0 D j r acc L2
variable {xs0 r : List α} {x : α} {D : Addr} {j : Nat} {acc : List V}
theorem un_cons (it : Iter g L J tg xs0 S) (h : Wp g L (tt (S x (wipe σ vs))) fun b L2 => if b = true then Wp g L2 (te (S x (wipe σ vs))) fun y L3 => L3[j]? = some (D, .ob (.lst acc), true) ∧ acc.length < 100000 ∧ Un g J tg tt te vs σ S C xs0 D j r (acc ++ [y]) (L3.set j (D, .ob (.lst (acc ++ [y])), true)) else L2[j]? = some (D, .ob (.lst acc), true) ∧ Un g J tg tt te vs σ S C xs0 D j r acc L2) : Un g J tg tt te vs σ S C xs0 D j (x :: r) acc L := ⟨it, h⟩
theorem un_nil (it : Iter g L J tg xs0 S) (h : C (.ref D) L) : Un g J tg tt te vs σ S C xs0 D j [] acc L := ⟨it, h⟩
theorem un_nf {xs : List α} {acc' : List V} {L' : Led} (e1 : acc = acc') (e2 : L = L') (h : Un g J tg tt te vs σ S C xs0 D j xs acc' L') : Un g J tg tt te vs σ S C xs0 D j xs acc L := by
  subst e1 e2
  exact h
theorem Un.it : ∀ {xs : List α} {acc : List V} {L : Led}, Un g J tg tt te vs σ S C xs0 D j xs acc L → Iter g L J tg xs0 S
  | [], _, _, h => h.1
  | _ :: _, _, _, h => h.1
theorem lc_U {xs : List α} (it0 : Iter g L J tg xs S) (hw : ∀ x, wipe (S x (wipe σ vs)) vs = wipe σ vs) (h : ∀ D, Un g J tg tt te vs σ S C xs D L.length xs [] (L ++ [(D, .ob (.lst []), true)])) : WLc g L J tg tt te vs σ C := fun H z Q q D hD => by
  refine ⟨fun i m H => i ≤ xs.length ∧ m = xs.length - i ∧ ∃ acc L', L'[L.length]? = some (D, .ob (.lst acc), true) ∧ At g L' H ∧ Un g J tg tt te vs σ S C xs D L.length (xs.drop i) acc L', ⟨xs.length, Nat.zero_le _, rfl, [], L ++ [(D, .ob (.lst []), true)], by simp, z.upd_new hD, (by rw [List.drop_zero]; exact h D)⟩, ?_⟩
  rintro i m H ⟨hi0, rfl, acc, L', hj, z, u⟩
  obtain ⟨h1, h2⟩ := u.it.at_ H z
  by_cases hlt : i < xs.length
  · have hxi := List.getElem?_eq_getElem hlt
    obtain ⟨h3, h4⟩ := h2 i xs[i] hxi
    refine .inr ⟨h3, fun H' => ∃ acc L', L'[L.length]? = some (D, .ob (.lst acc), true) ∧ At g L' H' ∧ Un g J tg tt te vs σ S C xs D L.length (xs.drop (i + 1)) acc L', fun H' q => ⟨xs.length - (i + 1), by omega, hlt, rfl, q⟩, fun v H' y => ?_⟩
    obtain ⟨h5, h6⟩ := h4 v H' y
    refine h6 _ _ ⟨hw _, ?_⟩
    rw [List.drop_eq_getElem_cons hlt] at u
    obtain ⟨_, u⟩ := u
    refine u H' (z.same h5) _ fun b L2 H2 k z2 => ?_
    cases b with
    | true =>
      have k : Wp g L2 _ _ := k
      show te _ _ _
      refine k H2 z2 _ fun y L3 H3 ⟨k1, k2, k3⟩ z3 => ?_
      refine ⟨acc, z3.get k1, Nat.lt_of_lt_of_le k2 (by decide), _, _, ?_, z3.upd_chg (o := .lst (acc ++ [y])) k1, k3⟩
      exact List.getElem?_set_self (List.getElem?_eq_some_iff.mp k1).1
    | false => exact ⟨acc, L2, k.1, z2, k.2⟩
  · have e1 : i = xs.length := by omega
    subst e1
    rw [List.drop_length] at u
    exact .inl ⟨h1, q _ _ _ u.2 z⟩
end
section
variable {g : Gr} {L : Led} {σ : St} {C : V → Led → Prop} {a : Addr} {i : Nat} {Kf : PySem.W.Frag}
/-- a list whose items are any values -/
theorem iter_listV {xs : List V} (s : Seen Kf g L a xs) : Iter g L (Itl Kf a) (gName i) xs (fun x σ => σ.set i (some x)) := ⟨fun H z => by
  obtain ⟨h1, h2⟩ := (iter_list (i := i) id (xs := xs) (by rw [List.map_id]; exact s)).at_ H z
  exact ⟨h1, h2⟩⟩
theorem wg_unl {N : St → Led → Prop} {n : Nat} {u : TGs} {xs : List V} (s : Seen Kf g L a xs) (hn : xs.length = n) (h : Wgs g L u xs σ N) : Wg g L (gUnl Kf n u) (.ref a) σ N := fun H z Q q => ⟨a, xs, rfl, s.at_ H z, hn, h H z Q q⟩
theorem wr_catL {a2 : Addr} {xs ys zs : List V} {b1 b2 : Bool} (i j : Nat) (h1 : L[i]? = some (a, .ob (.lst xs), b1)) (h2 : L[j]? = some (a2, .ob (.lst ys), b2)) (e : xs ++ ys = zs) (hl : xs.length + ys.length ≤ 100000)
    (c : ∀ p, C (.ref p) (L ++ [(p, .ob (.lst zs), true)])) : Wp g L (rCat (.ref a) (.ref a2)) C := by
  subst e
  exact wr_cat i j h1 h2 hl c
theorem wr_slLL {xs zs : List V} {lo hi : Option Int} (s : Seen Kf g L a xs) (e : cutV xs lo hi = zs) (c : ∀ p, C (.ref p) (L ++ [(p, .ob (.lst zs), true)])) : Wp g L (rSlL Kf (.ref a) lo hi) C := by
  subst e
  exact wr_slL s c
end
theorem pi_listK {X : Cx} {tg e : Expr} {te : TE} {Kf : PySem.W.Frag} (hK : X.K = Kf) (he : PE X e te) : PI X tg e (iList Kf te) := hK ▸ pi_list he
/-! ### unpacking of a list or a tuple -/
def gOr (t1 t2 : TG) : TG := fun v σ H Q => t1 v σ H Q ∨ t2 v σ H Q
theorem pg_or {X : Cx} {tg : Expr} {t1 t2 : TG} (h1 : PG X tg t1) (h2 : PG X tg t2) : PG X tg (gOr t1 t2) := ⟨fun pins s σ H v u Q I r hw => hw.elim (fun h => h1.run pins s σ H v u Q I r h) (fun h => h2.run pins s σ H v u Q I r h)⟩
theorem wg_seq {g : Gr} {L : Led} {σ : St} {Kf Kf' : PySem.W.Frag} {N : St → Led → Prop} {n n' : Nat} {u : TGs} {a : Addr} {xs : List V} (hs : g.H0 a = some (.tup xs) ∨ g.H0 a = some (.lst xs)) (hm : ¬ g.mu a) (hn : xs.length = n) (hn' : xs.length = n') (h : Wgs g L u xs σ N) : Wg g L (gOr (gTup Kf n u) (gUnl Kf' n' u)) (.ref a) σ N :=
  fun H z Q q => by
    rcases hs with e | e
    · exact .inl ⟨a, xs, rfl, SqT.of (z.old _ _ e hm), hn, h H z Q q⟩
    · exact .inr ⟨a, xs, rfl, SqL.of (z.old _ _ e hm), hn', h H z Q q⟩
/-! ### a list of tuples and one tuple more -/
section
variable {g : Gr} {L : Led} {C : V → Led → Prop} {a a2 p : Addr} {b1 b2 b3 : Bool}
theorem wr_catRT {rs : List (List V)} {r : List V} (i j k : Nat) (h : L[i]? = some (a, .rows rs, b1)) (h2 : L[j]? = some (a2, .ob (.lst [.ref p]), b2)) (h3 : L[k]? = some (p, .ob (.tup r), b3)) (hl : rs.length ≤ 99999) (c : ∀ q, C (.ref q) (L ++ [(q, .rows (rs ++ [r]), true)])) : Wp g L (rCat (.ref a) (.ref a2)) C :=
  fun H z Q q => by
    obtain ⟨o, h1, as, e1, hl1, h4⟩ := z.look h
    subst e1
    refine ⟨a, a2, _, _, rfl, rfl, h1, z.get h2, Nat.le_trans (by rw [List.length_map, hl1]; simp; omega : _ ≤ 100000) (by decide), fun s hs => q _ _ _ (c s) ?_⟩
    have up : ∀ (c : Addr) (u : HO), H c = some u → upd H s (.lst (as.map V.ref ++ [.ref p])) c = some u := fun c u e => by rw [upd_ne (ne_of_none e hs)]; exact e
    refine z.newE up hs upd_same ⟨as ++ [p], by simp, by simp [hl1], fun k' c' u hk hu => ?_⟩
    by_cases q1 : k' < as.length
    · rw [List.getElem?_append_left q1] at hk
      rw [List.getElem?_append_left (by omega)] at hu
      exact up _ _ (h4 k' c' u hk hu)
    · rw [List.getElem?_append_right (by omega)] at hk
      rw [List.getElem?_append_right (by omega), ← hl1] at hu
      have e0 : k' - as.length = 0 := by
        have := (List.getElem?_eq_some_iff.mp hk).1
        simp at this
        omega
      rw [e0] at hk hu
      have hk : p = c' := Option.some.inj hk
      have hu : r = u := Option.some.inj hu
      subst hk hu
      exact up _ _ (z.get h3)
end
/-! ### None, or a new tuple of a number and a number or None -/
section
def kW {β : Type} (row : β → List V) (A : Prop) (R : β → Prop) : Ks := { nx := fun _ _ => A, rt := fun v L => (v = .non ∧ A) ∨ ∃ (x : β) (p : Addr) (i : Nat), v = .ref p ∧ L[i]? = some (p, Ent.ob (.tup (row x)), true) ∧ R x }
theorem eo_W {β : Type} {row : β → List V} {H0 : Hp} {A : Prop} {R : β → Prop} {Q : VK} (h1 : A → ∀ H', Same H0 H' → Q .non H') (h2 : ∀ x p H', R x → H0 p = none → Same H0 H' → H' p = some (.tup (row x)) → Q (.ref p) H') : Eo ⟨H0, fun _ => False⟩ (kW row A R) { nx := fun _ H' => Q .non H', rt := Q } :=
  ⟨fun σ L H k z => h1 k _ z.since, fun v L H k z => by
    rcases k with ⟨e, k⟩ | ⟨x, p, i, e, k, r⟩
    · subst e
      exact h1 k _ z.since
    · subst e
      refine h2 x p H r ?_ z.since (z.get k)
      rcases z.own _ (List.mem_of_getElem? k) rfl with q | q
      · exact q
      · exact q.elim, fun _ _ _ e _ => e.elim, fun _ _ _ e _ => e.elim⟩
end
/-! ### loops: two own objects grow; a name that gets a new object in each turn -/
section
variable {α : Type} {g : Gr} {L : Led} {σ : St} {K : Ks} {tg : TG} {tb : TS} {J : It} {xs : List α} {S : α → St → St}
theorem wf_Gs (I : Nat → St → Led → Prop) (it : ∀ i σ L, I i σ L → Iter g L J tg xs S) (h0 : I 0 σ L)
    (hs : ∀ i x σ L, xs[i]? = some x → I i σ L → Ws g L tb (S x σ) { K with nx := fun σ' L' => ∃ L3, I (i + 1) σ' L3 ∧ L3.Sublist L', ct := fun σ' L' => ∃ L3, I (i + 1) σ' L3 ∧ L3.Sublist L', bk := K.nx })
    (hd : ∀ σ L, I xs.length σ L → K.nx σ L) : WFor g L J tg tb σ K := fun H z D e => by
  refine ⟨fun i m σ H => i ≤ xs.length ∧ m = xs.length - i ∧ ∃ L, I i σ L ∧ At g L H, ⟨xs.length, Nat.zero_le _, rfl, L, h0, z⟩, ?_⟩
  rintro i m σ H ⟨hi, rfl, L, k, z⟩
  obtain ⟨h1, h2⟩ := (it i σ L k).at_ H z
  by_cases hlt : i < xs.length
  · obtain ⟨h3, h4⟩ := h2 i xs[i] (List.getElem?_eq_getElem hlt)
    refine .inr ⟨h3, fun σ' H' => ∃ L, I (i + 1) σ' L ∧ At g L H', fun σ' H' q => ⟨xs.length - (i + 1), by omega, hlt, rfl, q⟩, fun v H' y => ?_⟩
    obtain ⟨h5, h6⟩ := h4 v H' y
    refine h6 σ _ ?_
    have kk : ∀ σ' L' H', (∃ L3, I (i + 1) σ' L3 ∧ L3.Sublist L') → At g L' H' → ∃ L, I (i + 1) σ' L ∧ At g L H' := fun σ' L' H' ⟨L3, hi, hp⟩ z' => ⟨L3, hi, z'.sub hp⟩
    exact hs i xs[i] σ L (List.getElem?_eq_getElem hlt) k H' (z.same h5) _ ⟨kk, e.rt, e.nx, kk⟩
  · have e1 : i = xs.length := by omega
    subst e1
    exact .inl ⟨h1, e.nx _ _ _ (hd σ L k) z⟩
theorem wf_A2 (j j2 : Nat) {a a2 : Addr} {e0 e02 : Ent} (hj : L[j]? = some (a, e0, true)) (hj2 : L[j2]? = some (a2, e02, true)) (hne : j ≠ j2) (it : ∀ e e2, Iter g ((L.set j (a, e, true)).set j2 (a2, e2, true)) J tg xs S) (I : Nat → List (Option (Option V)) → Ent → Ent → Prop) (h0 : ∃ vs, σ = putA σ vs ∧ I 0 vs e0 e02)
    (hs : ∀ i x vs e e2, xs[i]? = some x → I i vs e e2 → Ws g ((L.set j (a, e, true)).set j2 (a2, e2, true)) tb (S x (putA σ vs)) { K with nx := fun σ' L' => ∃ vs' e' e2', (σ' = putA σ vs' ∧ I (i + 1) vs' e' e2') ∧ (L.set j (a, e', true)).set j2 (a2, e2', true) <+: L', ct := fun σ' L' => ∃ vs' e' e2', (σ' = putA σ vs' ∧ I (i + 1) vs' e' e2') ∧ (L.set j (a, e', true)).set j2 (a2, e2', true) <+: L', bk := K.nx })
    (hd : ∀ vs e e2, I xs.length vs e e2 → K.nx (putA σ vs) ((L.set j (a, e, true)).set j2 (a2, e2, true))) : WFor g L J tg tb σ K := by
  obtain ⟨vs0, e0', k0⟩ := h0
  have hL : (L.set j (a, e0, true)).set j2 (a2, e02, true) = L := by
    rw [set_self hj, set_self hj2]
  refine wf_G (xs := xs) (S := S) (fun i σ' L' => ∃ vs e e2, (σ' = putA σ vs ∧ I i vs e e2) ∧ L' = (L.set j (a, e, true)).set j2 (a2, e2, true)) (fun i σ' L' ⟨vs, e, e2, _, q⟩ => q ▸ it e e2) ⟨vs0, _, _, ⟨e0', k0⟩, hL.symm⟩ ?_ ?_
  · rintro i x σ' L' hi ⟨vs, en, en2, ⟨rfl, k⟩, rfl⟩
    intro H3 z3 D e
    have kk : ∀ σ' L'' H', (∃ vs' e' e2', (σ' = putA σ vs' ∧ I (i + 1) vs' e' e2') ∧ (L.set j (a, e', true)).set j2 (a2, e2', true) <+: L'') → At g L'' H' → D.nx σ' H' := fun σ' L'' H' ⟨vs', e', e2', h1, h2⟩ z' => e.nx σ' L'' H' ⟨_, ⟨vs', e', e2', h1, rfl⟩, h2⟩ z'
    have kc : ∀ σ' L'' H', (∃ vs' e' e2', (σ' = putA σ vs' ∧ I (i + 1) vs' e' e2') ∧ (L.set j (a, e', true)).set j2 (a2, e2', true) <+: L'') → At g L'' H' → D.ct σ' H' := fun σ' L'' H' ⟨vs', e', e2', h1, h2⟩ z' => e.ct σ' L'' H' ⟨_, ⟨vs', e', e2', h1, rfl⟩, h2⟩ z'
    exact hs i x vs en en2 hi k H3 z3 D ⟨kk, e.rt, e.bk, kc⟩
  · rintro σ' L' ⟨vs, en, en2, ⟨rfl, k⟩, rfl⟩
    exact hd vs en en2 k
theorem sub_one {L0 L' : Led} {e : Addr × Ent × Bool} (h : L0 <+: L') (hq : ∃ q, L0.length ≤ q ∧ L'[q]? = some e) : (L0 ++ [e]).Sublist L' := by
  obtain ⟨r, rfl⟩ := h
  obtain ⟨q, h1, h2⟩ := hq
  rw [List.getElem?_append_right h1] at h2
  exact List.Sublist.append (List.Sublist.refl _) (List.singleton_sublist.mpr (List.mem_of_getElem? h2))
theorem wf_X1 (L0 : Led) (x0 : Addr × Ent × Bool) (hL : L = L0 ++ [x0]) (it : ∀ e, Iter g (L0 ++ [e]) J tg xs S) (I : Nat → List (Option (Option V)) → (Addr × Ent × Bool) → Prop) (h0 : ∃ vs, σ = putA σ vs ∧ I 0 vs x0)
    (hs : ∀ i x vs e, xs[i]? = some x → I i vs e → Ws g (L0 ++ [e]) tb (S x (putA σ vs)) { K with nx := fun σ' L' => ∃ vs' e', (σ' = putA σ vs' ∧ I (i + 1) vs' e') ∧ L0 <+: L' ∧ ∃ q, L0.length ≤ q ∧ L'[q]? = some e', ct := fun σ' L' => ∃ vs' e', (σ' = putA σ vs' ∧ I (i + 1) vs' e') ∧ L0 <+: L' ∧ ∃ q, L0.length ≤ q ∧ L'[q]? = some e', bk := K.nx })
    (hd : ∀ vs e, I xs.length vs e → K.nx (putA σ vs) (L0 ++ [e])) : WFor g L J tg tb σ K := by
  obtain ⟨vs0, e0', k0⟩ := h0
  subst hL
  refine wf_Gs (xs := xs) (S := S) (fun i σ' L' => ∃ vs e, (σ' = putA σ vs ∧ I i vs e) ∧ L' = L0 ++ [e]) (fun i σ' L' ⟨vs, e, _, q⟩ => q ▸ it e) ⟨vs0, _, ⟨e0', k0⟩, rfl⟩ ?_ ?_
  · rintro i x σ' L' hi ⟨vs, en, ⟨rfl, k⟩, rfl⟩
    intro H3 z3 D e
    have kk : ∀ σ' L'' H', (∃ vs' e', (σ' = putA σ vs' ∧ I (i + 1) vs' e') ∧ L0 <+: L'' ∧ ∃ q, L0.length ≤ q ∧ L''[q]? = some e') → At g L'' H' → D.nx σ' H' := fun σ' L'' H' ⟨vs', e', h1, h2, h3⟩ z' => e.nx σ' L'' H' ⟨_, ⟨vs', e', h1, rfl⟩, sub_one h2 h3⟩ z'
    have kc : ∀ σ' L'' H', (∃ vs' e', (σ' = putA σ vs' ∧ I (i + 1) vs' e') ∧ L0 <+: L'' ∧ ∃ q, L0.length ≤ q ∧ L''[q]? = some e') → At g L'' H' → D.ct σ' H' := fun σ' L'' H' ⟨vs', e', h1, h2, h3⟩ z' => e.ct σ' L'' H' ⟨_, ⟨vs', e', h1, rfl⟩, sub_one h2 h3⟩ z'
    exact hs i x vs en hi k H3 z3 D ⟨kk, e.rt, e.bk, kc⟩
  · rintro σ' L' ⟨vs, en, ⟨rfl, k⟩, rfl⟩
    exact hd vs en k
end
end Kr
/-! ### a comprehension over a list of ints, with draws and a test -/
namespace Kr
open PySem L2
section
variable {g : Gr} {L : Led} {σ : St} {C C' : V → Led → Prop} {tt : TT} {te : TE} {i : Nat}
theorem lc_ID (E : Nat → Ent) (hE : ∀ {n m : Nat} {H : Hp} {o : HO}, n ≤ m → (E n).In H o → (E m).In H o) {Kf : PySem.W.Frag} {b : Addr} {ns : List Int} {bo : Bool} (j c N m : Nat) {a : Addr} {n0 : Nat} (P : Int → Prop) (hj : L[j]? = some (a, E n0, true)) (hm : L[m]? = some (b, .ob (.lst (ns.map V.int)), bo)) (hmj : m ≠ j) (hN : ns.length ≤ N) (hl : N ≤ 99999)
    (hs : ∀ (k : Nat) (x : Int), ns[k]? = some x → ∀ (D : Addr) (acc : List V), Wp g (L.set j (a, E (n0 + c * k), true) ++ [(D, .ob (.lst acc), true)]) (tt ((wipe σ [i]).set i (some (.int x)))) fun b L2 => if b = true then
      Wp g L2 (te ((wipe σ [i]).set i (some (.int x)))) (fun y L3 => (∃ v : Int, y = .int v ∧ P v) ∧ ∃ d, d ≤ c ∧ (L.set j (a, E (n0 + c * k + d), true) ++ [(D, .ob (.lst acc), true)]) <+: L3) else (L.set j (a, E (n0 + c * k), true) ++ [(D, .ob (.lst acc), true)]) <+: L2)
    (cc : ∀ (D : Addr) (ys : List Int), ys.length ≤ N → (∀ y ∈ ys, P y) → C (.ref D) (L.set j (a, E (n0 + c * N), true) ++ [(D, .ob (.lst (ys.map V.int)), true)])) (hEm : ∀ n, (E n).mov2 = true := by intro _; rfl) : WLc g L (Itl Kf b) (gName i) tt te [i] σ C := fun H z Q q D hD => by
  have hjl : j < L.length := (List.getElem?_eq_some_iff.mp hj).1
  have hi : ∀ (e : Addr × Ent × Bool) (o : HO), (L.set j e ++ [(D, Ent.ob o, true)])[L.length]? = some (D, Ent.ob o, true) := fun e o => by
    rw [List.getElem?_append_right (by rw [List.length_set]; exact Nat.le_refl _), List.length_set, Nat.sub_self]
    rfl
  have weak : ∀ {k k' : Nat} {ys : List V} {H : Hp}, k ≤ k' → At g (L.set j (a, E k, true) ++ [(D, .ob (.lst ys), true)]) H → At g (L.set j (a, E k', true) ++ [(D, .ob (.lst ys), true)]) H := fun {k k' ys H} hk z => by
    have hj2 : (L.set j (a, E k, true) ++ [(D, Ent.ob (.lst ys), true)])[j]? = some (a, E k, true) := by
      rw [List.getElem?_append_left (by rw [List.length_set]; exact hjl), List.getElem?_set_self hjl]
    have z6 := z.weak (i := j) (e' := E k') hj2 (fun _ o ho => hE hk ho) (hEm _)
    rw [List.set_append_left _ _ (by rw [List.length_set]; exact hjl), List.set_set] at z6
    exact z6
  refine lc_list (K := Kf) (a := b) (xs := ns.map V.int) (fun k H => ∃ ys : List Int, ys.length ≤ k ∧ (∀ y ∈ ys, P y) ∧ At g (L.set j (a, E (n0 + c * k), true) ++ [(D, .ob (.lst (ys.map V.int)), true)]) H) ⟨[], Nat.le_refl _, fun y h => (by cases h), ?_⟩ (fun k H _ ⟨ys, _, _, z⟩ => ?_) (fun k x H hx ⟨ys, h1, h2, z⟩ => ?_) fun H ⟨ys, h1, h2, z⟩ => ?_
  · rw [Nat.mul_zero, Nat.add_zero, set_self hj]
    exact z.upd_new hD
  · refine (seen (K := Kf) (xs := ns.map V.int) (bo := bo) m ?_).at_ H z
    have hml : m < L.length := (List.getElem?_eq_some_iff.mp hm).1
    rw [List.getElem?_append_left (by rw [List.length_set]; exact hml), List.getElem?_set_ne (Ne.symm hmj), hm]
  · rw [List.getElem?_map] at hx
    obtain ⟨n, hn, rfl⟩ := Option.map_eq_some_iff.mp hx
    have hk : k < ns.length := (List.getElem?_eq_some_iff.mp hn).1
    refine ⟨wipe1 σ i _, ?_⟩
    refine hs k n hn D _ H z _ fun b L2 H2 kk z2 => ?_
    cases b with
    | false =>
      have kk : _ <+: L2 := kk
      exact ⟨ys, by omega, h2, weak (by have : c * (k + 1) = c * k + c := Nat.mul_succ c k; omega) (z2.pre kk)⟩
    | true =>
      show te _ _ _
      refine kk H2 z2 _ fun y L3 H3 ⟨⟨v, ey, hv⟩, d, hd, hpre⟩ z3 => ?_
      subst ey
      have z4 := z3.pre hpre
      refine ⟨ys.map V.int, z4.get (hi _ _), by rw [List.length_map]; exact Nat.lt_of_lt_of_le (show ys.length < 99999 + 1 by omega) (by decide), ys ++ [v], by simp; omega, fun y hy => ?_, ?_⟩
      · rcases List.mem_append.mp hy with h | h
        · exact h2 y h
        · have : y = v := by simpa using h
          exact this ▸ hv
      · have z5 := z4.upd_chg (o := .lst (ys.map V.int ++ [.int v])) (hi _ _)
        have e1 : (L.set j (a, E (n0 + c * k + d), true) ++ [(D, Ent.ob (.lst (ys.map V.int)), true)]).set L.length (D, Ent.ob (.lst (ys.map V.int ++ [.int v])), true) = L.set j (a, E (n0 + c * k + d), true) ++ [(D, Ent.ob (.lst (ys.map V.int ++ [.int v])), true)] := by
          rw [List.set_append_right _ _ (by rw [List.length_set]; exact Nat.le_refl _), List.length_set, Nat.sub_self]
          rfl
        rw [e1] at z5
        rw [List.map_append]
        exact weak (by have : c * (k + 1) = c * k + c := Nat.mul_succ c k; omega) z5
  · rw [List.length_map] at h1 z
    exact q _ _ _ (cc D ys (by omega) h2) (weak (by have := Nat.mul_le_mul_left c hN; omega) z)
end
end Kr

set_option Elab.async false
set_option linter.all false
set_option maxRecDepth 100000
namespace Kr
open PySem L2
/-! ### a result that is None or a new list of ints -/
def kWL (A : Prop) (R : List Int → Prop) : Ks := { nx := fun _ _ => A, rt := fun v L => (v = .non ∧ A) ∨ ∃ (x : List Int) (p : Addr) (i : Nat), v = .ref p ∧ L[i]? = some (p, Ent.ob (.lst (x.map V.int)), true) ∧ R x }
theorem eo_WL {H0 : Hp} {A : Prop} {R : List Int → Prop} {Q : VK} (h1 : A → ∀ H', Same H0 H' → Q .non H') (h2 : ∀ x p H', R x → H0 p = none → Same H0 H' → H' p = some (.lst (x.map V.int)) → Q (.ref p) H') : Eo ⟨H0, fun _ => False⟩ (kWL A R) { nx := fun _ H' => Q .non H', rt := Q } :=
  ⟨fun _ _ _ hA z => h1 hA _ z.since, fun v L H' hk z => by
    rcases hk with ⟨rfl, hA⟩ | ⟨x, p, i, rfl, hi, hR⟩
    · exact h1 hA _ z.since
    · exact h2 x p H' hR (by
        rcases z.own _ (List.mem_of_getElem? hi) rfl with q | q
        · exact q
        · exact q.elim) z.since (z.get hi), fun _ _ _ hk _ => hk.elim, fun _ _ _ hk _ => hk.elim⟩
end Kr
namespace Kr
open PySem L2
theorem ws_par3 {g : Gr} {L : Led} {σ : St} {K : Ks} {i j l : Nat} {tr : TA} (h : Wp g L (tr σ) fun vs L1 => ∃ u v w, vs = [u, v, w] ∧ K.nx (((σ.set i (some u)).set j (some v)).set l (some w)) L1) : Ws g L (tPar3 i j l tr) σ K :=
  fun H z D e => h H z _ fun vs L1 H1 ⟨u, v, w, e1, k⟩ z1 => ⟨u, v, w, e1, e.nx _ _ _ k z1⟩
end Kr

namespace Kr
open PySem L2
/-! ### None, or a new tuple of a number and a new list of ints -/
def kPL (A : Prop) (R : Int → List Int → Prop) : Ks := { nx := fun _ _ => A, rt := fun v L => (v = .non ∧ A) ∨ ∃ (d : Int) (ns : List Int) (q p : Addr) (i j : Nat), v = .ref p ∧ i ≠ j ∧ L[i]? = some (q, Ent.ob (.lst (ns.map V.int)), true) ∧ L[j]? = some (p, Ent.ob (.tup [.int d, .ref q]), true) ∧ R d ns }
theorem eo_PL {H0 : Hp} {A : Prop} {R : Int → List Int → Prop} {Q : VK} (h1 : A → ∀ H', Same H0 H' → Q .non H') (h2 : ∀ d ns q p H', R d ns → q ≠ p → H0 q = none → H0 p = none → Same H0 H' → H' q = some (.lst (ns.map V.int)) → H' p = some (.tup [.int d, .ref q]) → Q (.ref p) H') :
    Eo ⟨H0, fun _ => False⟩ (kPL A R) { nx := fun _ H' => Q .non H', rt := Q } :=
  ⟨fun _ _ _ hA z => h1 hA _ z.since, fun v L H' hk z => by
    rcases hk with ⟨rfl, hA⟩ | ⟨d, ns, q, p, i, j, rfl, hij, e1, e2, hR⟩
    · exact h1 hA _ z.since
    · have nn : ∀ {l : Nat} {c : Addr} {u : Ent}, L[l]? = some (c, u, true) → H0 c = none := fun hc => by
        rcases z.own _ (List.mem_of_getElem? hc) rfl with w | w
        · exact w
        · exact w.elim
      exact h2 d ns q p H' hR (z.ne e1 e2 hij (.inl rfl)) (nn e1) (nn e2) z.since (z.get e1) (z.get e2), fun _ _ _ hk _ => hk.elim, fun _ _ _ hk _ => hk.elim⟩
end Kr

namespace Kr
open PySem L2
theorem wr_eqRN {K : PySem.W.Frag} {g : Gr} {L : Led} {C : V → Led → Prop} {a a2 : Addr} {bo : Bool} {xs : List (Int × Int)} (j : Nat) (hj : L[j]? = some (a, .rows (xs.map row2), bo)) (s2 : Seen K g L a2 []) (c : C (.bl (decide (xs = []))) L) : Wp g L (rEqD K (.ref a) (.ref a2)) C :=
  wr_eqD (dp_rows j hj) (dp_lst s2 dps_nil) (shaped_P xs) rfl (by
    have e : PyData.eqv (.list (xs.map dpP)) (.list []) = decide (xs = []) := by
      unfold PyData.eqv
      exact eqv_P xs []
    rw [e]
    exact c)
end Kr

set_option Elab.async false
set_option linter.all false
set_option maxRecDepth 100000
set_option maxHeartbeats 4000000
namespace Kr
open PySem L2 PySem.W
/-! ### zip of two lists -/
section
variable {K Kf : PySem.W.Frag} {g : Gr} {L : Led} {σ : St} {C : V → Led → Prop} {a b p : Addr} {bo : Bool} {α β : Type}
theorem wi_zip {tr : TA} {T : It → Led → Prop} (h : Wp g L (tr σ) fun vs L1 => ∃ (a b : Addr) (xs ys : List V), vs = [.ref a, .ref b] ∧ Seen K g L1 a xs ∧ Seen K g L1 b ys ∧ T (Itz K a b) L1) : Wp g L (iZip K tr σ) T :=
  fun H z Q q => h H z _ fun vs L1 H1 ⟨a, b, xs, ys, e, s1, s2, k⟩ z1 => ⟨a, b, xs, ys, e, s1.at_ H1 z1, s2.at_ H1 z1, q _ _ _ k z1⟩
theorem iter_zip (i1 i2 : Nat) (T : α → V) (T2 : β → V) {xs : List α} {ys : List β} (s : Seen Kf g L a (xs.map T)) (s2 : Seen Kf g L b (ys.map T2)) : Iter g L (Itz Kf a b) (gTup Kf 2 (gNames [i1, i2])) (xs.zip ys) (fun x σ => (σ.set i1 (some (T x.1))).set i2 (some (T2 x.2))) := ⟨fun H z => by
  have hs := s.at_ H z
  have hs2 := s2.at_ H z
  refine ⟨⟨_, _, hs, hs2, by rw [List.length_map, List.length_map, List.length_zip]; omega⟩, fun k x hx => ?_⟩
  obtain ⟨x, y⟩ := x
  rw [List.getElem?_zip_eq_some] at hx
  obtain ⟨q1, q2⟩ := hx
  have hx2 : (xs.map T)[k]? = some (T x) := by rw [List.getElem?_map, q1]; rfl
  have hy2 : (ys.map T2)[k]? = some (T2 y) := by rw [List.getElem?_map, q2]; rfl
  refine ⟨⟨_, _, _, _, hs, hs2, hx2, hy2⟩, fun v H' hy => ?_⟩
  obtain ⟨t, w, w2, e1, e2, e3, e4, e5⟩ := hy
  have e6 := e4 _ hs
  have e7 := e5 _ hs2
  rw [hx2] at e6
  rw [hy2] at e7
  have e6 := Option.some.inj e6
  have e7 := Option.some.inj e7
  subst e6 e7 e1 e3
  refine ⟨fun c u h => by rw [upd_ne (ne_of_none h e2)]; exact h, fun σ Q q => ⟨t, _, rfl, SqT.of upd_same, rfl, ?_⟩⟩
  exact gNames_ok [i1, i2] [T x, T2 y] rfl q⟩
/-! ### a slice of a tuple -/
theorem wr_slT {xs zs : List V} {lo hi : Option Int} {n : Nat} (s : SeenT K g L a xs) (hn : xs.length = n) (hw : ¬ (HT.sIx n 0 lo = 0 ∧ HT.sIx n n hi = n)) (e : cutV xs lo hi = zs) (c : ∀ p, C (.ref p) (L ++ [(p, .ob (.tup zs), true)])) : Wp g L (rSlT K (.ref a) lo hi) C := by
  subst e hn
  exact fun H z Q q => ⟨a, xs, rfl, s.at_ H z, hw, fun p hp => q _ _ _ (c p) (z.upd_new hp)⟩
/-! ### (rows + [None]): what stands first -/
theorem wr_catH {rs : List (List V)} {a2 : Addr} {b1 b2 : Bool} (i j : Nat) (h1 : L[i]? = some (a, .rows rs, b1)) (h2 : L[j]? = some (a2, .ob (.lst [.non]), b2)) (hl : rs.length < 99999)
    (c0 : rs = [] → ∀ p, C (.ref p) (L ++ [(p, .ob (.lst [.non]), true)])) (c1 : ∀ r rest, rs = r :: rest → ∀ (a0 : Addr) (zs : List V) (p : Addr), C (.ref p) ((L ++ [(a0, .ob (.tup r), false)]) ++ [(p, .ob (.lst (.ref a0 :: zs)), true)])) : Wp g L (rCat (.ref a) (.ref a2)) C :=
  fun H z Q q => by
    obtain ⟨o, ho, as, e1, hl1, h3⟩ := z.look h1
    subst e1
    refine ⟨a, a2, _, _, rfl, rfl, ho, z.get h2, Nat.le_trans (show (as.map V.ref).length + 1 ≤ 100000 by rw [List.length_map, hl1]; omega) (by decide), fun p hp => ?_⟩
    cases rs with
    | nil =>
      have : as = [] := List.length_eq_zero_iff.mp (by simpa using hl1)
      subst this
      exact q _ _ _ (c0 rfl p) (z.upd_new hp)
    | cons r rest =>
      cases as with
      | nil => cases hl1
      | cons a0 as =>
        have ht := h3 0 a0 r rfl rfl
        exact q _ _ _ (c1 r rest rfl a0 _ p) ((z.addT ht).upd_new hp)
/-! ### None, or a tuple of two ints that stands there -/
def kPT (A : Prop) (R : Int → Int → Prop) : Ks := { nx := fun _ _ => False, rt := fun v L => (v = .non ∧ A) ∨ ∃ (x y : Int) (p : Addr) (i : Nat) (bo : Bool), v = .ref p ∧ L[i]? = some (p, Ent.ob (.tup [.int x, .int y]), bo) ∧ R x y }
theorem eo_PT {H0 : Hp} {A : Prop} {R : Int → Int → Prop} {Q : VK} (h1 : A → ∀ H', Same H0 H' → Q .non H') (h2 : ∀ x y p H', R x y → Same H0 H' → H' p = some (.tup [.int x, .int y]) → Q (.ref p) H') : Eo ⟨H0, fun _ => False⟩ (kPT A R) { nx := fun _ H' => Q .non H', rt := Q } :=
  ⟨fun σ L H k z => k.elim, fun v L H k z => by
    rcases k with ⟨e, k⟩ | ⟨x, y, p, i, bo, e, k, r⟩
    · subst e
      exact h1 k _ z.since
    · subst e
      exact h2 x y p H r z.since (z.get k), fun _ _ _ k _ => k.elim, fun _ _ _ k _ => k.elim⟩
end
/-! ### the least of a list of triples -/
def dpT (x : Int × Int × Int) : PyData := .tuple [.int x.1, .int x.2.1, .int x.2.2]
def ltT (y x : Int × Int × Int) : Prop := y.1 < x.1 ∨ (y.1 = x.1 ∧ (y.2.1 < x.2.1 ∨ (y.2.1 = x.2.1 ∧ y.2.2 < x.2.2)))
instance (y x : Int × Int × Int) : Decidable (ltT y x) := by unfold ltT; infer_instance
theorem ltT_trans {x y z : Int × Int × Int} (h : ¬ ltT z y) (k : ltT x y) : ¬ ltT z x := by
  unfold ltT at *
  omega
theorem ltT_le {x y z : Int × Int × Int} (h : ¬ ltT z x) (k : ¬ ltT x y) : ¬ ltT z y := by
  unfold ltT at *
  omega
theorem ltT_irrefl {x : Int × Int × Int} : ¬ ltT x x := by
  unfold ltT
  omega
theorem dpT_inj {x y : Int × Int × Int} (h : dpT x = dpT y) : x = y := by
  unfold dpT at h
  simp only [PyData.tuple.injEq, List.cons.injEq, PyData.int.injEq, and_true] at h
  exact Prod.ext h.1 (Prod.ext h.2.1 h.2.2)
open PyProof.Rows in
theorem dataLt_iii (x y : Int × Int × Int) : dataLt (dpT x) (dpT y) = decide (ltT x y) := by
  unfold dpT
  rw [dataLt_tuple, dataLt_cons (by simp [alike]), dataLt_cons (by simp [alike]), dataLt_cons (by simp [alike]), dataLt_int, dataLt_int, dataLt_int]
  have e : PyProof.Rows.lexLt itemOrd (keyToksAll []) (keyToksAll []) = false := lex_irrefl _
  rw [e]
  simp only [PyData.eqv, beq_iff_eq]
  unfold ltT
  by_cases h1 : x.1 = y.1 <;> by_cases h2 : x.2.1 = y.2.1 <;> by_cases h3 : x.2.2 = y.2.2 <;> simp [h1, h2, h3]
theorem alike_T (xs : List (Int × Int × Int)) : AlikeAll (xs.map dpT) := by
  refine ⟨fun x hx y hy => ?_, fun x hx => ?_⟩
  · obtain ⟨m, _, rfl⟩ := List.mem_map.mp hx
    obtain ⟨n, _, rfl⟩ := List.mem_map.mp hy
    rfl
  · obtain ⟨m, _, rfl⟩ := List.mem_map.mp hx
    exact fun h => nomatch h
theorem depth_T : ∀ xs : List (Int × Int × Int), PyData.depthAll (xs.map dpT) ≤ 60
  | [] => by simp [PyData.depthAll]
  | n :: r => by
    have := depth_T r
    rw [List.map_cons]
    simp only [PyData.depthAll, PyData.depth, dpT]
    omega
theorem minT_is : ∀ (r : List (Int × Int × Int)) (n : Int × Int × Int), ∃ m, minD (dpT n) (r.map dpT) = dpT m ∧ m ∈ n :: r ∧ ∀ k ∈ n :: r, ¬ ltT k m
  | [], n => ⟨n, rfl, by simp, fun k hk => by
      have : k = n := by simpa using hk
      subst this
      exact ltT_irrefl⟩
  | x :: r, n => by
    have e : minD (dpT n) ((x :: r).map dpT) = minD (dpT (if ltT x n then x else n)) (r.map dpT) := by
      unfold minD
      rw [List.map_cons, List.foldl_cons]
      congr 1
      rw [dataLt_iii]
      by_cases h : ltT x n
      · rw [if_pos h, if_pos (decide_eq_true h)]
      · rw [if_neg h, if_neg (by simpa using h)]
    rw [e]
    by_cases h : ltT x n
    · rw [if_pos h]
      obtain ⟨m, h1, h2, h3⟩ := minT_is r x
      refine ⟨m, h1, List.mem_cons_of_mem _ h2, fun k hk => ?_⟩
      rcases List.mem_cons.mp hk with q | q
      · have := h3 x (by simp)
        subst q
        unfold ltT at *
        omega
      · exact h3 k q
    · rw [if_neg h]
      obtain ⟨m, h1, h2, h3⟩ := minT_is r n
      refine ⟨m, h1, ?_, fun k hk => ?_⟩
      · rcases List.mem_cons.mp h2 with q | q
        · simp [q]
        · simp [q]
      · rcases List.mem_cons.mp hk with q | q
        · exact h3 k (by simp [q])
        · rcases List.mem_cons.mp q with q | q
          · have := h3 n (by simp)
            subst q
            unfold ltT at *
            omega
          · exact h3 k (by simp [q])
section
variable {K : PySem.W.Frag} {g : Gr} {L : Led} {C : V → Led → Prop} {a : Addr} {d : V} {bo : Bool}
theorem dpAll_T {H : Hp} : ∀ (as : List Addr) (xs : List (Int × Int × Int)), as.length = xs.length → (∀ (k : Nat) (b : Addr) (r : List V), as[k]? = some b → (xs.map row3)[k]? = some r → H b = some (.tup r)) → DpAll K H (as.map V.ref) (xs.map dpT)
  | [], [], _, _ => .nil
  | [], _ :: _, h, _ => by cases h
  | _ :: _, [], h, _ => by cases h
  | b :: as, x :: xs, h, k => .cons (.tup (SqT.of (k 0 b (row3 x) rfl rfl)) (.cons (.int _) (.cons (.int _) (.cons (.int _) .nil)))) (dpAll_T as xs (by simpa using h) fun i c r h1 h2 => k (i + 1) c r h1 h2)
theorem wc_minT {xs : List (Int × Int × Int)} (j : Nat) (hj : L[j]? = some (a, .rows (xs.map row3), bo)) (hne : xs ≠ []) (c : ∀ x, x ∈ xs → (∀ y ∈ xs, ¬ ltT y x) → ∀ p, C (.ref p) (L ++ [(p, .ob (.tup (row3 x)), false)])) : Wp g L (rMinDt K [.ref a]) C :=
  fun H z Q q => by
    obtain ⟨o, h1, as, e1, hl, hr⟩ := z.look hj
    subst e1
    cases xs with
    | nil => exact absurd rfl hne
    | cons n r =>
      refine ⟨a, as.map V.ref, dpT n, r.map dpT, rfl, SqL.of h1, dpAll_T as (n :: r) (by simpa using hl) hr, alike_T (n :: r), depth_T (n :: r), fun i x hx hm => ?_⟩
      obtain ⟨m, h2, h3, h4⟩ := minT_is r n
      rw [h2] at hm
      have hm : ((n :: r).map dpT)[i]? = some (dpT m) := hm
      rw [List.getElem?_map] at hm
      cases hi : (n :: r)[i]? with
      | none => rw [hi] at hm; cases hm
      | some k =>
        rw [hi] at hm
        have hm := dpT_inj (Option.some.inj hm)
        subst hm
        rw [List.getElem?_map] at hx
        cases hb : as[i]? with
        | none => rw [hb] at hx; cases hx
        | some b =>
          rw [hb] at hx
          have hx : V.ref b = x := Option.some.inj hx
          subst hx
          exact q _ _ _ (c k h3 h4 b) (z.addT (hr i b (row3 k) hb (by rw [List.getElem?_map, hi]; rfl)))
end
theorem atI_cons0 {x : V} {xs : List V} : atI (x :: xs) 0 = some x := by simp [atI, ixN]
/-- max(list, default=z): one value -/
theorem wc_maxDW {K : PySem.W.Frag} {g : Gr} {L : Led} {C : V → Led → Prop} {a : Addr} {ns : List Int} {z0 : Int} (s : Seen K g L a (ns.map V.int)) (c : ∀ w : Int, ((ns = [] ∧ w = z0) ∨ w ∈ ns) → (∀ k ∈ ns, k ≤ w) → C (.int w) L) : Wp g L (rMaxDf K [.ref a] [.int z0]) C :=
  wc_maxDI s (fun h => c z0 (.inl ⟨h, rfl⟩) (by rw [h]; simp)) (fun m hm hM => c m (.inr hm) hM)
end Kr

set_option Elab.async false
set_option linter.all false
set_option maxRecDepth 100000
/-! ### == and != by an own __eq__, both answers; != of tuples and lists whose items are equal -/
namespace Kq
open PySem PySem.SeqAt AutoSeq1 MeetsSeq MeetsSeq2 MeetsSeq3 SeqRoads2
section
variable {prog : Program} {w : World} {A : Around} {E : Value → Shared → Prop} {s : Shared} {K : PySem.W.Frag} {x C f : Addr} {b : Value} {ox : Obj} {od : Option Obj}
theorem bound_ne {M : Model} {args : List Value} {Q : Option Value → Shared → Prop} (X : K.In s.heap) (I : PySem.W.InstAt s.heap x ox C od) (hn : PySem.W.findIn K (.ref C) "__ne__" = some (some (.builtin "object.__ne__")))
    (h : wpAny M A (call (.builtin "object.__ne__") (.ref x :: args)) (fun v => Q (some v)) E s) : wpAny M A (callSpecialIfBound? (.ref x) "__ne__" args) Q E s := by
  simp only [callSpecialIfBound?, bindSpecialIfBound?]
  refine wpAny_holding (wpAny_bind (wpAny_bind (wpAny_bind (I.type.here ((PySem.W.looks_findIn X hn).here ?_)))))
  refine wpAny_bind (wpAny_askSetting (wpAny_ite ?_))
  have ends : wpAny M A (call (.builtin "object.__ne__") ([.ref x] ++ args) >>= fun v => pure (some v)) Q E s := wpAny_bind (wpAny_mono h (fun _ _ q => wpAny_pure q) fun _ _ q => q)
  split
  · exact wpAny_bind (wpAny_of_eq (F.cmp_object.ne.bind _) (wpAny_pure ends))
  · exact wpAny_tryCatch (wpAny_bind (wpAny_of_eq (F.cmp_object.ne.bind _) (wpAny_pure ends)))
theorem body_ne {Q : Fin → Shared → Prop} (hu : A.units < cLine) (X : K.In s.heap) (I : PySem.W.InstAt s.heap x ox C od) (he : PySem.W.findIn K (.ref C) "__eq__" = some (some (.ref f))) (hf : PySem.W.isFn K (.ref f) = true)
    (h : wpAny (model prog w) A (call (.ref f) [.ref x, b]) (fun v s' => ∃ r, v = .bool r ∧ Q (.done (.ret (.bool (!r)))) s') E s) : wpAny (model prog w) A (Builtin.«object.__ne__» ⟨[.ref x, b], []⟩) Q E s := by
  unfold Builtin.«object.__ne__»
  repeat (first
    | with_reducible refine wpAny_cRoomFor hu ?_
    | (refine wpAny_bind (m := callSpecialIfBound? (.ref x) (Str.ofString "__eq__") [b])
        (PySem.W.ifBound_K X I he hf (wpAny_mono h (fun v s' q => by
          obtain ⟨r, rfl, q⟩ := q
          repeat (first | exact q | exact wpAny_pure q | exact wpAny_truthy_bool q | (refine wpAny_bind (m := truthy (.bool _)) (wpAny_truthy_bool ?_)) | wp_step)) fun _ _ z => z)))
    | wp_step)
theorem rc_ne {Q : Value → Shared → Prop} (hu : A.units + 1 < cLine) (X : K.In s.heap) (I : PySem.W.InstAt s.heap x ox C od) (hb : PySem.W.Looks (model prog w) s.heap (typeOf b) (.ref C))
    (hn : PySem.W.findIn K (.ref C) "__ne__" = some (some (.builtin "object.__ne__"))) (he : PySem.W.findIn K (.ref C) "__eq__" = some (some (.ref f))) (hf : PySem.W.isFn K (.ref f) = true) (hm : PySem.W.mroIn K C (.type "object") = some true)
    (h : wpAny (model prog w) A.in1 (call (.ref f) [.ref x, b]) (fun v s' => ∃ r, v = .bool r ∧ Q (.bool (!r)) s') E s) : wpAny (model prog w) A (richCompare .NotEq (.ref x) b) Q E s := by
  have one : wpAny (model prog w) A (tryCompare (.ref x) "__ne__" b) (fun r s' => ∃ v, r = some v ∧ Q v s') E s := by
    unfold tryCompare
    refine wpAny_bind (bound_ne X I hn (wpAny_call (codeAny_call_builtin F.cmp_object.ne.plain F.cmpEntry_ne (PySem.W.check_slot F.cmpKind_ne F.cmpSplit_ne (I.type.andThen (PySem.W.looks_mroIn X hm)) (F.cmpArgs_ne _ _)
      (body_ne (A := A.in1) (b := b) hu X I he hf (wpAny_mono h (fun v s' q => ?_) fun _ _ z => z))))))
    obtain ⟨r, rfl, q⟩ := q
    first | exact ⟨r, rfl, wpAny_pure ⟨_, rfl, q⟩⟩ | exact ⟨r, rfl, wpAny_pure (wpAny_pure ⟨_, rfl, q⟩)⟩
  unfold richCompare
  simp only [oneThing_ref, cmpInfo_NotEq]
  refine wpAny_holding (wpAny_bind (wpAny_cRoomFor (Nat.lt_of_succ_lt hu) ?_))
  refine wpAny_bind (I.type.here (wpAny_bind (hb.here ?_)))
  rw [if_neg (by simp)]
  refine wpAny_bind (wpAny_pure ?_)
  simp only [Bool.false_eq_true, if_false]
  refine wpAny_bind (wpAny_mono one (fun r s' z => ?_) fun _ _ z => z)
  obtain ⟨v, rfl, q⟩ := z
  exact wpAny_pure q
end
end Kq

namespace Kq
open PySem PySem.SeqAt AutoSeq1 MeetsSeq MeetsSeq2 MeetsSeq3 SeqRoads2
section
variable {prog : Program} {w : World} {A : Around} {R : Result → Shared → Prop}
/-- the items of two lists, one after the other, all equal: != says no -/
theorem items_ne (p q : Addr) (N : Nat) (J : Nat → Shared → Prop) (it : GQ.ListI prog w A (fun e s' => R (.error e) s') p q N J) (fin : ∀ s, J N s → R (.ok (.ret (.bool false))) s) :
    ∀ (k i : Nat), N - i = k → i ≤ N → ∀ s, J i s → wpAny (model prog w) A.in1 (Builtin.«list.__eq__.loop» ⟨[.ref p, .ref q, rawInt i, rawInt 3], []⟩) (GQ.FinOf prog w A R) (fun e s' => R (.error e) s') s
  | 0, i, hk, hi, s, h => by
    obtain ⟨us, vs, n1, n2, g1, g2, z1, z2, _⟩ := it _ _ h
    have ei : i = N := by omega
    have done : R (.ok (.ret (.bool false))) s := fin s (ei ▸ h)
    rcases s with ⟨s1, s2, s3, s4, s5⟩
    wp_walk using wpAny_loadPart' g1, wpAny_loadPart' g2
    have o1 : us[((i : Nat) : Int).toNat]? = none := by simp; omega
    have o2 : vs[((i : Nat) : Int).toNat]? = none := by simp; omega
    rw [o1, o2]
    wp_walk using wpAny_loadPart' g1, wpAny_loadPart' g2
    show R (.ok (.ret (.bool (us.size != vs.size)))) _
    rw [z1, z2]
    simpa using done
  | k + 1, i, hk, hi, s, h => by
    obtain ⟨us, vs, n1, n2, g1, g2, z1, z2, one⟩ := it _ _ h
    have l1 : i < us.size := by omega
    have l2 : i < vs.size := by omega
    have now := one l1 l2
    rcases s with ⟨s1, s2, s3, s4, s5⟩
    wp_walk using wpAny_loadPart' g1, wpAny_loadPart' g2
    have o1 : us[((i : Nat) : Int).toNat]? = some us[i] := by simp [l1]
    have o2 : vs[((i : Nat) : Int).toNat]? = some vs[i] := by simp [l2]
    have nx : ((i : Int) + 1) = ((i + 1 : Nat) : Int) := by omega
    rw [o1, o2]
    refine wpAny_bind (wpAny_mono now (fun r t z => ?_) fun _ _ z => z)
    obtain ⟨rfl, z⟩ := z
    have more := items_ne p q N J it fin k (i + 1) (by omega) (by omega) t z
    rcases t with ⟨t1, t2, t3, t4, t5⟩
    wp_walk
    rw [nx]
    exact ⟨plainId_quiet plain_eq_loop _, codeAny_builtin entry_eq_loop (by rw [Around.under_plainId plain_eq_loop _]; exact more)⟩
theorem lists_ne (p q : Addr) (N : Nat) (J : Nat → Shared → Prop) (it : GQ.ListI prog w A (fun e s' => R (.error e) s') p q N J) (fin : ∀ s, J N s → R (.ok (.ret (.bool false))) s) {s : Shared} (h : J 0 s) :
    wpAny (model prog w) A.in1 (Builtin.«list.__ne__» ⟨[.ref p, .ref q], []⟩) (GQ.FinOf prog w A R) (fun e s' => R (.error e) s') s := by
  obtain ⟨us, vs, n1, n2, g1, g2, z1, z2, _⟩ := it _ _ h
  have more := items_ne (A := A) (R := R) p q N J it fin _ 0 rfl (Nat.zero_le _) s h
  rcases s with ⟨s1, s2, s3, s4, s5⟩
  have sb := AutoSeq1.sub_list_list
  have zz : ¬ (us.size != vs.size) = true := by simp [z1, z2]
  wp_walk using wpAny_loadPart' g1, wpAny_loadPart' g2
  exact ⟨plainId_quiet plain_eq_loop _, codeAny_builtin entry_eq_loop (by rw [Around.under_plainId plain_eq_loop _]; exact more)⟩
theorem tups_ne (p q : Addr) (us vs : Array Value) (n1 n2 : Nat) (d1 d2 : Option Addr) (q1 q2 : Array (Option Value)) (zz : us.size = vs.size) (J : Nat → Shared → Prop)
    (one : ∀ i (l1 : i < us.size) (l2 : i < vs.size) s, J i s → wpAny (model prog w) A.in1 (eqBool us[i] vs[i]) (fun r s' => r = true ∧ J (i + 1) s') (fun e s' => R (.error e) s') s)
    (fin : ∀ s, J us.size s → R (.ok (.ret (.bool false))) s) {s : Shared} (g1 : s.heap.get? p = some { cls := .type "tuple", dict := d1, data := .seq us n1, slots := q1 }) (g2 : s.heap.get? q = some { cls := .type "tuple", dict := d2, data := .seq vs n2, slots := q2 }) (h : J 0 s) :
    wpAny (model prog w) A.in1 (Builtin.«tuple.__ne__» ⟨[.ref p, .ref q], []⟩) (GQ.FinOf prog w A R) (fun e s' => R (.error e) s') s := by
  have sb := AutoSeq1.sub_tuple_tuple
  have zl : (us.toList.zip vs.toList).length = us.size := by simp [zz]
  have hh := h
  rcases s with ⟨s1, s2, s3, s4, s5⟩
  wp_walk using wpAny_loadPart' g1, wpAny_loadPart' g2, wpAny_forIn_list _ (fun rest b t => b.1 = none ∧ ∃ i, rest = (us.toList.zip vs.toList).drop i ∧ i ≤ us.size ∧ J i t) _
  case turn =>
    rintro ⟨y, x⟩ rest b t ⟨nb, i, er, hi, hJ⟩
    have hlt : i < (us.toList.zip vs.toList).length := Decidable.byContradiction fun c => by
      rw [List.drop_of_length_le (by omega)] at er
      cases er
    have l1 : i < us.size := by omega
    have l2 : i < vs.size := by omega
    rw [List.drop_eq_getElem_cons hlt] at er
    injection er with e1 e2
    obtain rfl : y = us[i] := by simpa using congrArg Prod.fst e1
    obtain rfl : x = vs[i] := by simpa using congrArg Prod.snd e1
    refine wpAny_bind (wpAny_mono (one i l1 l2 t hJ) (fun r t2 z => ?_) fun _ _ z => z)
    obtain ⟨rfl, z⟩ := z
    wp_walk
    exact ⟨rfl, i + 1, e2, l1, z⟩
  case fin =>
    rintro ⟨b1, b2⟩ t ⟨nb, i, er, hi, hJ⟩
    simp only at nb
    subst nb
    have ei : i = us.size := Decidable.byContradiction fun c => by
      have hlt : i < (us.toList.zip vs.toList).length := by omega
      rw [List.drop_eq_getElem_cons hlt] at er
      cases er
    have done : R (.ok (.ret (.bool false))) t := fin t (ei ▸ hJ)
    wp_walk
    simpa [Builtin.Tuple.tupleCompareSizes, zz] using done
  case h => exact ⟨rfl, 0, rfl, Nat.zero_le _, hh⟩
end
section
variable {prog : Program} {w : World} {A : Around} {E : Value → Shared → Prop} {s : Shared}
theorem rc_lists_ne {p q : Addr} {N : Nat} {Q : Value → Shared → Prop} (hu : A.units < cLine) (J : Nat → Shared → Prop) (it : GQ.ListI prog w A E p q N J) (fin : ∀ s, J N s → Q (.bool false) s) (h : J 0 s) : wpAny (model prog w) A (richCompare .NotEq (.ref p) (.ref q)) Q E s := by
  obtain ⟨us, vs, n1, n2, g1, g2, _⟩ := it _ _ h
  exact wpAny_richCompare_same_room (op := .NotEq) ⟨_, g1, rfl⟩ ⟨_, g2, rfl⟩ F.slot_list_ne (GQ.call_here F.slot_list_ne ⟨_, g1, rfl⟩ F.entry_list_ne (F.args_list_ne_2 _ _) (lists_ne (R := wants (fun v t => v ≠ .notImplemented ∧ Q v t) E) p q N J it (fun t z => ⟨(fun x => nomatch x), fin t z⟩) h)) hu
theorem rc_tups_ne {p q : Addr} {us vs : Array Value} {Q : Value → Shared → Prop} (zz : us.size = vs.size) (hu : A.units < cLine) (J : Nat → Shared → Prop) (hp : s.heap.IsTuple p us) (hq : s.heap.IsTuple q vs)
    (one : ∀ i (l1 : i < us.size) (l2 : i < vs.size) s, J i s → wpAny (model prog w) A.in1 (eqBool us[i] vs[i]) (fun r s' => r = true ∧ J (i + 1) s') E s) (fin : ∀ s, J us.size s → Q (.bool false) s) (h : J 0 s) : wpAny (model prog w) A (richCompare .NotEq (.ref p) (.ref q)) Q E s := by
  obtain ⟨⟨c1, d1, x1, q1⟩, g1, k1, n1, y1⟩ := id hp
  obtain ⟨⟨c2, d2, x2, q2⟩, g2, k2, n2, y2⟩ := id hq
  simp only at k1 y1 k2 y2
  subst k1 y1 k2 y2
  exact wpAny_richCompare_same_room (op := .NotEq) ⟨_, g1, rfl⟩ ⟨_, g2, rfl⟩ F.slot_tuple_ne (GQ.call_here F.slot_tuple_ne ⟨_, g1, rfl⟩ F.entry_tuple_ne (F.args_tuple_ne_2 _ _) (tups_ne (R := wants (fun v t => v ≠ .notImplemented ∧ Q v t) E) p q us vs n1 n2 d1 d2 q1 q2 zz J one (fun t z => ⟨(fun x => nomatch x), fin t z⟩) g1 g2 h)) hu
end
end Kq
namespace L2
open PySem PySem.Spec PyProof.Rows
section
variable {X : Cx} {n : Nat} {D : Eqv}
/-- x != y of lists, of tuples, whose items are equal -/
def rNeG (D : Eqv) : R2 := fun x y H Q => D x y H ∧ ∀ H', Ext H H' → Q (.bl false) H'
theorem op_neL (hD : Mon D) (h : EqG X n D) (hr : Room (n + 1) X.A) : OpR X (compareOp .NotEq) (rNeG (DList D)) := by
  intro pins s σ H x y v u Q I rx ry hq
  obtain ⟨⟨a, b, xs, ys, rfl, rfl, ha, hb, p⟩, q⟩ := hq
  cases rx
  cases ry
  have sb : Sub X (n + 1) X.A := ⟨hr, rfl⟩
  show wpAny (model X.prog X.w) X.A (richCompare .NotEq (.ref a) (.ref b)) (EP X pins σ Q) X.xe s
  refine Kq.rc_lists_ne (N := xs.length) hr.units0 (fun _ t => LoopI X pins σ H t) (fun i t z => ?_) (fun t z => ?_) ⟨H, I, Ext.rfl'⟩
  · obtain ⟨H1, I1, e1⟩ := id z
    obtain ⟨y1, us, k1, r1, g1⟩ := I1.hok a _ (e1 _ _ ha)
    obtain ⟨y2, vs, k2, r2, g2⟩ := I1.hok b _ (e1 _ _ hb)
    exact ⟨us.toArray, vs.toArray, k1, k2, g1, g2, by rw [List.size_toArray, ← r1.length], by rw [List.size_toArray, ← r2.length, ← p.1], fun l1 l2 => turnG hD h sb p r1 r2 i l1 l2 t z⟩
  · obtain ⟨H1, I1, e1⟩ := z
    exact ⟨.bl false, H1, I1, rfl, q H1 e1⟩
theorem op_neT (hD : Mon D) (h : EqG X n D) (hr : Room (n + 1) X.A) : OpR X (compareOp .NotEq) (rNeG (DTup X.K D)) := by
  intro pins s σ H x y v u Q I rx ry hq
  obtain ⟨⟨a, b, xs, ys, rfl, rfl, ha, hb, p⟩, q⟩ := hq
  cases rx
  cases ry
  have sb : Sub X (n + 1) X.A := ⟨hr, rfl⟩
  obtain ⟨us, r1, g1, y1⟩ := I.tuple ha
  obtain ⟨vs, r2, g2, y2⟩ := I.tuple hb
  have zz : us.toArray.size = vs.toArray.size := by rw [List.size_toArray, List.size_toArray, ← r1.length, ← r2.length]; exact p.1
  show wpAny (model X.prog X.w) X.A (richCompare .NotEq (.ref a) (.ref b)) (EP X pins σ Q) X.xe s
  refine Kq.rc_tups_ne zz hr.units0 (fun _ t => LoopI X pins σ H t) g1 g2 (fun i l1 l2 t z => turnG hD h sb p r1 r2 i l1 l2 t z) (fun t z => ?_) ⟨H, I, Ext.rfl'⟩
  obtain ⟨H1, I1, e1⟩ := z
  exact ⟨.bl false, H1, I1, rfl, q H1 e1⟩
/-- x == y, x != y of instances by the own __eq__ -/
def rOwn (C : Addr) (neg : Bool) (sp : Sp) : R2 := fun x y H Q => ∃ (a c dx dy : Addr) (fs gs : List (Str × V)), x = .ref a ∧ y = .ref c ∧ H a = some (.ins C dx fs) ∧ H c = some (.ins C dy gs) ∧ sp [.ref a, .ref c] H (fun v H' => ∃ r : Bool, v = .bl r ∧ Q (.bl (r != neg)) H') E0
theorem own_call {A : Around} {f : Addr} {fd : FuncData} {ps : List Str} {sp : Sp} {pins : List (Addr × Obj)} {σ : St} {H : Hp} {s : Shared} {a b : Addr} {Q : VK} (F : FnOk X.prog X.w X.K X.mg X.base CX0 n f fd ps sp) (hb : Binds X.K fd ps []) (sb : Sub X n A) (I : Inv X pins σ H s)
    (hsp : sp [.ref a, .ref b] H Q E0) : wpAny (model X.prog X.w) A (call (.ref f) [.ref a, .ref b]) (EP X pins σ Q) X.xe s := by
  have e0 : Env0 X.prog X.w X.K X.mg X.base A X.stack s H := by
    have e := I.env0
    exact ⟨by rw [sb.fr]; exact e.frames, e.mod, e.bs, e.bsz, e.funs, e.frf, e.hok, e.bare⟩
  have hl := F.len _ _ _ _ hsp
  have r2 : Vals [V.ref a, V.ref b] [Value.ref a, Value.ref b] := .cons rfl (.cons rfl .nil)
  refine wpAny_call (codeAny_mono (F.run A X.stack s H ⟨[.ref a, .ref b], []⟩ [.ref a, .ref b] [.ref a, .ref b] _ E0 sb.room e0 (by
    have z := hb s [.ref a, .ref b] I.kIn (by simpa using hl)
    simpa using z) r2 hsp) fun r t hq => ?_)
  cases r with
  | error e => exact pass0 pins σ H s e t I hq
  | ok fl =>
    cases fl with
    | ret z => exact I.after hq
    | next => exact False.elim hq
    | brk => exact False.elim hq
    | cont => exact False.elim hq
theorem op_ownEq {C f : Addr} {fd : FuncData} {ps : List Str} {sp : Sp} (F : FnOk X.prog X.w X.K X.mg X.base CX0 n f fd ps sp) (he : PySem.W.findIn X.K (.ref C) "__eq__" = some (some (.ref f))) (hf : PySem.W.isFn X.K (.ref f) = true) (hb : Binds X.K fd ps []) (hr : Room n X.A) :
    OpR X (compareOp .Eq) (rOwn C false sp) := by
  intro pins s σ H x y v u Q I rx ry hq
  obtain ⟨a, c, dx, dy, fs, gs, rfl, rfl, ha, hc, hsp⟩ := hq
  cases rx
  cases ry
  obtain ⟨m1, J1, _⟩ := ins_get I.hok ha
  obtain ⟨m2, J2, _⟩ := ins_get I.hok hc
  obtain ⟨o1, J1, _⟩ := J1.look
  obtain ⟨o2, J2, _⟩ := J2.look
  obtain ⟨m, hF⟩ := I.fr
  refine PySem.W.cmp_K (op := .Eq) (tb := .ref C) hr.units0 hF I.ok.mod.kin J1 J2.type (by simp [PySem.W.notFirst]) he hf ?_
  refine wpAny_mono (own_call F hb ⟨hr, rfl⟩ I hsp) (fun z t q => ?_) fun _ _ z => z
  obtain ⟨v, H', I', rz, r, rfl, q⟩ := q
  cases rz
  refine ⟨.bl (r != false), H', I', ?_, q⟩
  cases r <;> rfl
theorem op_ownNe {C f : Addr} {fd : FuncData} {ps : List Str} {sp : Sp} (F : FnOk X.prog X.w X.K X.mg X.base CX0 n f fd ps sp) (he : PySem.W.findIn X.K (.ref C) "__eq__" = some (some (.ref f))) (hf : PySem.W.isFn X.K (.ref f) = true) (hb : Binds X.K fd ps [])
    (hn : PySem.W.findIn X.K (.ref C) "__ne__" = some (some (.builtin "object.__ne__"))) (hm : PySem.W.mroIn X.K C (.type "object") = some true) (hr : Room (n + 1) X.A) : OpR X (compareOp .NotEq) (rOwn C true sp) := by
  intro pins s σ H x y v u Q I rx ry hq
  obtain ⟨a, c, dx, dy, fs, gs, rfl, rfl, ha, hc, hsp⟩ := hq
  cases rx
  cases ry
  obtain ⟨m1, J1, _⟩ := ins_get I.hok ha
  obtain ⟨m2, J2, _⟩ := ins_get I.hok hc
  obtain ⟨o1, J1, _⟩ := J1.look
  obtain ⟨o2, J2, _⟩ := J2.look
  have sb : Sub X (n + 1) X.A := ⟨hr, rfl⟩
  show wpAny (model X.prog X.w) X.A (richCompare .NotEq (.ref a) (.ref c)) (EP X pins σ Q) X.xe s
  refine Kq.rc_ne sb.in1.room.units0 I.kIn J1 J2.type hn he hf hm ?_
  refine wpAny_mono (own_call F hb sb.in1 I hsp) (fun z t q => ?_) fun _ _ z => z
  obtain ⟨v, H', I', rz, r, rfl, q⟩ := q
  cases rz
  exact ⟨r, rfl, .bl (!r), H', I', rfl, by cases r <;> exact q⟩
end
end L2
namespace Kr
open PySem L2
structure NeC (K : PySem.W.Frag) (C : Addr) : Prop where
  ne : PySem.W.findIn K (.ref C) "__ne__" = some (some (.builtin "object.__ne__"))
  mro : PySem.W.mroIn K C (.type "object") = some true
section
variable {X : Cx} {C : Addr} {k : Nat} {qual : Str} {st : Stmt} {ps : List Str} {sp : Sp}
theorem op_eqO (O : OkM X.prog X.w X.K X.mg X.base C k "__eq__" qual st ps sp) (hr : Room k X.A) : OpR X (compareOp .Eq) (rOwn C false sp) := by
  obtain ⟨f, fd, M, _, hb, F⟩ := O.ex
  exact op_ownEq F M.1 M.2 hb hr
theorem op_neO (O : OkM X.prog X.w X.K X.mg X.base C k "__eq__" qual st ps sp) (N : NeC X.K C) (hr : Room (k + 1) X.A) : OpR X (compareOp .NotEq) (rOwn C true sp) := by
  obtain ⟨f, fd, M, _, hb, F⟩ := O.ex
  exact op_ownNe F M.1 M.2 hb N.ne N.mro hr
/-- equal: flat values, or instances of one class with the same fields, of which P tells -/
def RSame (C : Addr) (P : List (Str × V) → Prop) (a b : Addr) (H : Hp) : Prop := ∃ (dx dy : Addr) (fs : List (Str × V)), P fs ∧ H a = some (.ins C dx fs) ∧ H b = some (.ins C dy fs)
def DOwn (C : Addr) (P : List (Str × V) → Prop) : Eqv := fun x y H => DFlat x y H ∨ DIns C (RSame C P) x y H
theorem mon_own {P : List (Str × V) → Prop} : Mon (DOwn C P) := mon_flat.or (mon_ins fun a b H H' e ⟨dx, dy, fs, p, h1, h2⟩ => ⟨dx, dy, fs, p, e _ _ h1, e _ _ h2⟩)
theorem eqG_own {P : List (Str × V) → Prop} (O : OkM X.prog X.w X.K X.mg X.base C k "__eq__" qual st ps sp) (hsp : ∀ (a b dx dy : Addr) (fs : List (Str × V)) (H : Hp) (Q : VK) (E : XK), P fs → H a = some (.ins C dx fs) → H b = some (.ins C dy fs) → (∀ H', Ext H H' → Q (.bl true) H') → sp [.ref a, .ref b] H Q E) : EqG X k (DOwn C P) := by
  obtain ⟨f, fd, M, _, hb, F⟩ := O.ex
  exact (eqG_flat.mono (Nat.zero_le _)).or (eqG_ins (R := RSame C P) (F.imp fun vs H Q E q => by
    obtain ⟨a, b, rfl, ⟨dx, dy, fs, p, h1, h2⟩, q⟩ := q
    exact hsp a b dx dy fs H Q E p h1 h2 q) M.1 M.2 hb pass0)
end
/-! over a ledger -/
section
variable {g : Gr} {L : Led} {C : V → Led → Prop} {K : PySem.W.Frag} {Cl : Addr} {P : List (Str × V) → Prop}
theorem At.ext {H H' : Hp} (h : At g L H) (e : Ext H H') : At g L H' := h.same e
inductive EqL (Cl : Addr) (P : List (Str × V) → Prop) (L : Led) : V → V → Prop
  | flat {x y : V} (h1 : flatV x = true) (h2 : flatV y = true) (h : eqV x y = true) : EqL Cl P L x y
  | ins {a b dx dy : Addr} {fs : List (Str × V)} {b1 b2 : Bool} (i j : Nat) (p : P fs) (h1 : L[i]? = some (a, .ob (.ins Cl dx fs), b1)) (h2 : L[j]? = some (b, .ob (.ins Cl dy fs), b2)) : EqL Cl P L (.ref a) (.ref b)
theorem EqL.own {H : Hp} {x y : V} (z : At g L H) (h : EqL Cl P L x y) : DOwn Cl P x y H := by
  cases h with
  | flat h1 h2 h => exact .inl ⟨h1, h2, h⟩
  | ins i j p h1 h2 => exact .inr ⟨_, _, _, _, _, _, rfl, rfl, z.get h1, z.get h2, _, _, _, p, z.get h1, z.get h2⟩
inductive EqLs (Cl : Addr) (P : List (Str × V) → Prop) (L : Led) : List V → List V → Prop
  | nil : EqLs Cl P L [] []
  | cons {x y : V} {xs ys : List V} (h : EqL Cl P L x y) (k : EqLs Cl P L xs ys) : EqLs Cl P L (x :: xs) (y :: ys)
theorem EqLs.prs {H : Hp} {xs ys : List V} (z : At g L H) (h : EqLs Cl P L xs ys) : Prs (DOwn Cl P) xs ys H := by
  induction h with
  | nil => exact Prs.nil
  | cons h k ih => exact Prs.cons (h.own z) ih
theorem wr_neTO {a b : Addr} {xs ys : List V} {b1 b2 : Bool} (i j : Nat) (h1 : L[i]? = some (a, .ob (.tup xs), b1)) (h2 : L[j]? = some (b, .ob (.tup ys), b2)) (e : EqLs Cl P L xs ys) (c : C (.bl false) L) : Wp g L (rNeG (DTup K (DOwn Cl P)) (.ref a) (.ref b)) C :=
  fun H z Q q => ⟨⟨a, b, xs, ys, rfl, rfl, .inl (.inl (z.get h1)), .inl (.inl (z.get h2)), e.prs z⟩, fun H' x => q _ _ _ c (z.ext x)⟩
end
end Kr
namespace Kr
open PySem L2
section
variable {g : Gr} {L : Led} {C : V → Led → Prop} {K : PySem.W.Frag} {Cl : Addr}
theorem wr_ownO {neg : Bool} {sp : Sp} {a c dx dy : Addr} {fs gs : List (Str × V)} {b1 b2 : Bool} (i j : Nat) (h1 : L[i]? = some (a, .ob (.ins Cl dx fs), b1)) (h2 : L[j]? = some (c, .ob (.ins Cl dy gs), b2))
    (h : Wp g L (fun H Q => sp [.ref a, .ref c] H Q E0) fun v L' => ∃ r : Bool, v = .bl r ∧ C (.bl (r != neg)) L') : Wp g L (rOwn Cl neg sp (.ref a) (.ref c)) C :=
  fun H z Q q => ⟨a, c, dx, dy, fs, gs, rfl, rfl, z.get h1, z.get h2, h H z _ fun v L' H' ⟨r, e, k⟩ z' => ⟨r, e, q _ _ _ k z'⟩⟩
theorem eqV_self (n : Int) : eqV (.int n) (.int n) = true := by simp [eqV]
end
end Kr

namespace Kr
open PySem L2
/-! lists of which each item is the same object, or a list of the same numbers -/
def DSame : Eqv := fun x y _ => ∃ a : Addr, x = .ref a ∧ y = .ref a
def DLin : Eqv := fun x y H => DSame x y H ∨ DList DFlat x y H
theorem mon_lin : Mon DLin := Mon.or (fun _ _ _ _ _ d => d) (mon_list mon_flat)
section
variable {X : Cx}
theorem eqG_same : EqG X 0 DSame := by
  intro A pins s σ H x y u v sb I rx ry d
  obtain ⟨a, rfl, rfl⟩ := d
  cases rx
  cases ry
  exact SeqAt.EqAt.same (A := A) (s := s) (.ref a) X.prog X.w X.xe _ ⟨rfl, H, I, Ext.rfl'⟩
theorem eqG_lin : EqG X 1 DLin := (eqG_same.mono (by decide)).or (eqG_list mon_flat eqG_flat)
end
section
variable {g : Gr} {L : Led} {C : V → Led → Prop}
inductive LinL (L : Led) : V → V → Prop
  | same (a : Addr) : LinL L (.ref a) (.ref a)
  | nums {a b : Addr} {ns : List Int} {b1 b2 : Bool} (i j : Nat) (h1 : L[i]? = some (a, .ob (.lst (ns.map V.int)), b1)) (h2 : L[j]? = some (b, .ob (.lst (ns.map V.int)), b2)) : LinL L (.ref a) (.ref b)
theorem prs_ints {H : Hp} : ∀ ns : List Int, Prs DFlat (ns.map V.int) (ns.map V.int) H
  | [] => Prs.nil
  | n :: r => Prs.cons ⟨rfl, rfl, eqV_self n⟩ (prs_ints r)
theorem LinL.own {H : Hp} {x y : V} (z : At g L H) (h : LinL L x y) : DLin x y H := by
  cases h with
  | same a => exact .inl ⟨a, rfl, rfl⟩
  | nums i j h1 h2 => exact .inr ⟨_, _, _, _, rfl, rfl, z.get h1, z.get h2, prs_ints _⟩
inductive LinLs (L : Led) : List V → List V → Prop
  | nil : LinLs L [] []
  | cons {x y : V} {xs ys : List V} (h : LinL L x y) (k : LinLs L xs ys) : LinLs L (x :: xs) (y :: ys)
theorem LinLs.prs {H : Hp} {xs ys : List V} (z : At g L H) (h : LinLs L xs ys) : Prs DLin xs ys H := by
  induction h with
  | nil => exact Prs.nil
  | cons h k ih => exact Prs.cons (h.own z) ih
theorem wr_eqLO {a b : Addr} {xs ys : List V} {b1 b2 : Bool} (i j : Nat) (h1 : L[i]? = some (a, .ob (.lst xs), b1)) (h2 : L[j]? = some (b, .ob (.lst ys), b2)) (e : LinLs L xs ys) (c : C (.bl true) L) : Wp g L (rEqG (DList DLin) (.ref a) (.ref b)) C :=
  fun H z Q q => ⟨⟨a, b, xs, ys, rfl, rfl, z.get h1, z.get h2, e.prs z⟩, fun H' x => q _ _ _ c (z.ext x)⟩
end
end Kr

set_option Elab.async false
set_option linter.all false
set_option maxRecDepth 100000
set_option maxHeartbeats 4000000
/-! lists whose items are the same object or lists of ints: ==, with both answers -/
namespace L2
open PySem PySem.Spec PyProof.Rows
/-- two items: the same object, or two lists of ints -/
inductive MixV (K : PySem.W.Frag) (H : Hp) : V → V → Bool → Prop
  | same (a : Addr) : MixV K H (.ref a) (.ref a) true
  | num2 {a b : Addr} {ms ns : List Int} (h1 : SqL K H a (ms.map V.int)) (h2 : SqL K H b (ns.map V.int)) : MixV K H (.ref a) (.ref b) (decide (ms = ns))
section
variable {X : Cx} {pins : List (Addr × Obj)} {σ : L2.St} {H : Hp} {s : Shared}
theorem mapInt_inj : ∀ ms ns : List Int, ms.map V.int = ns.map V.int → ms = ns
  | [], [], _ => rfl
  | [], _ :: _, h => by simp at h
  | _ :: _, [], h => by simp at h
  | m :: ms, n :: ns, h => by
    rw [List.map_cons, List.map_cons] at h
    injection h with h1 h2
    injection h1 with h1
    rw [h1, mapInt_inj ms ns h2]
theorem ints_at {ms : List Int} {its : List Value} (r : Vals (ms.map V.int) its) {j : Nat} (hj : j < its.toArray.size) : ∃ (hm : j < ms.length) (t : Tok), its.toArray[j] = Value.int ms[j] t := by
  have hl : (ms.map V.int).length = its.length := r.length
  rw [List.length_map] at hl
  have hm : j < ms.length := by
    have : j < its.length := by simpa using hj
    omega
  obtain ⟨u, hu, ru⟩ := r.get (i := j) (x := V.int ms[j]) (by rw [List.getElem?_map, List.getElem?_eq_getElem hm]; rfl)
  obtain ⟨t, rfl⟩ : ∃ t, u = Value.int ms[j] t := ru
  refine ⟨hm, t, ?_⟩
  have hj2 : j < its.length := by simpa using hj
  rw [List.getElem?_eq_getElem hj2] at hu
  have hu := Option.some.inj hu
  simpa using hu
theorem mix_eqAt {A : Around} (I : Inv X pins σ H s) (hu : A.units < cLine) {x y : V} {v u : Value} {r : Bool} (h : MixV X.K H x y r) (rx : RelV x v) (ry : RelV y u) : SeqAt.EqAt A s v u r := by
  cases h with
  | same a =>
    obtain rfl : v = Value.ref a := rx
    obtain rfl : u = Value.ref a := ry
    exact SeqAt.EqAt.same _
  | @num2 a b ms ns h1 h2 =>
    obtain rfl : v = Value.ref a := rx
    obtain rfl : u = Value.ref b := ry
    obtain ⟨its, r1, p1, _⟩ := I.list h1
    obtain ⟨its2, r2, p2, _⟩ := I.list h2
    have l1 : ms.length = its.length := by have := r1.length; rwa [List.length_map] at this
    have l2 : ns.length = its2.length := by have := r2.length; rwa [List.length_map] at this
    by_cases hab : a = b
    · subst hab
      have e := I.list_inj h1 h2
      have e2 : ms = ns := mapInt_inj _ _ e
      rw [decide_eq_true e2]
      exact SeqAt.EqAt.same _
    · refine SeqAt.EqAt.of_refs hab ?_
      by_cases hl : ms.length = ns.length
      · have e0 := SeqAt.RcAt.lists (A := A) (s := s) (e := fun j => ms[j]? == ns[j]?) p1.isList p2.isList (by simp; omega) hu (fun j h1' h2' => by
          obtain ⟨hm, t1, e1⟩ := ints_at r1 h1'
          obtain ⟨hn, t2, e2⟩ := ints_at r2 h2'
          rw [e1, e2, List.getElem?_eq_getElem hm, List.getElem?_eq_getElem hn]
          exact SeqAt.EqAt.int_int _ _ _ _)
        have e : (List.range its.toArray.size).all (fun j => ms[j]? == ns[j]?) = decide (ms = ns) := by
          rw [Bool.eq_iff_iff, List.all_eq_true, decide_eq_true_eq]
          constructor
          · intro h
            apply List.ext_getElem?
            intro j
            by_cases hj : j < ms.length
            · exact eq_of_beq (h j (List.mem_range.mpr (by simp; omega)))
            · rw [List.getElem?_eq_none (by omega), List.getElem?_eq_none (by omega)]
          · intro h j _
            rw [h]
            simp
        rw [e] at e0
        exact e0
      · have e : decide (ms = ns) = false := decide_eq_false fun q => hl (by rw [q])
        rw [e]
        exact SeqAt.RcAt.lists_lengths p1.isList p2.isList (by simp; omega) hu
end
def rEqM (K : PySem.W.Frag) : R2 := fun x y H Q => ∃ (a b : Addr) (xs ys : List V) (rs : List Bool), x = .ref a ∧ y = .ref b ∧ SqL K H a xs ∧ SqL K H b ys ∧ xs.length = rs.length ∧ ys.length = rs.length ∧
  (∀ (j : Nat) x y r, xs[j]? = some x → ys[j]? = some y → rs[j]? = some r → MixV K H x y r) ∧ Q (.bl (rs.all id)) H
theorem op_eqM {X : Cx} (hu : X.A.units + 64 < cLine) : OpR X (compareOp .Eq) (rEqM X.K) := by
  intro pins s σ H x y v u Q I rx ry h
  obtain ⟨a, b, xs, ys, rs, rfl, rfl, h1, h2, l1, l2, hm, q⟩ := h
  obtain rfl : v = Value.ref a := rx
  obtain rfl : u = Value.ref b := ry
  obtain ⟨its, r1, p1, _⟩ := I.list h1
  obtain ⟨its2, r2, p2, _⟩ := I.list h2
  have k1 := r1.length
  have k2 := r2.length
  have hall : (List.range its.toArray.size).all (fun j => (rs[j]?).getD true) = rs.all id := by
    rw [Bool.eq_iff_iff, List.all_eq_true, List.all_eq_true]
    constructor
    · intro h r hr
      obtain ⟨j, hj⟩ := List.mem_iff_getElem?.mp hr
      have hlt := (List.getElem?_eq_some_iff.mp hj).1
      have := h j (List.mem_range.mpr (by simp; omega))
      rw [hj] at this
      exact this
    · intro h j _
      cases hj : rs[j]? with
      | none => rfl
      | some r => exact h r (List.mem_of_getElem? hj)
  refine SeqAt.eq_listAt (e := fun j => (rs[j]?).getD true) p1.isList p2.isList (by simp; omega) (by omega) (fun j h1' h2' => ?_) ⟨.bl _, H, I, rfl, by rw [hall]; exact q⟩
  have j1 : j < its.length := by simpa using h1'
  have j2 : j < its2.length := by simpa using h2'
  obtain ⟨x, hx⟩ : ∃ x, xs[j]? = some x := ⟨xs[j]'(by omega), List.getElem?_eq_getElem (by omega)⟩
  obtain ⟨y, hy⟩ : ∃ y, ys[j]? = some y := ⟨ys[j]'(by omega), List.getElem?_eq_getElem (by omega)⟩
  obtain ⟨r, hr⟩ : ∃ r, rs[j]? = some r := ⟨rs[j]'(by omega), List.getElem?_eq_getElem (by omega)⟩
  obtain ⟨v, hv, rv⟩ := r1.get hx
  obtain ⟨u, hu2, ru⟩ := r2.get hy
  rw [List.getElem?_eq_getElem j1] at hv
  rw [List.getElem?_eq_getElem j2] at hu2
  have hv := Option.some.inj hv
  have hu2 := Option.some.inj hu2
  have e := mix_eqAt (A := X.A.in1) I (by have h : X.A.in1.units = X.A.units + 1 := rfl; omega) (hm j x y r hx hy hr) rv ru
  rw [hr]
  subst hv hu2
  simpa using e
end L2
namespace Kr
open PySem L2 PySem.W
section
variable {K : PySem.W.Frag} {g : Gr} {L : Led} {C : V → Led → Prop} {a b : Addr} {b1 b2 : Bool}
/-- items by the ledger -/
inductive MixL (L : Led) : V → V → Bool → Prop
  | same (a : Addr) : MixL L (.ref a) (.ref a) true
  | nums {a b : Addr} {ms ns : List Int} {b1 b2 : Bool} (i j : Nat) (h1 : L[i]? = some (a, .ob (.lst (ms.map V.int)), b1)) (h2 : L[j]? = some (b, .ob (.lst (ns.map V.int)), b2)) : MixL L (.ref a) (.ref b) (decide (ms = ns))
inductive MixLs (L : Led) : List V → List V → List Bool → Prop
  | nil : MixLs L [] [] []
  | cons {x y : V} {r : Bool} {xs ys : List V} {rs : List Bool} (h : MixL L x y r) (t : MixLs L xs ys rs) : MixLs L (x :: xs) (y :: ys) (r :: rs)
theorem MixL.at_ {H : Hp} {x y : V} {r : Bool} (z : At g L H) (h : MixL L x y r) : MixV K H x y r := by
  cases h with
  | same a => exact .same a
  | nums i j h1 h2 => exact .num2 (SqL.of (z.get h1)) (SqL.of (z.get h2))
theorem MixLs.len {xs ys : List V} {rs : List Bool} (h : MixLs L xs ys rs) : xs.length = rs.length ∧ ys.length = rs.length := by
  induction h with
  | nil => exact ⟨rfl, rfl⟩
  | cons h t ih => simp [ih.1, ih.2]
theorem MixLs.all {H : Hp} (z : At g L H) {xs ys : List V} {rs : List Bool} (h : MixLs L xs ys rs) : ∀ (j : Nat) x y r, xs[j]? = some x → ys[j]? = some y → rs[j]? = some r → MixV K H x y r := by
  induction h with
  | nil => intro j x y r h; simp at h
  | cons h t ih =>
    intro j x y r h1 h2 h3
    cases j with
    | zero =>
      simp at h1 h2 h3
      subst h1 h2 h3
      exact h.at_ z
    | succ j => exact ih j x y r (by simpa using h1) (by simpa using h2) (by simpa using h3)
theorem wr_eqM {xs ys : List V} {rs : List Bool} (i j : Nat) (h1 : L[i]? = some (a, .ob (.lst xs), b1)) (h2 : L[j]? = some (b, .ob (.lst ys), b2)) (e : MixLs L xs ys rs) (c : C (.bl (rs.all id)) L) : Wp g L (rEqM K (.ref a) (.ref b)) C :=
  fun H z Q q => ⟨a, b, xs, ys, rs, rfl, rfl, SqL.of (z.get h1), SqL.of (z.get h2), e.len.1, e.len.2, e.all z, q _ _ _ c z⟩
end
end Kr

set_option Elab.async false
set_option linter.all false
set_option maxRecDepth 100000
set_option maxHeartbeats 4000000
/-! ### lists of instances -/
namespace Kr
open PySem L2 PySem.W
/-- no own instance stands in the ledger -/
def FreeI (L : Led) : Prop := L.all (fun q => !(q.2.2 && q.2.1.insq)) = true
theorem freeI_app {L : Led} {x : Addr × Ent × Bool} (h : FreeI L) (hx : x.2.1.insq = false) : FreeI (L ++ [x]) := by
  unfold FreeI at *
  rw [List.all_append, h]
  simp [hx]
/-- an instance is no longer one's own -/
theorem At.free {g : Gr} {L : Led} {H : Hp} {i : Nat} {a : Addr} {e : Ent} {b : Bool} (z : At g L H) (k : L[i]? = some (a, e, b)) : At g (L.set i (a, e, false)) H := by
  refine ⟨z.old, fun q hq => ?_, fun q hq hb => ?_, ?_⟩
  · rcases List.mem_or_eq_of_mem_set hq with r | r
    · exact z.led q r
    · subst r
      obtain ⟨o, h1, h2⟩ := z.look k
      exact ⟨o, h1, h2⟩
  · rcases List.mem_or_eq_of_mem_set hq with r | r
    · exact z.own q r hb
    · subst r
      cases hb
  · rw [List.pairwise_iff_getElem]
    intro p q hp hq hpq ee
    have hp' : p < L.length := by simpa using hp
    have hq' : q < L.length := by simpa using hq
    by_cases h1 : i = p
    · subst h1
      rw [List.getElem_set_self, List.getElem_set_ne (by omega)] at ee ⊢
      rcases nd_at z.nd (x := (a, e, b)) k (List.getElem?_eq_getElem hq') (by omega) ee with w | w
      · exact .inl w
      · exact .inr ⟨rfl, w.2⟩
    · by_cases h2 : i = q
      · subst h2
        rw [List.getElem_set_self, List.getElem_set_ne (by omega)] at ee ⊢
        rcases nd_at z.nd (y := (a, e, b)) (List.getElem?_eq_getElem hp') k (by omega) ee with w | w
        · exact .inl w
        · exact .inr ⟨w.1, rfl⟩
      · rw [List.getElem_set_ne h1, List.getElem_set_ne h2] at ee ⊢
        exact List.pairwise_iff_getElem.mp z.nd p q hp' hq' hpq ee
theorem ws_free {g : Gr} {L : Led} {σ : St} {K : Ks} {t : TS} {a : Addr} {e : Ent} {b : Bool} (i : Nat) (k : L[i]? = some (a, e, b)) (c : Ws g (L.set i (a, e, false)) t σ K) : Ws g L t σ K := fun H z D eo => c H (z.free k) D eo
theorem wp_free {α : Type} {g : Gr} {L : Led} {m : Hp → (α → Hp → Prop) → Prop} {C : α → Led → Prop} {a : Addr} {e : Ent} {b : Bool} (i : Nat) (k : L[i]? = some (a, e, b)) (c : Wp g (L.set i (a, e, false)) m C) : Wp g L m C := fun H z Q q => c H (z.free k) Q q
/-- an instance that stands there -/
theorem At.addI {g : Gr} {L : Led} {H : Hp} {a Cl dx : Addr} {fs : List (Str × V)} (z : At g L H) (h : H a = some (.ins Cl dx fs)) (hf : FreeI L) : At g (L ++ [(a, .ob (.ins Cl dx fs), false)]) H := by
  refine ⟨z.old, fun q hq => ?_, fun q hq hb => ?_, nd_app z.nd fun q hq e => ?_⟩
  · rcases List.mem_append.mp hq with hq | hq
    · exact z.led q hq
    · have e : q = (a, Ent.ob (.ins Cl dx fs), false) := by simpa using hq
      subst e
      exact ⟨_, h, rfl⟩
  · rcases List.mem_append.mp hq with hq | hq
    · exact z.own q hq hb
    · have e : q = (a, Ent.ob (.ins Cl dx fs), false) := by simpa using hq
      subst e
      cases hb
  · refine .inr ⟨?_, rfl⟩
    obtain ⟨o, h1, h2⟩ := z.led q hq
    rw [show q.1 = a from e, h] at h1
    have h1 := Option.some.inj h1
    subst h1
    cases hb : q.2.2 with
    | false => rfl
    | true =>
      have hq2 := List.all_eq_true.mp hf q hq
      rw [hb] at hq2
      have hq3 : q.2.1.insq = false := by simpa using hq2
      exact absurd rfl (Ent.insq_ne hq3 h2 Cl dx fs)
structure IterI {α : Type} (g : Gr) (L : Led) (J : It) (tg : TG) (xs : List α) (Cl : Addr) (row : α → List (Str × V)) (S : α → Addr → St → St) : Prop where
  at_ : ∀ H, At g L H → J.stop xs.length H ∧ ∀ i x, xs[i]? = some x → J.go i H ∧ ∀ v H', J.yld i H v H' → Same H H' ∧ ∃ pr dx : Addr, H' pr = some (.ins Cl dx (row x)) ∧ ∀ σ (Q : St → Hp → Prop), Q (S x pr σ) H' → tg v σ H' Q
theorem iter_inss {α : Type} {g : Gr} {L : Led} {a Cl : Addr} {Kf : PySem.W.Frag} {bo : Bool} (i : Nat) (row : α → List (Str × V)) {xs : List α} (j : Nat) (hj : L[j]? = some (a, .inss Cl (xs.map row), bo)) :
    IterI g L (Itl Kf a) (gName i) xs Cl row (fun _ pr σ => σ.set i (some (.ref pr))) := ⟨fun H z => by
  obtain ⟨o, h1, as, e1, hl, hr⟩ := z.look hj
  subst e1
  rw [List.length_map] at hl
  have hs : SqL Kf H a (as.map V.ref) := SqL.of h1
  refine ⟨⟨_, hs, by rw [List.length_map, hl]; exact Nat.le_refl _⟩, fun k x hx => ?_⟩
  have hk : k < as.length := by
    have := (List.getElem?_eq_some_iff.mp hx).1
    omega
  have hx2 : (as.map V.ref)[k]? = some (.ref as[k]) := by rw [List.getElem?_map, List.getElem?_eq_getElem hk]; rfl
  obtain ⟨dx, hx3⟩ := hr k as[k] (row x) (List.getElem?_eq_getElem hk) (by rw [List.getElem?_map, hx]; rfl)
  refine ⟨⟨_, _, hs, hx2⟩, fun v H' hy => ?_⟩
  obtain ⟨e1, e2⟩ := hy
  subst e1
  have e3 := e2 _ hs
  rw [hx2] at e3
  have e3 := Option.some.inj e3
  subst e3
  exact ⟨same_refl, as[k], dx, hx3, fun σ Q q => q⟩⟩
theorem wi_inss {K : PySem.W.Frag} {g : Gr} {L : Led} {σ : St} {te : TE} {T : It → Led → Prop} (j : Nat) (h : Wp g L (te σ) fun x L1 => ∃ (a : Addr) (bo : Bool) (Cl : Addr) (fss : List (List (Str × V))), x = .ref a ∧ L1[j]? = some (a, .inss Cl fss, bo) ∧ T (Itl K a) L1) : Wp g L (iList K te σ) T :=
  fun H z Q q => h H z _ fun x L1 H1 ⟨a, bo, Cl, fss, e, s, k⟩ z1 => by
    obtain ⟨o, h1, as, e1, _⟩ := z1.look s
    subst e1
    exact ⟨a, e, ⟨_, SqL.of h1⟩, q _ _ _ k z1⟩
section
variable {α : Type} {g : Gr} {L : Led} {σ : St} {K : Ks} {tg : TG} {tb : TS} {J : It} {xs : List α} {row : α → List (Str × V)} {Cl : Addr} {S : α → Addr → St → St}
theorem wf_GI (I : Nat → St → Led → Prop) (hfr : ∀ i σ L, I i σ L → FreeI L) (it : ∀ i σ L, I i σ L → IterI g L J tg xs Cl row S) (h0 : I 0 σ L)
    (hs : ∀ i x pr dx σ L, xs[i]? = some x → I i σ L → Ws g (L ++ [(pr, .ob (.ins Cl dx (row x)), false)]) tb (S x pr σ) { K with nx := fun σ' L' => ∃ L3, I (i + 1) σ' L3 ∧ L3 <+: L', ct := fun σ' L' => ∃ L3, I (i + 1) σ' L3 ∧ L3 <+: L', bk := K.nx })
    (hd : ∀ σ L, I xs.length σ L → K.nx σ L) : WFor g L J tg tb σ K := fun H z D e => by
  refine ⟨fun i m σ H => i ≤ xs.length ∧ m = xs.length - i ∧ ∃ L, I i σ L ∧ At g L H, ⟨xs.length, Nat.zero_le _, rfl, L, h0, z⟩, ?_⟩
  rintro i m σ H ⟨hi, rfl, L, k, z⟩
  obtain ⟨h1, h2⟩ := (it i σ L k).at_ H z
  by_cases hlt : i < xs.length
  · obtain ⟨h3, h4⟩ := h2 i xs[i] (List.getElem?_eq_getElem hlt)
    refine .inr ⟨h3, fun σ' H' => ∃ L, I (i + 1) σ' L ∧ At g L H', fun σ' H' q => ⟨xs.length - (i + 1), by omega, hlt, rfl, q⟩, fun v H' y => ?_⟩
    obtain ⟨h5, pr, dx, hpr, h6⟩ := h4 v H' y
    refine h6 σ _ ?_
    have kk : ∀ σ' L' H', (∃ L3, I (i + 1) σ' L3 ∧ L3 <+: L') → At g L' H' → ∃ L, I (i + 1) σ' L ∧ At g L H' := fun σ' L' H' ⟨L3, hi, hp⟩ z' => ⟨L3, hi, z'.pre hp⟩
    exact hs i xs[i] pr dx σ L (List.getElem?_eq_getElem hlt) k H' ((z.same h5).addI hpr (hfr i σ L k)) _ ⟨kk, e.rt, e.nx, kk⟩
  · have e1 : i = xs.length := by omega
    subst e1
    exact .inl ⟨h1, e.nx _ _ _ (hd σ L k) z⟩
theorem wf_SI (hfr : FreeI L) (it : IterI g L J tg xs Cl row S) (I : Nat → List (Option (Option V)) → Prop) (h0 : ∃ vs, σ = putA σ vs ∧ I 0 vs)
    (hs : ∀ i x pr dx vs, xs[i]? = some x → I i vs → Ws g (L ++ [(pr, .ob (.ins Cl dx (row x)), false)]) tb (S x pr (putA σ vs)) { K with nx := fun σ' L' => ∃ vs', (σ' = putA σ vs' ∧ I (i + 1) vs') ∧ L <+: L', ct := fun σ' L' => ∃ vs', (σ' = putA σ vs' ∧ I (i + 1) vs') ∧ L <+: L', bk := K.nx })
    (hd : ∀ vs, I xs.length vs → K.nx (putA σ vs) L) : WFor g L J tg tb σ K := by
  obtain ⟨vs0, e0, k0⟩ := h0
  refine wf_GI (xs := xs) (S := S) (fun i σ' L' => ∃ vs, (σ' = putA σ vs ∧ I i vs) ∧ L' = L) (fun i σ' L' ⟨vs, _, e⟩ => e ▸ hfr) (fun i σ' L' ⟨vs, _, e⟩ => e ▸ it) ⟨vs0, ⟨e0, k0⟩, rfl⟩ ?_ ?_
  · rintro i x pr dx σ' L' hi ⟨vs, ⟨rfl, k⟩, rfl⟩
    intro H3 z3 D e
    have kk : ∀ σ' L'' H', (∃ vs', (σ' = putA σ vs' ∧ I (i + 1) vs') ∧ L' <+: L'') → At g L'' H' → D.nx σ' H' := fun σ' L'' H' ⟨vs', h1, h2⟩ z' => e.nx σ' L'' H' ⟨L', ⟨vs', h1, rfl⟩, h2⟩ z'
    have kc : ∀ σ' L'' H', (∃ vs', (σ' = putA σ vs' ∧ I (i + 1) vs') ∧ L' <+: L'') → At g L'' H' → D.ct σ' H' := fun σ' L'' H' ⟨vs', h1, h2⟩ z' => e.ct σ' L'' H' ⟨L', ⟨vs', h1, rfl⟩, h2⟩ z'
    exact hs i x pr dx vs hi k H3 z3 D ⟨kk, e.rt, e.bk, kc⟩
  · rintro σ' L' ⟨vs, ⟨rfl, k⟩, rfl⟩
    exact hd vs k
theorem wf_AI (j : Nat) {a : Addr} {e0 : Ent} (hj : L[j]? = some (a, e0, true)) (it : ∀ e, IterI g (L.set j (a, e, true)) J tg xs Cl row S) (I : Nat → List (Option (Option V)) → Ent → Prop) (hfr : ∀ i vs e, I i vs e → FreeI (L.set j (a, e, true))) (h0 : ∃ vs, σ = putA σ vs ∧ I 0 vs e0)
    (hs : ∀ i x pr dx vs e, xs[i]? = some x → I i vs e → Ws g (L.set j (a, e, true) ++ [(pr, .ob (.ins Cl dx (row x)), false)]) tb (S x pr (putA σ vs)) { K with nx := fun σ' L' => ∃ vs' e', (σ' = putA σ vs' ∧ I (i + 1) vs' e') ∧ L.set j (a, e', true) <+: L', ct := fun σ' L' => ∃ vs' e', (σ' = putA σ vs' ∧ I (i + 1) vs' e') ∧ L.set j (a, e', true) <+: L', bk := K.nx })
    (hd : ∀ vs e, I xs.length vs e → K.nx (putA σ vs) (L.set j (a, e, true))) : WFor g L J tg tb σ K := by
  obtain ⟨vs0, e0', k0⟩ := h0
  refine wf_GI (xs := xs) (S := S) (fun i σ' L' => ∃ vs e, (σ' = putA σ vs ∧ I i vs e) ∧ L' = L.set j (a, e, true)) (fun i σ' L' ⟨vs, e, k, q⟩ => q ▸ hfr i vs e k.2) (fun i σ' L' ⟨vs, e, _, q⟩ => q ▸ it e) ⟨vs0, _, ⟨e0', k0⟩, (set_self hj).symm⟩ ?_ ?_
  · rintro i x pr dx σ' L' hi ⟨vs, en, ⟨rfl, k⟩, rfl⟩
    intro H3 z3 D e
    have kk : ∀ σ' L'' H', (∃ vs' e', (σ' = putA σ vs' ∧ I (i + 1) vs' e') ∧ L.set j (a, e', true) <+: L'') → At g L'' H' → D.nx σ' H' := fun σ' L'' H' ⟨vs', e', h1, h2⟩ z' => e.nx σ' L'' H' ⟨_, ⟨vs', e', h1, rfl⟩, h2⟩ z'
    have kc : ∀ σ' L'' H', (∃ vs' e', (σ' = putA σ vs' ∧ I (i + 1) vs' e') ∧ L.set j (a, e', true) <+: L'') → At g L'' H' → D.ct σ' H' := fun σ' L'' H' ⟨vs', e', h1, h2⟩ z' => e.ct σ' L'' H' ⟨_, ⟨vs', e', h1, rfl⟩, h2⟩ z'
    exact hs i x pr dx vs en hi k H3 z3 D ⟨kk, e.rt, e.bk, kc⟩
  · rintro σ' L' ⟨vs, en, ⟨rfl, k⟩, rfl⟩
    exact hd vs en k
end
section
variable {α : Type} {g : Gr} {L : Led} {σ : St} {C : V → Led → Prop} {tt : TT} {te : TE} {tg : TG} {J : It} {xs : List α} {row : α → List (Str × V)} {Cl : Addr} {S : α → Addr → St → St} {vs : List Nat}
theorem lc_GI {β : Type} (En : List β → Ent) (hmv : ∀ ys, (En ys).mov2 = true) (p : α → Bool) (f : α → β) (hfr : FreeI L) (it : IterI g L J tg xs Cl row S) (hw : ∀ x pr, wipe (S x pr (wipe σ vs)) vs = wipe σ vs) (hl : xs.length ≤ 99999)
    (e0 : ∀ H, (En []).In H (.lst []))
    (hs : ∀ x pr dx, x ∈ xs → ∀ (D : Addr) (acc : List β), Wp g (L ++ [(D, En acc, true)] ++ [(pr, .ob (.ins Cl dx (row x)), false)]) (tt (S x pr (wipe σ vs))) fun b L2 => b = p x ∧
      if b = true then Wp g L2 (te (S x pr (wipe σ vs))) fun y L3 => (L ++ [(D, En acc, true)]) <+: L3 ∧ ∀ H, At g L3 H → ∃ ac, H D = some (.lst ac) ∧ ac.length = acc.length ∧ (En (acc ++ [f x])).In (upd H D (.lst (ac ++ [y]))) (.lst (ac ++ [y])) else (L ++ [(D, En acc, true)]) <+: L2)
    (c : ∀ D, C (.ref D) (L ++ [(D, En ((xs.filter p).map f), true)])) : WLc g L J tg tt te vs σ C := fun H z Q q D hD => by
  have hi : ∀ e : Ent, (L ++ [(D, e, true)])[L.length]? = some (D, e, true) := fun o => by simp
  have hsub : ∀ {e : Ent} {H : Hp}, At g (L ++ [(D, e, true)]) H → At g L H := fun z => z.pre ⟨_, rfl⟩
  refine ⟨fun i m H => i ≤ xs.length ∧ m = xs.length - i ∧ At g (L ++ [(D, En (((xs.take i).filter p).map f), true)]) H, ⟨xs.length, Nat.zero_le _, rfl, ?_⟩, ?_⟩
  · refine z.newE (fun c u e => by rw [upd_ne (ne_of_none e hD)]; exact e) hD upd_same ?_
    simpa using e0 _
  rintro i m H ⟨hi0, rfl, z⟩
  obtain ⟨h1, h2⟩ := it.at_ H (hsub z)
  by_cases hlt : i < xs.length
  · have hxi := List.getElem?_eq_getElem hlt
    obtain ⟨h3, h4⟩ := h2 i xs[i] hxi
    refine .inr ⟨h3, fun H' => At g (L ++ [(D, En (((xs.take (i + 1)).filter p).map f), true)]) H', fun H' q => ⟨xs.length - (i + 1), by omega, hlt, rfl, q⟩, fun v H' y => ?_⟩
    obtain ⟨h5, pr, dx, hpr, h6⟩ := h4 v H' y
    refine h6 _ _ ⟨hw _ _, ?_⟩
    have hacc := filter_take_succ p f hxi
    have hlen : (((xs.take i).filter p).map f).length < 100000 := by
      have := List.length_filter_le p (xs.take i)
      have h3 : (xs.take i).length ≤ xs.length := by simp; omega
      rw [List.length_map]
      omega
    generalize ((xs.take i).filter p).map f = acc at z hacc hlen
    refine hs xs[i] pr dx (List.mem_of_getElem? hxi) D acc H' ((z.same h5).addI hpr (freeI_app hfr (Ent.mov2_insq (hmv acc)))) _ fun b L2 H2 ⟨eb, k⟩ z2 => ?_
    subst eb
    cases hp : p xs[i] with
    | true =>
      rw [hp] at k hacc
      have k : Wp g L2 _ _ := k
      refine k H2 z2 _ fun y L3 H3 ⟨hpre, hn⟩ z3 => ?_
      obtain ⟨ac, q1, q2, q3⟩ := hn H3 z3
      have z4 := z3.pre hpre
      refine ⟨ac, q1, by rw [q2]; exact Nat.lt_of_lt_of_le hlen (by decide), ?_⟩
      have z5 := z4.chg (e' := En (acc ++ [f xs[i]])) (H' := upd H3 D (.lst (ac ++ [y]))) (o := .lst (ac ++ [y])) (hi _) (fun c u e z => by rw [upd_ne z]; exact e) upd_same q3 (hmv _)
      rw [List.set_append_right _ _ (Nat.le_refl _), Nat.sub_self] at z5
      rw [hacc]
      exact z5
    | false =>
      rw [hp] at k hacc
      have k : _ <+: L2 := k
      have e2 : ((xs.take (i + 1)).filter p).map f = acc := by rw [hacc]; simp
      show At g _ H2
      rw [e2]
      exact z2.pre k
  · have e1 : i = xs.length := by omega
    subst e1
    rw [List.take_length] at z
    exact .inl ⟨h1, q _ _ _ (c D) z⟩
theorem lc_VI {β : Type} (T : β → V) (p : α → Bool) (f : α → β) (hfr : FreeI L) (it : IterI g L J tg xs Cl row S) (hw : ∀ x pr, wipe (S x pr (wipe σ vs)) vs = wipe σ vs) (hl : xs.length ≤ 99999)
    (hs : ∀ x pr dx, x ∈ xs → ∀ (D : Addr) (acc : List V), Wp g (L ++ [(D, .ob (.lst acc), true)] ++ [(pr, .ob (.ins Cl dx (row x)), false)]) (tt (S x pr (wipe σ vs))) fun b L2 => b = p x ∧
      if b = true then Wp g L2 (te (S x pr (wipe σ vs))) fun y L3 => y = T (f x) ∧ (L ++ [(D, .ob (.lst acc), true)]) <+: L3 else (L ++ [(D, .ob (.lst acc), true)]) <+: L2)
    (c : ∀ D, C (.ref D) (L ++ [(D, .ob (.lst (((xs.filter p).map f).map T)), true)])) : WLc g L J tg tt te vs σ C := by
  refine lc_GI (fun ys => .ob (.lst (ys.map T))) (fun _ => rfl) p f hfr it hw hl (fun _ => rfl) (fun x pr dx hx D acc => ?_) c
  refine (hs x pr dx hx D (acc.map T)).mono fun b L2 ⟨e, k⟩ => ⟨e, ?_⟩
  cases b with
  | true =>
    refine Wp.mono (show Wp g L2 _ _ from k) fun y L3 ⟨ey, hp⟩ => ⟨hp, fun H z => ?_⟩
    have hg := (z.pre hp).get (i := L.length) (a := D) (o := .lst (acc.map T)) (b := true) (by simp)
    subst ey
    refine ⟨_, hg, by rw [List.length_map], ?_⟩
    show HO.lst _ = HO.lst _
    rw [List.map_append]
    rfl
  | false => exact k
theorem lc_TI {β : Type} (rw_ : β → List V) (p : α → Bool) (f : α → β) (hfr : FreeI L) (it : IterI g L J tg xs Cl row S) (hw : ∀ x pr, wipe (S x pr (wipe σ vs)) vs = wipe σ vs) (hl : xs.length ≤ 99999)
    (hs : ∀ x pr dx, x ∈ xs → ∀ (D : Addr) (acc : List (List V)), Wp g (L ++ [(D, .rows acc, true)] ++ [(pr, .ob (.ins Cl dx (row x)), false)]) (tt (S x pr (wipe σ vs))) fun b L2 => b = p x ∧
      if b = true then Wp g L2 (te (S x pr (wipe σ vs))) fun y L3 => (∃ (q : Addr) (j : Nat) (bo : Bool), y = .ref q ∧ L3[j]? = some (q, .ob (.tup (rw_ (f x))), bo)) ∧ (L ++ [(D, .rows acc, true)]) <+: L3 else (L ++ [(D, .rows acc, true)]) <+: L2)
    (c : ∀ D, C (.ref D) (L ++ [(D, .rows (((xs.filter p).map f).map rw_), true)])) : WLc g L J tg tt te vs σ C := by
  refine lc_GI (fun ys => .rows (ys.map rw_)) (fun _ => rfl) p f hfr it hw hl (fun _ => ⟨[], rfl, rfl, fun k a r h => by simp at h⟩) (fun x pr dx hx D acc => ?_) c
  refine (hs x pr dx hx D (acc.map rw_)).mono fun b L2 ⟨e, k⟩ => ⟨e, ?_⟩
  cases b with
  | true =>
    refine Wp.mono (show Wp g L2 _ _ from k) fun y L3 ⟨⟨q, j, bo, ey, hq⟩, hp⟩ => ⟨hp, fun H z => ?_⟩
    obtain ⟨o, hg, hin⟩ := (z.pre hp).look (i := L.length) (a := D) (e := .rows (acc.map rw_)) (b := true) (by simp)
    subst ey
    obtain ⟨as, e1, hl1, h3⟩ := hin
    subst e1
    refine ⟨_, hg, by rw [List.length_map, hl1, List.length_map], ?_⟩
    show (Ent.rows ((acc ++ [f x]).map rw_)).In _ _
    rw [List.map_append]
    exact rows_snoc ⟨as, rfl, hl1, h3⟩ hg (z.get hq)
  | false => exact k
end

/-! ### a comprehension that makes instances -/
theorem inss_snoc {Cl : Addr} {fss : List (List (Str × V))} {fs : List (Str × V)} {H : Hp} {D p dx : Addr} {ac : List V} (h : (Ent.inss Cl fss).In H (.lst ac)) (hD : H D = some (.lst ac)) (hp : H p = some (.ins Cl dx fs)) : (Ent.inss Cl (fss ++ [fs])).In (upd H D (.lst (ac ++ [.ref p]))) (.lst (ac ++ [.ref p])) := by
  obtain ⟨as, e, hl, h3⟩ := h
  have e : ac = as.map V.ref := by injection e
  subst e
  refine ⟨as ++ [p], by simp, by simp [hl], fun k a r' q1 q2 => ?_⟩
  have hne : (∃ dx, H a = some (.ins Cl dx r')) → ∃ dx, upd H D (.lst (as.map V.ref ++ [.ref p])) a = some (.ins Cl dx r') := fun ⟨dx, h⟩ => ⟨dx, by
    rw [upd_ne]
    · exact h
    · intro z
      subst z
      rw [hD] at h
      cases h⟩
  apply hne
  by_cases hk : k < as.length
  · rw [List.getElem?_append_left hk] at q1
    rw [List.getElem?_append_left (by omega)] at q2
    exact h3 k a r' q1 q2
  · have hk2 : k = as.length := by
      have := (List.getElem?_eq_some_iff.mp q1).1
      simp at this
      omega
    subst hk2
    rw [List.getElem?_append_right (Nat.le_refl _), Nat.sub_self] at q1
    rw [hl, List.getElem?_append_right (Nat.le_refl _), Nat.sub_self] at q2
    have q1 : some p = some a := q1
    have q2 : some fs = some r' := q2
    cases q1
    cases q2
    exact ⟨dx, hp⟩
section
variable {α : Type} {g : Gr} {L : Led} {σ : St} {C : V → Led → Prop} {tt : TT} {te : TE} {tg : TG} {J : It} {xs : List α} {S : α → St → St} {vs : List Nat}
theorem lc_NI {β : Type} (Cl : Addr) (row : β → List (Str × V)) (p : α → Bool) (f : α → β) (it : Iter g L J tg xs S) (hw : ∀ x, wipe (S x (wipe σ vs)) vs = wipe σ vs) (hl : xs.length ≤ 99999)
    (hs : ∀ x, x ∈ xs → ∀ (D : Addr) (acc : List (List (Str × V))), Wp g (L ++ [(D, .inss Cl acc, true)]) (tt (S x (wipe σ vs))) fun b L2 => b = p x ∧
      if b = true then Wp g L2 (te (S x (wipe σ vs))) fun y L3 => (∃ (q dx : Addr) (j : Nat) (bo : Bool), y = .ref q ∧ L3[j]? = some (q, .ob (.ins Cl dx (row (f x))), bo)) ∧ (L ++ [(D, .inss Cl acc, true)]) <+: L3 else (L ++ [(D, .inss Cl acc, true)]) <+: L2)
    (c : ∀ D, C (.ref D) (L ++ [(D, .inss Cl (((xs.filter p).map f).map row), true)])) : WLc g L J tg tt te vs σ C := by
  refine lc_G (fun ys => .inss Cl (ys.map row)) (fun _ => rfl) p f it hw hl (fun _ => ⟨[], rfl, rfl, fun k a r h => by simp at h⟩) (fun x hx D acc => ?_) c
  refine (hs x hx D (acc.map row)).mono fun b L2 ⟨e, k⟩ => ⟨e, ?_⟩
  cases b with
  | true =>
    refine Wp.mono (show Wp g L2 _ _ from k) fun y L3 ⟨⟨q, dx, j, bo, ey, hq⟩, hp⟩ => ⟨hp, fun H z => ?_⟩
    obtain ⟨o, hg, hin⟩ := (z.pre hp).look (i := L.length) (a := D) (e := .inss Cl (acc.map row)) (b := true) (by simp)
    subst ey
    obtain ⟨as, e1, hl1, h3⟩ := hin
    subst e1
    refine ⟨_, hg, by rw [List.length_map, hl1, List.length_map], ?_⟩
    show (Ent.inss Cl ((acc ++ [f x]).map row)).In _ _
    rw [List.map_append]
    exact inss_snoc ⟨as, rfl, hl1, h3⟩ hg (z.get hq)
  | false => exact k
end
/-! ### len, compare -/
section
variable {K : PySem.W.Frag} {g : Gr} {L : Led} {C : V → Led → Prop} {a b Cl : Addr} {bo bo2 : Bool}
theorem wc_lenI {fss : List (List (Str × V))} (i : Nat) (h : L[i]? = some (a, .inss Cl fss, bo)) (c : C (.int (fss.length : Int)) L) : Wp g L (rLen K [.ref a]) C := .now (fun H _ z q => by
  obtain ⟨o, h1, as, e1, hl1, h3⟩ := z.look h
  subst e1
  exact ⟨a, _, rfl, .inl (SqL.of h1), by rw [List.length_map, hl1]; exact q⟩) c
/-- lists of instances with the same attributes -/
theorem wr_neLO {P : List (Str × V) → Prop} {fss : List (List (Str × V))} (i j : Nat) (h1 : L[i]? = some (a, .inss Cl fss, bo)) (h2 : L[j]? = some (b, .inss Cl fss, bo2)) (hP : ∀ fs ∈ fss, P fs) (c : C (.bl false) L) : Wp g L (rNeG (DList (DOwn Cl P)) (.ref a) (.ref b)) C :=
  fun H z Q q => by
    obtain ⟨o, e1, as, ea, hl, h3⟩ := z.look h1
    obtain ⟨o2, e2, bs, eb, hl2, h4⟩ := z.look h2
    subst ea eb
    refine ⟨⟨a, b, _, _, rfl, rfl, e1, e2, by rw [List.length_map, List.length_map, hl, hl2], fun k x y q1 q2 => .inr ?_⟩, fun H' e => q _ _ _ c (z.ext e)⟩
    rw [List.getElem?_map] at q1 q2
    cases ha : as[k]? with
    | none => rw [ha] at q1; cases q1
    | some a1 =>
      cases hb : bs[k]? with
      | none => rw [hb] at q2; cases q2
      | some b1 =>
        rw [ha] at q1
        rw [hb] at q2
        have q1 : V.ref a1 = x := Option.some.inj q1
        have q2 : V.ref b1 = y := Option.some.inj q2
        subst q1 q2
        have hk : k < fss.length := by rw [← hl]; exact (List.getElem?_eq_some_iff.mp ha).1
        obtain ⟨dx, w1⟩ := h3 k a1 _ ha (List.getElem?_eq_getElem hk)
        obtain ⟨dy, w2⟩ := h4 k b1 _ hb (List.getElem?_eq_getElem hk)
        exact ⟨a1, b1, dx, dy, _, _, rfl, rfl, w1, w2, dx, dy, _, hP _ (List.getElem_mem hk), w1, w2⟩
/-- a new list of instances -/
theorem At.newInss {H H' : Hp} {p : Addr} {fss : List (List (Str × V))} (z : At g L H) (s : Same H H') (n : H p = none) (h : EntAt (.inss Cl fss) H' p) : At g (L ++ [(p, .inss Cl fss, true)]) H' := by
  obtain ⟨o, h1, h2⟩ := h
  exact z.newE s n h1 h2
def kInss (Cl : Addr) (R : List (List (Str × V)) → Prop) : Ks := { nx := fun _ _ => False, rt := fun v L => ∃ (fss : List (List (Str × V))) (p : Addr) (i : Nat), v = .ref p ∧ L[i]? = some (p, Ent.inss Cl fss, true) ∧ R fss }
theorem eo_Inss {H0 : Hp} {R : List (List (Str × V)) → Prop} {Q : VK} (h : ∀ p H' fss, R fss → H0 p = none → Same H0 H' → EntAt (.inss Cl fss) H' p → Q (.ref p) H') : Eo ⟨H0, fun _ => False⟩ (kInss Cl R) { nx := fun _ H' => Q .non H', rt := Q } :=
  ⟨fun _ _ _ hA _ => hA.elim, fun v L H' hk z => by
    obtain ⟨fss, p, i, rfl, hi, hR⟩ := hk
    refine h p H' fss hR ?_ z.since (z.look hi)
    rcases z.own _ (List.mem_of_getElem? hi) rfl with q | q
    · exact q
    · exact q.elim, fun _ _ _ hk _ => hk.elim, fun _ _ _ hk _ => hk.elim⟩
end
/-! ### None, or a triple that stands there -/
def kWT (A : Prop) (R : Int × Int × Int → Prop) : Ks := { nx := fun _ _ => False, rt := fun v L => (v = .non ∧ A) ∨ ∃ (x : Int × Int × Int) (p : Addr) (i : Nat) (bo : Bool), v = .ref p ∧ L[i]? = some (p, Ent.ob (.tup (row3 x)), bo) ∧ R x }
theorem eo_WT {H0 : Hp} {A : Prop} {R : Int × Int × Int → Prop} {Q : VK} (h1 : A → ∀ H', Same H0 H' → Q .non H') (h2 : ∀ x p H', R x → Same H0 H' → H' p = some (.tup (row3 x)) → Q (.ref p) H') : Eo ⟨H0, fun _ => False⟩ (kWT A R) { nx := fun _ H' => Q .non H', rt := Q } :=
  ⟨fun σ L H k z => k.elim, fun v L H k z => by
    rcases k with ⟨e, k⟩ | ⟨x, p, i, bo, e, k, r⟩
    · subst e
      exact h1 k _ z.since
    · subst e
      exact h2 x p H r z.since (z.get k), fun _ _ _ k _ => k.elim, fun _ _ _ k _ => k.elim⟩
section
variable {K : PySem.W.Frag} {g : Gr} {L : Led} {C : V → Led → Prop} {a : Addr} {d : V} {bo : Bool}
/-- the least of a list of triples, or the default -/
theorem wc_minDT {xs : List (Int × Int × Int)} (j : Nat) (hj : L[j]? = some (a, .rows (xs.map row3), bo)) (c0 : xs = [] → C d L) (c : ∀ x, x ∈ xs → (∀ y ∈ xs, ¬ ltT y x) → ∀ p, C (.ref p) (L ++ [(p, .ob (.tup (row3 x)), false)])) : Wp g L (rMinDf K [.ref a] [d]) C :=
  fun H z Q q => by
    obtain ⟨o, h1, as, e1, hl, hr⟩ := z.look hj
    subst e1
    refine ⟨a, as.map V.ref, xs.map dpT, d, rfl, rfl, SqL.of h1, dpAll_T as xs (by simpa using hl) hr, alike_T xs, depth_T xs, fun e => q _ _ _ (c0 (List.map_eq_nil_iff.mp e)) z, fun i x y ys e hx hm => ?_⟩
    cases xs with
    | nil => cases e
    | cons n r =>
      rw [List.map_cons] at e
      injection e with e1 e2
      subst e1 e2
      obtain ⟨m, h2, h3, h4⟩ := minT_is r n
      rw [h2, List.getElem?_map] at hm
      cases hi : (n :: r)[i]? with
      | none => rw [hi] at hm; cases hm
      | some k =>
        rw [hi] at hm
        have hm : dpT k = dpT m := Option.some.inj hm
        have hm := dpT_inj hm
        subst hm
        rw [List.getElem?_map] at hx
        cases hb : as[i]? with
        | none => rw [hb] at hx; cases hx
        | some b =>
          rw [hb] at hx
          have hx : V.ref b = x := Option.some.inj hx
          subst hx
          exact q _ _ _ (c k h3 h4 b) (z.addT (hr i b (row3 k) hb (by rw [List.getElem?_map, hi]; rfl)))
end
/-- the least is one -/
theorem ltT_uniq {xs : List (Int × Int × Int)} {x y : Int × Int × Int} (hx : x ∈ xs) (hy : y ∈ xs) (h1 : ∀ z ∈ xs, ¬ ltT z x) (h2 : ∀ z ∈ xs, ¬ ltT z y) : x = y := by
  have a := h1 y hy
  have b := h2 x hx
  unfold ltT at a b
  exact Prod.ext (by omega) (Prod.ext (by omega) (by omega))
section
variable {K : PySem.W.Frag} {g : Gr} {L : Led} {C : V → Led → Prop} {a b Cl : Addr} {bo bo2 : Bool}
theorem ty_inss {fss : List (List (Str × V))} (i : Nat) (h : L[i]? = some (a, .inss Cl fss, bo)) : ∀ H, At g L H → tyV K "list" (.ref a) H := fun H z => by
  obtain ⟨o, h1, as, e1, _⟩ := z.look h
  subst e1
  exact .inl ⟨rfl, _, SqL.of h1⟩
theorem wr_clearI {fss : List (List (Str × V))} (i : Nat) (h : L[i]? = some (a, .inss Cl fss, true)) (c : C .non (L.set i (a, .ob (.lst []), true))) : Wp g L (rClear (.ref a) []) C := fun H z Q q => by
  obtain ⟨o, h1, as, e1, _⟩ := z.look h
  subst e1
  exact ⟨a, _, rfl, rfl, h1, q _ _ _ c (z.upd_chg h)⟩
/-- an empty list of instances, and [] -/
theorem wr_neLO0 {P : List (Str × V) → Prop} {fss : List (List (Str × V))} (i j : Nat) (h1 : L[i]? = some (a, .inss Cl fss, bo)) (h2 : L[j]? = some (b, .ob (.lst []), bo2)) (he : fss = []) (c : C (.bl false) L) : Wp g L (rNeG (DList (DOwn Cl P)) (.ref a) (.ref b)) C :=
  fun H z Q q => by
    obtain ⟨o, e1, as, ea, hl, h3⟩ := z.look h1
    subst ea he
    have : as = [] := List.length_eq_zero_iff.mp hl
    subst this
    exact ⟨⟨a, b, _, _, rfl, rfl, e1, z.get h2, Prs.nil⟩, fun H' e => q _ _ _ c (z.ext e)⟩
end
/-- a row: an int, and None or an int -/
def rowO (p : Int × Option Int) : List V := [.int p.1, match p.2 with | none => .non | some n => .int n]
theorem lc_RDX {g : Gr} {L : Led} {σ : St} {C : V → Led → Prop} {tt : TT} {te : TE} {i : Nat} (E : Nat → Ent) (hE : ∀ {n m : Nat} {H : Hp} {o : HO}, n ≤ m → (E n).In H o → (E m).In H o) {lo : Int} {n : Nat} (j c N : Nat) {a : Addr} {n0 : Nat} (P : Int → Prop) (hj : L[j]? = some (a, E n0, true)) (hN : n ≤ N) (hl : N ≤ 99999)
    (hs : ∀ (k : Nat) (x : Int), k < n → x = lo + (k : Int) → ∀ (D : Addr) (acc : List V), Wp g (L.set j (a, E (n0 + c * k), true) ++ [(D, .ob (.lst acc), true)]) (tt ((wipe σ [i]).set i (some (.int x)))) fun b L2 => b = true ∧
      Wp g L2 (te ((wipe σ [i]).set i (some (.int x)))) fun y L3 => (∃ v : Int, y = .int v ∧ P v) ∧ ∃ d, d ≤ c ∧ (L.set j (a, E (n0 + c * k + d), true) ++ [(D, .ob (.lst acc), true)]) <+: L3)
    (cc : ∀ (D : Addr) (ys : List Int), ys.length = n → (∀ y ∈ ys, P y) → C (.ref D) (L.set j (a, E (n0 + c * N), true) ++ [(D, .ob (.lst (ys.map V.int)), true)])) (hEm : ∀ n, (E n).mov2 = true := by intro _; rfl) : WLc g L (Itr lo n) (gName i) tt te [i] σ C := by
  have hjl : j < L.length := (List.getElem?_eq_some_iff.mp hj).1
  refine wlc_mono (C' := fun v L' => ∃ D ys, v = .ref D ∧ ys.length = n ∧ (∀ y ∈ ys, P y) ∧ L' = L.set j (a, E (n0 + c * n), true) ++ [(D, .ob (.lst (ys.map V.int)), true)]) (lc_RD E hE j c P hj (by omega) hs (fun D ys h1 h2 => ⟨D, ys, rfl, h1, h2, rfl⟩) hEm) ?_
  rintro v L' ⟨D, ys, rfl, h1, h2, rfl⟩
  refine ⟨_, cc D ys h1 h2, fun H z => ?_⟩
  have hj2 : (L.set j (a, E (n0 + c * n), true) ++ [(D, Ent.ob (.lst (ys.map V.int)), true)])[j]? = some (a, E (n0 + c * n), true) := by
    rw [List.getElem?_append_left (by rw [List.length_set]; exact hjl), List.getElem?_set_self hjl]
  have z6 := z.weak (i := j) (e' := E (n0 + c * N)) hj2 (fun _ o ho => hE (by have := Nat.mul_le_mul_left c hN; omega) ho) (hEm _)
  rw [List.set_append_left _ _ (by rw [List.length_set]; exact hjl), List.set_set] at z6
  exact z6
end Kr

set_option Elab.async false
set_option linter.all false
set_option maxRecDepth 100000
set_option maxHeartbeats 4000000
/-! dicts whose keys are ints -/
namespace Kr
open PySem L2 PySem.W
theorem room1 {k : Nat} {A : Around} (r : Room k A) : A.units + 1 < cLine := by have := r.un; omega
section
variable {g : Gr} {L : Led} {σ : St} {K : Ks} {tk tv td ty : TE} {C : V → Led → Prop}
/-- {k: v} -/
theorem wp_disp1 (h : ∀ p, Wp g (L ++ [(p, .ob (.dK []), true)]) (tk σ) fun x L1 => Wp g L1 (tv σ) fun y L2 => L2 = L ++ [(p, .ob (.dK []), true)] ∧ ∃ n : Int, x = .int n ∧ C (.ref p) (L ++ [(p, .ob (.dK [(.inl n, y)]), true)])) : Wp g L (tDisp [(tk, tv)] σ) C :=
  fun H z Q q => fun p hp => h p _ (z.upd_new hp) _ fun x L1 H1 h1 z1 => h1 H1 z1 _ fun y L2 H2 ⟨e, n, ex, c⟩ z2 => by
    subst e ex
    have hi : (L ++ [(p, Ent.ob (.dK []), true)])[L.length]? = some (p, Ent.ob (.dK []), true) := by simp
    refine ⟨z2.get hi, [(.inl n, y)], rfl, by simp, q _ _ _ c ?_⟩
    have z3 := z2.upd_chg (o := .dK [(.inl n, y)]) hi
    have e : (L ++ [(p, Ent.ob (.dK []), true)]).set L.length (p, Ent.ob (.dK [(.inl n, y)]), true) = L ++ [(p, Ent.ob (.dK [(.inl n, y)]), true)] := by
      rw [List.set_append_right _ _ (Nat.le_refl _)]
      simp
    rw [e] at z3
    exact z3
/-- d[k] = v -/
theorem ws_dput (h : Wp g L (tv σ) fun v L1 => Wp g L1 (td σ) fun x L2 => Wp g L2 (ty σ) fun y L3 => ∃ (i : Nat) (a : Addr) (kvs : List (Key × V)) (n : Int), x = .ref a ∧ y = .int n ∧ L3[i]? = some (a, .ob (.dK kvs), true) ∧ kvs.length < 100000 ∧
    K.nx σ (L3.set i (a, .ob (.dK (putK kvs (.inl n) v)), true))) : Ws g L (sDPut td ty tv) σ K :=
  fun H z D e => h H z _ fun v L1 H1 h1 z1 => h1 H1 z1 _ fun x L2 H2 h2 z2 => h2 H2 z2 _ fun y L3 H3 ⟨i, a, kvs, n, ex, ey, hi, hl, k⟩ z3 =>
    ⟨a, _, ex, .inl ⟨kvs, .inl n, z3.get hi, ey, Nat.lt_of_lt_of_le hl (by decide), rfl⟩, e.nx _ _ _ k (z3.upd_chg hi)⟩
/-- d[k] -/
theorem wp_dget (h : Wp g L (td σ) fun x L1 => Wp g L1 (ty σ) fun y L2 => ∃ (i : Nat) (a : Addr) (u : HO) (bo : Bool) (kvs : List (Key × V)) (n : Int) (v : V), x = .ref a ∧ y = .int n ∧ L2[i]? = some (a, .ob u, bo) ∧ (u = .dK kvs ∨ ∃ o, u = .frz o (.dK kvs)) ∧ valV kvs (.inl n) = some v ∧ C v L2) : Wp g L (tDGet td ty σ) C :=
  fun H z Q q => h H z _ fun x L1 H1 h1 z1 => h1 H1 z1 _ fun y L2 H2 ⟨i, a, u, bo, kvs, n, v, ex, ey, hi, hu, hv, c⟩ z2 =>
    ⟨a, v, ex, .inl ⟨kvs, .inl n, by
      rcases hu with rfl | ⟨o, rfl⟩
      · exact .inl (z2.get hi)
      · exact .inr ⟨o, z2.get hi⟩, ey, hv.symm⟩, q _ _ _ c z2⟩
/-- a statement that walks a dict: it is locked -/
theorem ws_lock {t : TS} {a : Addr} {kvs : List (Key × V)} (i : Nat) (hi : L[i]? = some (a, .ob (.dK kvs), true))
    (h : ∀ od, Ws g (L.set i (a, .ob (.frz od (.dK kvs)), true)) t σ { nx := fun σ' L' => L'[i]? = some (a, .ob (.frz od (.dK kvs)), true) ∧ K.nx σ' (L'.set i (a, .ob (.dK kvs), true)), rt := fun v L' => L'[i]? = some (a, .ob (.frz od (.dK kvs)), true) ∧ K.rt v (L'.set i (a, .ob (.dK kvs), true)), bk := fun σ' L' => L'[i]? = some (a, .ob (.frz od (.dK kvs)), true) ∧ K.bk σ' (L'.set i (a, .ob (.dK kvs), true)), ct := fun σ' L' => L'[i]? = some (a, .ob (.frz od (.dK kvs)), true) ∧ K.ct σ' (L'.set i (a, .ob (.dK kvs), true)) }) : Ws g L (tLock t) σ K :=
  fun H z D e => ⟨a, .dK kvs, z.get hi, True.intro, fun od => h od _ (z.upd_chg hi) _
    ⟨fun σ' L' H' ⟨e1, k⟩ z' => ⟨z'.get e1, e.nx _ _ _ k (z'.upd_chg e1)⟩, fun v L' H' ⟨e1, k⟩ z' => ⟨z'.get e1, e.rt _ _ _ k (z'.upd_chg e1)⟩,
     fun σ' L' H' ⟨e1, k⟩ z' => ⟨z'.get e1, e.bk _ _ _ k (z'.upd_chg e1)⟩, fun σ' L' H' ⟨e1, k⟩ z' => ⟨z'.get e1, e.ct _ _ _ k (z'.upd_chg e1)⟩⟩⟩
/-- for k in d, d locked -/
theorem wi_keys {te : TE} {T : It → Led → Prop} (h : Wp g L (te σ) fun x L1 => ∃ (i : Nat) (a : Addr) (od : Obj) (kvs : List (Key × V)) (bo : Bool), x = .ref a ∧ L1[i]? = some (a, .ob (.frz od (.dK kvs)), bo) ∧ T (Itk a od kvs) L1) : Wp g L (iKeys te σ) T :=
  fun H z Q q => h H z _ fun x L1 H1 ⟨i, a, od, kvs, bo, e, hi, k⟩ z1 => ⟨a, od, e, .inl ⟨kvs, z1.get hi, q _ _ _ k z1⟩⟩
theorem iter_keys {a : Addr} {od : Obj} {α : Type} {bo : Bool} {k : Nat} {xs : List α} {kf : α → Int} {f : α → V} (i : Nat) (hi : L[i]? = some (a, .ob (.frz od (.dK (xs.map fun x => (.inl (kf x), f x)))), bo)) :
    Iter g L (Itk a od (xs.map fun x => (.inl (kf x), f x))) (gName k) xs (fun x σ => σ.set k (some (.int (kf x)))) := ⟨fun H z => by
  have hd := z.get hi
  refine ⟨⟨hd, by rw [List.length_map]; exact Nat.le_refl _⟩, fun j x hx => ?_⟩
  have hj := (List.getElem?_eq_some_iff.mp hx).1
  refine ⟨⟨hd, by rw [List.length_map]; exact hj⟩, fun v H' hy => ?_⟩
  obtain ⟨e1, k2, w, e2, e3⟩ := hy
  rw [List.getElem?_map, hx] at e2
  have e2 := Option.some.inj e2
  injection e2 with e4 e5
  subst e1 e3 e4
  exact ⟨same_refl, fun σ Q q => q⟩⟩
end
/-- the dict of 0 .. n-1 -/
def dct (f : Int → Int) (n : Nat) : List (Key × V) := (rngI 0 n).map fun k => (.inl k, .int (f k))
theorem dct_len (f : Int → Int) (n : Nat) : (dct f n).length = n := by
  unfold dct
  rw [List.length_map, rngI_len]
theorem rngI_snoc (n : Nat) : rngI 0 (n + 1) = rngI 0 n ++ [(n : Int)] := by
  unfold rngI
  rw [List.range_succ]
  simp
theorem dct_succ (f : Int → Int) (n : Nat) : dct f (n + 1) = dct f n ++ [(.inl (n : Int), .int (f n))] := by
  unfold dct
  rw [rngI_snoc, List.map_append]
  rfl
theorem valV_app {κ : Type} [DecidableEq κ] (xs ys : List (κ × V)) (k : κ) : valV (xs ++ ys) k = (valV xs k).orElse fun _ => valV ys k := by
  induction xs with
  | nil => rfl
  | cons p r ih =>
    by_cases e : p.1 = k
    · rw [List.cons_append, valV_pos e, valV_pos e]
      rfl
    · rw [List.cons_append, valV_neg e, valV_neg e, ih]
theorem dct_get (f : Int → Int) : ∀ (n : Nat) (k : Int), valV (dct f n) (.inl k) = if 0 ≤ k ∧ k < n then some (.int (f k)) else none
  | 0, k => by
    rw [if_neg (by omega)]
    rfl
  | n + 1, k => by
    rw [dct_succ, valV_app, dct_get f n k]
    by_cases h : 0 ≤ k ∧ k < n
    · rw [if_pos h, if_pos (by omega)]
      rfl
    · rw [if_neg h]
      by_cases e : (n : Int) = k
      · subst e
        rw [if_pos (by omega), valV_pos rfl]
        rfl
      · rw [if_neg (by omega), valV_neg (fun q => e (Sum.inl.inj q))]
        rfl
theorem dct_some {f : Int → Int} {n : Nat} {k : Int} (h : 0 ≤ k ∧ k < n) : valV (dct f n) (.inl k) = some (.int (f k)) := by rw [dct_get, if_pos h]
theorem dct_ext {f g : Int → Int} {n : Nat} (h : ∀ k : Int, 0 ≤ k → k < n → f k = g k) : dct f n = dct g n := by
  unfold dct
  refine List.map_congr_left fun k hk => ?_
  unfold rngI at hk
  obtain ⟨j, hj, rfl⟩ := List.mem_map.mp hk
  have := List.mem_range.mp hj
  rw [h _ (by omega) (by omega)]
theorem dct_new {f : Int → Int} {n : Nat} : putK (dct f n) (.inl (n : Int)) (.int (f n)) = dct f (n + 1) := by
  rw [putK_new _ (by rw [dct_get, if_neg (by omega)]), dct_succ]
theorem dct_put {f : Int → Int} {n : Nat} {k v : Int} (h : 0 ≤ k ∧ k < n) : putK (dct f n) (.inl k) (.int v) = dct (fun m => if m = k then v else f m) n := by
  have hs : ((dct f n).any fun kv => decide (kv.1 = .inl k)) = true := by
    rw [valV_any, dct_some h]
    rfl
  unfold putK
  rw [if_pos hs]
  unfold dct
  rw [List.map_map]
  refine List.map_congr_left fun m _ => ?_
  show (if (Sum.inl m : Key) = .inl k then ((Sum.inl m : Key), V.int v) else (.inl m, .int (f m))) = ((Sum.inl m : Key), V.int (if m = k then v else f m))
  by_cases e : m = k
  · subst e
    rw [if_pos rfl, if_pos rfl]
  · rw [if_neg (fun q => e (Sum.inl.inj q)), if_neg e]
theorem iter_dct {g : Gr} {L : Led} {a : Addr} {od : Obj} {bo : Bool} {k : Nat} {f : Int → Int} {n : Nat} (i : Nat) (hi : L[i]? = some (a, .ob (.frz od (.dK (dct f n))), bo)) :
    Iter g L (Itk a od (dct f n)) (gName k) (rngI 0 n) (fun x σ => σ.set k (some (.int x))) := iter_keys (kf := fun x => x) (f := fun x => .int (f x)) i hi
end Kr

set_option Elab.async false
set_option linter.all false
set_option maxRecDepth 100000
set_option maxHeartbeats 1000000
/-! ### values of any kind where a number or a list is asked for -/
namespace Kr
open PySem L2
/-- a value of the kinds that the laws hand in -/
def Od (H : Hp) (v : V) : Prop := (∃ n, v = .int n) ∨ v = .non ∨ (∃ b, v = .bl b) ∨ (∃ s, v = .str s) ∨ (∃ a xs, v = .ref a ∧ H a = some (.lst xs)) ∨ (∃ a xs, v = .ref a ∧ H a = some (.tup xs)) ∨ ∃ a, v = .ref a ∧ H a = some (.dK [])
theorem Od.same {H H' : Hp} {v : V} (h : Od H v) (s : Same H H') : Od H' v := by
  rcases h with h | h | h | h | ⟨a, xs, h, e⟩ | ⟨a, xs, h, e⟩ | ⟨a, h, e⟩
  · exact .inl h
  · exact .inr (.inl h)
  · exact .inr (.inr (.inl h))
  · exact .inr (.inr (.inr (.inl h)))
  · exact .inr (.inr (.inr (.inr (.inl ⟨a, xs, h, s _ _ e⟩))))
  · exact .inr (.inr (.inr (.inr (.inr (.inl ⟨a, xs, h, s _ _ e⟩)))))
  · exact .inr (.inr (.inr (.inr (.inr (.inr ⟨a, h, s _ _ e⟩)))))
/-- no list -/
def NoL (H : Hp) (v : V) : Prop := (∃ n, v = .int n) ∨ v = .non ∨ (∃ b, v = .bl b) ∨ (∃ s, v = .str s) ∨ (∃ a xs, v = .ref a ∧ H a = some (.tup xs)) ∨ ∃ a, v = .ref a ∧ H a = some (.dK [])
theorem NoL.same {H H' : Hp} {v : V} (h : NoL H v) (s : Same H H') : NoL H' v := by
  rcases h with h | h | h | h | ⟨a, xs, h, e⟩ | ⟨a, h, e⟩
  · exact .inl h
  · exact .inr (.inl h)
  · exact .inr (.inr (.inl h))
  · exact .inr (.inr (.inr (.inl h)))
  · exact .inr (.inr (.inr (.inr (.inl ⟨a, xs, h, s _ _ e⟩))))
  · exact .inr (.inr (.inr (.inr (.inr ⟨a, h, s _ _ e⟩))))
def isNv (v : V) : Bool := match v with
  | .int _ => true
  | .bl _ => true
  | _ => false
def isBv (v : V) : Bool := match v with
  | .bl _ => true
  | _ => false
/-- whether it is a number -/
def isIv (v : V) : Bool := isNv v && !isBv v
section
variable {g : Gr} {L : Led} {C : V → Led → Prop} {Kf : PySem.W.Frag} {v : V}
theorem wc_isi_nol (h : ∀ H, At g L H → NoL H v) (c : C (.bl false) L) : Wp g L (rIsi Kf [v, .ty "list"]) C := .now (fun H Q z q => by
  rcases h H z with ⟨n, rfl⟩ | rfl | ⟨b, rfl⟩ | ⟨s, rfl⟩ | ⟨a, xs, rfl, e⟩ | ⟨a, rfl, e⟩
  · exact ⟨.int n, .ty "list", _, _, false, rfl, .ty _, .base (.int n), kit_ty (by decide +kernel), q⟩
  · exact ⟨.non, .ty "list", _, _, false, rfl, .ty _, .base .non, kit_ty (by decide +kernel), q⟩
  · exact ⟨.bl b, .ty "list", _, _, false, rfl, .ty _, .base (.bl b), kit_ty (by decide +kernel), q⟩
  · exact ⟨.str s, .ty "list", _, _, false, rfl, .ty _, .base (.str s), kit_ty (by decide +kernel), q⟩
  · exact ⟨.ref a, .ty "list", _, _, false, rfl, .ty _, .base (.tup e), kit_ty (by decide +kernel), q⟩
  · exact ⟨.ref a, .ty "list", _, _, false, rfl, .ty _, .base (.dK e), kit_ty (by decide +kernel), q⟩) c
theorem wc_isi_intO (h : ∀ H, At g L H → Od H v) (c : C (.bl (isNv v)) L) : Wp g L (rIsi Kf [v, .ty "int"]) C := .now (fun H Q z q => by
  rcases h H z with ⟨n, rfl⟩ | rfl | ⟨b, rfl⟩ | ⟨s, rfl⟩ | ⟨a, xs, rfl, e⟩ | ⟨a, xs, rfl, e⟩ | ⟨a, rfl, e⟩
  · exact ⟨.int n, .ty "int", _, _, true, rfl, .ty _, .base (.int n), kit_ty (by decide +kernel), q⟩
  · exact ⟨.non, .ty "int", _, _, false, rfl, .ty _, .base .non, kit_ty (by decide +kernel), q⟩
  · exact ⟨.bl b, .ty "int", _, _, true, rfl, .ty _, .base (.bl b), kit_ty (by decide +kernel), q⟩
  · exact ⟨.str s, .ty "int", _, _, false, rfl, .ty _, .base (.str s), kit_ty (by decide +kernel), q⟩
  · exact ⟨.ref a, .ty "int", _, _, false, rfl, .ty _, .base (.lst e), kit_ty (by decide +kernel), q⟩
  · exact ⟨.ref a, .ty "int", _, _, false, rfl, .ty _, .base (.tup e), kit_ty (by decide +kernel), q⟩
  · exact ⟨.ref a, .ty "int", _, _, false, rfl, .ty _, .base (.dK e), kit_ty (by decide +kernel), q⟩) c
theorem wc_isi_boolO (h : ∀ H, At g L H → Od H v) (c : C (.bl (isBv v)) L) : Wp g L (rIsi Kf [v, .ty "bool"]) C := .now (fun H Q z q => by
  rcases h H z with ⟨n, rfl⟩ | rfl | ⟨b, rfl⟩ | ⟨s, rfl⟩ | ⟨a, xs, rfl, e⟩ | ⟨a, xs, rfl, e⟩ | ⟨a, rfl, e⟩
  · exact ⟨.int n, .ty "bool", _, _, false, rfl, .ty _, .base (.int n), kit_ty (by decide +kernel), q⟩
  · exact ⟨.non, .ty "bool", _, _, false, rfl, .ty _, .base .non, kit_ty (by decide +kernel), q⟩
  · exact ⟨.bl b, .ty "bool", _, _, true, rfl, .ty _, .base (.bl b), kit_ty (by decide +kernel), q⟩
  · exact ⟨.str s, .ty "bool", _, _, false, rfl, .ty _, .base (.str s), kit_ty (by decide +kernel), q⟩
  · exact ⟨.ref a, .ty "bool", _, _, false, rfl, .ty _, .base (.lst e), kit_ty (by decide +kernel), q⟩
  · exact ⟨.ref a, .ty "bool", _, _, false, rfl, .ty _, .base (.tup e), kit_ty (by decide +kernel), q⟩
  · exact ⟨.ref a, .ty "bool", _, _, false, rfl, .ty _, .base (.dK e), kit_ty (by decide +kernel), q⟩) c
/-- tuple(a list) -/
theorem wp_tupL {σ : St} {ta : TE} (h : Wp g L (ta σ) fun x L1 => ∃ (a : Addr) (xs : List V), x = .ref a ∧ Seen Kf g L1 a xs ∧ ∀ p, C (.ref p) (L1 ++ [(p, .ob (.tup xs), true)])) : Wp g L (tThen ta (kTup Kf) σ) C :=
  fun H z Q q => h H z _ fun x L1 H1 ⟨a, xs, e, s, c⟩ z1 => .inl ⟨a, xs, e, s.at_ H1 z1, fun p hp => q _ _ _ (c p) (z1.upd_new hp)⟩
/-- {} -/
theorem wp_dict0 {σ : St} (c : ∀ p, C (.ref p) (L ++ [(p, .ob (.dK []), true)])) : Wp g L (tDNewK σ) C := fun H z Q q p hp => q _ _ _ (c p) (z.upd_new hp)
end
end Kr
namespace Kr
open PySem L2
/-- no list of numbers -/
def OdL (H : Hp) (v : V) : Prop := NoL H v ∨ ∃ (a : Addr) (us : List Int) (y : V), v = .ref a ∧ H a = some (.lst (us.map V.int ++ [y])) ∧ isIv y = false ∧ Od H y ∧ us.length ≤ 1000
theorem OdL.same {H H' : Hp} {v : V} (h : OdL H v) (s : Same H H') : OdL H' v := by
  rcases h with h | ⟨a, us, y, e, h1, h2, h3, h4⟩
  · exact .inl (h.same s)
  · exact .inr ⟨a, us, y, e, s _ _ h1, h2, h3.same s, h4⟩
theorem At.addRO {g : Gr} {L : Led} {H : Hp} {a : Addr} {o : HO} (z : At g L H) (hf : ∀ q ∈ L, q.2.2 = false) (h : H a = some o) : At g (L ++ [(a, .ob o, false)]) H := by
  refine ⟨z.old, fun q hq => ?_, fun q hq hb => ?_, nd_app z.nd fun q hq e => .inr ⟨hf q hq, rfl⟩⟩
  · rcases List.mem_append.mp hq with hq | hq
    · exact z.led q hq
    · have e : q = (a, Ent.ob o, false) := by simpa using hq
      subst e
      exact ⟨_, h, rfl⟩
  · rcases List.mem_append.mp hq with hq | hq
    · exact z.own q hq hb
    · have e : q = (a, Ent.ob o, false) := by simpa using hq
      subst e
      cases hb
theorem ws_addRO {g : Gr} {L : Led} {σ : St} {K : Ks} {t : TS} {a : Addr} {o : HO} (hf : ∀ q ∈ L, q.2.2 = false) (h : ∀ H, At g L H → H a = some o) (c : Ws g (L ++ [(a, .ob o, false)]) t σ K) : Ws g L t σ K :=
  fun H z D eo => c H (z.addRO hf (h H z)) D eo
end Kr

set_option Elab.async false
set_option linter.all false
set_option maxRecDepth 100000
set_option maxHeartbeats 1000000
/-! ### texts of values, whatever is under way -/
namespace Kp
open PySem PySem.Spec PySem.Sem PyProof.Rows
theorem codeAny_wlog {M : Model} {A : Around} {c : Code} {R : Result → Shared → Prop} {s : Shared} (h : ∀ g, codeAny M { A with guards := some g } c R s) : codeAny M A c R s :=
  fun Γ p hc hb => h (guardsOf Γ.below) Γ p hc ⟨hb.1, hb.2.1, hb.2.2.1, fun g e => by cases e; rfl, hb.2.2.2.2⟩
theorem wpAny_wlog {α : Type} {M : Model} {A : Around} {t : Sem α} {Q : α → Shared → Prop} {E : Value → Shared → Prop} {s : Shared} (h : ∀ g, wpAny M { A with guards := some g } t Q E s) : wpAny M A t Q E s :=
  fun Γ p hb => h (Γ.code.guards ++ guardsOf Γ.below) Γ p ⟨hb.1, hb.2.1, hb.2.2.1, fun g e => by cases e; rfl, hb.2.2.2.2⟩
/-- a list's text is under way -/
def lstF (self : Value) : Code × Pos → Bool := fun
  | (.builtin "list.__repr__.loop" ⟨v :: _, _⟩, _) => Builtin.List.listSameRef v self
  | _ => false
theorem lstF_off (self : Value) (c : Code) (p : Pos) (hc : c.isGuard = false) : lstF self (c, p) = false := by
  unfold lstF
  split
  · next v rest kw _ heq => cases heq; simp [Code.isGuard, guardIds] at hc
  · rfl
theorem lstF_pos (self : Value) (c : Code) (p : Pos) : lstF self (c, p) = lstF self (c, default) := by
  unfold lstF
  split
  · next v rest kw _ heq =>
    cases heq
    rfl
  · next h =>
    split
    · next v rest kw _ heq =>
      cases heq
      exact absurd rfl (h _ _ _ _)
    · rfl
def runL (g : List Code) (a : Addr) : Bool := g.any fun c => lstF (.ref a) (c, default)
def runT (g : List Code) (a : Addr) : Bool := g.any fun c => tupGuardF (.ref a) (c, default)
def runD (g : List Code) (a : Addr) : Bool := g.any fun c => dictGuardF (.ref a) (c, default)
section
variable {prog : Program} {w : World} {A : Around} {E : Value → Shared → Prop} {s : Shared} {a : Addr} {o : Obj} {x : Value} {l : List Value} {n b : Nat} {t : Str} {ts : List Str} {g : List Code}
theorem list_head {M : Model} {c : Code} {Q : Fin → Shared → Prop} (hg : A.guards = some g) (ha : s.heap.get? a = some o) (hd : o.data = .seq (x :: l).toArray n)
    (h1 : runL g a = true → wpAny M (A.under c) (retStr "[...]") Q E s)
    (h2 : runL g a = false → wpAny M (A.under c) (do again (.builtin "list.__repr__.loop" ⟨[.ref a, rawInt 0, ← newList [], rawInt b], []⟩)) Q E s) : wpOwn M A c (Builtin.listReprAt b ⟨[.ref a], []⟩) Q E s := by
  intro Γ p hc hΓ
  have k1 := fun z => h1 z Γ p (hc ▸ hΓ.in)
  have k2 := fun z => h2 z Γ p (hc ▸ hΓ.in)
  have hr : Γ.below.any (lstF (.ref a)) = runL g a := by
    rw [any_eq_guards (lstF_off _) (lstF_pos _), hΓ.2.2.2.1 g hg]
    rfl
  unfold Builtin.listReprAt
  simp [slotArgs, Builtin.List.listItems, seqItems?, wp_load_of (h := ha), hd, PySem.stack]
  show wp M Γ (if Γ.below.any (lstF (.ref a)) = true then _ else _) _ _ p s
  rw [hr]
  cases hz : runL g a with
  | true => exact k1 hz
  | false => exact k2 hz

theorem list_repr {Q : Value → Shared → Prop} (hg : A.guards = some g) (ha : s.heap.get? a = some o) (hc : o.cls = .type "list") (hd : o.data = .seq #[x] n) (hx : ReprIs prog w x t)
    (hQ : ∀ h' u tk, (∀ b o, s.heap.get? b = some o → h'.get? b = some o) → Q (.str (if runL g a then "[...]" else listText [t]) u) { s with heap := h', toks := tk }) (hsz : (listText [t]).length ≤ sizeLine) :
    wpAny (model prog w) A (call (.builtin "list.__repr__") [.ref a]) Q E s := by
  refine wpAny_call (codeAny_call_builtin_own (Code.quiet_builtin _ (by decide +kernel)) F.entry_list_repr (F.slot_list_repr.check _ _ _ _ _ _ _ _ ⟨o, ha, hc⟩ (F.args_list_repr_1 _) ?_))
  have hun : (A.under (Code.builtin "list.__repr__" ⟨[.ref a], []⟩)) = A.in1 := by
    first | rfl | exact Around.under_plainId (by decide +kernel) _
  refine list_head (x := x) (l := []) (b := 0) hg ha hd (fun hz => ?_) fun hz => ?_
  · have q := hQ s.heap s.toks (s.toks + 1) fun b o e => e
    rw [hz] at q
    refine wpAny_bind (wpAny_mkStr (wpAny_pure ?_) (by decide +kernel))
    exact q
  · refine wpAny_bind (m := newList []) (wpAny_newObj_type ?_)
    refine wpAny_pure ⟨F.quiet_list_repr_loop _, ?_⟩
    refine codeAny_list_repr_start (P := s.heap.objs.size) (items := #[x]) (ts := [t]) (Nat.ne_of_lt (Heap.lt_size ha)) (by simp) (fun i y hy => ?_) (Heap.get?_push_of_some _ ha) hd (Heap.get?_push_size _ rfl) (fun h' u tk hk => ?_) (by omega)
    · cases i with
      | zero =>
        obtain rfl : x = y := by simpa using hy
        exact ⟨t, rfl, hx⟩
      | succ i => simp at hy
    · have q := hQ h' u tk fun b o e => hk b o (Nat.ne_of_lt (Heap.lt_size e)) (Heap.get?_push_of_some _ e)
      rw [hz] at q
      exact q
theorem tup_repr {Q : Value → Shared → Prop} (hg : A.guards = some g) (ha : s.heap.get? a = some o) (hc : o.cls = .type "tuple") (hd : o.data = .seq #[x] n) (hx : ReprIs prog w x t)
    (hQ : ∀ u tk, Q (.str (if runT g a then "(...)" else tupleText [t]) u) { s with toks := tk }) (hsz : (tupleText [t]).length ≤ sizeLine) :
    wpAny (model prog w) A (call (.builtin "tuple.__repr__") [.ref a]) Q E s := by
  refine wpAny_call (codeAny_call_builtin_own (Code.quiet_builtin _ (by decide +kernel)) F.entry_tuple_repr (F.slot_tuple_repr.check _ _ _ _ _ _ _ _ ⟨o, ha, hc⟩ (F.args_tuple_repr_1 _) ?_))
  show wpOwn _ _ _ (Builtin.tupleReprAt 0 ⟨[.ref a], []⟩) _ _ s
  rw [tuple_repr_tree, tupleReprUnderWay_eq]
  refine wpOwn_bind (wpOwn_stackTailAny hg (tupGuardF_off _) (tupGuardF_pos _) ?_)
  have hz : (g.any fun c => tupGuardF (.ref a) (c, default)) = runT g a := rfl
  rw [hz]
  cases hz : runT g a with
  | true =>
    have q := hQ s.toks (s.toks + 1)
    rw [hz] at q
    refine wpOwn_of_wpAny (PySem.W.KFB.if_so rfl ?_)
    refine wpAny_bind (wpAny_rule ?_)
    exact wpAny_bind (wpAny_mkStr (wpAny_pure q) (by decide +kernel))
  | false =>
    refine wpOwn_of_wpAny (PySem.W.KFB.if_not rfl ?_)
    refine wpAny_tupleReprRest ha hd (.cons hx .nil) (fun u tk => ?_) (by omega)
    have q := hQ u tk
    rw [hz] at q
    exact q
theorem dct_repr {Q : Value → Shared → Prop} (hg : A.guards = some g) (ha : s.heap.get? a = some o) (hc : o.cls = .type "dict") (hd : o.data = .dict #[] n) (hsys : (a == sysModules) = false)
    (hQ : ∀ u tk, Q (.str (if runD g a then "{...}" else "{}") u) { s with toks := tk }) :
    wpAny (model prog w) A (call (.builtin "dict.__repr__") [.ref a]) Q E s := by
  have hTy : s.TypeIs (.ref a) "dict" := ⟨o, ha, hc⟩
  refine wpAny_call (codeAny_call_builtin_own (Code.quiet_builtin _ (by decide +kernel)) F.entry_dict_repr (F.slot_dict_repr.check _ _ _ _ _ _ _ _ hTy (F.args_dict_repr_1 _) ?_))
  show wpOwn _ _ _ (Builtin.dictReprAt 0 ⟨[.ref a], []⟩) _ _ s
  unfold Builtin.dictReprAt
  refine wpOwn_bind (wpOwn_of_wpAny ?_)
  unfold Builtin.Dict.dictSlotNone
  refine wpAny_bind (wpAny_notOrdered_dict hTy ?_)
  show wpAny _ _ (Pure.pure (Value.ref a)) _ _ s
  refine wpAny_pure ?_
  rw [dictReprRunning_eq]
  refine wpOwn_bind (wpOwn_stackTailAny hg (dictGuardF_off _) (dictGuardF_pos _) ?_)
  have hz : (g.any fun c => dictGuardF (.ref a) (c, default)) = runD g a := rfl
  rw [hz]
  cases hz : runD g a with
  | true =>
    have q := hQ s.toks (s.toks + 1)
    rw [hz] at q
    refine wpOwn_of_wpAny ?_
    show wpAny _ _ (_ >>= _) _ _ s
    refine wpAny_bind (wpAny_rule ?_)
    exact wpAny_bind (wpAny_mkStr (wpAny_pure q) (by decide +kernel))
  | false =>
    have q := hQ s.toks (s.toks + 1)
    rw [hz] at q
    refine wpOwn_of_wpAny ?_
    show wpAny _ _ (Builtin.Dict.addrOf (.ref a) >>= _) _ _ s
    refine wpAny_bind (wpAny_pure ?_)
    show wpAny _ _ (Builtin.Dict.showsAll a >>= _) _ _ s
    unfold Builtin.Dict.showsAll
    rw [if_neg (by rw [hsys]; exact Bool.false_ne_true)]
    refine wpAny_bind (wpAny_pure ?_)
    refine wpAny_bind (wpAny_dictEpoch ha hd ?_)
    refine wpAny_bind (wpAny_dictEntries ha hd ?_)
    refine wpAny_bind ?_
    rw [Std.Legacy.Range.forIn_eq_forIn_range']
    refine wpAny_pure ?_
    exact wpAny_bind (wpAny_mkStr (wpAny_pure q) (by decide +kernel))
end
end Kp

set_option Elab.async false
set_option linter.all false
set_option maxRecDepth 100000
set_option maxHeartbeats 4000000
namespace L2
open PySem PyProof.Rows
/-- as Fun.okX, for exceptions whose context is None -/
theorem Fun.okXN {P : Program} {w : World} {K : PySem.W.Frag} {mg : Str → Option Value} {base : Heap} {x qual : Str} {st : Stmt} {f : Addr} {fd : FuncData} {N ps : List Str} {k : Nat} {sp : Sp} (F : Fun K x qual st f fd) (S : FnScope N ps (defScope st)) (len : ∀ vs H Q E, sp vs H Q E → vs.length = ps.length)
    (hbody : ∀ (cdv : Value) (A : Around) (outer : List Env) (s : Shared) (H : Hp) (vs : List V) (Q : VK) (E : XK), Room k (A.deeper (envOfC qual (defScope st) s.heap.objs.size f cdv)) → sp vs H Q E →
      ∃ t, PSs (cxOf (L2N.CX P w) P w K mg base N qual (defScope st) f cdv A outer s H E) (defBody st) t ∧ t { nx := fun _ H' => Q .non H', rt := Q } (start N vs) H) : FnOk P w K mg base (L2N.CX P w) (k + 1) f fd ps sp := by
  obtain ⟨oc, od, kV, doc, pm, an, cdv, ct, osl, rfl, lk, hcd⟩ := F.ex
  exact fn_of lk hcd S len fun A outer s H vs Q E hr hsp => hbody cdv A outer s H vs Q E hr hsp
theorem mk_endN {X : Cx} {pins : List (Addr × Obj)} {σ : St} {H1 H2 : Hp} {Q : XK} {hp hp2 h2 : Heap} {g1 g2 : Array GenState} {d1 d2 : Drawn} {t1 t2 : Nat} {os1 os2 : OsState} {a C d : Addr} {fs : List (Str × V)} (T : Raises X (.ref C)) (I1 : Inv X pins σ H1 ⟨hp, g1, d1, t1, os1⟩)
    (ha : hp.objs.size ≤ a) (k : ∀ b o, hp.get? b = some o → hp2.get? b = some o) (un : Un (frs X.stack) [] (upd H1 a (exo a C none)) H2 hp2 h2) (hok : HOk X.prog X.w H2 h2) (ho : os2 = os1) (hb : AllBare g2)
    (ea : H2 a = some (exo a C (some d))) (ed : H2 d = some (exd d fs)) (hd1 : H1 d = none) (q : Q (.ref C) (some d) (upd (del H2 a) d (.xd fs))) : L2N.MkP X pins σ Q (.ref a) ⟨h2, g2, d2, t2, os2⟩ := by
  obtain ⟨t0, G, J, kG, ge, hoe, na⟩ := mk_end0 (d2 := d2) (t2 := t2) I1 ha k un hok ho hb ea ed hd1
  exact ⟨a, _, _, ⟨G, g2, d2, t2, os2⟩, _, .ref C, some d, rfl, J, kG, ge, hoe, ⟨rfl, rfl, fun vs e => by cases e; rfl⟩, rfl, rfl, na, rfl, hb, T, q⟩
end L2
namespace L2N
open PySem L2
theorem takes0 {X : Cx} : Takes X (fun _ _ _ _ => False) := fun _ _ x => by
  obtain ⟨_, _, _, _, _, _, _, _, _, _, _, _, _, _, _, _, h⟩ := x
  exact h.elim
theorem passL {X : Cx} : Passes (L2N.CX X.prog X.w) X E0 := fun _ _ _ _ _ _ _ h => by
  obtain ⟨_, _, _, _, _, _, _, _, _, _, _, _, z⟩ := h
  exact z.elim
end L2N
/-! own exception classes over ArithmeticError: made, the first field stored, the base's __init__ called -/
namespace Ke
open PySem PySem.Spec PySem.W PySem.Calls PyProof.Rows L2
abbrev aeTail : List Value := [.type "ArithmeticError", .type "Exception", .type "BaseException", .type "object"]
section
open PySem.HandSPX Builtin Builtin.ObjectAttr
theorem tail_ne {l : List Value} (e : excTail aeTail l = true) : l.isEmpty = false := by
  cases l with
  | nil => exact absurd e (by decide)
  | cons _ _ => rfl
variable {prog : Program} {w : World} {A : Around} {R : Result → Shared → Prop} {hp : Heap} {g : Array GenState} {d : Drawn} {t : Nat} {os : OsState}
/-- the first field of such an exception: its dict is laid -/
theorem first_field {K : W.Frag} {name : Str} {tk : Tok} {v : Value} {x C : Addr} {fv : Array Value} {cd : ClassData}
    (X : K.In hp) (hx : hp.get? x = some { cls := .ref C, data := .fields fv }) (hcd : W.clsIn K C = some cd) (hm : excTail aeTail cd.mro = true) (hh : cd.hasDict = true) (ha : W.findIn K (.ref C) name = some none)
    (hq : ∀ h' tk' dx, (∀ b o, b ≠ x → hp.get? b = some o → h'.get? b = some o) → hp.objs.size ≤ dx → dx ≠ x → h'.get? x = some { cls := .ref C, dict := some dx, data := .fields fv } →
      h'.Ns1 dx (fun y => if y = name then some v else none) → R (.ok (.ret .none)) ⟨h', g, d, tk', os⟩) :
    codeAny (model prog w) A (.call (.builtin "object.__setattr__") ⟨[.ref x, .str name tk, v], []⟩) R ⟨hp, g, d, t, os⟩ := by
  have hI : W.InstAt hp x { cls := .ref C, data := .fields fv } C none := ⟨hx, rfl, rfl, trivial⟩
  have hne := tail_ne hm
  have hob : cd.mro.contains (.type "object") = true := (excTail_contains "object" _ hm).trans (by decide +kernel)
  have hxs : x ≠ hp.objs.size := Nat.ne_of_lt (Heap.lt_size hx)
  have hsub : W.Looks (model prog w) hp (isInstance (.ref x) (.type "object")) true := hI.type.andThen (W.looks_mroIn X (by unfold W.mroIn; rw [hcd, Option.bind_some, if_neg (by rw [hne]; decide), hob]))
  refine codeAny_call_builtin F.store_object.slot.plain F.store_object.entry (@W.check_slot (model prog w) _ _ ⟨hp, g, d, t, os⟩ "object.__setattr__" "object" "__setattr__" (.ref x) [.str name tk, v] [] _ F.store_object.kind F.store_object.split hsub (F.store_object.args (.ref x) (.str name tk) v) ?_)
  have hmr : W.Looks (model prog w) hp (mroOf (.ref C)) cd.mro := (W.looks_clsIn X hcd).andThen .now
  have hst : W.Looks (model prog w) hp (storeTaker? none) none := .now
  have hcls : W.Looks (model prog w) hp (classData C) cd := W.looks_clsIn X hcd
  rw [W.osa_eq, refuse_eq]
  refine wpAny_bind (wpAny_bind (hI.type.at (wpAny_bind (hmr.at ?_))))
  rw [excTail_pass _ (F.store_ArithmeticError.passes _) _ hm]
  refine wpAny_pure (wpAny_bind (hI.type.at (wpAny_bind ((W.looks_findIn X ha).at (wpAny_bind (hst.at ?_))))))
  show wpAny _ _ (storeInOwnDict (.ref x) (.ref C) (.str name tk) name v false) _ _ _
  obtain ⟨nm, bs, mro, ns, qn, hd, sn, sb, ab, col, del⟩ := cd
  dsimp only at hh
  subst hh
  unfold storeInOwnDict ownDictForStores
  repeat (first | with_reducible refine store_in_new ?_ ?_ | with_reducible refine wpAny_loadPart_at hx ?_ | with_reducible refine hcls.at ?_ | wp_step)
  · exact ⟨_, #[], _, (Heap.get?_update_ne _ _ _ _ hxs.symm).trans (Heap.get?_push_at rfl rfl), rfl, fun e he => absurd he (by simp), fun _ => rfl⟩
  · intro h' tk' hn' hs
    have hx₁ : (hp.push { cls := .type "dict", data := .dict #[] }).get? x = some { cls := .ref C, data := .fields fv } := Heap.get?_push_of_some _ hx
    refine hq h' tk' hp.objs.size (fun b o hb ho => ?_) (Nat.le_refl _) hxs.symm ?_ hn'
    · exact (hs.2 b (Nat.ne_of_lt (Heap.lt_size ho))).trans ((Heap.get?_update_ne _ _ _ _ hb).trans (Heap.get?_push_of_some _ ho))
    · exact (hs.2 x hxs).trans (Heap.get?_update_self _ hx₁ rfl)
end
/-- what the written part says of the class -/
structure OexA (K : PySem.W.Frag) (C : Addr) : Prop where
  cls : ∃ nm q N bs bm sn sub ab col dd k0 k1 k2 k3 k5, K.lookup C = some (excClassObj nm q C N bs bm true sn sub ab col dd k0 k1 k2 k3 k5 "ArithmeticError.__new__") ∧ excTail aeTail bm = true
  sa : PySem.W.findIn K (.ref C) "__setattr__" = some (some (.builtin "object.__setattr__"))
  exC : PySem.W.subIn K (.ref C) (.type "BaseException") = some true
  tyC : PySem.W.typeIn K (.ref C) = some (.type "type")
  kC : PySem.W.keepIn K (.ref C) = true
section
variable {X : Cx} {pins : List (Addr × Obj)} {σ : L2.St} {H : Hp} {s : Shared} {a C : Addr} {f : Str} {y : V} {u : Value} {E : Value → Shared → Prop} {A : Around}
theorem first_set {Q : Unit → Shared → Prop} (T : OexA X.K C) (I : Inv X pins σ H s) (e : H a = some (exo a C none)) (hno : PySem.W.findIn X.K (.ref C) f = some none) (ry : RelV y u)
    (h : ∀ dx s', H dx = none → dx ≠ a → Inv X pins σ (upd (upd H dx (exd dx [(f, y)])) a (exo a C (some dx))) s' → Q () s') : wpAny (model X.prog X.w) A (setAttr (.ref a) f u) Q E s := by
  obtain ⟨nm, q, N, bs, bm, sn, sub, ab, col, dd, k0, k1, k2, k3, k5, hC, hbm⟩ := T.cls
  have hcl : PySem.W.clsIn X.K C = some { name := nm, bases := bs, mro := .ref C :: bm, ns := N, qualname := q, hasDict := true, slotNames := sn, subclasses := sub, abstract := ab, collection := col, hasDel := false } := by unfold PySem.W.clsIn; rw [hC] <;> rfl
  obtain ⟨t1, ho⟩ := exo_at I.hok e
  obtain ⟨hp, g, d, t, os⟩ := s
  refine PySem.W.set_plain I.kIn (ox := { cls := .ref C, dict := none, data := .fields #[.ref t1, .none, .none, .none, .bool false, .none] }) (od := none) ⟨ho, rfl, rfl, trivial⟩ T.sa ?_
  refine first_field I.kIn ho hcl (show excTail aeTail (.ref C :: bm) = true from hbm) rfl hno (fun h' tk' dx k dn dne hx hn => ?_)
  have hnd : H dx = none := I.hok.fresh dn
  have nd : ∀ {b : Addr} {o : Obj}, hp.get? b = some o → b ≠ dx := fun {b o} q => Nat.ne_of_lt (Nat.lt_of_lt_of_le (Heap.lt_size q) dn)
  have na : ∀ {b : Addr}, H b = none → b ≠ a := fun {b} n z => by
    rw [z, e] at n
    cases n
  have Un1 : Un X.fs [] H (upd (upd H dx (exd dx [(f, y)])) a (exo a C (some dx))) hp h' := {
    keep := fun b o q n _ _ => k b o (na n) q
    slot := fun b o q n _ _ => ⟨o.slots, k b o (na n) q⟩
    free := fun b o q n _ => by rw [upd_ne (na n), upd_ne (nd q)]; exact n
    there := fun b o q _ => by
      by_cases hb : b = a
      · exact ⟨_, by rw [hb]; exact hx⟩
      · exact ⟨o, k b o hb q⟩
    tups := fun b xs q => by rw [upd_ne (at_ne e q exo_tup), upd_ne (ne_of_none q hnd)]; exact q
    frzs := fun b o v q => by rw [upd_ne (at_ne e q exo_frz), upd_ne (ne_of_none q hnd)]; exact q
    tbls := fun b ps q => ⟨#[], by rw [upd_ne (at_ne e q exo_tbl), upd_ne (ne_of_none q hnd), q]; simp⟩ }
  refine h dx _ hnd dne (I.un (t' := tk') Un1 fun b o q => ?_)
  by_cases hb : b = a
  · subst hb
    rw [upd_same] at q
    cases q
    exact exo_ok hx
  · rw [upd_ne hb] at q
    by_cases hd : b = dx
    · subst hd
      rw [upd_same] at q
      cases q
      exact exd_ok hn (relO_put (fs := []) ry fun g => True.intro)
    · rw [upd_ne hd] at q
      exact (I.hok b o q).stay (fun c v hc z => k c v (by
          rcases hc with hc | hc
          · rw [hc]
            exact hb
          · exact at_ne e hc exo_own) z)
        (fun c hc => by rw [upd_ne (at_ne e hc exo_own), upd_ne (ne_of_none hc hnd)]; exact hc) (fun c xs hc => by rw [upd_ne (at_ne e hc exo_tup), upd_ne (ne_of_none hc hnd)]; exact hc)
/-- ArithmeticError.__init__(self, ..) -/
theorem base_init {us : List Value} {Q : Value → Shared → Prop} (T : OexA X.K C) (I : Inv X pins σ H s) (e : H a = some (exo a C none)) (hl : us.length ≤ sizeLine) (h : ∀ s', Inv X pins σ H s' → Q .none s') :
    wpAny (model X.prog X.w) A (call (.builtin "ArithmeticError.__init__") (.ref a :: us)) Q E s := by
  obtain ⟨nm, q, N, bs, bm, sn, sub, ab, col, dd, k0, k1, k2, k3, k5, hC, hbm⟩ := T.cls
  obtain ⟨t1, ho⟩ := exo_at I.hok e
  obtain ⟨hp, g, d, t, os⟩ := s
  refine wpAny_call (PySem.HandSPX.init_base F.excBase_ArithmeticError (fun Y => excTail_contains Y bm hbm) (I.kIn _ _ hC) ho hl fun h' t2 k hx => ?_)
  have J := I.write (t' := t) (x := a) (e := a) (o := exo a C none) (by rw [e]; exact True.intro) (.inl rfl) k ⟨_, hx⟩ (exo_ok hx)
  have eu : upd H a (exo a C none) = H := by
    funext b
    by_cases hb : b = a
    · rw [hb, upd_same, e]
    · rw [upd_ne hb]
  rw [eu] at J
  exact h _ J
end
/-! ### readings and rules -/
/-- the base's __init__(self, ..) -/
def tBaseI (K : PySem.W.Frag) (ta : TA) : TE := fun σ H Q => ta σ H fun vs H1 => ∃ (a C : Addr) (ws : List V), vs = .ref a :: ws ∧ ws.length ≤ 1000 ∧ OexA K C ∧ H1 a = some (exo a C none) ∧ Q .non H1
/-- self.f = e, the first field -/
def tOst1 (K : PySem.W.Frag) (f : Str) (to te : TE) : TS := fun D σ H => te σ H fun y H1 => to σ H1 fun x H2 => ∃ a C : Addr, x = .ref a ∧ OexA K C ∧ PySem.W.findIn K (.ref C) f = some none ∧
  H2 a = some (exo a C none) ∧ ∀ dx, H2 dx = none → dx ≠ a → D.nx σ (upd (upd H2 dx (exd dx [(f, y)])) a (exo a C (some dx)))
section
variable {X : Cx} {o e : Expr} {es : List Expr} {to te : TE} {ta : TA} {f : Str} {p p' p1 p2 pos : Pos} {B : Addr}
/-- Base.__init__(self, ..), Base an own class that has ArithmeticError's __init__ -/
theorem pe_base {x : Str} {pl : Sem Bool} (hg : Gl X x) (hm : X.mg x = some (.ref B)) (r : ClX.CRead X.K B (.type "type")) (vV : PySem.W.findCls X.K (.ref B) (.type "type") "__init__" = some (.val (.builtin "ArithmeticError.__init__"))) (ha : PA X (e :: es) ta)
    (hdb : (x == ("__debug__" : Str)) = false := by decide)
    (hc : eval (.Call (.Attribute (.Name x p1) "__init__" p2) (e :: es) [] pos) X.env = (do
      let ov ← eval (.Name x p1) X.env
      standAt p2.atName
      let (f, first) ← holding [ov] (getMethod ov "__init__" pl)
      callWith pos f first (backTo pos (starEach (e :: es) X.env)) (backToKw pos (keywordEach [] X.env))) := by rfl)
    (he : starEach (e :: es) X.env = (false, eval e X.env) :: starEach es X.env := by rfl) (hpl : (backTo pos (starEach es X.env)).any (·.1) = false := by rfl) :
    PE X (.Call (.Attribute (.Name x p1) "__init__" p2) (e :: es) [] pos) (tBaseI X.K ta) := by
  refine ⟨fun pins s σ H Q I h => ?_⟩
  refine PySem.W.methodCall_KW (ld_glob I hg hm ?_ hdb) hc
  refine PySem.W.method_cls I.kIn r.ga (PySem.W.cls_value I.kIn r.rd vV (by decide +kernel) ?_)
  show wpAny _ _ (callWith pos (Value.builtin "ArithmeticError.__init__") [] (backTo pos (starEach (e :: es) X.env)) []) _ _ _
  refine PyProof.Rows.callWith_method1 (thn (ha.run pos pins _ σ H _ (I.tok _) h) fun us s1 ⟨vs, H1, I1, r1, a, C, ws, ev, hl, T, ea, q⟩ => ?_) he hpl
  subst ev
  cases r1 with
  | @cons _ u0 _ ur ra rw' =>
    obtain rfl : u0 = Value.ref a := ra
    have hlen : ur.length ≤ sizeLine := by
      rw [← Paired.length rw', sizeLine_eq]
      omega
    exact base_init T I1 ea hlen fun s' J => ⟨.non, H1, J, rfl, q⟩
theorem ps_first (ho : PE X o to) (he : PE X e te) (hs : swapsWith e (some (.Attribute o f p')) pos.line X.env = pure false := by rfl) : PS X (.Assign [.Attribute o f p'] e pos) (tOst1 X.K f to te) := by
  refine ⟨fun pins s σ H D I h => ?_⟩
  refine plainObj_wpAny_Assign_Attribute (thn (he.run pins s σ H _ I h) fun v s1 ⟨y, H1, I1, r1, q1⟩ => thn (ho.run pins s1 σ H1 _ I1 q1) fun u s2 ⟨x, H2, I2, r2, a, C, ex, T, hno, ea, q⟩ => ?_) hs
  subst ex
  obtain rfl : u = Value.ref a := r2
  exact first_set T I2 ea hno r1 fun dx s' n ne J => ⟨σ, _, J, q dx n ne⟩
theorem pmk_own1 {CX : CXT} {x : Str} {C fI : Addr} {k : Nat} {fd : FuncData} {ps : List Str} {sp : Sp} {ds : List Value} {dvs : List V} (T : OexA X.K C) (iC : PySem.W.findIn X.K (.ref C) "__init__" = some (some (.ref fI))) (tI : PySem.W.typeIn X.K (.ref fI) = some (.type "function"))
    (F1 : FnOk X.prog X.w X.K X.mg X.base CX k fI fd ps sp) (hr : Room (k + 1) X.A) (hb : Binds X.K fd ps ds) (hd : Vals dvs ds) (hx : Passes CX X (fun _ _ _ => False)) (hg : Gl X x) (hm : X.mg x = some (.ref C)) (ha : PA X (e :: es) ta)
    (hdb : (x == ("__debug__" : Str)) = false := by decide) (he : starEach (e :: es) X.env = (false, eval e X.env) :: starEach es X.env := by rfl) (hpl : (backTo pos (starEach es X.env)).any (·.1) = false := by rfl) :
    L2N.PMk X (.Call (.Name x p) (e :: es) [] pos) (tMkO C sp dvs ta) := by
  intro pins s σ H Q I h
  obtain ⟨nm, q, N, bs, bm, sn, sub, ab, col, dd, k0, k1, k2, k3, k5, hC, hbm⟩ := T.cls
  refine wpAny_Call_Name_kw (ld_glob I hg hm ?_ hdb)
  refine PySem.W.callWith_K (h₀ := X.base) I.ok.mod.kin T.kC (thn (ha.run pos pins s σ H _ I h) fun us s1 ⟨vs, H1, I1, r1, hz, q1⟩ => ⟨I1.kIn, ?_⟩) he hpl
  show wpAny _ _ (call (.ref C) us) _ _ _
  obtain ⟨hp, g, dr, tk, os⟩ := s1
  have hsz : hp.objs.size ≤ hp.objs.size + 1 := Nat.le_succ _
  have hn : H1 (hp.objs.size + 1) = none := I1.hok.fresh hsz
  have hq := q1 (hp.objs.size + 1) hn
  have kk : ∀ b o, hp.get? b = some o → ((hp.push (PySem.W.kdv_tup us)).push (PySem.HandSPX.excO C hp.objs.size)).get? b = some o := fun b o e => Heap.get?_push_of_some _ (Heap.get?_push_of_some _ e)
  have hget : ((hp.push (PySem.W.kdv_tup us)).push (PySem.HandSPX.excO C hp.objs.size)).get? (hp.objs.size + 1) = some (PySem.HandSPX.excO C hp.objs.size) := by heap_get
  have I2 : Inv X pins σ (upd H1 (hp.objs.size + 1) (exo (hp.objs.size + 1) C none)) ⟨(hp.push (PySem.W.kdv_tup us)).push (PySem.HandSPX.excO C hp.objs.size), g, dr, tk, os⟩ :=
    I1.laid (t' := tk) (a := hp.objs.size + 1) (o := exo (hp.objs.size + 1) C none) (h' := (hp.push (PySem.W.kdv_tup us)).push (PySem.HandSPX.excO C hp.objs.size)) kk hsz (exo_ok hget)
  have r2 : Vals (V.ref (hp.objs.size + 1) :: (vs ++ dvs)) (Value.ref (hp.objs.size + 1) :: (us ++ ds)) := .cons rfl (r1.append hd)
  have hl : (Value.ref (hp.objs.size + 1) :: us ++ ds).length = ps.length := by
    have e := r2.length
    rw [F1.len _ _ _ _ hq] at e
    exact e.symm
  have hus : us.length ≤ sizeLine := by
    rw [← Paired.length r1, sizeLine_eq]
    omega
  refine wpAny_call (PySem.HandSPX.call_own F.excBase_ArithmeticError (fun Y => excTail_contains Y bm hbm) (I1.kIn _ _ hC) (PySem.W.looks_findIn I1.kIn iC) (fun self => PySem.W.bind_fn I1.kIn self tI) hus
    (codeAny_mono (F1.run _ X.stack _ _ ⟨Value.ref (hp.objs.size + 1) :: us, []⟩ (Value.ref (hp.objs.size + 1) :: (us ++ ds)) _ _ (fun _ _ _ => False) (hr.make C us []) (I2.env0.make C us []) (hb _ (Value.ref (hp.objs.size + 1) :: us) I2.kIn hl) r2 hq) fun r s' hq' => ?_))
  cases r with
  | error er => exact hx pins σ _ _ er s' I2 hq'
  | ok fl =>
    cases fl with
    | ret u =>
      obtain ⟨v, H2, os2, bare2, un2, hok2, rv, ev, d, fs, ea, ed, hd1, q2⟩ := hq'
      subst ev
      obtain ⟨h2, g2, d2, t2, os'⟩ := s'
      exact ⟨rv, L2.mk_endN (raises_own T.exC T.tyC) I1 hsz kk un2 hok2 os2 bare2 ea ed hd1 q2⟩
    | next => exact False.elim hq'
    | brk => exact False.elim hq'
    | cont => exact False.elim hq'
end
end Ke

namespace Kr
open PySem L2 Ke PySem.W
/-! ### the layer: defs that raise, and who catches -/
structure OkX (P : Program) (w : World) (K : PySem.W.Frag) (mg : Str → Option Value) (base : Heap) (k : Nat) (x : Str) (st : Stmt) (ps : List Str) (sp : Sp) : Prop where
  ex : ∃ f fd, mg x = some (.ref f) ∧ Fun K x x st f fd ∧ Binds K fd ps [] ∧ FnOk P w K mg base (L2N.CX P w) k f fd ps sp
structure ExcFn (K : PySem.W.Frag) (mg : Str → Option Value) (x : Str) (C : Addr) (qual : Str) (st : Stmt) : Prop where
  mg : mg x = some (.ref C)
  cls : OexA K C
  ex : ∃ f fd, findIn K (.ref C) "__init__" = some (some (.ref f)) ∧ typeIn K (.ref f) = some (.type "function") ∧ Fun K "__init__" qual st f fd
structure OkE (P : Program) (w : World) (K : PySem.W.Frag) (mg : Str → Option Value) (base : Heap) (x : Str) (C : Addr) (k : Nat) (qual : Str) (st : Stmt) (ps : List Str) (sp : Sp) : Prop where
  ex : ∃ f fd, mg x = some (.ref C) ∧ OexA K C ∧ findIn K (.ref C) "__init__" = some (some (.ref f)) ∧ typeIn K (.ref f) = some (.type "function") ∧ Fun K "__init__" qual st f fd ∧ Binds K fd ps [] ∧ FnOk P w K mg base CX0 k f fd ps sp
section
variable {P : Program} {w : World} {K : PySem.W.Frag} {mg : Str → Option Value} {base : Heap}
abbrev BodyX (P : Program) (w : World) (K : PySem.W.Frag) (mg : Str → Option Value) (base : Heap) (qual : Str) (st : Stmt) (N : List Str) (k : Nat) (sp : Sp) : Prop :=
  ∀ (f : Addr) (cdv : Value) (A : Around) (outer : List Env) (s : Shared) (H : Hp) (vs : List V) (Q : VK) (E : XK), Room k (A.deeper (PyProof.Rows.envOfC qual (defScope st) s.heap.objs.size f cdv)) → sp vs H Q E →
      ∃ t, PSs (cxOf (L2N.CX P w) P w K mg base N qual (defScope st) f cdv A outer s H E) (defBody st) t ∧ t { nx := fun _ H' => Q .non H', rt := Q } (start N vs) H
theorem OkX.of {x : Str} {st : Stmt} {N ps : List Str} {k : Nat} {sp : Sp} (T : TopFn K mg x st) (S : FnScope N ps (defScope st))
    (hb : ∀ (kV doc pm : Value) (an : Option Addr) (cdv ct : Value) (us : List Value), us.length = ps.length → bindArgs (PySem.W.fnOf x x (defArgs st) (defBody st) (defScope st) .none kV doc pm an cdv ct) ⟨us, []⟩ = pure (ps.zip us))
    (len : ∀ vs H Q E, sp vs H Q E → vs.length = ps.length) (body : BodyX P w K mg base x st N k sp) : OkX P w K mg base (k + 1) x st ps sp := by
  obtain ⟨f, fd, h1, F⟩ := T.ex
  exact ⟨f, fd, h1, F, F.binds hb, F.okXN S len (body f)⟩
theorem OkE.of {C : Addr} {x qual : Str} {st : Stmt} {N ps : List Str} {k : Nat} {sp : Sp} (T : ExcFn K mg x C qual st) (S : FnScope N ps (defScope st))
    (hb : ∀ (kV doc pm : Value) (an : Option Addr) (cdv ct : Value) (us : List Value), us.length = ps.length → bindArgs (PySem.W.fnOf "__init__" qual (defArgs st) (defBody st) (defScope st) .none kV doc pm an cdv ct) ⟨us, []⟩ = pure (ps.zip us))
    (len : ∀ vs H Q E, sp vs H Q E → vs.length = ps.length) (body : BodyOk P w K mg base qual st N k sp) : OkE P w K mg base x C (k + 1) qual st ps sp := by
  obtain ⟨f, fd, h1, h2, F⟩ := T.ex
  exact ⟨f, fd, T.mg, T.cls, h1, h2, F, F.binds hb, F.ok S len (body f)⟩
end
/-- what __init__(self, n) of such a class keeps: one field, the number -/
def sp_field (K : PySem.W.Frag) (C : Addr) (fld msg : Str) : Sp := fun vs H Q _ => ∃ (a : Addr) (n : Int), vs = [.ref a, .int n] ∧ n.natAbs.log2 < 1920 ∧ ((Str.empty ++ msg) ++ (toString n : Str)).length ≤ sizeLine ∧ H a = some (exo a C none) ∧ OexA K C ∧ findIn K (.ref C) fld = some none ∧
  ∀ d, H d = none → d ≠ a → Q .non (upd (upd H d (exd d [(fld, .int n)])) a (exo a C (some d)))
/-- a wish about the exception of class C with the fields fs -/
def EX (g : Gr) (L : Led) (E : XK) (C : Addr) (fs : List (Str × V)) : Prop := ∀ H d, At g (L ++ [(d, .ob (.xd fs), true)]) H → E (.ref C) (some d) H
section
variable {g : Gr} {L : Led} {σ : St} {K : Ks} {Kf : PySem.W.Frag} {C : Addr} {fld msg : Str} {ta : TA} {W : WX}
theorem ws_raise (hno : findIn Kf (.ref C) fld = some none) (hC : OexA Kf C) (h : Wp g L (ta σ) fun vs L1 => ∃ n : Int, vs = [.int n] ∧ n.natAbs.log2 < 1920 ∧ ((Str.empty ++ msg) ++ (toString n : Str)).length ≤ sizeLine ∧ EX g L1 (fun c d H => W c d σ H) C [(fld, .int n)]) :
    Ws g L (fun _ σ H => tMkO C (sp_field Kf C fld msg) [] ta σ H fun cls d H' => W cls d σ H') σ K :=
  fun H z D e => h H z _ fun vs L1 H1 ⟨n, e1, hf, hl, k⟩ z1 => by
    subst e1
    refine ⟨by simp, fun a ha => ⟨a, n, rfl, hf, hl, upd_same, hC, hno, fun d hd hda => ?_⟩⟩
    have hd1 : H1 d = none := by rw [← hd, upd_ne hda]
    have e3 : upd (del (upd (upd (upd H1 a (exo a C none)) d (exd d [(fld, .int n)])) a (exo a C (some d))) a) d (.xd [(fld, .int n)]) = upd H1 d (.xd [(fld, .int n)]) := by
      funext b
      by_cases h1 : b = d
      · rw [h1, upd_same, upd_same]
      · rw [upd_ne h1, upd_ne h1]
        by_cases h2 : b = a
        · rw [h2, del_same, ha]
        · rw [del_ne h2, upd_ne h2, upd_ne h1, upd_ne h2]
    refine ⟨rfl, d, _, upd_same, (upd_ne hda).trans upd_same, hd1, ?_⟩
    rw [e3]
    exact k _ d (z1.upd_new hd1)
/-- try: y = f(..) except C as n: .. -/
theorem ws_try {i j : Nat} {fs : List (Str × V)} {sp : Sp} {ts : Addr → Value → Option Addr → TS} {Wout : WX} (hx : exmOne Kf (.ref C) (.ref C) = some true)
    (h : Wp g L (ta σ) fun vs L1 => (∀ E : XK, EX g L1 E C fs → Wp g L1 (fun H Q => sp vs H Q E) fun v L2 => K.nx (σ.set j (some v)) L2) ∧
      ∀ a d, Ws g (L1 ++ [(d, .ob (.xd fs), true)]) (ts a (.ref C) (some d)) (σ.set i (some (.ref a))) { nx := fun σ' L' => K.nx (σ'.set i none) L', rt := K.rt, bk := fun σ' L' => K.bk (σ'.set i none) L', ct := fun σ' L' => K.ct (σ'.set i none) L' }) :
    Ws g L (fun D σ H => tAsg (tCallS sp (WE (wAs Kf (.ref C) i ts Wout D)) ta) (gName j) D σ H) σ K :=
  fun H z D e => h H z _ fun vs L1 H1 ⟨h1, h2⟩ z1 =>
    h1 _ (fun H3 d z3 => ⟨true, hx, fun _ a _ => h2 a d H3 z3 _ ⟨fun σ' L' H' k z => e.nx _ _ _ k z, e.rt, fun σ' L' H' k z => e.bk _ _ _ k z, fun σ' L' H' k z => e.ct _ _ _ k z⟩, fun q => Bool.noConfusion q⟩) H1 z1 _ fun v L2 H2 k z2 => wg_name k H2 z2 _ e.nx
/-- a field of the exception that the suite holds -/
theorem wp_xf {a d : Addr} {f : Str} {te : TE} {D : V → Led → Prop} (h : Wp g L (te σ) fun x L1 => x = .ref a ∧ ∃ (i : Nat) (fs : List (Str × V)) (v : V) (bo : Bool), L1[i]? = some (d, .ob (.xd fs), bo) ∧ fs.lookup f = some v ∧ D v L1) :
    Wp g L (tXf a (.ref C) (some d) C f te σ) D :=
  fun H z Q q => h H z _ fun x L1 H1 ⟨e1, i, fs, v, bo, hi, hl, k⟩ z1 => ⟨e1, rfl, d, fs, v, rfl, z1.get hi, hl, q _ _ _ k z1⟩
end
section
variable {X : Cx} {k : Nat} {x : Str} {ps : List Str} {sp : Sp} {p pos pos' : Pos} {e : Expr} {es : List Expr} {t : TA} {C : Addr} {st : Stmt} {qual : Str}
/-- a call whose exceptions the try's body takes -/
theorem pe_ownS {W : WX} (O : OkX X.prog X.w X.K X.mg X.base k x st ps sp) (tk : L2N.Takes X W) (hr : Room k X.A) (hg : Gl X x) (ha : PA X (e :: es) t) (hdb : (x == ("__debug__" : Str)) = false := by decide) (he : starEach (e :: es) X.env = (false, eval e X.env) :: starEach es X.env := by rfl) (hpl : (backTo pos (starEach es X.env)).any (·.1) = false := by rfl) :
    PE X (.Call (.Name x p) (e :: es) [] pos) (tCallS sp (WE W) t) := by
  obtain ⟨f, fd, h1, h2, h3, F⟩ := O.ex
  exact pe_callS F hr hg h1 h2.kp h3 (fun σ => L2N.passAt tk σ) ha hdb he hpl
/-- raise C(e) -/
theorem ps_raiseO {W : WX} (hc : X.calm = true) (tk : L2N.Takes X W) (O : OkE X.prog X.w X.K X.mg X.base x C k qual st ps sp) (hr : Room (k + 1) X.A) (hg : Gl X x) (ha : PA X (e :: es) t) (hdb : (x == ("__debug__" : Str)) = false := by decide) (he : starEach (e :: es) X.env = (false, eval e X.env) :: starEach es X.env := by rfl) (hpl : (backTo pos (starEach es X.env)).any (·.1) = false := by rfl) :
    PS X (.Raise (some (.Call (.Name x p) (e :: es) [] pos)) none pos') (fun _ σ H => tMkO C sp [] t σ H fun cls d H' => W cls d σ H') := by
  obtain ⟨f, fd, h1, hC, hi, ht, F, hb, hF⟩ := O.ex
  exact L2N.ps_raise hc tk (pmk_own1 hC hi ht hF hr hb .nil pass0 hg h1 ha hdb he hpl)
/-- what a raising def lets out -/
theorem takesE {P : Program} {w : World} {K : PySem.W.Frag} {mg : Str → Option Value} {base : Heap} {N : List Str} {qual : Str} {sc : Scope} {f : Addr} {cdv : Value} {A : Around} {outer : List Env} {s : Shared} {H : Hp} {E : XK} :
    L2N.Takes (cxOf (L2N.CX P w) P w K mg base N qual sc f cdv A outer s H E) (fun cls d _ H => E cls d H) := L2N.takes_of rfl rfl rfl rfl
end
end Kr

namespace Kr
open PySem L2 Ke PySem.W
theorem exm_self {K : PySem.W.Frag} {S : Addr} (h1 : subIn K (.ref S) (.type "BaseException") = some true) (h2 : isClsIn K S = true) (h3 : typeIn K (.ref S) = some (.type "type")) (h4 : subIn K (.ref S) (.ref S) = some true) : exmOne K (.ref S) (.ref S) = some true := by
  have e1 : (subIn K (.ref S) (.type "BaseException") == some true) = true := by rw [h1] <;> rfl
  have e2 : ((clsIn K S).isSome && typeIn K (.ref S) == some (.type "type")) = true := by
    have h2' : (clsIn K S).isSome = true := h2
    rw [h2', h3] <;> rfl
  show (if (subIn K (.ref S) (.type "BaseException") == some true) = true then (if ((clsIn K S).isSome && typeIn K (.ref S) == some (.type "type")) = true then subIn K (.ref S) (.ref S) else none) else none) = some true
  rw [if_pos e1, if_pos e2]
  exact h4
theorem excFn_mk {K : PySem.W.Frag} {mg : Str → Option Value} {x : Str} {C S : Addr} {qual : Str} {st : Stmt} {f : Addr} {oc : Value} {od an : Option Addr} {osl : Array (Option Value)} {kV doc pm cdv ct : Value}
    {nm q : Str} {N : Addr} {bs : List Value} {sn : List Str} {sub : List Value} {ab : Bool} {col : Option Bool} {dd : Option Addr} {k0 k1 k2 k3 k5 : Option Value} (hm : mg x = some (.ref C))
    (xl : K.lookup C = some (excClassObj nm q C N bs [.ref S, .type "ArithmeticError", .type "Exception", .type "BaseException", .type "object"] true sn sub ab col dd k0 k1 k2 k3 k5 "ArithmeticError.__new__"))
    (sa : findIn K (.ref C) "__setattr__" = some (some (.builtin "object.__setattr__"))) (eC : subIn K (.ref C) (.type "BaseException") = some true) (tC : typeIn K (.ref C) = some (.type "type")) (kC : keepIn K (.ref C) = true)
    (a : findIn K (.ref C) "__init__" = some (some (.ref f))) (t : typeIn K (.ref f) = some (.type "function"))
    (l : K.lookup f = some ⟨oc, od, .func (fnOf "__init__" qual (defArgs st) (defBody st) (defScope st) .none kV doc pm an cdv ct), osl⟩) (c : codeIn K cdv qual = true) (k : keepIn K (.ref f) = true) : ExcFn K mg x C qual st :=
  ⟨hm, ⟨⟨_, _, _, _, _, _, _, _, _, _, _, _, _, _, _, xl, by first | rfl | decide +kernel | (simp [excTail])⟩, sa, eC, tC, kC⟩, f, _, a, t, fun_mk l c k⟩
/-- a raised exception is what the promise tells of -/
theorem ex_of {H0 : Hp} {L : Led} {E : XK} {C : Addr} {fs : List (Str × V)} (h : ∀ (d : Addr) (H' : Hp), H0 d = none → Same H0 H' → H' d = some (.xd fs) → E (.ref C) (some d) H') : EX ⟨H0, fun _ => False⟩ L E C fs := fun H d z => by
  have hi : (L ++ [(d, Ent.ob (.xd fs), true)])[L.length]? = some (d, Ent.ob (.xd fs), true) := by simp
  refine h d H ?_ z.since (z.get hi)
  rcases z.own _ (List.mem_of_getElem? hi) rfl with w | w
  · exact w
  · exact w.elim
/-- try, where the exception is told under c alone -/
theorem ws_tryC {g : Gr} {L : Led} {σ : St} {K : Ks} {Kf : PySem.W.Frag} {C : Addr} {ta : TA} {c : Prop} {i j : Nat} {fs : List (Str × V)} {sp : Sp} {ts : Addr → Value → Option Addr → TS} {Wout : WX} (hx : exmOne Kf (.ref C) (.ref C) = some true)
    (h : Wp g L (ta σ) fun vs L1 => (∀ E : XK, (c → EX g L1 E C fs) → Wp g L1 (fun H Q => sp vs H Q E) fun v L2 => K.nx (σ.set j (some v)) L2) ∧
      (c → ∀ a d, Ws g (L1 ++ [(d, .ob (.xd fs), true)]) (ts a (.ref C) (some d)) (σ.set i (some (.ref a))) { nx := fun σ' L' => K.nx (σ'.set i none) L', rt := K.rt, bk := fun σ' L' => K.bk (σ'.set i none) L', ct := fun σ' L' => K.ct (σ'.set i none) L' })) :
    Ws g L (fun D σ H => tAsg (tCallS sp (WE (wAs Kf (.ref C) i ts Wout D)) ta) (gName j) D σ H) σ K :=
  fun H z D e => h H z _ fun vs L1 H1 ⟨h1, h2⟩ z1 =>
    h1 _ (fun hc H3 d z3 => ⟨true, hx, fun _ a _ => h2 hc a d H3 z3 _ ⟨fun σ' L' H' k z => e.nx _ _ _ k z, e.rt, fun σ' L' H' k z => e.bk _ _ _ k z, fun σ' L' H' k z => e.ct _ _ _ k z⟩, fun q => Bool.noConfusion q⟩) H1 z1 _ fun v L2 H2 k z2 => wg_name k H2 z2 _ e.nx
/-! ### a number, or a new list of ints -/
def kWLv (u : V) (A : Prop) (R : List Int → Prop) : Ks := { nx := fun _ _ => False, rt := fun v L => (v = u ∧ A) ∨ ∃ (x : List Int) (p : Addr) (i : Nat), v = .ref p ∧ L[i]? = some (p, Ent.ob (.lst (x.map V.int)), true) ∧ R x }
theorem eo_WLv {H0 : Hp} {u : V} {A : Prop} {R : List Int → Prop} {Q : VK} (h1 : A → ∀ H', Same H0 H' → Q u H') (h2 : ∀ x p H', R x → H0 p = none → Same H0 H' → H' p = some (.lst (x.map V.int)) → Q (.ref p) H') : Eo ⟨H0, fun _ => False⟩ (kWLv u A R) { nx := fun _ H' => Q .non H', rt := Q } :=
  ⟨fun _ _ _ hA _ => hA.elim, fun v L H' hk z => by
    rcases hk with ⟨rfl, hA⟩ | ⟨x, p, i, rfl, hi, hR⟩
    · exact h1 hA _ z.since
    · exact h2 x p H' hR (by
        rcases z.own _ (List.mem_of_getElem? hi) rfl with q | q
        · exact q
        · exact q.elim) z.since (z.get hi), fun _ _ _ hk _ => hk.elim, fun _ _ _ hk _ => hk.elim⟩
end Kr

namespace Kr
open PySem L2 Ke PySem.W
/-- a call of a raising def where it raises nothing -/
theorem pe_ownN {X : Cx} {k : Nat} {x : Str} {ps : List Str} {sp : Sp} {p pos : Pos} {e : Expr} {es : List Expr} {t : TA} {st : Stmt} (O : OkX X.prog X.w X.K X.mg X.base k x st ps sp) (hr : Room k X.A) (hg : Gl X x) (ha : PA X (e :: es) t) (hdb : (x == ("__debug__" : Str)) = false := by decide) (he : starEach (e :: es) X.env = (false, eval e X.env) :: starEach es X.env := by rfl) (hpl : (backTo pos (starEach es X.env)).any (·.1) = false := by rfl) :
    PE X (.Call (.Name x p) (e :: es) [] pos) (tCall sp [] E0 t) := by
  obtain ⟨f, fd, h1, h2, h3, F⟩ := O.ex
  exact pe_call F hr hg h1 h2.kp h3 .nil L2N.passL ha hdb he hpl
end Kr

namespace Kr
open PySem L2
theorem wc_isi_lint {Kf : PySem.W.Frag} {g : Gr} {L : Led} {C : V → Led → Prop} {a : Addr} {xs : List V} {bo : Bool} (i : Nat) (h : L[i]? = some (a, .ob (.lst xs), bo)) (c : C (.bl false) L) : Wp g L (rIsi Kf [.ref a, .ty "int"]) C :=
  .now (fun H _ z q => ⟨.ref a, .ty "int", _, _, false, rfl, .ty _, .base (.lst (z.get h)), kit_ty (by decide +kernel), q⟩) c
end Kr

set_option Elab.async false
set_option linter.all false
set_option maxRecDepth 100000
set_option maxHeartbeats 4000000
namespace Kr
open PySem L2 Ke PySem.W
/-- try: y = r(f(..)), where the exception is told under c alone -/
theorem ws_tryB {g : Gr} {L : Led} {σ : St} {K : Ks} {Kf : PySem.W.Frag} {C : Addr} {ta : TA} {c : Prop} {i j : Nat} {fs : List (Str × V)} {sp : Sp} {r : List V → Hp → VK → Prop} {ts : Addr → Value → Option Addr → TS} {Wout : WX} (hx : exmOne Kf (.ref C) (.ref C) = some true)
    (h : Wp g L (ta σ) fun vs L1 => (∀ E : XK, (c → EX g L1 E C fs) → Wp g L1 (fun H Q => sp vs H Q E) fun v L2 => Wp g L2 (r [v]) fun y L3 => K.nx (σ.set j (some y)) L3) ∧
      (c → ∀ a d, Ws g (L1 ++ [(d, .ob (.xd fs), true)]) (ts a (.ref C) (some d)) (σ.set i (some (.ref a))) { nx := fun σ' L' => K.nx (σ'.set i none) L', rt := K.rt, bk := fun σ' L' => K.bk (σ'.set i none) L', ct := fun σ' L' => K.ct (σ'.set i none) L' })) :
    Ws g L (fun D σ H => tAsg (tCB r (tCons (tCallS sp (WE (wAs Kf (.ref C) i ts Wout D)) ta) tNil)) (gName j) D σ H) σ K :=
  fun H z D e => h H z _ fun vs L1 H1 ⟨h1, h2⟩ z1 =>
    h1 _ (fun hc H3 d z3 => ⟨true, hx, fun _ a _ => h2 hc a d H3 z3 _ ⟨fun σ' L' H' k z => e.nx _ _ _ k z, e.rt, fun σ' L' H' k z => e.bk _ _ _ k z, fun σ' L' H' k z => e.ct _ _ _ k z⟩, fun q => Bool.noConfusion q⟩) H1 z1 _ fun v L2 H2 k2 z2 => k2 H2 z2 _ fun y L3 H3 k3 z3 => wg_name k3 H3 z3 _ e.nx
/-! ### None or a number, or a new object -/
def kWF (u : V) (A : Prop) (o : HO) (B : Prop) : Ks := { nx := fun _ _ => False, rt := fun v L => (v = u ∧ A) ∨ ∃ (p : Addr) (i : Nat), v = .ref p ∧ L[i]? = some (p, Ent.ob o, true) ∧ B }
theorem eo_WF {H0 : Hp} {u : V} {A : Prop} {o : HO} {B : Prop} {Q : VK} (h1 : A → ∀ H', Same H0 H' → Q u H') (h2 : B → ∀ p H', H0 p = none → Same H0 H' → H' p = some o → Q (.ref p) H') : Eo ⟨H0, fun _ => False⟩ (kWF u A o B) { nx := fun _ H' => Q .non H', rt := Q } :=
  ⟨fun _ _ _ hA _ => hA.elim, fun v L H' hk z => by
    rcases hk with ⟨rfl, hA⟩ | ⟨p, i, rfl, hi, hR⟩
    · exact h1 hA _ z.since
    · exact h2 hR p H' (by
        rcases z.own _ (List.mem_of_getElem? hi) rfl with q | q
        · exact q
        · exact q.elim) z.since (z.get hi), fun _ _ _ hk _ => hk.elim, fun _ _ _ hk _ => hk.elim⟩
/-- enumerate(a list of values) -/
theorem iter_enumV {Kf : PySem.W.Frag} {g : Gr} {L : Led} {a : Addr} (i1 i2 : Nat) {xs : List V} (s : Seen Kf g L a xs) : Iter g L (Ite Kf a) (gTup Kf 2 (gNames [i1, i2])) xs.zipIdx (fun x σ => (σ.set i1 (some (.int (x.2 : Nat)))).set i2 (some x.1)) :=
  iter_enum i1 i2 id (xs := xs) (by rw [List.map_id]; exact s)
end Kr

set_option Elab.async false
set_option linter.all false
set_option maxRecDepth 100000
set_option maxHeartbeats 1000000
/-! ### functions made by lambda, kept and called later -/
namespace Kr
open PySem L2 PySem.Spec PyProof.Rows LamX NdefX
/-- a lambda's words, its cells, its defaults, its code object -/
structure LF where
  qual : Str
  params : Arguments
  body : Expr
  scope : Scope
  cl : List (Str × Addr)
  dV : Value
  c : Addr
abbrev LF.fd (F : LF) (doc pm ctv : Value) : FuncData := PySem.W.kdv_fn "<lambda>" F.qual F.params (.expr F.body) F.scope F.cl F.dV doc pm (.ref F.c) ctv
/-- the object at f is the function F -/
def LamO (f : Addr) (F : LF) : HO := .ext fun h => ∃ (od : Option Addr) (sl : Array (Option Value)) (doc pm ctv : Value), h.get? f = some (⟨.type "function", od, .func (F.fd doc pm ctv), sl⟩ : Obj)
theorem lamO_at {P : Program} {w : World} {H : Hp} {h : Heap} {f : Addr} {F : LF} (hok : HOk P w H h) (e : H f = some (LamO f F)) : ∃ (od : Option Addr) (sl : Array (Option Value)) (doc pm ctv : Value), h.get? f = some (⟨.type "function", od, .func (F.fd doc pm ctv), sl⟩ : Obj) := by
  obtain ⟨z, _, _⟩ := hok f _ e
  exact z
section
variable {X : Cx} {pins : List (Addr × Obj)} {σ : L2.St} {H : Hp} {s : Shared}
theorem inv_lam {F : LF} {o : Obj} {t' : Nat} {doc pm ctv : Value} (I : Inv X pins σ H s) (ho : o = { cls := .type "function", data := .func (F.fd doc pm ctv) }) :
    Inv X pins σ (upd H s.heap.objs.size (LamO s.heap.objs.size F)) { s with heap := s.heap.push o, toks := t' } := by
  subst ho
  refine I.laid (a := s.heap.objs.size) (fun b u e => Heap.get?_push_of_some _ e) (Nat.le_refl _) ?_
  have e : (s.heap.push ({ cls := .type "function", data := .func (F.fd doc pm ctv) } : Obj)).get? s.heap.objs.size = some ({ cls := .type "function", data := .func (F.fd doc pm ctv) } : Obj) := Heap.get?_push_size _ rfl
  exact ⟨⟨_, _, doc, pm, ctv, e⟩, ⟨_, e⟩, fun h1 h2 ⟨od, sl, d, p, t, z⟩ st => ⟨od, sl, d, p, t, st _ z⟩⟩
/-- the heap's words behind the making of a lambda: all but the table stay -/
structure Made (H H1 : Hp) (P : Addr) (q : Str) (f : Addr) (F : LF) : Prop where
  old : ∀ b o, H b = some o → b ≠ P → H1 b = some o
  tab : TabS H1 P q
  new : H f = none
  fn : H1 f = some (LamO f F)
  co : H1 F.c = some (CodeO F.c q)
theorem lam_tail {c P : Addr} {params : Arguments} {body : Expr} {scope : Scope} {pos : Pos} {dV : Value} {q : Str} {E : Value → Shared → Prop} {Q : Value → Shared → Prop} (I : Inv X pins σ H s) (TB : TabB X.base X.mg c P) (hcode : X.env.code = .ref c)
    (hT : TabS H P q) (hq : X.env.qual ++ "<lambda>" = q) (hfree : ∀ y ∈ scope.names, y.2 = .free → ∃ c, X.env.cells.lookup y.1 = some c)
    (h : ∀ (f c' : Addr) (H1 : Hp) (s' : Shared), Inv X pins σ H1 s' → Made H H1 P q f ⟨q, params, body, scope, cloFrom X.env.cells scope.names [], dV, c'⟩ → Q (.ref f) s') :
    wpAny (model X.prog X.w) X.A (makeTail "<lambda>" (X.env.qual ++ "<lambda>") params (.expr body) scope X.env dV .none none pos pos.line) Q E s := by
  subst hq
  obtain ⟨ps, hP, ht, ha⟩ := hT
  have bP : s.heap.BuiltinsAt X.mg P := TB.bm.keeps I.bk
  have hP' : s.heap.get? P = some { cls := .none, data := .fields ps } := I.hok P _ hP
  cases hc : codeAmong pos ps.toList with
  | none =>
    refine PySem.W.kdv_makeTail (mg := X.mg) (c := c) (P := P) (ps := ps) (closure_ok hfree) I.ok.glob (I.mod.glob.keeps I.bk) hcode (TB.code.keeps I.bk) hP' ht hc TB.gP bP fun c' ctv doc h' tk hx hge hlt hrec htb => ?_
    obtain ⟨c2, oc, vs, t, e2, hoc, hd, hv⟩ := hrec
    cases e2
    have nC : H c' = none := I.hok.fresh hge
    have I1 := inv_table (t' := tk) (more := #[rawInt pos.line, rawInt pos.col, .ref c']) (h' := h') I hP (fun b o hb e => hx b o hb e) htb hge ⟨oc, vs, t, hoc, hd, hv⟩
    have hE : ∀ b o, H b = some o → b ≠ P → (upd (upd H P (.tbl (ps ++ #[rawInt pos.line, rawInt pos.col, .ref c']))) c' (CodeO c' (X.env.qual ++ "<lambda>"))) b = some o := fun b o e n => by
      rw [upd_ne (ne_of_none e nC), upd_ne n]
      exact e
    have eL : (ps ++ #[rawInt pos.line, rawInt pos.col, .ref c']).toList = ps.toList ++ [rawInt pos.line, rawInt pos.col, .ref c'] := by simp
    have nF := I1.hok.fresh (Nat.le_refl _)
    have I2 := inv_lam (F := ⟨X.env.qual ++ "<lambda>", params, body, scope, cloFrom X.env.cells scope.names [], dV, c'⟩) (t' := tk) (doc := doc) (pm := (X.mg "__name__").getD .none) (ctv := ctv) I1 rfl
    have kp : ∀ b o, (upd (upd H P (.tbl (ps ++ #[rawInt pos.line, rawInt pos.col, .ref c']))) c' (CodeO c' (X.env.qual ++ "<lambda>"))) b = some o → (upd (upd (upd H P (.tbl (ps ++ #[rawInt pos.line, rawInt pos.col, .ref c']))) c' (CodeO c' (X.env.qual ++ "<lambda>"))) h'.objs.size (LamO h'.objs.size ⟨X.env.qual ++ "<lambda>", params, body, scope, cloFrom X.env.cells scope.names [], dV, c'⟩)) b = some o := fun b o e => (upd_ne (ne_of_none e nF)).trans e
    refine h h'.objs.size c' _ _ I2 ⟨fun b o e n => kp _ _ (hE b o e n), ?_, I.hok.fresh (Nat.le_trans hge (Nat.le_of_lt hlt)), upd_same, kp _ _ upd_same⟩
    refine ⟨_, kp _ _ (by rw [upd_ne (ne_of_none hP nC), upd_same]), by rw [eL]; exact PySem.TriplesOk_snoc _ _ _ _ ht, fun p' cv hcv => ?_⟩
    rw [eL] at hcv
    rcases among_app2 _ ht hcv with z | ⟨z, z1, z2⟩
    · obtain ⟨c0, e1, e2⟩ := ha p' cv z
      exact ⟨c0, e1, kp _ _ (hE _ _ e2 fun y => by rw [y, hP] at e2; exact codeO_ne _ (Option.some.inj e2).symm)⟩
    · exact ⟨c', z, kp _ _ upd_same⟩
  | some cv =>
    obtain ⟨c', e, hco⟩ := ha pos cv hc
    subst e
    refine PySem.W.kdv_makeTailHit (mg := X.mg) (c := c) (P := P) (ps := ps) (closure_ok hfree) I.ok.glob (I.mod.glob.keeps I.bk) hcode (TB.code.keeps I.bk) hP' ht hc bP fun ctv doc h' tk hx hsz => ?_
    have I1 : Inv X pins σ H { s with heap := h', toks := tk } := I.kept hx
    have nF : H h'.objs.size = none := I1.hok.fresh (Nat.le_refl _)
    have I2 := inv_lam (F := ⟨X.env.qual ++ "<lambda>", params, body, scope, cloFrom X.env.cells scope.names [], dV, c'⟩) (t' := tk) (doc := doc) (pm := (X.mg "__name__").getD .none) (ctv := ctv) I1 rfl
    have kp : ∀ b o, H b = some o → (upd H h'.objs.size (LamO h'.objs.size ⟨X.env.qual ++ "<lambda>", params, body, scope, cloFrom X.env.cells scope.names [], dV, c'⟩)) b = some o := fun b o e => (upd_ne (ne_of_none e nF)).trans e
    exact h h'.objs.size c' _ _ I2 ⟨fun b o e _ => kp b o e, ⟨ps, kp _ _ hP, ht, fun p cv hc => (ha p cv hc).imp fun c z => ⟨z.1, kp _ _ z.2⟩⟩, nF, upd_same, kp _ _ hco⟩
end
end Kr

set_option Elab.async false
set_option linter.all false
set_option maxRecDepth 100000
set_option maxHeartbeats 1000000
/-! ### lambdas: the making read, the call of a made one -/
namespace Kr
open PySem L2 PySem.Spec PyProof.Rows LamX NdefX
section
variable {X : Cx}
/-- lambda: e -/
def tLmb (P : Addr) (q : Str) (mk : Addr → LF) : TE := fun _ H Q => TabS H P q ∧ ∀ (f c' : Addr) (H1 : Hp), Made H H1 P q f (mk c') → Q (.ref f) H1
theorem pe_lmb {c P : Addr} {params : Arguments} {body : Expr} {scope : Scope} {pos : Pos} {q : Str} (TB : TabB X.base X.mg c P) (hcode : X.env.code = .ref c) (hq : X.env.qual ++ "<lambda>" = q)
    (hfree : ∀ y ∈ scope.names, y.2 = .free → X.env.scope.names.lookup y.1 = some .cell ∨ X.env.scope.names.lookup y.1 = some .free) (hdef : defaultsOf params X.env = ([], [])) :
    PE X (.Lambda params body scope pos) (tLmb P q fun c' => ⟨q, params, body, scope, cloFrom X.env.cells scope.names [], .none, c'⟩) := by
  refine ⟨fun pins s σ H Q I h => ?_⟩
  obtain ⟨hT, h⟩ := h
  refine PySem.W.kla_eval hdef ?_
  have hfr : ∀ y ∈ scope.names, y.2 = .free → ∃ c, X.env.cells.lookup y.1 = some c := fun y hy e => (hfree y hy e).elim (fun z => I.ok.has _ (.inl z)) fun z => I.ok.has _ (.inr z)
  rw [makeFunction_eq]
  simp only [List.zip_nil_right, List.filterMap_nil, List.isEmpty_nil, if_true, pure_bind]
  exact lam_tail I TB hcode hT hq hfr fun f c' H1 s' I1 m => ⟨.ref f, H1, I1, rfl, h f c' H1 m⟩
/-- lambda x=e0: e -/
def tLmbD (P : Addr) (q : Str) (te : TE) (mk : Addr → Addr → LF) : TE := fun σ H Q => te σ H fun v H0 => TabS H0 P q ∧ ∀ (t f c' : Addr) (H1 H2 : Hp), H0 t = none → H1 = upd H0 t (.tup [v]) → Made H1 H2 P q f (mk t c') → Q (.ref f) H2
theorem pe_lmbD {c P : Addr} {params : Arguments} {body e0 : Expr} {scope : Scope} {pos : Pos} {q : Str} {te : TE} (TB : TabB X.base X.mg c P) (hcode : X.env.code = .ref c) (hq : X.env.qual ++ "<lambda>" = q)
    (hfree : ∀ y ∈ scope.names, y.2 = .free → X.env.scope.names.lookup y.1 = some .cell ∨ X.env.scope.names.lookup y.1 = some .free) (hd : params.defaults = [e0]) (hk0 : params.kw_defaults = []) (he : PE X e0 te) :
    PE X (.Lambda params body scope pos) (tLmbD P q te fun t c' => ⟨q, params, body, scope, cloFrom X.env.cells scope.names [], .ref t, c'⟩) := by
  refine ⟨fun pins s σ H Q I h => ?_⟩
  refine PySem.W.kdv_lam (by rw [hd]; rfl) hk0 ?_
  rw [hd]
  refine PySem.W.kdv_all1 (thn (he.run pins s σ H _ I h) fun v s1 ⟨x, H1, I1, r, hT, h⟩ => PySem.W.kdv_all0 ?_)
  have hfr : ∀ y ∈ scope.names, y.2 = .free → ∃ c, X.env.cells.lookup y.1 = some c := fun y hy e => (hfree y hy e).elim (fun z => I1.ok.has _ (.inl z)) fun z => I1.ok.has _ (.inr z)
  rw [makeFunction_eq]
  simp only [List.zip_nil_right, List.filterMap_nil, List.isEmpty_nil, List.isEmpty_cons, if_true, pure_bind, Bool.false_eq_true, if_false]
  refine wpAny_bind (wpAny_newTextTuple ?_)
  have hf : H1 s1.heap.objs.size = none := I1.hok.fresh (Nat.le_refl _)
  have I2 : Inv X pins σ (upd H1 s1.heap.objs.size (.tup [x])) { s1 with heap := s1.heap.push { cls := .type "tuple", data := .seq [v].toArray } } :=
    I1.laid (t' := s1.toks) (fun b u e => Heap.get?_push_of_some _ e) (Nat.le_refl _) ⟨by show 1 ≤ sizeLine; decide, [v], .cons r .nil, ⟨_, Heap.get?_push_size _ rfl, rfl, _, rfl⟩⟩
  have hT2 : TabS (upd H1 s1.heap.objs.size (.tup [x])) P q := hT.ext fun b o e => by rw [upd_ne (ne_of_none e hf)]; exact e
  exact lam_tail I2 TB hcode hT2 hq hfr fun f c' H3 s' I3 m => ⟨.ref f, H3, I3, rfl, h _ f c' _ H3 hf rfl m⟩
end
/-! ### what a made lambda promises -/
abbrev LF.nf (F : LF) : NF := ⟨"<lambda>", F.qual, F.params, [], F.scope, F.cl, F.c⟩
/-- the values of the defaults -/
def Dfl (H : Hp) (F : LF) (dvs : List V) : Prop := (dvs = [] ∧ F.dV = .none) ∨ ∃ t, F.dV = .ref t ∧ H t = some (.tup dvs)
structure LOk (P : Program) (w : World) (K : PySem.W.Frag) (mg : Str → Option Value) (base : Heap) (k : Nat) (f : Addr) (F : LF) (dvs : List V) (fr : List Str) (sp : List (Option V) → Hp → VK → XK → Prop) : Prop where
  run : ∀ (A : Around) (outer : List Env) (s : Shared) (H : Hp) (ws : List (Option V)) (Q : VK) (E : XK), Room k A → Env0 P w K mg base A outer s H → H f = some (LamO f F) → H F.c = some (CodeO F.c F.qual) → Dfl H F dvs →
    CellsAt F.cl fr ws s.heap H → sp ws H Q E → codeAny (model P w) A (.call (.ref f) ⟨[], []⟩) (CR (L2N.CX P w) outer P w H s Q E) s
/-- the body's context -/
abbrev lcx (P : Program) (w : World) (K : PySem.W.Frag) (mg : Str → Option Value) (base : Heap) (N : List Str) (F : LF) (f : Addr) (A : Around) (outer : List Env) (s : Shared) (H : Hp) (E : XK) : Cx := ncx (L2N.CX P w) P w K mg base N F.nf f A outer s H E
theorem takesL {P : Program} {w : World} {K : PySem.W.Frag} {mg : Str → Option Value} {base : Heap} {N : List Str} {F : LF} {f : Addr} {A : Around} {outer : List Env} {s : Shared} {H : Hp} {E : XK} :
    L2N.Takes (lcx P w K mg base N F f A outer s H E) (fun cls d _ H => E cls d H) := L2N.takes_of rfl rfl rfl rfl
section
variable {P : Program} {w : World} {K : PySem.W.Frag} {mg : Str → Option Value} {base : Heap} {N ps fr : List Str} {F : LF} {f : Addr} {k : Nat} {dvs : List V} {sp : List (Option V) → Hp → VK → XK → Prop}
theorem lok_of (S : NScope N ps fr F.scope) (hl : dvs.length = ps.length)
    (hb0 : F.dV = .none → ps = [] ∧ ∀ (s : Shared) (doc pm ctv : Value), BindsTo s (F.fd doc pm ctv) ⟨[], []⟩ [])
    (hb1 : ∀ t, F.dV = .ref t → ∀ (s : Shared) (doc pm ctv : Value) (us : List Value) (o : Obj) (n : Nat), us.length = ps.length → s.heap.get? t = some o → o.data = .seq us.toArray n → BindsTo s (F.fd doc pm ctv) ⟨[], []⟩ (ps.zip us))
    (hbody : ∀ (A : Around) (outer : List Env) (s : Shared) (H : Hp) (ws : List (Option V)) (Q : VK) (E : XK), Room k (A.deeper (envF F.nf f s.heap.objs.size)) → ws.length = fr.length → sp ws H Q E →
      ∃ t : TE, PE (lcx P w K mg base N F f A outer s H E) F.body t ∧ t (startF N dvs ws) H Q) :
    LOk P w K mg base (k + 1) f F dvs fr sp := by
  refine ⟨fun A outer s H ws Q E hr e0 hf hc hd C hsp => ?_⟩
  have lim : s.heap.NoLimit := e0.mod.nolimit.keeps fun b o e => (e0.bs b o e).1
  obtain ⟨od, sl, doc, pm, ctv, ho⟩ := lamO_at e0.hok hf
  obtain ⟨us, r, hbu⟩ : ∃ us, Vals dvs us ∧ BindsTo s (F.fd doc pm ctv) ⟨[], []⟩ (ps.zip us) := by
    rcases hd with ⟨rfl, h2⟩ | ⟨t, h1, h2⟩
    · obtain ⟨h3, h4⟩ := hb0 h2
      subst h3
      exact ⟨[], .nil, h4 s doc pm ctv⟩
    · obtain ⟨_, its, r, ob, ho2, hcl, n, hdat⟩ := e0.hok t _ h2
      exact ⟨its, r, hb1 t h1 s doc pm ctv its ob n (by rw [← r.length]; exact hl) ho2 hdat⟩
  refine PySem.W.kla_callFunE hr.depth ho rfl S.co S.gen rfl (codeO_at e0.hok hc) ?_
  refine hbu _ _ _ _ ?_
  refine wpAny_newFunctionEnv S.nocell (fun ⟨n, _⟩ hy => S.par n (List.of_mem_zip hy).1) (fun h₁ hns hsb => ⟨lim.fresh _ hsb, ?_⟩) S.kind
  show codeAny _ _ (.expr F.body (envF F.nf f s.heap.objs.size)) _ _
  have kp : ∀ b o, s.heap.get? b = some o → h₁.get? b = some o := fun b o e => hsb.extBut b o (Nat.ne_of_lt (Heap.lt_size e)) (Heap.get?_push_of_some _ e)
  obtain ⟨t, ht, hq⟩ := hbody A outer s H ws Q E (hr.deeper _) C.len hsp
  have I : Inv (lcx P w K mg base N F f A outer s H E) [] (startF N dvs ws) H { s with heap := h₁, toks := s.toks + (ps.zip us).length } := inv_startN (F := F.nf) S hr.hd e0 hl r C hns kp
  refine PySem.W.kla_codeExpr (wpAny_mono (ht.run [] _ (startF N dvs ws) H Q I hq) (fun u s' hs => ?_) fun e s' hs => hs)
  obtain ⟨v, H', J, rv, q⟩ := hs
  exact ⟨v, H', J.os, J.bare, J.base, J.hok, rv, q⟩
end
/-! ### a call whose base is the heap that stands there: the callee may lean on the cells of the frames around -/
/-- what stands untracked, without the frames that run -/
def baseOf (h : Heap) (H : Hp) (fs : List Addr) : Heap := hidT h fun b => if b ∈ fs then some (.lst []) else H b
theorem baseOf_get {h : Heap} {H : Hp} {fs : List Addr} {b : Addr} {o : Obj} (e : h.get? b = some o) (n : H b = none) (hb : b ∉ fs) : (baseOf h H fs).get? b = some o := hidT_get e (by show (if b ∈ fs then _ else _) = _; rw [if_neg hb]; exact n)
theorem of_baseOf {h : Heap} {H : Hp} {fs : List Addr} {b : Addr} {o : Obj} (e : (baseOf h H fs).get? b = some o) : h.get? b = some o ∧ H b = none ∧ b ∉ fs := by
  obtain ⟨h1, h2⟩ := of_hidT e
  by_cases hb : b ∈ fs
  · rw [if_pos hb] at h2
    cases h2
  · rw [if_neg hb] at h2
    exact ⟨h1, h2, hb⟩
section
variable {P : Program} {w : World} {K : PySem.W.Frag} {mg : Str → Option Value} {base : Heap} {A : Around} {outer : List Env} {s : Shared} {H : Hp}
theorem env0_baseOf (e0 : Env0 P w K mg base A outer s H) : Env0 P w K mg (baseOf s.heap H (frs outer)) A outer s H := by
  have nf : ∀ b o, base.get? b = some o → b ∉ frs outer := fun b o e hb => by
    have q := (e0.funs.mem hb).1
    rw [e] at q
    cases q
  have kp : ∀ b o, base.get? b = some o → (baseOf s.heap H (frs outer)).get? b = some o := fun b o e => baseOf_get (e0.bs b o e).1 (e0.bs b o e).2 (nf b o e)
  have ns : ∀ {a : Addr} {m : Str → Option Value}, base.Ns a m → (baseOf s.heap H (frs outer)).Ns a m := fun {a m} ⟨o, es, ep, h1, r⟩ => ⟨o, es, ep, kp _ _ h1, r⟩
  refine ⟨e0.frames, ⟨fun b o e => kp b o (e0.mod.kin b o e), ns e0.mod.glob, ?_, e0.mod.nolimit.keeps kp⟩, fun b o e => ⟨(of_baseOf e).1, (of_baseOf e).2.1⟩, by unfold baseOf; rw [hidT_size]; exact Nat.le_refl _, funFrames_none e0.funs fun b hb => ?_, e0.frf, e0.hok, e0.bare⟩
  · obtain ⟨mb, h1, h2⟩ := e0.mod.blt
    exact ⟨mb, ns h1, h2⟩
  · cases q : (baseOf s.heap H (frs outer)).get? b with
    | none => rfl
    | some o => exact absurd hb (of_baseOf q).2.2
/-- cells known now are known of the base -/
theorem cells_base {cl : List (Str × Addr)} {fr : List Str} {ws : List (Option V)} (C : CellsAt cl fr ws s.heap H) (hn : ∀ y c, cl.lookup y = some c → c ∉ frs outer) : CellsAt cl fr ws (baseOf s.heap H (frs outer)) fun _ => none := by
  have cell : ∀ {c : Addr} {v : Option Value}, H c = none → c ∉ frs outer → s.heap.IsCell c v → (baseOf s.heap H (frs outer)).IsCell c v := fun {c v} h1 h2 ⟨o, h3, h4⟩ => ⟨o, baseOf_get h3 h1 h2, h4⟩
  refine ⟨C.len, fun y c e => ⟨rfl, ?_⟩, C.inj, fun i y e => ?_⟩
  · obtain ⟨h1, v, h2⟩ := C.all y c e
    exact ⟨v, cell h1 (hn y c e) h2⟩
  · obtain ⟨c, h1, h2⟩ := C.has i y e
    refine ⟨c, h1, fun v hv => ?_⟩
    obtain ⟨u, r, h3⟩ := h2 v hv
    exact ⟨u, r, cell (C.all y c h1).1 (hn y c h1) h3⟩
/-- .. and at any state over it -/
theorem cells_over {cl : List (Str × Addr)} {fr : List Str} {ws : List (Option V)} (C : CellsAt cl fr ws base fun _ => none) (e0 : Env0 P w K mg base A outer s H) : CellsAt cl fr ws s.heap H := by
  have cell : ∀ {c : Addr} {v : Option Value}, base.IsCell c v → s.heap.IsCell c v := fun {c v} ⟨o, h3, h4⟩ => ⟨o, (e0.bs _ _ h3).1, h4⟩
  refine ⟨C.len, fun y c e => ?_, C.inj, fun i y e => ?_⟩
  · obtain ⟨_, v, h2⟩ := C.all y c e
    refine ⟨?_, v, cell h2⟩
    obtain ⟨o, h3, _⟩ := h2
    exact (e0.bs _ _ h3).2
  · obtain ⟨c, h1, h2⟩ := C.has i y e
    refine ⟨c, h1, fun v hv => ?_⟩
    obtain ⟨u, r, h3⟩ := h2 v hv
    exact ⟨u, r, cell h3⟩
end
/-! ### a function without parameters that is handed on: what its call does -/
/-- the outcome: it returns; or the exception of the class C with these fields -/
abbrev Out := Option (Addr × List (Str × V))
def OutGo (H : Hp) (o : Out) (Q : VK) (E : XK) : Prop := match o with
  | none => ∀ v H', Same H H' → Q v H'
  | some (C, fs) => ∀ H' d, Same H H' → H d = none → H' d = some (.xd fs) → E (.ref C) (some d) H'
/-- in every heap that grew from H -/
def Deed (P : Program) (w : World) (K : PySem.W.Frag) (mg : Str → Option Value) (base : Heap) (k : Nat) (H : Hp) (f : Addr) (o : Out) : Prop :=
  (∃ F, H f = some (LamO f F)) ∧ ∀ (A : Around) (outer : List Env) (s : Shared) (H' : Hp) (Q : VK) (E : XK), Same H H' → Room k A → Env0 P w K mg base A outer s H' → OutGo H' o Q E → codeAny (model P w) A (.call (.ref f) ⟨[], []⟩) (CR (L2N.CX P w) outer P w H' s Q E) s
section
variable {P : Program} {w : World} {K : PySem.W.Frag} {mg : Str → Option Value} {base : Heap} {k : Nat} {H : Hp} {f : Addr} {F : LF} {dvs : List V} {fr : List Str} {ws : List (Option V)} {sp : List (Option V) → Hp → VK → XK → Prop} {o : Out}
theorem Deed.of (L : LOk P w K mg base k f F dvs fr sp) (C : CellsAt F.cl fr ws base fun _ => none) (hf : H f = some (LamO f F)) (hc : H F.c = some (CodeO F.c F.qual)) (hd : Dfl H F dvs) (h : ∀ H' Q E, Same H H' → OutGo H' o Q E → sp ws H' Q E) : Deed P w K mg base k H f o := by
  refine ⟨⟨F, hf⟩, fun A outer s H' Q E sm hr e0 ho => L.run A outer s H' ws Q E hr e0 (sm _ _ hf) (sm _ _ hc) ?_ (cells_over C e0) (h H' Q E sm ho)⟩
  rcases hd with ⟨h1, h2⟩ | ⟨t, h1, h2⟩
  · exact .inl ⟨h1, h2⟩
  · exact .inr ⟨t, h1, sm _ _ h2⟩
theorem Deed.mono {j : Nat} (D : Deed P w K mg base j H f o) (h : j ≤ k) : Deed P w K mg base k H f o := ⟨D.1, fun A outer s H' Q E sm hr => D.2 A outer s H' Q E sm (hr.mono h)⟩
end
/-- x(), x a name that holds such a function -/
def tDeed (P : Program) (w : World) (K : PySem.W.Frag) (mg : Str → Option Value) (base : Heap) (k i : Nat) (W : WX) : TE := fun σ H Q => ∃ f o, σ[i]? = some (some (.ref f)) ∧ Deed P w K mg base k H f o ∧ OutGo H o Q (WE W σ)
theorem pe_deed {X : Cx} {P : Program} {w : World} {K : PySem.W.Frag} {mg : Str → Option Value} {base : Heap} {k i : Nat} {x : Str} {p pos : Pos} {W : WX} (tk : L2N.Takes X W) (hr : Room k X.A) (hN : X.N[i]? = some x) (hv : Vis X.env.scope x)
    (e1 : X.prog = P := by rfl) (e2 : X.w = w := by rfl) (e3 : X.K = K := by rfl) (e4 : X.mg = mg := by rfl) (e5 : X.base = base := by rfl)
    (hd : (x == ("__debug__" : Str)) = false := by decide) (hcd : (x == ("__classdict__" : Str)) = false := by decide) : PE X (.Call (.Name x p) [] [] pos) (tDeed P w K mg base k i W) := by
  subst e1 e2 e3 e4 e5
  refine ⟨fun pins s σ H Q I h => ?_⟩
  obtain ⟨f, o, hs, ⟨⟨F, hf⟩, D⟩, ho⟩ := h
  refine wpAny_Call_Name_kw (thn ((pe_var (pos := p) hN hv hd hcd).run pins s σ H (fun v H1 => v = .ref f ∧ H1 = H) I ⟨.ref f, hs, rfl, rfl⟩) fun u s1 ⟨v, H1, I1, r1, q1⟩ => ?_)
  obtain ⟨ev, eH⟩ := q1
  subst ev
  rw [eH] at I1
  obtain rfl : u = Value.ref f := r1
  obtain ⟨od, sl, doc, pm, ctv, hob⟩ := lamO_at I1.hok hf
  refine PySem.W.callWith_F0 (first := []) ⟨_, od, _, sl, hob⟩ ?_
  refine wpAny_call (codeAny_mono (D X.A X.stack s1 H Q (WE W σ) (fun _ _ e => e) hr I1.env0 ho) fun r s' hq => ?_)
  cases r with
  | error e => exact L2N.passAt tk σ pins H s1 e s' I1 hq
  | ok fl =>
    cases fl with
    | ret u => exact I1.after hq
    | next => exact False.elim hq
    | brk => exact False.elim hq
    | cont => exact False.elim hq
end Kr

set_option Elab.async false
set_option linter.all false
set_option maxRecDepth 100000
set_option maxHeartbeats 2000000
/-! ### a call over the heap that stands; a comprehension whose block knows what the captured cells hold -/
namespace Kr
open PySem L2 PySem.Spec PyProof.Rows LamX NdefX
/-! #### one turn of a block -/
section
variable {Y : Cx} {tg elt : Expr} {ifs : List Expr} {J : It} {fp : List Addr} {it : Addr} {tn : Nat → Heap → Prop} {g : TG} {tt : TT} {te : TE} {vs : List Nat} {ρ : L2.St} {H : Hp} {s : Shared} {i : Nat} {D : Addr} {Nx : Hp → Prop}
/-- the block's state between two turns -/
def Btw (Y : Cx) (fp : List Addr) (tn : Nat → Heap → Prop) (ρ : L2.St) (i : Nat) (H : Hp) (s : Shared) : Prop := Inv Y [] ρ H s ∧ tn i s.heap ∧ ∀ b ∈ fp, H b = none
theorem btw_fp (hx : Y.ex = fp) (hp : Y.pn = []) (b : Btw Y fp tn ρ i H s) : ∀ b ∈ fp, FpOk Y [] H b := fun a ha => by
  have hm : a ∈ Y.ex := by rw [hx]; exact ha
  refine ⟨b.2.2 a ha, (b.1.ok.exf a hm).1, b.1.ok.exfs a hm, .inl hm, (b.1.ok.exf a hm).2, fun p hq => ?_⟩
  rw [hp] at hq
  exact absurd hq (by simp)
theorem turn_end (T : Turn Y.prog Y.w Y.K tg J fp it tn) {s7 : Shared} {σ8 : L2.St} {H' : Hp} {s' : Shared} (t7 : tn (i + 1) s7.heap) (hw : wipe σ8 vs = ρ) (I : Inv Y ([] ++ pinsAt fp s7.heap) σ8 H' s') : Btw Y fp tn ρ (i + 1) H' s' := by
  have held : ∀ b ∈ fp, ∀ o, s7.heap.get? b = some o → s'.heap.get? b = some o ∧ H' b = none := fun b hb o e => by
    have z := I.pin (b, o) (List.mem_append_right _ (List.mem_append_right _ (mem_pinsAt hb e)))
    exact ⟨z.1, z.2.1⟩
  refine ⟨(I.unpinned (pins := [])).weak (by rw [← hw, wipe_length]) fun j v e => ?_, T.keep _ _ _ t7 fun b hb o e => (held b hb o e).1, fun b hb => ?_⟩
  · rw [← hw] at e
    exact (wipe_some e).1
  · obtain ⟨o, e, _⟩ := T.obj _ _ t7 b hb
    exact (held b hb o e).2
end
section
variable {X : Cx}
/-- a comprehension; what is known at its block's start is handed to the tests and to the element -/
theorem lc_know {pins : List (Addr × Obj)} {s : Shared} {σ : L2.St} {H : Hp} {Q : VK} {elt tg iter : Expr} {ifs : List Expr} {scope : Scope} {own : List (Str × Nat)} {pos pos' : Pos} {wi : TI} {g : TG} {tt : TT} {te : TE} {use : Option (Value → Sem Unit)} {Qf : Value → Shared → Prop} {Kn : Shared → Hp → List Addr → Prop}
    (hK : ∀ (s : Shared) (H : Hp) (fp : List Addr), Inv X pins σ H s → (∀ b ∈ fp, ∃ o, s.heap.get? b = some o ∧ ∀ v, o.data ≠ .cell v) → Kn s H fp)
    (hc : X.calm = true) (hN : X.N.Nodup) (I : Inv X pins σ H s) (hi : PI X tg iter wi) (ok : BlkOk X.N X.env.scope scope own)
    (hg : ∀ (s : Shared) (H : Hp) (C : Addr) (cl : List (Str × Addr)) (fp : List Addr), PG (X.blk s H scope (compEnvC scope cl C X.env) fp) tg g)
    (ht : ∀ (s : Shared) (H : Hp) (C : Addr) (cl : List (Str × Addr)) (fp : List Addr), Kn s H fp → PTs (X.blk s H scope (compEnvC scope cl C X.env) fp) ifs tt)
    (he : ∀ (s : Shared) (H : Hp) (C : Addr) (cl : List (Str × Addr)) (fp : List Addr), Kn s H fp → PE (X.blk s H scope (compEnvC scope cl C X.env) fp) elt te) (hs : ∀ x, foldedSetIterable iter X.env x = pure x)
    (h : tLc wi g tt te (own.map (·.2)) σ H Q)
    (hRR : ∀ D C s' m H', Inv X pins σ H' s' → Q (.ref D) H' → s'.heap.Ns C m → FpOk X pins H' C → compPost (model X.prog X.w) X.A X.xe use Qf (.ref D) C (.ok .next) s') :
    wpAny (model X.prog X.w) X.A (comprehension (.ListComp elt [⟨tg, iter, ifs, 0⟩] scope pos) scope X.env pos' (newList []) false (eval iter X.env) use) Qf X.xe s := by
  have cells : ∀ y ∈ scope.names, y.2 = .free → ∃ c, X.env.cells.lookup y.1 = some c := fun y hy e => (ok.free y hy e).elim (fun k => I.ok.has _ (.inl k)) fun k => I.ok.has _ (.inr k)
  refine wpAny_comprehension_free (use := use) rfl hs (closure_ok cells) ok.kind (fun y hy e => by rw [ok.uniq y hy, e]) (thn (hi.run pins s σ H _ I h) fun v s0 hv => thn hv fun w s1 hw => ?_)
  obtain ⟨it, fp, tn, J, H1, rfl, I1, T, t1, f1, go⟩ := hw
  -- the new list, then the block's own objects
  refine wpAny_newObj_type (newEnv_comp ?_) (by show 0 ≤ sizeLine; decide)
  have nD : H1 s1.heap.objs.size = none := I1.hok.fresh (Nat.le_refl _)
  obtain ⟨W, ⟨m0, w0⟩, turn⟩ := go _ nD
  have I2 : Inv X pins σ (upd H1 s1.heap.objs.size (.lst [])) { s1 with heap := s1.heap.push { cls := .type "list", data := .seq ([] : List Value).toArray } } :=
    I1.laid (t' := s1.toks) (fun b o e => Heap.get?_push_of_some _ e) (Nat.le_refl _) ⟨Nat.zero_le _, [], 0, .nil, Heap.get?_push_size _ rfl⟩
  have f2 : ∀ b ∈ fp, FpOk X pins (upd H1 s1.heap.objs.size (.lst [])) b ∧ b < s1.heap.objs.size := fun b hb => by
    obtain ⟨o, e, _⟩ := T.obj _ _ t1 b hb
    have lt := Heap.lt_size e
    exact ⟨⟨(upd_ne (Nat.ne_of_lt lt)).trans (f1 b hb).1, (f1 b hb).2⟩, lt⟩
  generalize hs2 : ({ s1 with heap := s1.heap.push { cls := .type "list", data := .seq ([] : List Value).toArray } } : Shared) = s2 at I2 ⊢
  have up : ∀ b o, s1.heap.get? b = some o → s2.heap.get? b = some o := fun b o e => by rw [← hs2]; exact Heap.get?_push_of_some _ e
  generalize upd H1 s1.heap.objs.size (.lst []) = H2 at I2 w0 f2
  generalize s1.heap.objs.size = D at turn f2 ⊢
  have t2 : tn 0 s2.heap := T.keep _ _ _ t1 fun b _ o e => up b o e
  have f3 : ∀ b ∈ fp, FpOk X pins H2 b ∧ b < s2.heap.objs.size := fun b hb => by
    obtain ⟨o, e, _⟩ := T.obj _ _ t2 b hb
    exact ⟨(f2 b hb).1, Heap.lt_size e⟩
  have kn := hK s2 H2 fp I2 fun b hb => T.obj _ _ t2 b hb
  have I3 := block_start I2 ok hN f3
  generalize hL : s2.heap.objs.size = L0 at I3 ⊢
  generalize cellsFrom (L0 + 1) scope.names (cloFrom X.env.cells scope.names []) = cl0 at I3 ⊢
  have pg := hg s2 H2 L0 cl0 fp
  have pt := ht s2 H2 L0 cl0 fp kn
  have pe := he s2 H2 L0 cl0 fp kn
  generalize hs3 : ({ s2 with heap := pushCells (s2.heap.push { cls := .type "dict", data := .dict #[] }) scope.names } : Shared) = s3 at I3 ⊢
  have t3 : tn 0 s3.heap := T.keep _ _ _ t2 fun b _ o e => by rw [← hs3]; exact pushCells_keeps _ _ _ _ (Heap.get?_push_of_some _ e)
  show codeAny _ _ (.compStart (.ListComp elt [⟨tg, iter, ifs, 0⟩] scope pos) 0 (.ref it) (.ref D) (compEnvC scope cl0 L0 X.env)) (compPost (model X.prog X.w) X.A X.xe use Qf (.ref D) L0) s3
  have eL : (compEnvC scope cl0 L0 X.env).locals = L0 := rfl
  generalize compEnvC scope cl0 L0 X.env = ce at I3 pg pt pe eL ⊢
  -- the turns
  have loop : codeAny (model X.prog X.w) X.A (.compLoop (.ListComp elt [⟨tg, iter, ifs, 0⟩] scope pos) 0 (.ref it) (.ref D) ce) (compPost (model X.prog X.w) X.A X.xe use Qf (.ref D) L0) s3 := by
    refine compLoop_any (fun n s' => ∃ i H', Btw (X.blk s2 H2 scope ce fp) fp tn (wipe σ (own.map (·.2))) i H' s' ∧ W i n H') ?_ m0 ⟨0, H2, ⟨I3, t3, fun b hb => (f2 b hb).1.1⟩, w0⟩
    rintro n s4 ⟨i, H4, b4, w4⟩
    have q4 := btw_fp rfl rfl b4
    rcases turn i n H4 w4 with ⟨stop, fin⟩ | ⟨more, Nx, hNx, step⟩
    · refine thnF (T.done (X.blk s2 H2 scope ce fp) rfl rfl rfl hc i [] s4 _ H4 (fun _ _ => False) b4.1 q4 b4.2.1 stop) fun r s5 ⟨er, I5⟩ => ?_
      subst er
      have I6 : Inv X pins σ H4 s5 := I2.call' (ch := fp) I5.os I5.base I5.hok I5.bare fun b hb => ⟨(f2 b hb).1.2.2.2.1, (f2 b hb).1.2.1, (f2 b hb).1.2.2.2.2.1, (f2 b hb).1.2.2.2.2.2⟩
      obtain ⟨m, hn, _⟩ := I5.loc
      have nL : H4 L0 = none := by rw [← eL]; exact I5.free
      exact hRR D L0 s5 m H4 I6 fin (by rw [← eL]; exact hn) (I2.fpOk (Nat.le_of_eq hL) nL)
    · refine thnF (T.item (X.blk s2 H2 scope ce fp) rfl rfl rfl hc i [] s4 _ H4 (fun _ _ => False) b4.1 q4 b4.2.1 more) fun r s5 ⟨u, er, h5⟩ => ?_
      subst er
      refine thnF h5 fun _ s6 ⟨x, H6, I6, r6, y6, t6, n6⟩ => ?_
      have b6 : Btw (X.blk s2 H2 scope ce fp) fp tn (wipe σ (own.map (·.2))) (i + 1) H6 s6 := ⟨I6, t6, n6⟩
      have I7 := I6.pinned (btw_fp rfl rfl b6) (T.obj _ _ t6)
      have back : ∀ {s' : Shared} {σ' : L2.St} {H' : Hp}, wipe σ' (own.map (·.2)) = wipe σ (own.map (·.2)) → Inv (X.blk s2 H2 scope ce fp) ([] ++ pinsAt fp s6.heap) σ' H' s' → Nx H' → ∃ m, m < n ∧ ∃ i H', Btw (X.blk s2 H2 scope ce fp) fp tn (wipe σ (own.map (·.2))) i H' s' ∧ W i m H' := fun hw I' nx => by
        obtain ⟨m', lt, w'⟩ := hNx _ nx
        exact ⟨m', lt, i + 1, _, turn_end (Y := X.blk s2 H2 scope ce fp) T t6 hw I', w'⟩
      refine thnF (pg.run _ s6 _ H6 x u _ I7 r6 (step x H6 y6)) fun _ s7 ⟨σ7, H7, I7, hw, q7⟩ => ?_
      refine thnF (pt.run _ s7 σ7 H7 _ I7 q7) fun b s8 ⟨H8, I8, q8⟩ => ?_
      cases b with
      | false => exact back hw I8 q8
      | true => exact thnF (pe.run _ s8 σ7 H8 _ I8 q8) fun z s9 ⟨y, H9, I9, r9, acc, hD, lt, nx⟩ => app_ok (X := X.blk s2 H2 scope ce fp) I9 hD lt r9 fun s10 I10 => back hw I10 nx
  exact codeAny_compStart_list loop (T.self X.A 0 _ _ _ t3 loop)
/-- what the captured cells hold at a block's start; they are none of the frames that run, and not the iterator's -/
def Kno (X : Cx) (cl : List (Str × Addr)) (fr : List Str) (ws : List (Option V)) (s : Shared) (H : Hp) (fp : List Addr) : Prop := CellsAt cl fr ws s.heap H ∧ ∀ y c, cl.lookup y = some c → c ∉ frs X.stack ∧ c ∉ fp
/-- the running frame tells what the captured cells hold -/
def Tells (X : Cx) (cl : List (Str × Addr)) (fr : List Str) (wsf : L2.St → List (Option V)) : Prop := ∀ (pins : List (Addr × Obj)) (σ : L2.St) (H : Hp) (s : Shared), Inv X pins σ H s → CellsAt cl fr (wsf σ) s.heap H ∧ ∀ y c, cl.lookup y = some c → c ∉ frs X.stack
theorem pe_lcK {elt tg iter : Expr} {ifs : List Expr} {scope : Scope} {own : List (Str × Nat)} {pos : Pos} {wi : TI} {g : TG} {tt : List (Option V) → TT} {te : List (Option V) → TE} {cl : List (Str × Addr)} {fr : List Str} {wsf : L2.St → List (Option V)} (hC : Tells X cl fr wsf)
    (hc : X.calm = true) (hN : X.N.Nodup) (hi : PI X tg iter wi) (ok : BlkOk X.N X.env.scope scope own)
    (hg : ∀ (s : Shared) (H : Hp) (C : Addr) (cl : List (Str × Addr)) (fp : List Addr), PG (X.blk s H scope (compEnvC scope cl C X.env) fp) tg g)
    (ht : ∀ (ws : List (Option V)) (s : Shared) (H : Hp) (C : Addr) (cl' : List (Str × Addr)) (fp : List Addr), Kno X cl fr ws s H fp → PTs (X.blk s H scope (compEnvC scope cl' C X.env) fp) ifs (tt ws))
    (he : ∀ (ws : List (Option V)) (s : Shared) (H : Hp) (C : Addr) (cl' : List (Str × Addr)) (fp : List Addr), Kno X cl fr ws s H fp → PE (X.blk s H scope (compEnvC scope cl' C X.env) fp) elt (te ws)) (hs : ∀ x, foldedSetIterable iter X.env x = pure x := by intro _; rfl) :
    PE X (.ListComp elt [⟨tg, iter, ifs, 0⟩] scope pos) (fun σ => tLc wi g (tt (wsf σ)) (te (wsf σ)) (own.map (·.2)) σ) := by
  refine ⟨fun pins s σ H Q I h => ?_⟩
  rw [eval_ListComp]
  refine lc_know (Kn := Kno X cl fr (wsf σ)) (fun s' H' fp I' hf => ?_) hc hN I hi ok hg (fun s' H' C cl' fp k => ht _ s' H' C cl' fp k) (fun s' H' C cl' fp k => he _ s' H' C cl' fp k) hs h fun D C s' m H' I' q hn f => ⟨m, hn, fun h'' sb => ?_⟩
  · obtain ⟨k1, k2⟩ := hC _ _ _ _ I'
    refine ⟨k1, fun y c e => ⟨k2 y c e, fun hb => ?_⟩⟩
    obtain ⟨o, h1, h2⟩ := hf c hb
    obtain ⟨_, v, o', h3, h4⟩ := k1.all y c e
    rw [h1] at h3
    cases h3
    exact h2 _ h4
  · exact ⟨.ref D, H', I'.turned (t' := s'.toks) (fun b o hb e => (sb.2 b hb).trans e) f.1 f.2.1 f.2.2.2.1 f.2.2.2.2.1 f.2.2.2.2.2, rfl, q⟩
/-- in the def that makes the lambdas -/
theorem tells_frame {cl : List (Str × Addr)} {fr : List Str} {js : List Nat} (cp : X.Ok → Caps X cl fr js) (hs : X.stack = X.env :: X.outer) (hf : X.env.frame = some X.env.locals) (hfn : ∀ y ∈ cl.map (·.1), X.fn y = true) : Tells X cl fr fun σ => js.map (slotAt σ) := fun pins σ H s I => by
  have c := cp I.ok
  refine ⟨cells_of I c, fun y a e hb => ?_⟩
  have e2 := c.sub y a e
  rcases List.mem_cons.mp (I.stkSub a hb) with z | z
  · exact I.cne y a e2 z
  · have h1 := I.ok.cab y a (hfn y (List.mem_map.mpr ⟨(y, a), PySem.mem_of_lookup e, rfl⟩)) e2
    obtain ⟨_, o, ho, _⟩ := I.ok.funs.mem z
    exact absurd (Heap.lt_size ho) (Nat.not_lt.mpr h1)
/-- in a comprehension's block there -/
theorem tells_blk {cl : List (Str × Addr)} {fr : List Str} {ws : List (Option V)} {s : Shared} {H : Hp} {scope : Scope} {ce : Env} {fp : List Addr} (k : Kno X cl fr ws s H fp) : Tells (X.blk s H scope ce fp) cl fr fun _ => ws := fun pins σ' H' s' I => by
  refine ⟨CellsAt.later (X := X.blk s H scope ce fp) k.1 (fun y c e => (k.2 y c e).1) (fun y c e => (k.2 y c e).2) I, fun y c e => (k.2 y c e).1⟩
/-! #### x(..), x a def whose promise leans on the heap that stands at the call -/
def tCallD (sp : Heap → Sp) (cl : List (Str × Addr)) (fr : List Str) (wsf : L2.St → List (Option V)) (t : TA) : TE := fun σ H Q => t σ H fun vs H1 => ∀ base, CellsAt cl fr (wsf σ) base (fun _ => none) → sp base vs H1 Q E0
theorem pe_callD {k : Nat} {x : Str} {ps : List Str} {st : Stmt} {sp : Heap → Sp} {cl : List (Str × Addr)} {fr : List Str} {wsf : L2.St → List (Option V)} {e : Expr} {es : List Expr} {p pos : Pos} {t : TA} (O : ∀ base, Ok X.prog X.w X.K X.mg base k x st ps (sp base)) (hC : Tells X cl fr wsf) (hr : Room k X.A) (hg : Gl X x) (ha : PA X (e :: es) t)
    (hdb : (x == ("__debug__" : Str)) = false := by decide) (he : starEach (e :: es) X.env = (false, eval e X.env) :: starEach es X.env := by rfl) (hpl : (backTo pos (starEach es X.env)).any (·.1) = false := by rfl) :
    PE X (.Call (.Name x p) (e :: es) [] pos) (tCallD sp cl fr wsf t) := by
  refine ⟨fun pins s σ H Q I h => ?_⟩
  obtain ⟨f, fd, h1, h2, _, _⟩ := (O X.base).ex
  refine wpAny_Call_Name_kw (ld_glob I hg h1 ?_ hdb)
  refine PySem.W.callWith_K (h₀ := X.base) I.ok.mod.kin h2.kp (thn (ha.run pos pins s σ H _ I h) fun us s1 ⟨vs, H1, I1, r, q⟩ => ⟨I1.kIn, ?_⟩) he hpl
  obtain ⟨C, nf⟩ := hC _ _ _ _ I1
  have e0 := env0_baseOf I1.env0
  have hq := q _ (cells_base C nf)
  obtain ⟨f2, fd2, g1, g2, hb, F⟩ := (O (baseOf s1.heap H1 (frs X.stack))).ex
  obtain rfl : f2 = f := by
    rw [h1] at g1
    exact (Value.ref.inj (Option.some.inj g1)).symm
  have hl : us.length = ps.length := by rw [← r.length]; exact F.len _ _ _ _ hq
  show wpAny _ _ (call (.ref f2) us) _ _ _
  refine wpAny_call (codeAny_mono (F.run X.A X.stack s1 H1 ⟨us, []⟩ us vs Q E0 hr e0 ?_ r hq) fun r s' hq => ?_)
  · have := hb s1 us I1.kIn (by simpa using hl)
    simpa using this
  · cases r with
    | error e => exact (pass0 (X := X) pins σ H1 s1 e s' I1 hq)
    | ok fl =>
      cases fl with
      | ret u => exact I1.after hq
      | next => exact False.elim hq
      | brk => exact False.elim hq
      | cont => exact False.elim hq
end
end Kr

set_option Elab.async false
set_option linter.all false
set_option maxRecDepth 100000
set_option maxHeartbeats 1000000
/-! ### lambdas and refusals over a ledger -/
namespace Kr
open PySem L2 PySem.Spec PyProof.Rows LamX NdefX Ke
/-! #### defs that let an exception pass -/
structure OkMX (P : Program) (w : World) (K : PySem.W.Frag) (mg : Str → Option Value) (base : Heap) (C : Addr) (k : Nat) (m qual : Str) (st : Stmt) (ps : List Str) (sp : Sp) : Prop where
  ex : ∃ f fd, Meth K C m f ∧ Fun K m qual st f fd ∧ Binds K fd ps [] ∧ FnOk P w K mg base (L2N.CX P w) k f fd ps sp
theorem OkMX.of {P : Program} {w : World} {K : PySem.W.Frag} {mg : Str → Option Value} {base : Heap} {C : Addr} {m qual : Str} {st : Stmt} {N ps : List Str} {k : Nat} {sp : Sp} (T : MethFn K C m qual st) (S : FnScope N ps (defScope st))
    (hb : ∀ (kV doc pm : Value) (an : Option Addr) (cdv ct : Value) (us : List Value), us.length = ps.length → bindArgs (PySem.W.fnOf m qual (defArgs st) (defBody st) (defScope st) .none kV doc pm an cdv ct) ⟨us, []⟩ = pure (ps.zip us))
    (len : ∀ vs H Q E, sp vs H Q E → vs.length = ps.length) (body : BodyX P w K mg base qual st N k sp) : OkMX P w K mg base C (k + 1) m qual st ps sp := by
  obtain ⟨f, fd, h1, F⟩ := T.ex
  exact ⟨f, fd, h1, F, F.binds hb, F.okXN S len (body f)⟩
theorem passE {P : Program} {w : World} {K : PySem.W.Frag} {mg : Str → Option Value} {base : Heap} {N : List Str} {qual : Str} {sc : Scope} {f : Addr} {cdv : Value} {A : Around} {outer : List Env} {s : Shared} {H : Hp} {E : XK} :
    Passes (L2N.CX P w) (cxOf (L2N.CX P w) P w K mg base N qual sc f cdv A outer s H E) E := L2N.passes_call takesE fun _ _ _ _ h => h
theorem passLm {P : Program} {w : World} {K : PySem.W.Frag} {mg : Str → Option Value} {base : Heap} {N : List Str} {F : LF} {f : Addr} {A : Around} {outer : List Env} {s : Shared} {H : Hp} {E : XK} :
    Passes (L2N.CX P w) (lcx P w K mg base N F f A outer s H E) E := L2N.passes_call takesL fun _ _ _ _ h => h
section
variable {X : Cx} {k : Nat} {x m : Str} {ps : List Str} {sp : Sp} {p pos apos : Pos} {e o : Expr} {es : List Expr} {t : TA} {ta : TE} {C : Addr} {st : Stmt} {qual : Str} {E : XK}
theorem pe_ownE (O : OkX X.prog X.w X.K X.mg X.base k x st ps sp) (hx : Passes (L2N.CX X.prog X.w) X E) (hr : Room k X.A) (hg : Gl X x) (ha : PA X (e :: es) t) (hdb : (x == ("__debug__" : Str)) = false := by decide) (he : starEach (e :: es) X.env = (false, eval e X.env) :: starEach es X.env := by rfl) (hpl : (backTo pos (starEach es X.env)).any (·.1) = false := by rfl) :
    PE X (.Call (.Name x p) (e :: es) [] pos) (tCall sp [] E t) := by
  obtain ⟨f, fd, h1, h2, h3, F⟩ := O.ex
  exact pe_call F hr hg h1 h2.kp h3 .nil hx ha hdb he hpl
theorem pe_omE {pl : Sem Bool} (c : Cls X.K C) (O : OkMX X.prog X.w X.K X.mg X.base C k m qual st ps sp) (hx : Passes (L2N.CX X.prog X.w) X E) (hr : Room k X.A) (ho : PE X o ta) (ha : PA X (e :: es) t)
    (hst : starEach (e :: es) X.env = (false, eval e X.env) :: starEach es X.env := by rfl) (hpl : (backTo pos (starEach es X.env)).any (·.1) = false := by rfl)
    (ht : eval (.Call (.Attribute o m apos) (e :: es) [] pos) X.env = (do
      let ov ← eval o X.env
      standAt apos.atName
      let (f, first) ← holding [ov] (getMethod ov m pl)
      callWith pos f first (backTo pos (starEach (e :: es) X.env)) (backToKw pos (keywordEach [] X.env))) := by rfl) :
    PE X (.Call (.Attribute o m apos) (e :: es) [] pos) (tMeth C m sp [] E ta t) := by
  obtain ⟨f, fd, h1, _, h3, F⟩ := O.ex
  exact pe_meth ho c h1 F hr h3 .nil hx ha hst hpl ht
end
/-! #### defs that make lambdas: their code object is known -/
structure TopFnT (K : PySem.W.Frag) (mg : Str → Option Value) (x : Str) (st : Stmt) (c : Addr) : Prop where
  ex : ∃ f fd, mg x = some (.ref f) ∧ Fun K x x st f fd ∧ fd.code = .ref c
theorem topFnT_mk {K : PySem.W.Frag} {mg : Str → Option Value} {h : Heap} {x : Str} {st : Stmt} {f c : Addr} {oc : Value} {od an : Option Addr} {osl : Array (Option Value)} {kV doc pm ct : Value} (X : K.In h) (G : h.Ns mainGlobals mg) (a : PySem.W.nsIn K mainGlobals x = some (some (.ref f)))
    (l : K.lookup f = some ⟨oc, od, .func (PySem.W.fnOf x x (defArgs st) (defBody st) (defScope st) .none kV doc pm an (.ref c) ct), osl⟩) (cc : PySem.W.codeIn K (.ref c) x = true) (k : PySem.W.keepIn K (.ref f) = true) : TopFnT K mg x st c :=
  ⟨f, _, PySem.W.mg_of X G a, fun_mk l cc k, rfl⟩
/-- the body, run with a known code object -/
abbrev BodyT (P : Program) (w : World) (K : PySem.W.Frag) (mg : Str → Option Value) (base : Heap) (qual : Str) (st : Stmt) (N : List Str) (k : Nat) (c : Addr) (sp : Sp) : Prop :=
  ∀ (f : Addr) (A : Around) (outer : List Env) (s : Shared) (H : Hp) (vs : List V) (Q : VK) (E : XK), Room k (A.deeper (PyProof.Rows.envOfC qual (defScope st) s.heap.objs.size f (.ref c))) → sp vs H Q E →
      ∃ t, PSs (cxOf CX0 P w K mg base N qual (defScope st) f (.ref c) A outer s H E).nox (defBody st) t ∧ t { nx := fun _ H' => Q .non H', rt := Q } (start N vs) H
theorem OkT.of {P : Program} {w : World} {K : PySem.W.Frag} {mg : Str → Option Value} {base : Heap} {x : Str} {st : Stmt} {N ps : List Str} {k : Nat} {c : Addr} {sp : Sp} (T : TopFnT K mg x st c) (S : FnScope N ps (defScope st))
    (hb : ∀ (kV doc pm : Value) (an : Option Addr) (cdv ct : Value) (us : List Value), us.length = ps.length → bindArgs (PySem.W.fnOf x x (defArgs st) (defBody st) (defScope st) .none kV doc pm an cdv ct) ⟨us, []⟩ = pure (ps.zip us))
    (len : ∀ vs H Q E, sp vs H Q E → vs.length = ps.length) (body : BodyT P w K mg base x st N k c sp) : Ok P w K mg base (k + 1) x st ps sp := by
  obtain ⟨f, fd, h1, F, hc⟩ := T.ex
  refine ⟨f, fd, h1, F, F.binds hb, ?_⟩
  obtain ⟨oc, od, kV, doc, pm, an, cdv, ct, osl, rfl, lk, hcd⟩ := F.ex
  obtain rfl : cdv = .ref c := hc
  refine fn_of lk hcd S len fun A outer s H vs Q E hr hsp => ?_
  obtain ⟨t, h, q⟩ := body f A outer s H vs Q E hr hsp
  exact ⟨t, h.nox, q⟩
/-! #### what a made lambda promises, by its body's reading -/
/-- the making's words: the body may be walked by the reading t, at any base -/
structure Good (P : Program) (w : World) (K : PySem.W.Frag) (mg : Str → Option Value) (k : Nat) (N ps fr : List Str) (F : LF) (t : XK → TE) : Prop where
  sc : NScope N ps fr F.scope
  b0 : F.dV = .none → ps = [] ∧ ∀ (s : Shared) (doc pm ctv : Value), BindsTo s (F.fd doc pm ctv) ⟨[], []⟩ []
  b1 : ∀ u, F.dV = .ref u → ∀ (s : Shared) (doc pm ctv : Value) (us : List Value) (o : Obj) (n : Nat), us.length = ps.length → s.heap.get? u = some o → o.data = .seq us.toArray n → BindsTo s (F.fd doc pm ctv) ⟨[], []⟩ (ps.zip us)
  body : ∀ (base : Heap) (f : Addr) (A : Around) (outer : List Env) (s : Shared) (H : Hp) (E : XK), Room k (A.deeper (envF F.nf f s.heap.objs.size)) → PE (lcx P w K mg base N F f A outer s H E) F.body (t E)
/-- at the entry: the captured values, what stands in the heap; the outcome is wanted -/
def lsp (ws0 : List (Option V)) (L0 : Led) (o : Out) : List (Option V) → Hp → VK → XK → Prop := fun ws H Q E => ws = ws0 ∧ At ⟨H, fun _ => False⟩ L0 H ∧ OutGo H o Q E
theorem lok_good {P : Program} {w : World} {K : PySem.W.Frag} {mg : Str → Option Value} {k : Nat} {N ps fr : List Str} {F : LF} {t : XK → TE} {dvs : List V} {ws0 : List (Option V)} {L0 : Led} {o : Out} (G : Good P w K mg k N ps fr F t) (hl : dvs.length = ps.length)
    (hw : ∀ (H : Hp) (E : XK), (∀ C fs, o = some (C, fs) → EX ⟨H, fun _ => False⟩ L0 E C fs) → Wp ⟨H, fun _ => False⟩ L0 (fun H Q => t E (startF N dvs ws0) H Q) fun _ _ => o = none) (base : Heap) (f : Addr) :
    LOk P w K mg base (k + 1) f F dvs fr (lsp ws0 L0 o) := by
  refine lok_of G.sc hl G.b0 G.b1 fun A outer s H ws Q E hr _ ⟨e1, z, ho⟩ => ⟨t E, G.body base f A outer s H E hr, ?_⟩
  subst e1
  refine hw H E (fun C fs e => ?_) H z Q fun v L' H' e z' => ?_
  · subst e
    exact ex_of fun d H' n sm hd => ho H' d sm n hd
  · subst e
    exact ho v H' z'.since
/-- part of a ledger, only read -/
theorem At.part {g : Gr} {L L0 : Led} {H H' : Hp} (z : At g L H) (sm : Same H H') (h : ∀ p ∈ L0, p.2.2 = false ∧ ∃ (j : Nat) (b : Bool), L[j]? = some (p.1, p.2.1, b)) : At ⟨H', fun _ => False⟩ L0 H' := by
  refine ⟨fun _ _ e _ => e, fun p hp => ?_, fun p hp hb => ?_, ?_⟩
  · obtain ⟨_, j, b, hj⟩ := h p hp
    obtain ⟨o, h1, h2⟩ := z.look hj
    exact ⟨o, sm _ _ h1, h2.same sm⟩
  · rw [(h p hp).1] at hb
    cases hb
  · rw [List.pairwise_iff_getElem]
    exact fun i j hi hj _ _ => .inr ⟨(h _ (List.getElem_mem hi)).1, (h _ (List.getElem_mem hj)).1⟩
theorem deed_mk {P : Program} {w : World} {K : PySem.W.Frag} {mg : Str → Option Value} {base : Heap} {k : Nat} {f : Addr} {F : LF} {dvs : List V} {fr : List Str} {ws0 : List (Option V)} {L0 L : Led} {o : Out} {g : Gr} {b1 b2 : Bool} (hF : ∀ (base : Heap) (f : Addr), LOk P w K mg base k f F dvs fr (lsp ws0 L0 o)) (C : CellsAt F.cl fr ws0 base fun _ => none)
    (jf jc : Nat) (hf : L[jf]? = some (f, .ob (LamO f F), b1)) (hc : L[jc]? = some (F.c, .ob (CodeO F.c F.qual), b2)) (hd : (dvs = [] ∧ F.dV = .none) ∨ ∃ (u : Addr) (jt : Nat) (bt : Bool), F.dV = .ref u ∧ L[jt]? = some (u, .ob (.tup dvs), bt))
    (h : ∀ p ∈ L0, p.2.2 = false ∧ ∃ (j : Nat) (b : Bool), L[j]? = some (p.1, p.2.1, b)) : ∀ H, At g L H → Deed P w K mg base k H f o := fun H z => by
  refine Deed.of (hF base f) C (z.get hf) (z.get hc) ?_ fun H' Q E sm ho => ⟨rfl, z.part sm h, ho⟩
  rcases hd with q | ⟨u, jt, bt, h1, h2⟩
  · exact .inl q
  · exact .inr ⟨u, h1, z.get h2⟩
theorem Deed.later {P : Program} {w : World} {K : PySem.W.Frag} {mg : Str → Option Value} {base : Heap} {k : Nat} {H H1 : Hp} {f : Addr} {o : Out} (D : Deed P w K mg base k H f o) (sm : Same H H1) : Deed P w K mg base k H1 f o :=
  ⟨D.1.imp fun F e => sm _ _ e, fun A outer s H' Q E s2 => D.2 A outer s H' Q E fun b u e => s2 _ _ (sm _ _ e)⟩
/-! #### the making, over a ledger -/
/-- an object that never changes -/
theorem At.addX {g : Gr} {L : Led} {H : Hp} {a : Addr} {φ : Heap → Prop} (z : At g L H) (h : H a = some (.ext φ)) : At g (L ++ [(a, .ob (.ext φ), false)]) H := by
  refine ⟨z.old, fun q hq => ?_, fun q hq hb => ?_, nd_app z.nd fun q hq e => ?_⟩
  · rcases List.mem_append.mp hq with hq | hq
    · exact z.led q hq
    · have e : q = (a, Ent.ob (.ext φ), false) := by simpa using hq
      subst e
      exact ⟨_, h, rfl⟩
  · rcases List.mem_append.mp hq with hq | hq
    · exact z.own q hq hb
    · have e : q = (a, Ent.ob (.ext φ), false) := by simpa using hq
      subst e
      cases hb
  · refine .inl ⟨?_, rfl⟩
    obtain ⟨o, h1, h2⟩ := z.led q hq
    rw [show q.1 = a from e, h] at h1
    have h1 := Option.some.inj h1
    subst h1
    cases hm : q.2.1.mov with
    | false => rfl
    | true => exact absurd rfl ((Ent.mov_ne hm h2).2 φ)
theorem At.made {g : Gr} {L : Led} {H H1 : Hp} {P : Addr} {q : Str} {f : Addr} {F : LF} {j : Nat} (z : At g L H) (hj : L[j]? = some (P, .tab q, true)) (m : Made H H1 P q f F) : At g (L ++ [(f, .ob (LamO f F), false), (F.c, .ob (CodeO F.c q), false)]) H1 := by
  obtain ⟨ps, h1, h2, h3⟩ := m.tab
  have z1 : At g (L.set j (P, .tab q, true)) H1 := z.chg hj m.old h1 ⟨ps, rfl, h2, h3⟩
  have e : L.set j (P, .tab q, true) = L := by
    obtain ⟨hlt, e⟩ := List.getElem?_eq_some_iff.mp hj
    rw [← e, List.set_getElem_self]
  rw [e] at z1
  have z2 := (z1.addX (φ := _) m.fn).addX (φ := _) m.co
  rw [List.append_assoc] at z2
  exact z2
section
variable {g : Gr} {L : Led} {C : V → Led → Prop} {σ : L2.St} {P : Addr} {q : Str}
theorem wp_lmb {mk : Addr → LF} (j : Nat) (hj : L[j]? = some (P, .tab q, true)) (c : ∀ (f c' : Addr), C (.ref f) (L ++ [(f, .ob (LamO f (mk c')), false), ((mk c').c, .ob (CodeO (mk c').c q), false)])) : Wp g L (tLmb P q mk σ) C :=
  fun H z Q k => by
    obtain ⟨o, h1, ps, rfl, h2, h3⟩ := z.look hj
    exact ⟨⟨ps, h1, h2, h3⟩, fun f c' H1 m => k _ _ _ (c f c') (z.made hj m)⟩
theorem wp_lmbD {mk : Addr → Addr → LF} {te : TE} (j : Nat) (h : Wp g L (te σ) fun v L1 => L1[j]? = some (P, .tab q, true) ∧ ∀ (t f c' : Addr), C (.ref f) (L1 ++ [(t, .ob (.tup [v]), true)] ++ [(f, .ob (LamO f (mk t c')), false), ((mk t c').c, .ob (CodeO (mk t c').c q), false)])) : Wp g L (tLmbD P q te mk σ) C :=
  fun H z Q k => h H z _ fun v L1 H1 ⟨hj, c⟩ z1 => by
    obtain ⟨o, h1, ps, rfl, h2, h3⟩ := z1.look hj
    refine ⟨⟨ps, h1, h2, h3⟩, fun t f c' H2 H3 ht e m => k _ _ _ (c t f c') ?_⟩
    subst e
    refine (z1.upd_new (o := .tup [v]) ht).made (j := j) ?_ m
    rw [List.getElem?_append_left (List.getElem?_eq_some_iff.mp hj).1]
    exact hj
theorem wp_callD {sp : Heap → Sp} {cl : List (Str × Addr)} {fr : List Str} {wsf : L2.St → List (Option V)} {ta : TA} (h : Wp g L (ta σ) fun vs L1 => ∀ base, CellsAt cl fr (wsf σ) base (fun _ => none) → Wp g L1 (fun H Q => sp base vs H Q E0) C) : Wp g L (tCallD sp cl fr wsf ta σ) C :=
  fun H z Q k => h H z _ fun vs L1 H1 c z1 base hb => c base hb H1 z1 Q k
end
/-! #### try: x() except C as n: .. -/
theorem ws_tryD {g : Gr} {L : Led} {σ : L2.St} {K : Ks} {P : Program} {w : World} {Kf : PySem.W.Frag} {mg : Str → Option Value} {base : Heap} {CB : Addr} {f : Addr} {o : Out} {k i j : Nat} {ts : Addr → Value → Option Addr → TS} {Wout : WX} (hs : σ[j]? = some (some (.ref f))) (hD : ∀ H, At g L H → Deed P w Kf mg base k H f o)
    (hn : o = none → K.nx σ L)
    (hE : ∀ C fs, o = some (C, fs) → PySem.W.exmOne Kf (.ref C) (.ref CB) = some true ∧ ∀ a d, Ws g (L ++ [(d, .ob (.xd fs), true)]) (ts a (.ref C) (some d)) (σ.set i (some (.ref a))) { nx := fun σ' L' => K.nx (σ'.set i none) L', rt := K.rt, bk := fun σ' L' => K.bk (σ'.set i none) L', ct := fun σ' L' => K.ct (σ'.set i none) L' }) :
    Ws g L (fun D σ H => tDrop (tDeed P w Kf mg base k j (wAs Kf (.ref CB) i ts Wout D)) D σ H) σ K := fun H z D e => by
  refine ⟨f, o, hs, hD H z, ?_⟩
  cases o with
  | none => exact fun v H' sm => e.nx _ _ _ (hn rfl) (z.same sm)
  | some c =>
    obtain ⟨C, fs⟩ := c
    obtain ⟨hx, hE⟩ := hE C fs rfl
    exact fun H' d sm n hd => ⟨true, hx, fun _ a _ => hE a d H' (z.new sm n hd) _ ⟨fun σ' L' H' k z => e.nx _ _ _ k z, e.rt, fun σ' L' H' k z => e.bk _ _ _ k z, fun σ' L' H' k z => e.ct _ _ _ k z⟩, fun q => Bool.noConfusion q⟩
/-! #### a def that raises, whatever it does else -/
def kRx : Ks := { nx := fun _ _ => False, rt := fun _ _ => False }
theorem eo_Rx {g : Gr} {D : Ends} : Eo g kRx D := ⟨fun _ _ _ e _ => e.elim, fun _ _ _ e _ => e.elim, fun _ _ _ e _ => e.elim, fun _ _ _ e _ => e.elim⟩
end Kr

set_option Elab.async false
set_option linter.all false
set_option maxRecDepth 100000
set_option maxHeartbeats 1000000
/-! ### the making of a lambda, with what it promises -/
namespace Kr
open PySem L2 PySem.Spec PyProof.Rows LamX NdefX Ke
/-- how a lambda's cells lie among the maker's -/
structure Clo (clA cl : List (Str × Addr)) (fr : List Str) : Prop where
  sub : ∀ y c, cl.lookup y = some c → clA.lookup y = some c
  sup : ∀ y ∈ fr, ∀ c, clA.lookup y = some c → cl.lookup y = some c
def pickW (ws : List (Option V)) (js : List Nat) : List (Option V) := js.map fun j => match ws[j]? with
  | some o => o
  | none => none
theorem Clo.cells {clA cl : List (Str × Addr)} {frA fr : List Str} {wsA : List (Option V)} {h : Heap} {H : Hp} (k : Clo clA cl fr) (C : CellsAt clA frA wsA h H) (js : List Nat) (hj : js.map (fun j => frA[j]?) = fr.map some) : CellsAt cl fr (pickW wsA js) h H := by
  refine ⟨?_, fun y c e => C.all y c (k.sub y c e), fun x y c e1 e2 => C.inj x y c (k.sub x c e1) (k.sub y c e2), fun i y e => ?_⟩
  · have q := congrArg List.length hj
    rw [List.length_map, List.length_map] at q
    unfold pickW
    rw [List.length_map]
    exact q
  · have e2 : (js.map fun j => frA[j]?)[i]? = some (some y) := by
      rw [hj, List.getElem?_map, e] <;> rfl
    rw [List.getElem?_map] at e2
    cases ej : js[i]? with
    | none =>
      rw [ej] at e2
      cases e2
    | some j =>
      rw [ej] at e2
      have hy : frA[j]? = some y := Option.some.inj (show some (frA[j]?) = some (some y) from e2)
      obtain ⟨c, hc, hv⟩ := C.has j y hy
      refine ⟨c, k.sup y (List.mem_of_getElem? e) c hc, fun v ev => hv v ?_⟩
      unfold pickW at ev
      rw [List.getElem?_map, ej] at ev
      have ev := Option.some.inj (show some (match wsA[j]? with | some o => o | none => none) = some (some v) from ev)
      cases ew : wsA[j]? with
      | none =>
        rw [ew] at ev
        cases ev
      | some o =>
        rw [ew] at ev
        exact congrArg some ev
section
variable {X : Cx}
theorem caps_full {frA : List Str} {js : List Nat} (hk : ∀ y ∈ frA, X.env.scope.names.lookup y = some .cell) (hjs : js.map (fun j => X.N[j]?) = frA.map some) : X.Ok → Caps X X.env.cells frA js := fun _ =>
  ⟨fun _ _ e => e, fun y hy => .inl (hk y hy), fun _ _ _ e => e, hjs⟩
def cellB (sc : Scope) (frA : List Str) : Bool := frA.all fun y => decide (sc.names.lookup y = some .cell)
theorem cells_are {sc : Scope} {frA : List Str} (h : cellB sc frA = true) : ∀ y ∈ frA, sc.names.lookup y = some .cell := fun y hy => by
  unfold cellB at h
  exact of_decide_eq_true (List.all_eq_true.mp h y hy)
/-- a def's body tells what its cells hold -/
theorem tells_def {P : Program} {w : World} {K : PySem.W.Frag} {mg : Str → Option Value} {base : Heap} {N : List Str} {qual : Str} {sc : Scope} {f : Addr} {cdv : Value} {A : Around} {outer : List Env} {s : Shared} {H : Hp} {E : XK} {frA : List Str} (js : List Nat) (hk : cellB sc frA = true) (hjs : js.map (fun j => N[j]?) = frA.map some) :
    Tells (cxOf CX0 P w K mg base N qual sc f cdv A outer s H E).nox (cxOf CX0 P w K mg base N qual sc f cdv A outer s H E).nox.env.cells frA fun σ => js.map (slotAt σ) :=
  tells_frame (caps_full (cells_are hk) hjs) rfl rfl fun _ _ => rfl
theorem good_mk {Pr : Program} {w : World} {K : PySem.W.Frag} {mg : Str → Option Value} {q : Str} {params : Arguments} {body : Expr} {scope : Scope} {cl : List (Str × Addr)} {dV : Value} {c' : Addr} {k : Nat} {N ps fr : List Str} {t : XK → TE} (h : nscB N ps fr scope = true)
    (b0 : dV = .none → ps = [] ∧ ∀ (s : Shared) (doc pm ctv : Value), BindsTo s ((⟨q, params, body, scope, cl, dV, c'⟩ : LF).fd doc pm ctv) ⟨[], []⟩ [])
    (b1 : ∀ u, dV = .ref u → ∀ (s : Shared) (doc pm ctv : Value) (us : List Value) (o : Obj) (n : Nat), us.length = ps.length → s.heap.get? u = some o → o.data = .seq us.toArray n → BindsTo s ((⟨q, params, body, scope, cl, dV, c'⟩ : LF).fd doc pm ctv) ⟨[], []⟩ (ps.zip us))
    (hb : ∀ (base : Heap) (f : Addr) (A : Around) (outer : List Env) (s : Shared) (H : Hp) (E : XK), Room k (A.deeper (envF (⟨q, params, body, scope, cl, dV, c'⟩ : LF).nf f s.heap.objs.size)) → PE (lcx Pr w K mg base N ⟨q, params, body, scope, cl, dV, c'⟩ f A outer s H E) body (t E)) :
    Good Pr w K mg k N ps fr ⟨q, params, body, scope, cl, dV, c'⟩ t := ⟨nscope_by h, b0, b1, hb⟩
/-- lambda: e, with its promise -/
def tLmbG (Pr : Program) (w : World) (K : PySem.W.Frag) (mg : Str → Option Value) (P : Addr) (q : Str) (k : Nat) (N ps fr : List Str) (clA : List (Str × Addr)) (t : XK → TE) : TE := fun _ H Q => TabS H P q ∧ ∀ (f : Addr) (F : LF) (H1 : Hp), Good Pr w K mg k N ps fr F t → Clo clA F.cl fr → F.qual = q → F.dV = .none → Made H H1 P q f F → Q (.ref f) H1
theorem pe_lmbG {Pr : Program} {w : World} {K : PySem.W.Frag} {mg : Str → Option Value} {c P : Addr} {sc : Scope} {params : Arguments} {body : Expr} {scope : Scope} {pos : Pos} {q : Str} {k : Nat} {N fr : List Str} {t : XK → TE} (TB : TabB X.base X.mg c P) (hcode : X.env.code = .ref c) (hq : X.env.qual ++ "<lambda>" = q) (hsc : X.env.scope = sc) (hn : ndefB sc scope fr = true) (hdef : defaultsOf params X.env = ([], []))
    (hG : ∀ (cl : List (Str × Addr)) (c' : Addr), Good Pr w K mg k N [] fr ⟨q, params, body, scope, cl, .none, c'⟩ t)
    (e1 : X.prog = Pr := by rfl) (e2 : X.w = w := by rfl) (e3 : X.K = K := by rfl) (e4 : X.mg = mg := by rfl) :
    PE X (.Lambda params body scope pos) (tLmbG Pr w K mg P q k N [] fr X.env.cells t) := by
  subst e1 e2 e3 e4
  rw [← hsc] at hn
  refine ⟨fun pins s σ H Q I h => ?_⟩
  have hf : ∀ y ∈ scope.names, y.2 = .free → ∃ c, X.env.cells.lookup y.1 = some c := fun y hy e => (ndef_free hn y hy e).elim (fun z => I.ok.has _ (.inl z)) fun z => I.ok.has _ (.inr z)
  exact (pe_lmb TB hcode hq (ndef_free hn) hdef).run pins s σ H Q I ⟨h.1, fun f c' H1 m => h.2 f _ H1 (hG _ c') ⟨fun y a e => clo_cm hf e, fun y hy a e => clo_has hf (ndef_fr hn y hy) e⟩ rfl rfl m⟩
/-- lambda x=e0: e -/
def tLmbDG (Pr : Program) (w : World) (K : PySem.W.Frag) (mg : Str → Option Value) (P : Addr) (q : Str) (k : Nat) (N ps fr : List Str) (clA : List (Str × Addr)) (t : XK → TE) (v : V) : TE := fun _ H Q => TabS H P q ∧ ∀ (u f : Addr) (F : LF) (H1 H2 : Hp), Good Pr w K mg k N ps fr F t → Clo clA F.cl fr → F.qual = q → F.dV = .ref u → H u = none → H1 = upd H u (.tup [v]) → Made H1 H2 P q f F → Q (.ref f) H2
theorem pe_lmbDG {Pr : Program} {w : World} {K : PySem.W.Frag} {mg : Str → Option Value} {c P : Addr} {sc : Scope} {params : Arguments} {body e0 : Expr} {scope : Scope} {pos : Pos} {q : Str} {k : Nat} {N ps fr : List Str} {t : XK → TE} {v : V} (TB : TabB X.base X.mg c P) (hcode : X.env.code = .ref c) (hq : X.env.qual ++ "<lambda>" = q) (hsc : X.env.scope = sc) (hn : ndefB sc scope fr = true) (hd : params.defaults = [e0]) (hk0 : params.kw_defaults = []) (he : PE X e0 (tC v))
    (hG : ∀ (cl : List (Str × Addr)) (u c' : Addr), Good Pr w K mg k N ps fr ⟨q, params, body, scope, cl, .ref u, c'⟩ t)
    (e1 : X.prog = Pr := by rfl) (e2 : X.w = w := by rfl) (e3 : X.K = K := by rfl) (e4 : X.mg = mg := by rfl) :
    PE X (.Lambda params body scope pos) (tLmbDG Pr w K mg P q k N ps fr X.env.cells t v) := by
  subst e1 e2 e3 e4
  rw [← hsc] at hn
  refine ⟨fun pins s σ H Q I h => ?_⟩
  have hf : ∀ y ∈ scope.names, y.2 = .free → ∃ c, X.env.cells.lookup y.1 = some c := fun y hy e => (ndef_free hn y hy e).elim (fun z => I.ok.has _ (.inl z)) fun z => I.ok.has _ (.inr z)
  exact (pe_lmbD TB hcode hq (ndef_free hn) hd hk0 he).run pins s σ H Q I ⟨h.1, fun u f c' H1 H2 hu e m => h.2 u f _ H1 H2 (hG _ u c') ⟨fun y a e => clo_cm hf e, fun y hy a e => clo_has hf (ndef_fr hn y hy) e⟩ rfl rfl hu e m⟩
end
section
variable {g : Gr} {L : Led} {C : V → Led → Prop} {σ : L2.St} {P : Addr} {q : Str} {Pr : Program} {w : World} {K : PySem.W.Frag} {mg : Str → Option Value} {k : Nat} {N ps fr : List Str} {clA : List (Str × Addr)} {t : XK → TE}
theorem wp_lmbG (j : Nat) (hj : L[j]? = some (P, .tab q, true)) (c : ∀ (f : Addr) (F : LF), Good Pr w K mg k N ps fr F t → Clo clA F.cl fr → F.dV = .none → C (.ref f) (L ++ [(f, .ob (LamO f F), false), (F.c, .ob (CodeO F.c F.qual), false)])) : Wp g L (tLmbG Pr w K mg P q k N ps fr clA t σ) C :=
  fun H z Q kk => by
    obtain ⟨o, h1, pts, rfl, h2, h3⟩ := z.look hj
    exact ⟨⟨pts, h1, h2, h3⟩, fun f F H1 hG hC hq hd m => by
      subst hq
      exact kk _ _ _ (c f F hG hC hd) (z.made hj m)⟩
theorem wp_lmbDG {v : V} (j : Nat) (hj : L[j]? = some (P, .tab q, true)) (c : ∀ (u f : Addr) (F : LF), Good Pr w K mg k N ps fr F t → Clo clA F.cl fr → F.dV = .ref u → C (.ref f) (L ++ [(u, .ob (.tup [v]), true)] ++ [(f, .ob (LamO f F), false), (F.c, .ob (CodeO F.c F.qual), false)])) : Wp g L (tLmbDG Pr w K mg P q k N ps fr clA t v σ) C :=
  fun H z Q kk => by
    obtain ⟨o, h1, pts, rfl, h2, h3⟩ := z.look hj
    refine ⟨⟨pts, h1, h2, h3⟩, fun u f F H2 H3 hG hC hq hd hu e m => ?_⟩
    subst hq
    subst e
    refine kk _ _ _ (c u f F hG hC hd) ((z.upd_new (o := .tup [v]) hu).made (j := j) ?_ m)
    rw [List.getElem?_append_left (List.getElem?_eq_some_iff.mp hj).1]
    exact hj
end
theorem b1_one {s : Shared} {fd : FuncData} {p : Str} {us : List Value} (hl : us.length = 1) (h : ∀ x, us = [x] → BindsTo s fd ⟨[], []⟩ [(p, x)]) : BindsTo s fd ⟨[], []⟩ ([p].zip us) := by
  match us, hl with
  | [x], _ => exact h x rfl
theorem part_of {L L0 : Led} (js : List Nat) (h1 : js.map (fun j => (L[j]?).map fun p => (p.1, p.2.1)) = L0.map fun p => some (p.1, p.2.1)) (h2 : L0.all (fun p => !p.2.2) = true) : ∀ p ∈ L0, p.2.2 = false ∧ ∃ (j : Nat) (b : Bool), L[j]? = some (p.1, p.2.1, b) := fun p hp => by
  refine ⟨by simpa using List.all_eq_true.mp h2 p hp, ?_⟩
  have h3 : some (p.1, p.2.1) ∈ js.map (fun j => (L[j]?).map fun p => (p.1, p.2.1)) := by
    rw [h1]
    exact List.mem_map.mpr ⟨p, hp, rfl⟩
  obtain ⟨j, _, h4⟩ := List.mem_map.mp h3
  cases e : L[j]? with
  | none =>
    rw [e] at h4
    cases h4
  | some q =>
    rw [e] at h4
    obtain ⟨a, b, c⟩ := q
    have h4 := Option.some.inj (show some (a, b) = some (p.1, p.2.1) from h4)
    cases h4
    exact ⟨j, c, e⟩
end Kr

set_option Elab.async false
set_option linter.all false
set_option maxRecDepth 100000
set_option maxHeartbeats 1000000
/-! ### small numbers in texts -/
namespace Kr
open PySem L2 PySem.Spec PyProof.Rows
theorem log_small {n : Int} (h : -(10 ^ 60) ≤ n ∧ n ≤ 10 ^ 60) : n.natAbs.log2 < 1920 := by
  have h1 : n.natAbs ≤ 10 ^ 60 := by omega
  by_cases h0 : n.natAbs = 0
  · rw [h0]
    decide
  · exact (Nat.log2_lt h0).mpr (Nat.lt_of_le_of_lt h1 (by decide +kernel))
theorem txt_small {n : Int} {m : Str} (h : -(10 ^ 60) ≤ n ∧ n ≤ 10 ^ 60) (hm : m.length ≤ 100 := by decide) : ((Str.empty ++ m) ++ (toString n : Str)).length ≤ sizeLine := by
  have h1 := int_text_len_1921 (log_small h)
  have h2 : ((Str.empty ++ m) ++ (toString n : Str)).length = m.length + (PySem.Str.ofString (toString n)).length := by
    rw [Str.length_append, Str.length_append, show Str.empty.length = 0 from rfl, Nat.zero_add]
  rw [h2]
  have : (2100 : Nat) ≤ sizeLine := by decide
  omega
/-- a table may grow -/
theorem At.drawT {g : Gr} {L : Led} {H H' : Hp} {P : Addr} {q : Str} {i : Nat} (z : At g L H) (k : L[i]? = some (P, .tab q, true)) (s : Exc P H H') (h : EntAt (.tab q) H' P) : At g L H' := by
  have z1 := z.draw k s h
  have e : L.set i (P, .tab q, true) = L := by
    obtain ⟨hlt, e⟩ := List.getElem?_eq_some_iff.mp k
    rw [← e, List.set_getElem_self]
  rwa [e] at z1
/-- a value; a table may have grown -/
def kTV (P : Addr) (q : Str) (R : V → Prop) : Ks := { nx := fun _ _ => False, rt := fun v L => R v ∧ ∃ i : Nat, L[i]? = some (P, Ent.tab q, true) }
theorem eo_TV {H0 : Hp} {P : Addr} {q : Str} {R : V → Prop} {Q : VK} (h : ∀ v H', R v → EntAt (.tab q) H' P → Exc P H0 H' → Q v H') : Eo ⟨H0, fun c => c = P⟩ (kTV P q R) { nx := fun _ H' => Q .non H', rt := Q } :=
  ⟨fun _ _ _ k _ => k.elim, fun v L H ⟨r, i, k⟩ z => h v H r (z.look k) fun c o h hn => z.old c o h hn, fun _ _ _ k _ => k.elim, fun _ _ _ k _ => k.elim⟩
/-- a table, before objects that are no tables -/
theorem at_consT {g : Gr} {L : Led} {H : Hp} {P : Addr} {o : HO} {q : Str} (z : At g L H) (ha : H P = some o) (he : (Ent.tab q).In H o) (hmu : g.mu P) (hn : L.all (fun p => match p.2.1 with
    | .ob (.tbl _) => false
    | .ob _ => true
    | _ => false) = true) : At g ((P, .tab q, true) :: L) H := by
  refine at_cons z ha he (fun hm => ?_) fun _ => .inr hmu
  obtain ⟨p, hp, e⟩ := List.mem_map.mp hm
  have h1 := List.all_eq_true.mp hn p hp
  obtain ⟨u, h2, h3⟩ := z.led p hp
  obtain ⟨ps, rfl, _⟩ := he
  rw [e, ha] at h2
  cases h2
  revert h1
  cases hq : p.2.1 with
  | ob w =>
    rw [hq] at h3
    have h3 : HO.tbl ps = w := h3
    subst h3
    simp
  | _ => simp
end Kr

set_option Elab.async false
set_option linter.all false
set_option maxRecDepth 100000
set_option maxHeartbeats 1000000
/-! ### odd values with their texts -/
namespace Kr
open PySem L2 PySem.Spec PyProof.Rows Kp
/-- the values of the kinds that the laws hand in -/
inductive OV where
  | num (n : Int)
  | non
  | bl (b : Bool)
  | str (s : Str) (h1 : (reprText s).length ≤ 1000) (h2 : PyData.strOk (reprText s) = true)
  | lst (a : Addr) (n : Int)
  | tup (a : Addr) (n : Int)
  | dct (a : Addr)
def OV.v : OV → V
  | .num n => .int n
  | .non => .non
  | .bl b => .bl b
  | .str s _ _ => .str s
  | .lst a _ => .ref a
  | .tup a _ => .ref a
  | .dct a => .ref a
def OV.At (H : Hp) : OV → Prop
  | .num n => n.natAbs.log2 < 1920
  | .non => True
  | .bl _ => True
  | .str _ _ _ => True
  | .lst a n => n.natAbs.log2 < 1920 ∧ H a = some (.lst [.int n])
  | .tup a n => n.natAbs.log2 < 1920 ∧ H a = some (.tup [.int n])
  | .dct a => H a = some (.dK [])
/-- the text, as it comes out where the calls g are under way -/
def OV.tx (g : List Code) : OV → Str
  | .num n => toString n
  | .non => "None"
  | .bl b => if b then "True" else "False"
  | .str s _ _ => reprText s
  | .lst a n => if runL g a then "[...]" else listText [toString n]
  | .tup a n => if runT g a then "(...)" else tupleText [toString n]
  | .dct a => if runD g a then "{...}" else "{}"
/-- an int, at least 0 -/
def OV.good : OV → Bool
  | .num n => decide (0 ≤ n)
  | _ => false
theorem OV.At.same {H H' : Hp} {o : OV} (h : o.At H) (s : Same H H') : o.At H' := by
  cases o with
  | lst a n => exact ⟨h.1, s _ _ h.2⟩
  | tup a n => exact ⟨h.1, s _ _ h.2⟩
  | dct a => exact s _ _ h
  | _ => exact h
theorem OV.At.od {H : Hp} {o : OV} (h : o.At H) : Od H o.v := by
  cases o with
  | num n => exact .inl ⟨n, rfl⟩
  | non => exact .inr (.inl rfl)
  | bl b => exact .inr (.inr (.inl ⟨b, rfl⟩))
  | str s _ _ => exact .inr (.inr (.inr (.inl ⟨s, rfl⟩)))
  | lst a n => exact .inr (.inr (.inr (.inr (.inl ⟨a, _, rfl, h.2⟩))))
  | tup a n => exact .inr (.inr (.inr (.inr (.inr (.inl ⟨a, _, rfl, h.2⟩)))))
  | dct a => exact .inr (.inr (.inr (.inr (.inr (.inr ⟨a, rfl, h⟩)))))
theorem text_le {n : Int} (h : n.natAbs.log2 < 1920) : (toString n : Str).length ≤ 1921 := PyProof.Rows.int_text_len_1921 h
theorem listText_one (t : Str) : (listText [t]).length ≤ t.length + 4 := by
  have e : listText [t] = (("[" : Str) ++ t) ++ "]" := rfl
  rw [e, Str.length_append, Str.length_append]
  have e1 : (("[" : Str)).length = 1 := rfl
  have e2 : (("]" : Str)).length = 1 := rfl
  omega
theorem tupleText_one (t : Str) : (tupleText [t]).length ≤ t.length + 4 := by
  have := PySem.fmt_text [t]
  unfold piled at this
  simp at this
  omega
theorem OV.tx_len {g : List Code} {H : Hp} {o : OV} (h : o.At H) : (o.tx g).length ≤ 2000 := by
  cases o with
  | num n => exact Nat.le_trans (text_le h) (by decide)
  | non =>
    show ("None" : Str).length ≤ 2000
    decide +kernel
  | bl b =>
    cases b
    · show ("False" : Str).length ≤ 2000
      decide +kernel
    · show ("True" : Str).length ≤ 2000
      decide +kernel
  | str s h1 _ => exact Nat.le_trans h1 (by decide)
  | lst a n =>
    show (if runL g a then ("[...]" : Str) else listText [toString n]).length ≤ 2000
    split
    · decide +kernel
    · have h1 := text_le h.1
      have h2 := listText_one (toString n : Str)
      omega
  | tup a n =>
    show (if runT g a then ("(...)" : Str) else tupleText [toString n]).length ≤ 2000
    split
    · decide +kernel
    · have h1 := text_le h.1
      have h2 := tupleText_one (toString n : Str)
      omega
  | dct a =>
    show (if runD g a then ("{...}" : Str) else "{}").length ≤ 2000
    split <;> decide +kernel
theorem strOk_of (s : String) : PyData.strOk (Str.ofString s) = true := by
  rw [PySem.Str.ofString_eq_toList]
  show ((s.toList.map Char.toNat).toArray).all (fun x => decide (x < 0x110000)) = true
  rw [← Array.all_toList, List.all_eq_true]
  intro x hx
  obtain ⟨c, _, rfl⟩ := List.mem_map.mp (show x ∈ s.toList.map Char.toNat from hx)
  rw [decide_eq_true_eq]
  have h : c.val.toNat < 0xd800 ∨ (0xdfff < c.val.toNat ∧ c.val.toNat < 0x110000) := c.valid
  show c.val.toNat < 0x110000
  omega
theorem strOk_app {a b : Str} (h1 : PyData.strOk a = true) (h2 : PyData.strOk b = true) : PyData.strOk (a ++ b) = true := by
  unfold PyData.strOk at *
  show (a.cps ++ b.cps).all _ = true
  rw [Array.all_append, h1, h2]
  rfl
theorem OV.tx_ok {g : List Code} (o : OV) : PyData.strOk (o.tx g) = true := by
  cases o with
  | num n => exact strOk_of _
  | non => exact strOk_of _
  | bl b => cases b <;> exact strOk_of _
  | str s _ h2 => exact h2
  | lst a n =>
    show PyData.strOk (if runL g a then ("[...]" : Str) else listText [toString n]) = true
    split
    · exact strOk_of _
    · exact strOk_app (strOk_app (strOk_of _) (strOk_of _)) (strOk_of _)
  | tup a n =>
    show PyData.strOk (if runT g a then ("(...)" : Str) else tupleText [toString n]) = true
    split
    · exact strOk_of _
    · exact strOk_app (strOk_app (strOk_of _) (strOk_of _)) (strOk_of _)
  | dct a =>
    show PyData.strOk (if runD g a then ("{...}" : Str) else "{}") = true
    split <;> exact strOk_of _
theorem sh_tx2 {g : List Code} {y : Str} {o : OV} (h : PyData.strOk y = true := by first | exact strOk_of _ | decide +kernel) : SeqAt.shaped (PyData.tuple [.str y, .str (o.tx g)]) = true := by
  unfold SeqAt.shaped
  rw [Bool.and_eq_true]
  refine ⟨?_, rfl⟩
  simp [PyData.canLay0, PyData.canLayAll0, h, OV.tx_ok o]
theorem sh_st2 {y z : Str} (h : PyData.strOk y = true := by first | exact strOk_of _ | decide +kernel) (h2 : PyData.strOk z = true := by first | exact strOk_of _ | decide +kernel) : SeqAt.shaped (PyData.tuple [.str y, .str z]) = true := by
  unfold SeqAt.shaped
  rw [Bool.and_eq_true]
  refine ⟨?_, rfl⟩
  simp [PyData.canLay0, PyData.canLayAll0, h, h2]
section
variable {X : Cx} {pins : List (Addr × Obj)} {σ : L2.St} {H : Hp} {s : Shared} {A : Around} {g : List Code} {E : Value → Shared → Prop} {u : Value} {o : OV}
theorem two_le : (2000 : Nat) ≤ sizeLine := by decide
/-- the slot's answer, for the kinds that stand in the heap -/
theorem ov_ref {a : Addr} {Q : Value → Shared → Prop} (hg : A.guards = some g) (I : Inv X pins σ H s) (h : o.At H) (e : o.v = .ref a) (hQ : ∀ s' tk, Inv X pins σ H s' → Q (.str (o.tx g) tk) s') :
    ∃ T idr, s.TypeIs (.ref a) T ∧ SlotG T "__repr__" idr ∧ wpAny (model X.prog X.w) A (call (.builtin idr) [.ref a]) Q E s := by
  have hz := OV.tx_len (g := g) h
  have hz2 := two_le
  cases o with
  | num n => cases e
  | non => cases e
  | bl b => cases e
  | str s _ _ => cases e
  | lst b n =>
    cases e
    obtain ⟨_, its, m, r, hx⟩ := I.hok a _ h.2
    obtain ⟨u, rfl, t, rfl⟩ := vals1 r
    have h1 := text_le h.1
    have h2 := listText_one (toString n : Str)
    exact ⟨"list", "list.__repr__", ⟨_, hx, rfl⟩, F.slot_list_repr.toG, list_repr hg hx rfl rfl (ReprIs.int t h.1) (fun h' u tk hk => hQ _ _ (I.kept hk)) (by omega)⟩
  | tup b n =>
    cases e
    obtain ⟨_, its, r, ob, hx, hc, m, hd⟩ := I.hok a _ h.2
    obtain ⟨u, rfl, t, rfl⟩ := vals1 r
    have h1 := text_le h.1
    have h2 := tupleText_one (toString n : Str)
    exact ⟨"tuple", "tuple.__repr__", ⟨_, hx, hc⟩, F.slot_tuple_repr, tup_repr hg hx hc hd (ReprIs.int t h.1) (fun u tk => hQ _ _ (I.tok _)) (by omega)⟩
  | dct b =>
    cases e
    obtain ⟨_, hs, vs, r, ob, es, ep, hx, hex, hd, _, hp, _⟩ := I.hok a _ h
    cases r
    have he : es = #[] := by
      have : ∀ l, PySem.Pairs (mixKind X.prog X.w) l [] → l = [] := fun l q => by
        cases q
        rfl
      exact Array.toList_eq_nil_iff.mp (this _ hp)
    subst he
    exact ⟨"dict", "dict.__repr__", ⟨_, hx, hex.1⟩, F.slot_dict_repr, dct_repr hg hx hex.1 hd hs (fun u tk => hQ _ _ (I.tok _))⟩

theorem ov_flat {Q : Value → Shared → Prop} (I : Inv X pins σ H s) (h : o.At H) (r : RelV o.v u) (hQ : ∀ s' tk, Inv X pins σ H s' → Q (.str (o.tx g) tk) s') :
    (∃ a, o.v = .ref a) ∨ (wpAny (model X.prog X.w) A (pyReprObj u) Q E s ∧ wpAny (model X.prog X.w) A (call (.builtin "repr") [u]) Q E s) := by
  have hz := OV.tx_len (g := g) h
  have hz2 := two_le
  cases o with
  | num n =>
    obtain ⟨t, rfl⟩ := r
    exact .inr ⟨pyReprObj_int h (hQ _ _ (I.tok _)), PySem.P.repr_of_int h (hQ _ _ (I.tok _))⟩
  | non =>
    obtain rfl : u = Value.none := r
    exact .inr ⟨pyReprObj_none (hQ _ _ (I.tok _)), PySem.P.repr_of_none (hQ _ _ (I.tok _))⟩
  | bl b =>
    obtain rfl : u = Value.bool b := r
    exact .inr ⟨pyReprObj_bool (hQ _ _ (I.tok _)), PySem.P.repr_of_bool (hQ _ _ (I.tok _))⟩
  | str y h1 _ =>
    obtain ⟨t, rfl⟩ := r
    have hz3 : (reprText y).length ≤ sizeLine := Nat.le_trans hz hz2
    exact .inr ⟨pyReprObj_str (hQ _ _ (I.tok _)) hz3, PySem.P.repr_of_str (hQ _ _ (I.tok _)) hz3⟩
  | lst a n => exact .inl ⟨a, rfl⟩
  | tup a n => exact .inl ⟨a, rfl⟩
  | dct a => exact .inl ⟨a, rfl⟩
theorem ov_repr {Q : Value → Shared → Prop} (hg : A.guards = some g) (hu : A.units < cLine) (I : Inv X pins σ H s) (h : o.At H) (r : RelV o.v u) (hQ : ∀ s' tk, Inv X pins σ H s' → Q (.str (o.tx g) tk) s') :
    wpAny (model X.prog X.w) A (pyReprObj u) Q E s := by
  rcases ov_flat (A := A) (E := E) (Q := Q) (g := g) I h r hQ with ⟨a, e⟩ | q
  · rw [e] at r
    obtain rfl : u = Value.ref a := r
    obtain ⟨T, idr, h1, h2, h3⟩ := ov_ref (E := E) (Q := fun r s₁ => ∃ x t, r = .str x t ∧ Q r s₁) hg I h e fun s' tk I' => ⟨_, _, rfl, hQ s' tk I'⟩
    exact wpAny_pyReprObj_slot hu h1 h2 h3
  · exact q.1
/-- {x!r} of an odd value: some text, not long -/
def tFmtO (te : TE) : TE := fun σ H Q => te σ H fun x H1 => ∃ o : OV, x = o.v ∧ o.At H1 ∧ ∀ y : Str, y.length ≤ 2000 → Q (.str y) H1
theorem pe_fmtO {e : Expr} {te : TE} {pos : Pos} (hu : X.A.units < cLine) (he : PE X e te) : PE X (.FormattedValue e 114 none pos) (tFmtO te) := by
  refine ⟨fun pins s σ H Q I h => ?_⟩
  refine wpAny_FormattedValue_repr (thn (he.run pins s σ H _ I h) fun v s1 hv => ?_)
  obtain ⟨x, H1, I1, r1, o, rfl, ho, q⟩ := hv
  refine wpAny_wlog fun g => ?_
  refine ov_repr (g := g) (o := o) rfl hu I1 ho r1 fun s' tk I' => ?_
  have hz := OV.tx_len (g := g) ho
  have hz2 := two_le
  exact wpAny_formatField_str ⟨.str (o.tx g), H1, I'.tok _, ⟨_, rfl⟩, q _ hz⟩ ⟨.str (o.tx g), H1, I'.tok _, ⟨_, rfl⟩, q _ hz⟩ (by omega)
/-- repr(x), what is under way is known -/
def rRepr (g : List Code) : List V → Hp → VK → Prop := fun xs H Q => ∃ o : OV, xs = [o.v] ∧ o.At H ∧ Q (.str (o.tx g)) H
theorem call_reprO (hg : X.A.guards = some g) (hu : X.A.units + 1 < cLine) : CallR X (.builtin "repr") (rRepr g) := by
  intro pins s σ H xs us Q I r h
  obtain ⟨o, rfl, ho, q⟩ := h
  obtain ⟨u, rfl, ru⟩ := vals1 r
  rcases ov_flat (A := X.A) (E := X.xe) (Q := EP X pins σ Q) (g := g) I ho ru fun s' tk I' => ⟨.str (o.tx g), H, I', ⟨_, rfl⟩, q⟩ with ⟨a, e⟩ | q
  · rw [e] at ru
    obtain rfl : u = Value.ref a := ru
    obtain ⟨T, idr, h1, h2, h3⟩ := ov_ref (A := X.A.in1) (E := X.xe) (Q := fun r s₁ => ∃ x t, r = .str x t ∧ EP X pins σ Q r s₁) (g := g) hg I ho e fun s' tk I' => ⟨_, _, rfl, .str (o.tx g), H, I', ⟨_, rfl⟩, q⟩
    exact call_repr_slot hu h1 h2 h3
  · exact q.2
end
end Kr

set_option Elab.async false
set_option linter.all false
set_option maxRecDepth 100000
set_option maxHeartbeats 4000000
/-! ### isinstance of an exception that has fields -/
namespace Kp
open PySem PySem.Spec PySem.W PySem.Calls PyProof.Rows
section
variable {prog : Program} {w : World} {A : Around} {E : Value → Shared → Prop} {s : Shared} {K : W.Frag} {x D : Addr} {ox : Obj} {od : Option Obj}
theorem dataO {name : Str} {a g : Value} (hc : (clsIn K D).isSome = true) (ha : findIn K (.ref D) name = some (some a)) (hg : specialIn K a "__get__" = some (some g)) (ht : takesIn K a = some true) : findObj K D od name = some (.bind g a) := by
  obtain ⟨cd, h1⟩ := Option.isSome_iff_exists.mp hc
  unfold findObj
  rw [h1]
  rw [Option.bind_some, ha]
  rw [Option.bind_some]
  cases od <;> simp [hg, ht]
theorem class_of {Q : Option Value → Shared → Prop} (C : L2.ExcC K D) (X : K.In s.heap) (I : InstAt s.heap x ox D od) (h : Q (some (.ref D)) { s with toks := s.toks + 1 }) : wpAny (model prog w) A (getAttr? (.ref x) "__class__") Q E s := by
  have hf : findObj K D od "__class__" = some (.bind (.builtin "getset_descriptor.__get__") (.builtin "object.__class__")) := dataO (by obtain ⟨cd, hc, _⟩ := any_some C.hd; rw [hc]; rfl) C.ha C.hn C.ht
  obtain ⟨hp, g, d, t, os⟩ := s
  have K0 := I.type (M := model prog w)
  have K1 := looks_findIn (M := model prog w) X C.hg
  have K2 := looks_findIn (M := model prog w) X C.hk
  have K3 := looks_find (M := model prog w) X I hf
  have sb : Looks (model prog w) hp (isInstance (.ref x) (.type "BaseException")) true := K0.andThen (looks_subIn X C.hs)
  have n0 : (false && onTheHeap (Value.builtin "BaseException.__getattribute__")) = false := rfl
  have n2 : (Value.builtin "BaseException.__getattribute__" == Value.builtin "object.__getattribute__") = false := by decide +kernel
  have n1 : (onTheHeap (Value.ref D) && Value.builtin "BaseException.__getattribute__" == Value.builtin "object.__getattribute__") = false := by rw [n2]; rfl
  unfold getAttr?
  unfold getAttrBy?
  unfold getAttrBy
  refine wpAny_bind (wpAny_mkText (wpAny_bind (wpAny_attempt (wpAny_holding (wpAny_bind (K0.at (wpAny_bind (K1.at ?_))))))))
  show wpAny _ _ (if (onTheHeap (Value.ref D) && Value.builtin "BaseException.__getattribute__" == Value.builtin "object.__getattribute__") = true then _ else _) _ _ _
  rw [n1]
  rw [if_neg Bool.false_ne_true]
  unfold getAttrByItsOwn
  unfold hookBefore
  refine wpAny_bind ?_
  rw [if_pos (show onTheHeap (Value.ref D) = true from rfl)]
  refine K2.at ?_
  refine wpAny_bind (wpAny_attempt (wpAny_holding ?_))
  unfold callGetattribute
  rw [n0]
  rw [if_neg Bool.false_ne_true]
  unfold boundAndCalled
  rw [PySem.F.excAttr_ValueError.ga.bind (.ref x)]
  refine wpAny_bind (wpAny_pure ?_)
  show wpAny _ _ (call (.builtin "BaseException.__getattribute__") [.ref x, .str "__class__" t]) _ _ _
  refine wpAny_call (codeAny_call_builtin PySem.F.excAttr_ValueError.ga.plain PySem.F.entry_bexc_ga ?_)
  refine @check_slot (model prog w) _ _ ⟨hp, g, d, t + 1, os⟩ "BaseException.__getattribute__" "BaseException" "__getattribute__" (.ref x) [.str "__class__" t] [] _ (by decide +kernel) (by decide +kernel) sb (PySem.F.args_bexc_ga (.ref x) (.str "__class__" t)) ?_
  unfold Builtin.«object.__getattribute__»
  refine wpAny_bind (wpAny_of_eq (a := ((Value.ref x : Value), [Value.str "__class__" t])) (by first | rfl | (simp only [slotArgs]; rfl)) ?_)
  refine wpAny_bind (wpAny_pure (wpAny_bind (K0.at (wpAny_bind (K3.at ?_)))))
  show wpAny _ _ (holding [Value.builtin "object.__class__"] (call (.builtin "getset_descriptor.__get__") [.builtin "object.__class__", .ref x, .ref D]) >>= ret) _ _ _
  refine wpAny_bind (wpAny_holding (wpAny_call (class_get (s := ⟨hp, g, d, t + 1, os⟩) (ox := ox) (od := od) X I C.hm ?_)))
  refine wpAny_pure ?_
  show wpAny _ _ (handedOut (.ref D)) _ _ _
  rw [handedOut_of (v := .ref D) rfl]
  first
    | exact wpAny_pure (wpAny_pure h)
    | exact wpAny_pure h
    | exact wpAny_pure (wpAny_bind (wpAny_pure (wpAny_pure h)))
theorem kitx_xd (C : L2.ExcC K D) : KitX K (.ref x) (.ref D) (fun h => ∃ o, InstAt h x ox D (some o)) where
  ty := fun _ _ _ ⟨o, I⟩ => I.type
  it := fun _ _ X _ => by
    obtain ⟨cdD, hcD, _⟩ := any_some C.hd
    unfold clsIn at hcD
    split at hcD
    · rename_i c' d' cd' sl' ho
      intro A' Q' E' s' k q
      unfold isType
      unfold loadHead
      exact wpAny_bind (wpAny_loadPart (k _ _ (X _ _ ho)) (wpAny_pure q))
    · cases hcD
  ne := fun h tp dd its n sl X htp => by
    obtain ⟨cdD, hcD, _⟩ := any_some C.hd
    refine Bool.eq_false_iff.mpr fun q => ?_
    have e : D = tp := Value.ref.inj (beq_iff_eq.mp q)
    subst e
    unfold clsIn at hcD
    split at hcD
    · rename_i c' d' cd' sl' ho
      have z := (X _ _ ho).symm.trans htp
      cases z
    · cases hcD
  ca := fun X ⟨o, I⟩ k => class_of C X I k
end
end Kp
namespace L2
open PySem PySem.Spec PyProof.Rows
/-- isinstance(e, c), e the exception that the suite holds, with fields -/
def rIsX (K : PySem.W.Frag) (cls : Value) (d : Option Addr) (a : Addr) : List V → Hp → VK → Prop := fun xs H Q => ∃ (D dd : Addr) (fs : List (Str × V)) (c : V) (cv : Value) (b : Bool), cls = .ref D ∧ d = some dd ∧ H dd = some (.xd fs) ∧ ExcC K D ∧ xs = [.ref a, c] ∧ ClsV c cv ∧ PySem.W.kitOne K (.ref D) cv = some b ∧ Q (.bl b) H
def rIsXT (K : PySem.W.Frag) (cls : Value) (d : Option Addr) (a : Addr) : List V → Hp → VK → Prop := fun xs H Q => ∃ (D dd : Addr) (fs : List (Str × V)) (tp : Addr) (cs : List V) (us : List Value) (b : Bool), cls = .ref D ∧ d = some dd ∧ H dd = some (.xd fs) ∧ ExcC K D ∧ xs = [.ref a, .ref tp] ∧ H tp = some (.tup cs) ∧ Paired ClsV cs us ∧ PySem.W.kitAny K (.ref D) us = some b ∧ Q (.bl b) H
section
variable {X : Cx} {a D dd : Addr} {cls : Value} {d : Option Addr} {oe : Obj} {pn pins : List (Addr × Obj)} {σ : L2.St} {H : Hp} {s : Shared} {fs : List (Str × V)}
theorem inst_suite (I : Inv (X.suite a ((a, oe) :: pn)) pins σ H s) (hz : Zc cls d oe) (hf : ∃ vs, oe.data = .fields vs) (e1 : cls = .ref D) (e2 : d = some dd) (e3 : H dd = some (.xd fs)) : ∃ o, PySem.W.InstAt s.heap a oe D (some o) := by
  subst e1 e2
  obtain ⟨hget, _⟩ := I.pin (a, oe) (List.mem_append.mpr (.inl List.mem_cons_self))
  obtain ⟨vs, hv⟩ := hf
  obtain ⟨mA, ⟨o, es, ep, ho, _⟩, _⟩ := I.hok dd _ e3
  obtain ⟨oc, od, oda, osl⟩ := oe
  obtain ⟨h1, h2⟩ := hz
  dsimp only at h1 h2 hv
  subst h1 h2 hv
  exact ⟨o, hget, rfl, rfl, ho⟩
theorem call_isX (hz : Zc cls d oe) (hf : ∃ vs, oe.data = .fields vs) : CallR (X.suite a ((a, oe) :: pn)) (.builtin "isinstance") (rIsX X.K cls d a) := by
  intro pins s σ H xs us Q I r h
  obtain ⟨D, dd, fs, c, cv, b, e1, e2, e3, hC, rfl, hcv, e, q⟩ := h
  obtain ⟨u1, u2, rfl, r1, r2⟩ := vals2 r
  obtain rfl : u1 = Value.ref a := r1
  have e4 := hcv.eq r2
  subst e4
  obtain ⟨o, J⟩ := inst_suite I hz hf e1 e2 e3
  exact PySem.W.kia_one (Kp.kitx_xd hC) I.kIn ⟨o, J⟩ e (fun z => nomatch z) fun tk => ⟨.bl b, H, I.tok tk, rfl, q⟩
theorem call_isXT (hz : Zc cls d oe) (hf : ∃ vs, oe.data = .fields vs) : CallR (X.suite a ((a, oe) :: pn)) (.builtin "isinstance") (rIsXT X.K cls d a) := by
  intro pins s σ H xs us Q I r h
  obtain ⟨D, dd, fs, tp, cs, ws, b, e1, e2, e3, hC, rfl, hT, k, e, q⟩ := h
  obtain ⟨u1, u2, rfl, r1, r2⟩ := vals2 r
  obtain rfl : u1 = Value.ref a := r1
  obtain rfl : u2 = Value.ref tp := r2
  obtain ⟨o, J⟩ := inst_suite I hz hf e1 e2 e3
  obtain ⟨_, its, rv, o2, h1, h2, n, h3⟩ := (show ObjOk X.prog X.w H s.heap tp (.tup cs) from I.hok tp _ hT)
  have e5 := ClsV.all k rv
  subst e5
  obtain ⟨oc, od, dt, sl⟩ := o2
  simp only at h2 h3
  subst h2 h3
  exact PySem.W.kia_tup (Kp.kitx_xd hC) I.kIn ⟨o, J⟩ h1 e (fun z => nomatch z) fun tk => ⟨.bl b, H, I.tok tk, rfl, q⟩
end
end L2

set_option Elab.async false
set_option linter.all false
set_option maxRecDepth 100000
set_option maxHeartbeats 1000000
/-! ### promises that know what is under way; refusals of odd values over a ledger -/
namespace Kr
open PySem L2 PySem.Spec PyProof.Rows LamX NdefX Ke
/-! #### promises under known guards -/
structure FnOkG (P : Program) (w : World) (K : PySem.W.Frag) (mg : Str → Option Value) (base : Heap) (gg : List Code) (k : Nat) (f : Addr) (fd : FuncData) (ps : List Str) (sp : Sp) : Prop where
  len : ∀ vs H Q E, sp vs H Q E → vs.length = ps.length
  run : ∀ (A : Around) (outer : List Env) (s : Shared) (H : Hp) (args : Args) (us : List Value) (vs : List V) (Q : VK) (E : XK), A.guards = some gg → Room k A → Env0 P w K mg base A outer s H → BindsTo s fd args (ps.zip us) → Vals vs us → sp vs H Q E →
    codeAny (model P w) A (.call (.ref f) args) (CR CX0 outer P w H s Q E) s
/-- nothing said of the guards: as if they were some, whichever -/
theorem fnOk_wlog {P : Program} {w : World} {K : PySem.W.Frag} {mg : Str → Option Value} {base : Heap} {k : Nat} {f : Addr} {fd : FuncData} {ps : List Str} {sp : Sp} (h : ∀ gg, FnOkG P w K mg base gg k f fd ps sp) : FnOk P w K mg base CX0 k f fd ps sp :=
  ⟨(h []).len, fun A outer s H args us vs Q E hr e0 hb r hs => Kp.codeAny_wlog fun gg => (h gg).run _ outer s H args us vs Q E rfl ⟨hr.hd, hr.dp, hr.un⟩ ⟨e0.frames, e0.mod, e0.bs, e0.bsz, e0.funs, e0.frf, e0.hok, e0.bare⟩ hb r hs⟩
structure OkG (P : Program) (w : World) (K : PySem.W.Frag) (mg : Str → Option Value) (base : Heap) (gg : List Code) (k : Nat) (x : Str) (st : Stmt) (ps : List Str) (sp : Sp) : Prop where
  ex : ∃ f fd, mg x = some (.ref f) ∧ Fun K x x st f fd ∧ Binds K fd ps [] ∧ FnOkG P w K mg base gg k f fd ps sp
theorem Fun.okG {P : Program} {w : World} {K : PySem.W.Frag} {mg : Str → Option Value} {base : Heap} {gg : List Code} {x qual : Str} {st : Stmt} {f : Addr} {fd : FuncData} {N ps : List Str} {k : Nat} {sp : Sp} (F : Fun K x qual st f fd) (S : FnScope N ps (defScope st)) (len : ∀ vs H Q E, sp vs H Q E → vs.length = ps.length)
    (hbody : ∀ (cdv : Value), fd.code = cdv → ∀ (A : Around) (outer : List Env) (s : Shared) (H : Hp) (vs : List V) (Q : VK) (E : XK), A.guards = some gg → Room k (A.deeper (PyProof.Rows.envOfC qual (defScope st) s.heap.objs.size f cdv)) → sp vs H Q E →
      ∃ t, PSs (cxOf CX0 P w K mg base N qual (defScope st) f cdv A outer s H E).nox (defBody st) t ∧ t { nx := fun _ H' => Q .non H', rt := Q } (start N vs) H) : FnOkG P w K mg base gg (k + 1) f fd ps sp := by
  obtain ⟨oc, od, kV, doc, pm, an, cdv, ct, osl, rfl, lk, hcd⟩ := F.ex
  refine ⟨len, fun A outer s H args us vs Q E hgg hr e0 hb r hsp => ?_⟩
  have hl := len _ _ _ _ hsp
  have KX : K.In s.heap := e0.mod.kin.keeps fun b o e => (e0.bs b o e).1
  have lm : s.heap.NoLimit := e0.mod.nolimit.keeps fun b o e => (e0.bs b o e).1
  have hkd : ∀ y ∈ ps.zip us, (defScope st).names.lookup y.1 = some .local ∨ ((defScope st).names.lookup y.1 = some .cell ∧ ((cellsFrom (s.heap.objs.size + 1) (defScope st).names []).lookup y.1).isSome = true) := fun ⟨n, v⟩ hy => by
    rcases S.par n (List.of_mem_zip hy).1 with q | q
    · exact .inl q
    · exact .inr ⟨q, PySem.W.cellsFrom_some _ _ _ (.inl q)⟩
  refine codeAny_call_function hr.depth (KX _ _ lk) rfl S.co S.gen rfl (PySem.W.codeRec_of KX hcd) (hb _ _ _ _ ?_)
  refine wpAny_newFunctionEnv_cells S.kind hkd fun env he s1 x => ?_
  subst he
  refine ⟨lm.keeps x.toInCall.keep, codeAny_func ?_⟩
  obtain ⟨t, ht, hq⟩ := hbody _ rfl A outer s H vs Q E hgg (hr.deeper _) hsp
  have I : Inv (cxOf CX0 P w K mg base N qual (defScope st) f cdv A outer s H E) [] (start N vs) H s1 := inv_start S hr.hd e0 hl r x
  refine wpAny_mono (ht.nox.run [] s1 (start N vs) H _ I hq) (fun fl s' hs => ?_) fun e s' hs => hs
  have fin : ∀ {σ' : L2.St} {H' : Hp} {v : V} {u : Value}, Inv (cxOf CX0 P w K mg base N qual (defScope st) f cdv A outer s H E) [] σ' H' s' → RelV v u → Q v H' → CE outer P w H s Q u s' :=
    fun {σ' H' v u} J rv q => ⟨v, H', J.os, J.bare, J.base, J.hok, rv, q⟩
  cases fl with
  | ret u => exact let ⟨v, σ', H', J, rv, q⟩ := hs; fin J rv q
  | next => exact let ⟨σ', H', J, q⟩ := hs; fin (v := V.non) (u := Value.none) J rfl q
  | brk => exact let ⟨_, _, _, q⟩ := hs; False.elim q
  | cont => exact let ⟨_, _, _, q⟩ := hs; False.elim q
/-- the body, with the code object known or not -/
abbrev BodyG (P : Program) (w : World) (K : PySem.W.Frag) (mg : Str → Option Value) (base : Heap) (gg : List Code) (qual : Str) (st : Stmt) (N : List Str) (k : Nat) (sp : Sp) : Prop :=
  ∀ (f : Addr) (cdv : Value) (A : Around) (outer : List Env) (s : Shared) (H : Hp) (vs : List V) (Q : VK) (E : XK), A.guards = some gg → Room k (A.deeper (PyProof.Rows.envOfC qual (defScope st) s.heap.objs.size f cdv)) → sp vs H Q E →
      ∃ t, PSs (cxOf CX0 P w K mg base N qual (defScope st) f cdv A outer s H E).nox (defBody st) t ∧ t { nx := fun _ H' => Q .non H', rt := Q } (start N vs) H
abbrev BodyGT (P : Program) (w : World) (K : PySem.W.Frag) (mg : Str → Option Value) (base : Heap) (gg : List Code) (qual : Str) (st : Stmt) (N : List Str) (k : Nat) (c : Addr) (sp : Sp) : Prop :=
  ∀ (f : Addr) (A : Around) (outer : List Env) (s : Shared) (H : Hp) (vs : List V) (Q : VK) (E : XK), A.guards = some gg → Room k (A.deeper (PyProof.Rows.envOfC qual (defScope st) s.heap.objs.size f (.ref c))) → sp vs H Q E →
      ∃ t, PSs (cxOf CX0 P w K mg base N qual (defScope st) f (.ref c) A outer s H E).nox (defBody st) t ∧ t { nx := fun _ H' => Q .non H', rt := Q } (start N vs) H
section
variable {P : Program} {w : World} {K : PySem.W.Frag} {mg : Str → Option Value} {base : Heap} {gg : List Code} {x : Str} {st : Stmt} {N ps : List Str} {k : Nat} {c : Addr} {sp : Sp}
theorem OkG.of (T : TopFn K mg x st) (S : FnScope N ps (defScope st))
    (hb : ∀ (kV doc pm : Value) (an : Option Addr) (cdv ct : Value) (us : List Value), us.length = ps.length → bindArgs (PySem.W.fnOf x x (defArgs st) (defBody st) (defScope st) .none kV doc pm an cdv ct) ⟨us, []⟩ = pure (ps.zip us))
    (len : ∀ vs H Q E, sp vs H Q E → vs.length = ps.length) (body : BodyG P w K mg base gg x st N k sp) : OkG P w K mg base gg (k + 1) x st ps sp := by
  obtain ⟨f, fd, h1, F⟩ := T.ex
  exact ⟨f, fd, h1, F, F.binds hb, Fun.okG F S len fun cdv _ => body f cdv⟩
theorem OkGT.of (T : TopFnT K mg x st c) (S : FnScope N ps (defScope st))
    (hb : ∀ (kV doc pm : Value) (an : Option Addr) (cdv ct : Value) (us : List Value), us.length = ps.length → bindArgs (PySem.W.fnOf x x (defArgs st) (defBody st) (defScope st) .none kV doc pm an cdv ct) ⟨us, []⟩ = pure (ps.zip us))
    (len : ∀ vs H Q E, sp vs H Q E → vs.length = ps.length) (body : BodyGT P w K mg base gg x st N k c sp) : OkG P w K mg base gg (k + 1) x st ps sp := by
  obtain ⟨f, fd, h1, F, hc⟩ := T.ex
  refine ⟨f, fd, h1, F, F.binds hb, Fun.okG F S len fun cdv e => ?_⟩
  obtain rfl : cdv = .ref c := e.symm.trans hc
  exact body f
end
section
variable {X : Cx} {k : Nat} {x : Str} {ps : List Str} {gg : List Code} {sp : Sp} {p pos : Pos} {e : Expr} {es : List Expr} {t : TA} {st : Stmt}
theorem run_g {f : Addr} {fd : FuncData} {pins : List (Addr × Obj)} {σ : L2.St} {H : Hp} {s : Shared} {Q : VK} {us : List Value} {vs : List V} (F : FnOkG X.prog X.w X.K X.mg X.base gg k f fd ps sp) (hgg : X.A.guards = some gg) (hr : Room k X.A) (hb : Binds X.K fd ps [])
    (I : Inv X pins σ H s) (r : Vals vs us) (h : sp vs H Q E0) : wpAny (model X.prog X.w) X.A (call (.ref f) us) (EP X pins σ Q) X.xe s := by
  have hl : us.length = ps.length := by rw [← r.length]; exact F.len _ _ _ _ h
  have h2 := hb s us I.kIn (by simpa using hl)
  refine wpAny_call (codeAny_mono (F.run X.A X.stack s H ⟨us, []⟩ us vs Q E0 hgg hr I.env0 (by simpa using h2) r h) fun r s' hq => ?_)
  cases r with
  | error e => exact (pass0 (X := X) pins σ H s e s' I hq)
  | ok fl =>
    cases fl with
    | ret u => exact I.after hq
    | next => exact False.elim hq
    | brk => exact False.elim hq
    | cont => exact False.elim hq
theorem pe_ownG (O : OkG X.prog X.w X.K X.mg X.base gg k x st ps sp) (hgg : X.A.guards = some gg) (hr : Room k X.A) (hg : Gl X x) (ha : PA X (e :: es) t) (hdb : (x == ("__debug__" : Str)) = false := by decide) (he : starEach (e :: es) X.env = (false, eval e X.env) :: starEach es X.env := by rfl)
    (hpl : (backTo pos (starEach es X.env)).any (·.1) = false := by rfl) : PE X (.Call (.Name x p) (e :: es) [] pos) (tCall sp [] E0 t) := by
  obtain ⟨f, fd, h1, h2, h3, F⟩ := O.ex
  refine ⟨fun pins s σ H Q I h => ?_⟩
  refine wpAny_Call_Name_kw (ld_glob I hg h1 ?_ hdb)
  refine PySem.W.callWith_K (h₀ := X.base) I.ok.mod.kin h2.kp (thn (ha.run pos pins s σ H _ I h) fun us s1 ⟨vs, H1, I1, r, q⟩ => ⟨I1.kIn, ?_⟩) he hpl
  have q : sp (vs ++ []) H1 Q E0 := q
  rw [List.append_nil] at q
  exact run_g F hgg hr h3 I1 r q
theorem pe_callDG {sp : Heap → Sp} {cl : List (Str × Addr)} {fr : List Str} {wsf : L2.St → List (Option V)} (O : ∀ base, OkG X.prog X.w X.K X.mg base gg k x st ps (sp base)) (hgg : X.A.guards = some gg) (hC : Tells X cl fr wsf) (hr : Room k X.A) (hg : Gl X x) (ha : PA X (e :: es) t)
    (hdb : (x == ("__debug__" : Str)) = false := by decide) (he : starEach (e :: es) X.env = (false, eval e X.env) :: starEach es X.env := by rfl) (hpl : (backTo pos (starEach es X.env)).any (·.1) = false := by rfl) :
    PE X (.Call (.Name x p) (e :: es) [] pos) (tCallD sp cl fr wsf t) := by
  refine ⟨fun pins s σ H Q I h => ?_⟩
  obtain ⟨f, fd, h1, h2, _, _⟩ := (O X.base).ex
  refine wpAny_Call_Name_kw (ld_glob I hg h1 ?_ hdb)
  refine PySem.W.callWith_K (h₀ := X.base) I.ok.mod.kin h2.kp (thn (ha.run pos pins s σ H _ I h) fun us s1 ⟨vs, H1, I1, r, q⟩ => ⟨I1.kIn, ?_⟩) he hpl
  obtain ⟨C, nf⟩ := hC _ _ _ _ I1
  have e0 := env0_baseOf I1.env0
  have hq := q _ (cells_base C nf)
  obtain ⟨f2, fd2, g1, g2, hb, F⟩ := (O (baseOf s1.heap H1 (frs X.stack))).ex
  obtain rfl : f2 = f := by
    rw [h1] at g1
    exact (Value.ref.inj (Option.some.inj g1)).symm
  have hl : us.length = ps.length := by rw [← r.length]; exact F.len _ _ _ _ hq
  show wpAny _ _ (call (.ref f2) us) _ _ _
  refine wpAny_call (codeAny_mono (F.run X.A X.stack s1 H1 ⟨us, []⟩ us vs Q E0 hgg hr e0 ?_ r hq) fun r s' hq => ?_)
  · have := hb s1 us I1.kIn (by simpa using hl)
    simpa using this
  · cases r with
    | error e => exact (pass0 (X := X) pins σ H1 s1 e s' I1 hq)
    | ok fl =>
      cases fl with
      | ret u => exact I1.after hq
      | next => exact False.elim hq
      | brk => exact False.elim hq
      | cont => exact False.elim hq
end
end Kr

set_option Elab.async false
set_option linter.all false
set_option maxRecDepth 100000
set_option maxHeartbeats 1000000
/-! ### refusals of odd values over a ledger -/
namespace L2
open PySem PySem.Spec PyProof.Rows
theorem reads_bools {h : Heap} : ∀ {bs : List Bool} {its : List Value}, Vals (bs.map V.bl) its → ReadsAll h its (bs.map PyData.bool) []
  | [], _, r => by
    cases r
    exact .nil
  | b :: bs, _, r => by
    cases r with
    | cons r1 r2 =>
      obtain rfl : _ = Value.bool b := r1
      exact ReadsAll.cons (as := []) (bs := []) (Reads.bool b) (reads_bools r2)
theorem all_bools : ∀ bs : List Bool, (bs.map PyData.bool).all Shape.bool.has = true
  | [] => rfl
  | b :: bs => by
    rw [List.map_cons, List.all_cons, all_bools bs]
    rfl
/-- l.count(b) of a list of bools -/
def rCountB (K : PySem.W.Frag) : V → List V → Hp → VK → Prop := fun x xs H Q => ∃ (a : Addr) (bs : List Bool) (b : Bool), x = V.ref a ∧ xs = [.bl b] ∧ SqL K H a (bs.map V.bl) ∧ Q (.int (countIn (.bool b) (bs.map PyData.bool))) H
theorem mt_countB {X : Cx} : MtR X "list.count" (rCountB X.K) := by
  intro pins s σ H x xs v us Q I rx rxs h
  obtain ⟨a, bs, b, rfl, rfl, hs, q⟩ := h
  obtain rfl : v = Value.ref a := rx
  obtain ⟨u, rfl, ru⟩ := vals1 rxs
  obtain rfl : u = Value.bool b := ru
  obtain ⟨its, rv, hp, _⟩ := I.list hs
  exact count_list_bools hp.isList (reads_bools (h := s.heap) rv) (all_bools bs) ⟨.int _, H, I.tok _, ⟨_, rfl⟩, q⟩
theorem pe_tyA {X : Cx} {pos : Pos} (hg : Gl X "ArithmeticError") (hm : X.mg "ArithmeticError" = none) : PE X (.Name "ArithmeticError" pos) (tC (.ty "ArithmeticError")) := pe_bltn hg hm (by decide +kernel) rfl
end L2
namespace Kr
open PySem L2 PySem.Spec PyProof.Rows LamX NdefX Ke
/-! #### the raising of an own exception whose field is an odd value -/
def sp_fieldO (K : PySem.W.Frag) (C : Addr) (fld : Str) : Sp := fun vs H Q _ => ∃ (a : Addr) (o : OV), vs = [.ref a, o.v] ∧ o.At H ∧ H a = some (exo a C none) ∧ OexA K C ∧ PySem.W.findIn K (.ref C) fld = some none ∧
  ∀ d, H d = none → d ≠ a → Q .non (upd (upd H d (exd d [(fld, o.v)])) a (exo a C (some d)))
section
variable {g : Gr} {L : Led} {σ : L2.St} {K : Ks} {Kf : PySem.W.Frag} {C : Addr} {fld : Str} {ta : TA} {W : WX}
theorem ws_raiseO (hno : PySem.W.findIn Kf (.ref C) fld = some none) (hC : OexA Kf C) (h : Wp g L (ta σ) fun vs L1 => ∃ o : OV, vs = [o.v] ∧ (∀ H, At g L1 H → o.At H) ∧ EX g L1 (fun c d H => W c d σ H) C [(fld, o.v)]) :
    Ws g L (fun _ σ H => tMkO C (sp_fieldO Kf C fld) [] ta σ H fun cls d H' => W cls d σ H') σ K :=
  fun H z D e => h H z _ fun vs L1 H1 ⟨o, e1, hl, k⟩ z1 => by
    subst e1
    have up : ∀ a, H1 a = none → Same H1 (upd H1 a (exo a C none)) := fun a ha b u hb => by
      rw [upd_ne (ne_of_none hb ha)]
      exact hb
    refine ⟨by simp, fun a ha => ⟨a, o, rfl, (hl H1 z1).same (up a ha), upd_same, hC, hno, fun d hd hda => ?_⟩⟩
    have hd1 : H1 d = none := by rw [← hd, upd_ne hda]
    have e3 : upd (del (upd (upd (upd H1 a (exo a C none)) d (exd d [(fld, o.v)])) a (exo a C (some d))) a) d (.xd [(fld, o.v)]) = upd H1 d (.xd [(fld, o.v)]) := by
      funext b
      by_cases h1 : b = d
      · rw [h1, upd_same, upd_same]
      · rw [upd_ne h1, upd_ne h1]
        by_cases h2 : b = a
        · rw [h2, del_same, ha]
        · rw [del_ne h2, upd_ne h2, upd_ne h1, upd_ne h2]
    refine ⟨rfl, d, _, upd_same, (upd_ne hda).trans upd_same, hd1, ?_⟩
    rw [e3]
    exact k _ d (z1.upd_new hd1)
end
/-- a written text -/
abbrev OV.lit (y : Str) (h1 : (reprText y).length ≤ 1000 := by decide +kernel) (h2 : PyData.strOk (reprText y) = true := by decide +kernel) : OV := .str y h1 h2
theorem joined_le {m y : Str} (hy : y.length ≤ 2000) (hm : m.length ≤ 100 := by decide) : ((Str.empty ++ m) ++ y).length ≤ sizeLine := by
  have h2 : ((Str.empty ++ m) ++ y).length = m.length + y.length := by
    rw [Str.length_append, Str.length_append, show Str.empty.length = 0 from rfl, Nat.zero_add]
  rw [h2]
  have : (2100 : Nat) ≤ sizeLine := by decide
  omega
section
variable {g : Gr} {L : Led} {C : V → Led → Prop} {σ : L2.St} {Kf : PySem.W.Frag} {a D dd : Addr} {fs : List (Str × V)} {b bo : Bool}
theorem wc_isX {c : V} {cv : Value} (i : Nat) (h : L[i]? = some (dd, .ob (.xd fs), bo)) (hC : ExcC Kf D) (hv : ClsV c cv) (hk : PySem.W.kitOne Kf (.ref D) cv = some b) (k : C (.bl b) L) : Wp g L (rIsX Kf (.ref D) (some dd) a [.ref a, c]) C :=
  .now (fun H _ z q => ⟨D, dd, fs, c, cv, b, rfl, rfl, z.get h, hC, rfl, hv, hk, q⟩) k
theorem wc_isXT {tp : Addr} {cs : List V} {us : List Value} {b2 : Bool} (i : Nat) (h : L[i]? = some (dd, .ob (.xd fs), bo)) (hC : ExcC Kf D) (j : Nat) (ht : L[j]? = some (tp, .ob (.tup cs), b2)) (hv : Paired ClsV cs us) (hk : PySem.W.kitAny Kf (.ref D) us = some b) (k : C (.bl b) L) :
    Wp g L (rIsXT Kf (.ref D) (some dd) a [.ref a, .ref tp]) C := .now (fun H _ z q => ⟨D, dd, fs, tp, cs, us, b, rfl, rfl, z.get h, hC, rfl, z.get ht, hv, hk, q⟩) k
theorem wc_repr {gg : List Code} {o : OV} (h : ∀ H, At g L H → o.At H) (k : C (.str (o.tx gg)) L) : Wp g L (rRepr gg [o.v]) C := .now (fun H _ z q => ⟨o, rfl, h H z, q⟩) k
theorem wr_countB {bs : List Bool} {b : Bool} (s : Seen Kf g L a (bs.map V.bl)) (k : C (.int (countIn (.bool b) (bs.map PyData.bool))) L) : Wp g L (rCountB Kf (.ref a) [.bl b]) C :=
  fun H z Q q => ⟨a, bs, b, rfl, rfl, s.at_ H z, q _ _ _ k z⟩
theorem wc_isi_intV {o : OV} (h : ∀ H, At g L H → o.At H) (c : C (.bl (isNv o.v)) L) : Wp g L (rIsi Kf [o.v, .ty "int"]) C := wc_isi_intO (fun H z => (h H z).od) c
theorem wc_isi_boolV {o : OV} (h : ∀ H, At g L H → o.At H) (c : C (.bl (isBv o.v)) L) : Wp g L (rIsi Kf [o.v, .ty "bool"]) C := wc_isi_boolO (fun H z => (h H z).od) c
end
/-! #### several places that may change -/
/-- all but some places -/
def ExcM (mu : Addr → Prop) (H H' : Hp) : Prop := ∀ c o, H c = some o → ¬ mu c → H' c = some o
theorem Ent.In.keep {e : Ent} {H H' : Hp} {u : HO} (h : e.In H u) (s : ∀ c o, H c = some o → ((∃ r, o = .tup r) ∨ (∃ φ, o = .ext φ) ∨ ∃ C dx fs, o = .ins C dx fs) → H' c = some o) : e.In H' u := by
  cases e with
  | rows rs =>
    obtain ⟨as, h1, h2, h3⟩ := h
    exact ⟨as, h1, h2, fun k b r q1 q2 => s _ _ (h3 k b r q1 q2) (.inl ⟨r, rfl⟩)⟩
  | inss C fss =>
    obtain ⟨as, h1, h2, h3⟩ := h
    exact ⟨as, h1, h2, fun k b r q1 q2 => (h3 k b r q1 q2).imp fun dx q3 => s _ _ q3 (.inr (.inr ⟨C, dx, r, rfl⟩))⟩
  | tab q =>
    obtain ⟨ps, h1, h2, h3⟩ := h
    exact ⟨ps, h1, h2, fun pos cv hc => (h3 pos cv hc).imp fun c z => ⟨z.1, s _ _ z.2 (.inr (.inl ⟨_, rfl⟩))⟩⟩
  | fro F => exact F.keep _ _ _ (fun c r e => s _ _ e (.inl ⟨r, rfl⟩)) h
  | ob o => exact h
  | src n => exact h
  | well n => exact h
/-- entries that may change: each with what it becomes -/
theorem At.chgM {g : Gr} {L L' : Led} {H H' : Hp} {mu : Addr → Prop} (z : At g L H) (hl : L'.length = L.length)
    (hc : ∀ (i : Nat) (p q : Addr × Ent × Bool), L[i]? = some p → L'[i]? = some q → q.1 = p.1 ∧ q.2.2 = p.2.2 ∧ ((q = p ∧ (¬ mu p.1 ∨ EntAt q.2.1 H' q.1)) ∨ (p.2.2 = true ∧ p.2.1.mov2 = true ∧ EntAt q.2.1 H' q.1)))
    (hm : ∀ c, mu c → ∃ (i : Nat) (e : Ent), L[i]? = some (c, e, true) ∧ e.mov2 = true) (s : ExcM mu H H') : At g L' H' := by
  have nmu : ∀ c o, H c = some o → ((∃ r, o = .tup r) ∨ (∃ φ, o = .ext φ) ∨ ∃ C dx fs, o = .ins C dx fs) → H' c = some o := fun c o h k => by
    refine s c o h fun m => ?_
    obtain ⟨i, e, h1, h2⟩ := hm c m
    obtain ⟨u, h3, h4⟩ := z.look h1
    rw [h] at h3
    have e3 := Option.some.inj h3
    subst e3
    have n1 := Ent.mov_ne (Ent.mov2_mov h2) h4
    have n2 := Ent.insq_ne (Ent.mov2_insq h2) h4
    rcases k with ⟨r, rfl⟩ | ⟨φ, rfl⟩ | ⟨C, dx, fs, rfl⟩
    · exact n1.1 r rfl
    · exact n1.2 φ rfl
    · exact n2 C dx fs rfl
  have at_ : ∀ (i : Nat) (q : Addr × Ent × Bool), L'[i]? = some q → ∃ p, L[i]? = some p := fun i q h => by
    have hi := (List.getElem?_eq_some_iff.mp h).1
    exact ⟨L[i]'(by omega), List.getElem?_eq_getElem (by omega)⟩
  refine ⟨fun b o e m => ?_, fun q hq => ?_, fun q hq hb => ?_, ?_⟩
  · refine s _ _ (z.old b o e m) fun k => ?_
    obtain ⟨i, en, h1, h2⟩ := hm b k
    rcases z.own _ (List.mem_of_getElem? h1) rfl with w | w
    · rw [show g.H0 b = none from w] at e
      cases e
    · exact m w
  · obtain ⟨i, hi⟩ := List.mem_iff_getElem?.mp hq
    obtain ⟨p, hp⟩ := at_ i q hi
    obtain ⟨h1, h2, h3⟩ := hc i p q hp hi
    rcases h3 with ⟨rfl, h4 | h4⟩ | ⟨_, _, h4⟩
    · obtain ⟨o, h5, h6⟩ := z.look (i := i) (a := q.1) (e := q.2.1) (b := q.2.2) hp
      exact ⟨o, s _ _ h5 h4, h6.keep nmu⟩
    · exact h4
    · exact h4
  · obtain ⟨i, hi⟩ := List.mem_iff_getElem?.mp hq
    obtain ⟨p, hp⟩ := at_ i q hi
    obtain ⟨h1, h2, h3⟩ := hc i p q hp hi
    rw [h1]
    exact z.own p (List.mem_of_getElem? hp) (by rw [← h2]; exact hb)
  · rw [List.pairwise_iff_getElem]
    intro i j hi hj hij e
    have hi2 : i < L.length := by omega
    have hj2 : j < L.length := by omega
    have p1 := List.getElem?_eq_getElem hi2
    have p2 := List.getElem?_eq_getElem hj2
    obtain ⟨a1, a2, a3⟩ := hc i _ _ p1 (List.getElem?_eq_getElem hi)
    obtain ⟨b1, b2, b3⟩ := hc j _ _ p2 (List.getElem?_eq_getElem hj)
    have hn := List.pairwise_iff_getElem.mp z.nd i j hi2 hj2 hij (by rw [← a1, ← b1]; exact e)
    rw [a2, b2]
    rcases hn with ⟨n1, n2⟩ | n
    · left
      constructor
      · rcases a3 with ⟨q, _⟩ | ⟨_, m, _⟩
        · rw [q]
          exact n1
        · rw [Ent.mov2_mov m] at n1
          cases n1
      · rcases b3 with ⟨q, _⟩ | ⟨_, m, _⟩
        · rw [q]
          exact n2
        · rw [Ent.mov2_mov m] at n2
          cases n2
    · exact .inr n
end Kr

set_option Elab.async false
set_option linter.all false
set_option maxRecDepth 100000
set_option maxHeartbeats 1000000
/-! ### deeds that need more than a ledger; lists of pairs, pair by pair; odd values where some places change -/
namespace Kr
open PySem L2 PySem.Spec PyProof.Rows LamX NdefX Ke
/-- at the entry: the captured values, what stands in the heap, a word about the heap -/
def lspP (ws0 : List (Option V)) (L0 : Led) (Ph : Hp → Prop) (o : Out) : List (Option V) → Hp → VK → XK → Prop := fun ws H Q E => ws = ws0 ∧ At ⟨H, fun _ => False⟩ L0 H ∧ Ph H ∧ OutGo H o Q E
theorem lok_goodP {P : Program} {w : World} {K : PySem.W.Frag} {mg : Str → Option Value} {k : Nat} {N ps fr : List Str} {F : LF} {t : XK → TE} {dvs : List V} {ws0 : List (Option V)} {L0 : Led} {Ph : Hp → Prop} {o : Out} (G : Good P w K mg k N ps fr F t) (hl : dvs.length = ps.length)
    (hw : ∀ (H : Hp) (E : XK), Ph H → (∀ C fs, o = some (C, fs) → EX ⟨H, fun _ => False⟩ L0 E C fs) → Wp ⟨H, fun _ => False⟩ L0 (fun H Q => t E (startF N dvs ws0) H Q) fun _ _ => o = none) (base : Heap) (f : Addr) :
    LOk P w K mg base (k + 1) f F dvs fr (lspP ws0 L0 Ph o) := by
  refine lok_of G.sc hl G.b0 G.b1 fun A outer s H ws Q E hr _ ⟨e1, z, hp, ho⟩ => ⟨t E, G.body base f A outer s H E hr, ?_⟩
  subst e1
  refine hw H E hp (fun C fs e => ?_) H z Q fun v L' H' e z' => ?_
  · subst e
    exact ex_of fun d H' n sm hd => ho H' d sm n hd
  · subst e
    exact ho v H' z'.since
theorem deed_mkP {P : Program} {w : World} {K : PySem.W.Frag} {mg : Str → Option Value} {base : Heap} {k : Nat} {f : Addr} {F : LF} {dvs : List V} {fr : List Str} {ws0 : List (Option V)} {L0 L : Led} {Ph : Hp → Prop} {o : Out} {g : Gr} {b1 b2 : Bool}
    (hF : ∀ (base : Heap) (f : Addr), LOk P w K mg base k f F dvs fr (lspP ws0 L0 Ph o)) (C : CellsAt F.cl fr ws0 base fun _ => none)
    (jf jc : Nat) (hf : L[jf]? = some (f, .ob (LamO f F), b1)) (hc : L[jc]? = some (F.c, .ob (CodeO F.c F.qual), b2)) (hd : (dvs = [] ∧ F.dV = .none) ∨ ∃ (u : Addr) (jt : Nat) (bt : Bool), F.dV = .ref u ∧ L[jt]? = some (u, .ob (.tup dvs), bt))
    (h : ∀ p ∈ L0, p.2.2 = false ∧ ∃ (j : Nat) (b : Bool), L[j]? = some (p.1, p.2.1, b)) (hP : ∀ H H', At g L H → Same H H' → Ph H') : ∀ H, At g L H → Deed P w K mg base k H f o := fun H z => by
  refine Deed.of (hF base f) C (z.get hf) (z.get hc) ?_ fun H' Q E sm ho => ⟨rfl, z.part sm h, hP H H' z sm, ho⟩
  rcases hd with q | ⟨u, jt, bt, h1, h2⟩
  · exact .inl q
  · exact .inr ⟨u, h1, z.get h2⟩
/-! #### odd values: where they stand, whatever changes -/
theorem OV.At.keepM {o : OV} {H H' : Hp} {mu : Addr → Prop} (h : o.At H) (s : ∀ b u, H b = some u → ¬ mu b → H' b = some u) (hm : ∀ c, mu c → ∃ u, H c = some u ∧ (∀ n, u ≠ .lst [.int n]) ∧ (∀ r, u ≠ .tup r) ∧ u ≠ .dK []) : o.At H' := by
  have key : ∀ b u, H b = some u → ((∃ n, u = .lst [.int n]) ∨ (∃ r, u = .tup r) ∨ u = .dK []) → H' b = some u := fun b u e k => s b u e fun m => by
    obtain ⟨u2, e2, n1, n2, n3⟩ := hm b m
    rw [e] at e2
    have e3 := Option.some.inj e2
    subst e3
    rcases k with ⟨n, rfl⟩ | ⟨r, rfl⟩ | rfl
    · exact n1 n rfl
    · exact n2 r rfl
    · exact n3 rfl
  cases o with
  | lst a n => exact ⟨h.1, key _ _ h.2 (.inl ⟨n, rfl⟩)⟩
  | tup a n => exact ⟨h.1, key _ _ h.2 (.inr (.inl ⟨_, rfl⟩))⟩
  | dct a => exact key _ _ h (.inr (.inr rfl))
  | _ => exact h
theorem nov_tab {q : Str} {H : Hp} {a : Addr} (h : EntAt (.tab q) H a) : ∃ u, H a = some u ∧ (∀ n, u ≠ .lst [.int n]) ∧ (∀ r, u ≠ .tup r) ∧ u ≠ .dK [] := by
  obtain ⟨o, h1, ps, rfl, _⟩ := h
  exact ⟨_, h1, (fun n e => by cases e), (fun r e => by cases e), (fun e => by cases e)⟩
theorem nov_src {n : Nat} {H : Hp} {a : Addr} (h : EntAt (.src n) H a) : ∃ u, H a = some u ∧ (∀ n, u ≠ .lst [.int n]) ∧ (∀ r, u ≠ .tup r) ∧ u ≠ .dK [] := by
  obtain ⟨o, h1, x, y, z, rfl, _⟩ := h
  exact ⟨_, h1, (fun n e => by cases e), (fun r e => by cases e), (fun e => by cases e)⟩
theorem nov_well {n : Nat} {H : Hp} {a : Addr} (h : EntAt (.well n) H a) : ∃ u, H a = some u ∧ (∀ n, u ≠ .lst [.int n]) ∧ (∀ r, u ≠ .tup r) ∧ u ≠ .dK [] := by
  obtain ⟨o, h1, x, y, z, rfl, _⟩ := h
  exact ⟨_, h1, (fun n e => by cases e), (fun r e => by cases e), (fun e => by cases e)⟩
/-- an int from k on -/
def OV.atl (k : Int) : OV → Bool
  | .num n => decide (k ≤ n)
  | _ => false
theorem OV.bad {o : OV} {k : Int} (h : o.atl k = false) : (∃ n, o = .num n ∧ n < k) ∨ isIv o.v = false := by
  cases o with
  | num n =>
    have h : decide (k ≤ n) = false := h
    rw [decide_eq_false_iff_not] at h
    exact .inl ⟨n, rfl, by omega⟩
  | non => exact .inr rfl
  | bl b => exact .inr rfl
  | str s _ _ => exact .inr rfl
  | lst a n => exact .inr rfl
  | tup a n => exact .inr rfl
  | dct a => exact .inr rfl
/-! #### a list of pairs that stand in the ledger -/
section
variable {g : Gr} {L : Led} {Kf : PySem.W.Frag} {a : Addr}
theorem iter_prs (i1 i2 : Nat) {xs : List (Addr × V × V)} (s : Seen Kf g L a (xs.map fun p => V.ref p.1)) (js : List Nat) (h : js.map (fun j => (L[j]?).map fun p => (p.1, p.2.1)) = xs.map fun p => some (p.1, .ob (.tup [p.2.1, p.2.2]))) :
    Iter g L (Itl Kf a) (gTup Kf 2 (gNames [i1, i2])) xs (fun x σ => (σ.set i1 (some x.2.1)).set i2 (some x.2.2)) := ⟨fun H z => by
  have hs := s.at_ H z
  refine ⟨⟨_, hs, by rw [List.length_map]; exact Nat.le_refl _⟩, fun k x hx => ?_⟩
  have hx2 : (xs.map fun p => V.ref p.1)[k]? = some (.ref x.1) := by rw [List.getElem?_map, hx]; rfl
  refine ⟨⟨_, _, hs, hx2⟩, fun v H' hy => ?_⟩
  obtain ⟨e1, e2⟩ := hy
  subst e1
  have h1 : (js.map (fun j => (L[j]?).map fun p => (p.1, p.2.1)))[k]? = some (some (x.1, .ob (.tup [x.2.1, x.2.2]))) := by
    rw [h, List.getElem?_map, hx]
    rfl
  rw [List.getElem?_map] at h1
  cases hj : js[k]? with
  | none =>
    rw [hj] at h1
    cases h1
  | some j =>
    rw [hj] at h1
    have h2 : (L[j]?).map (fun p => (p.1, p.2.1)) = some (x.1, Ent.ob (.tup [x.2.1, x.2.2])) := Option.some.inj h1
    cases e : L[j]? with
    | none =>
      rw [e] at h2
      cases h2
    | some q =>
      rw [e] at h2
      obtain ⟨b, en, bo⟩ := q
      have h3 := Option.some.inj (show some (b, en) = some (x.1, Ent.ob (.tup [x.2.1, x.2.2])) from h2)
      cases h3
      have h4 := z.get e
      have e3 := e2 _ hs
      rw [hx2] at e3
      have e3 := Option.some.inj e3
      subst e3
      exact ⟨same_refl, fun σ Q q => ⟨_, _, rfl, SqT.of h4, rfl, gNames_ok [i1, i2] [x.2.1, x.2.2] rfl q⟩⟩⟩
end
end Kr

set_option Elab.async false
set_option linter.all false
set_option maxRecDepth 100000
set_option maxHeartbeats 1000000
/-! ### promises where a source and tables may change -/
namespace Kr
open PySem L2 PySem.Spec PyProof.Rows LamX NdefX Ke
abbrev TabL := List (Nat × Addr × Str)
def TabsIn (L : Led) (ts : TabL) : Prop := ∀ t ∈ ts, L[t.1]? = some (t.2.1, .tab t.2.2, true)
def TabsAt (H : Hp) (ts : TabL) : Prop := ∀ t ∈ ts, EntAt (.tab t.2.2) H t.2.1
theorem tabs0 {L : Led} : TabsIn L [] := fun t h => by cases h
theorem tabs1 {L : Led} {j : Nat} {T : Addr} {q : Str} (h : L[j]? = some (T, .tab q, true)) : TabsIn L [(j, T, q)] := fun t ht => by
  obtain rfl : t = (j, T, q) := by simpa using ht
  exact h
theorem tabsC {L : Led} {j : Nat} {T : Addr} {q : Str} {ts : TabL} (h : L[j]? = some (T, .tab q, true)) (k : TabsIn L ts) : TabsIn L ((j, T, q) :: ts) := fun t ht => by
  rcases List.mem_cons.mp ht with rfl | ht
  · exact h
  · exact k t ht
section
variable {g : Gr} {L : Led} {H H' : Hp} {a : Addr} {e e' : Ent} {i : Nat} {ts : TabL}
theorem mu_tabs (z : At g L H) (hj : TabsIn L ts) {c : Addr} (hc : c ∈ ts.map (·.2.1)) : ∃ (i : Nat) (e : Ent), L[i]? = some (c, e, true) ∧ e.mov2 = true := by
  obtain ⟨t, ht, rfl⟩ := List.mem_map.mp hc
  exact ⟨t.1, _, hj t ht, rfl⟩
theorem ent_tabs (z : At g L H) (hj : TabsIn L ts) (ht : TabsAt H' ts) {i : Nat} {p : Addr × Ent × Bool} (hp : L[i]? = some p) : p.1 ∉ ts.map (·.2.1) ∨ EntAt p.2.1 H' p.1 := by
  by_cases hc : p.1 ∈ ts.map (·.2.1)
  · right
    obtain ⟨t, h1, h2⟩ := List.mem_map.mp hc
    have h3 := hj t h1
    by_cases hi : i = t.1
    · subst hi
      rw [h3] at hp
      have := Option.some.inj hp
      subst this
      exact ht t h1
    · exact absurd h2 (nd_ne z.nd h3 hp (fun q => hi q.symm) (.inl rfl) (.inl rfl))
  · exact .inl hc
theorem At.chgT0 (z : At g L H) (hj : TabsIn L ts) (s : ExcM (fun c => c ∈ ts.map (·.2.1)) H H') (ht : TabsAt H' ts) : At g L H' :=
  z.chgM rfl (fun i p q hp hq => by
    rw [hp] at hq
    have := Option.some.inj hq
    subst this
    exact ⟨rfl, rfl, .inl ⟨rfl, ent_tabs z hj ht hp⟩⟩) (fun c hc => mu_tabs z hj hc) s
theorem At.chgTs (z : At g L H) (k : L[i]? = some (a, e, true)) (hmv : e.mov2 = true) (hj : TabsIn L ts) (s : ExcM (fun c => c ∈ a :: ts.map (·.2.1)) H H') (he : EntAt e' H' a) (ht : TabsAt H' ts) : At g (L.set i (a, e', true)) H' :=
  z.chgM (by simp) (fun j p q hp hq => by
    by_cases hij : i = j
    · subst hij
      rw [k] at hp
      have := Option.some.inj hp
      subst this
      rw [List.getElem?_set_self (List.getElem?_eq_some_iff.mp k).1] at hq
      have := Option.some.inj hq
      subst this
      exact ⟨rfl, rfl, .inr ⟨rfl, hmv, he⟩⟩
    · rw [List.getElem?_set_ne hij, hp] at hq
      have := Option.some.inj hq
      subst this
      refine ⟨rfl, rfl, .inl ⟨rfl, ?_⟩⟩
      rcases ent_tabs z hj ht hp with h | h
      · exact .inl fun m => by
          rcases List.mem_cons.mp m with m | m
          · exact nd_ne z.nd k hp hij (.inl (Ent.mov2_mov hmv)) (.inl rfl) m.symm
          · exact h m
      · exact .inr h) (fun c hc => by
    rcases List.mem_cons.mp hc with rfl | hc
    · exact ⟨i, e, k, hmv⟩
    · exact mu_tabs z hj hc) s
/-! #### the entry's ledger -/
def tabOnly (L : Led) : Bool := L.all fun p => match p.2.1 with
  | .tab _ => true
  | _ => false
def noTbl (L : Led) : Bool := L.all fun p => match p.2.1 with
  | .ob (.tbl _) => false
  | .ob _ => true
  | _ => false
theorem at_tab {T : Addr} {q : Str} {h : Hp} (z : At g L h) (he : EntAt (.tab q) h T) (hmu : g.mu T) (hn : noTbl L = true) : At g ((T, .tab q, true) :: L) h := by
  obtain ⟨o, h1, h2⟩ := he
  exact at_consT z h1 h2 hmu hn
/-- a table before tables and objects that are no tables -/
theorem at_tab2 {T : Addr} {q : Str} {Lt : Led} {h : Hp} (z : At g (Lt ++ L) h) (he : EntAt (.tab q) h T) (hmu : g.mu T) (hn : noTbl L = true) (hd : ∀ p ∈ Lt, p.1 ≠ T) : At g ((T, .tab q, true) :: (Lt ++ L)) h := by
  obtain ⟨o, h1, h2⟩ := he
  refine at_cons z h1 h2 (fun hm => ?_) fun _ => .inr hmu
  obtain ⟨p, hp, e⟩ := List.mem_map.mp hm
  rcases List.mem_append.mp hp with hp2 | hp2
  · exact hd p hp2 e
  · have h3 := List.all_eq_true.mp hn p hp2
    obtain ⟨u, h4, h5⟩ := z.led p hp
    obtain ⟨ps, rfl, _⟩ := h2
    rw [e, h1] at h4
    cases h4
    revert h3
    cases hq : p.2.1 with
    | ob w =>
      rw [hq] at h5
      have h5 : HO.tbl ps = w := h5
      subst h5
      simp
    | _ => simp
/-- a source before tables -/
theorem at_srcT {E : Ent} {h : Hp} (z : At g L h) (he : EntAt E h a) (hE : ∀ u, E.In h u → ∃ xs, u = .lst xs) (hmu : g.mu a) (hn : tabOnly L = true) : At g ((a, E, true) :: L) h := by
  obtain ⟨o, h1, h2⟩ := he
  refine at_cons z h1 h2 (fun hm => ?_) fun _ => .inr hmu
  obtain ⟨p, hp, e⟩ := List.mem_map.mp hm
  have h3 := List.all_eq_true.mp hn p hp
  obtain ⟨u, h4, h5⟩ := z.led p hp
  obtain ⟨xs, rfl⟩ := hE o h2
  rw [e, h1] at h4
  cases h4
  revert h3
  cases hq : p.2.1 with
  | tab q =>
    rw [hq] at h5
    obtain ⟨ps, h6, _⟩ := h5
    cases h6
  | _ => simp
theorem in_well {n : Nat} {h : Hp} : ∀ u, (Ent.well n).In h u → ∃ xs, u = .lst xs := fun u ⟨x, y, z, e, _⟩ => ⟨_, e⟩
theorem in_src {n : Nat} {h : Hp} : ∀ u, (Ent.src n).In h u → ∃ xs, u = .lst xs := fun u ⟨x, y, z, e, _⟩ => ⟨_, e⟩
end
/-! #### the ends -/
def kT0 (ts : TabL) (R : V → Prop) : Ks := { nx := fun _ _ => False, rt := fun v L => R v ∧ TabsIn L ts }
def kTS (E : Nat → Ent) (a : Addr) (m c : Nat) (ts : TabL) (R : V → Prop) : Ks := { nx := fun _ _ => False, rt := fun v L => R v ∧ (∃ k, k ≤ c ∧ L[0]? = some (a, E (m + k), true)) ∧ TabsIn L ts }
theorem TabsIn.at_ {g : Gr} {L : Led} {H : Hp} {ts : TabL} (h : TabsIn L ts) (z : At g L H) : TabsAt H ts := fun t ht => z.look (h t ht)
theorem eo_T0 {H0 : Hp} {mu : Addr → Prop} {ts : TabL} {R : V → Prop} {Q : VK} (h : ∀ v H', R v → TabsAt H' ts → ExcM mu H0 H' → Q v H') : Eo ⟨H0, mu⟩ (kT0 ts R) { nx := fun _ H' => Q .non H', rt := Q } :=
  ⟨fun _ _ _ k _ => k.elim, fun v L H ⟨r, k⟩ z => h v H r (k.at_ z) z.old, fun _ _ _ k _ => k.elim, fun _ _ _ k _ => k.elim⟩
theorem eo_TS {E : Nat → Ent} {H0 : Hp} {mu : Addr → Prop} {a : Addr} {m c : Nat} {ts : TabL} {R : V → Prop} {Q : VK} (mono : ∀ {k : Nat} {H : Hp}, k ≤ c → EntAt (E (m + k)) H a → EntAt (E (m + c)) H a)
    (h : ∀ v H', R v → EntAt (E (m + c)) H' a → TabsAt H' ts → ExcM mu H0 H' → Q v H') : Eo ⟨H0, mu⟩ (kTS E a m c ts R) { nx := fun _ H' => Q .non H', rt := Q } :=
  ⟨fun _ _ _ k _ => k.elim, fun v L H ⟨r, ⟨k, hk, e⟩, t⟩ z => h v H r (mono hk (z.look e)) (t.at_ z) z.old, fun _ _ _ k _ => k.elim, fun _ _ _ k _ => k.elim⟩
end Kr
namespace Kr
open PySem L2
theorem room_repr {k : Nat} {A : Around} (r : Room k A) : A.units + 1 < cLine := by
  have := r.un
  omega
theorem room_units {k : Nat} {A : Around} (r : Room k A) : A.units < cLine := by
  have := r.un
  omega
end Kr
namespace L2
open PySem PySem.Spec PyProof.Rows
/-- a field of the exception that the suite holds; its class by the reading -/
def tXfG (K : PySem.W.Frag) (a : Addr) (cls : Value) (d : Option Addr) (f : Str) (te : TE) : TE := fun σ H Q => te σ H fun x H1 => x = .ref a ∧ ∃ (C dd : Addr) (fs : List (Str × V)) (v : V), cls = .ref C ∧ XfC K C ∧ PySem.W.findIn K (.ref C) f = some none ∧ d = some dd ∧ H1 dd = some (.xd fs) ∧ fs.lookup f = some v ∧ Q v H1
theorem pe_xfG {X : Cx} {a : Addr} {oe : Obj} {cls : Value} {d : Option Addr} {pn : List (Addr × Obj)} {e : Expr} {te : TE} {pos : Pos} {n : Str} (hz : L2N.Zn cls d oe) (hf : ∃ vs, oe.data = .fields vs) (he : PE (X.suite a ((a, oe) :: pn)) e te)
    (hb : attributeBase e n X.env (eval e X.env) = eval e X.env := by rfl) : PE (X.suite a ((a, oe) :: pn)) (.Attribute e n pos) (tXfG X.K a cls d n te) := by
  refine ⟨fun pins s σ H Q I h => ?_⟩
  refine attr_of hb (thn (he.run pins s σ H _ I h) fun u s1 hh => ?_)
  obtain ⟨x, H1, I1, rx, ex, C, dd, fs, v, ec, T, hno, ed, ea, l, q⟩ := hh
  subst ex ec ed
  obtain rfl : u = Value.ref a := rx
  obtain ⟨ha, _⟩ := I1.pin (a, oe) (List.mem_append_left _ List.mem_cons_self)
  obtain ⟨vs, hd⟩ := hf
  obtain ⟨mA, hns, hr⟩ := (show ObjOk X.prog X.w H1 s1.heap dd (.xd fs) from I1.hok dd _ ea)
  obtain ⟨od, ho, hl⟩ := lookIn_ns hns
  obtain ⟨u, hu, ru⟩ := RelO.some_of (v := v) (o := mA n) (by rw [← l]; exact hr n)
  have nc : PySem.W.notCls oe = true := by
    unfold PySem.W.notCls
    rw [hd] <;> rfl
  have J : PySem.W.InstAt s1.heap a oe C (some od) := ⟨ha, hz.1, nc, by rw [hz.2.1]; exact ho⟩
  exact HandSPX.exc_get I1.kIn J T.ga T.gg T.exC (PySem.W.findObj_own T.hdC hno rfl (by rw [hl, hu])) (handed_of ru) ⟨v, H1, I1.tok _, ru, q⟩
end L2
namespace Kr
open PySem L2
theorem wp_xfG {g : Gr} {L : Led} {σ : L2.St} {Kf : PySem.W.Frag} {a d C : Addr} {f : Str} {te : TE} {D : V → Led → Prop} (T : XfC Kf C) (hno : PySem.W.findIn Kf (.ref C) f = some none)
    (h : Wp g L (te σ) fun x L1 => x = .ref a ∧ ∃ (i : Nat) (fs : List (Str × V)) (v : V) (bo : Bool), L1[i]? = some (d, .ob (.xd fs), bo) ∧ fs.lookup f = some v ∧ D v L1) : Wp g L (tXfG Kf a (.ref C) (some d) f te σ) D :=
  fun H z Q q => h H z _ fun x L1 H1 ⟨e1, i, fs, v, bo, hi, hl, k⟩ z1 => ⟨e1, C, d, fs, v, rfl, T, hno, rfl, z1.get hi, hl, q _ _ _ k z1⟩
end Kr
namespace L2
open PySem PySem.Spec PyProof.Rows
theorem mt_countBK {X : Cx} {Kf : PySem.W.Frag} (hK : X.K = Kf) : MtR X "list.count" (rCountB Kf) := by
  subst hK
  exact mt_countB
theorem pe_bmK {X : Cx} {Kf : PySem.W.Frag} {T id : String} {name : Str} {r : V → List V → Hp → VK → Prop} {o e : Expr} {es : List Expr} {to : TE} {t : TA} {apos cpos : Pos} (hK : X.K = Kf) (pa : PlainAttrs T) (slot : Slot T name id) (hty : typeOf (.builtin id) = pure (.type "method_descriptor")) (hm : MtR X id r) (ho : PE X o to) (ha : PA X (e :: es) t)
    (hbase : attributeBase o name X.env (eval o X.env) = eval o X.env := by rfl)
    (hfew : ((backTo cpos (starEach (e :: es) X.env)).all (fun x => !x.1) && (backToKw cpos (keywordEach [] X.env)).all (fun x => x.1.isSome)
      && decide ((e :: es).length + ([] : List Keyword).length + (if ([] : List Keyword).isEmpty then 0 else 1) < 30)) = true := by rfl)
    (hline : (apos.endLine == cpos.line) = true := by rfl) (hs : starEach (e :: es) X.env = (false, eval e X.env) :: starEach es X.env := by rfl) (hplain : (backTo cpos (starEach es X.env)).any (·.1) = false := by rfl) :
    PE X (.Call (.Attribute o name apos) (e :: es) [] cpos) (tBM Kf T r to t) := by
  subst hK
  exact pe_bm pa slot hty hm ho ha hbase hfew hline hs hplain
end L2
namespace Kr
open PySem L2
theorem room_suite {k : Nat} {A A' : Around} (r : Room k A) (e : A'.units = A.units) : A'.units + 1 < cLine := by
  have := r.un
  omega
end Kr
namespace Kr
open PySem L2
theorem tabs_re {H : Hp} {ts ts' : TabL} (h : TabsAt H ts) (e : ts.map (·.2) = ts'.map (·.2)) : TabsAt H ts' := fun t ht => by
  have h1 : t.2 ∈ ts.map (·.2) := by
    rw [e]
    exact List.mem_map.mpr ⟨t, ht, rfl⟩
  obtain ⟨u, hu, e2⟩ := List.mem_map.mp h1
  have := h u hu
  rwa [e2] at this
theorem op_neDK {X : Cx} {Kf : PySem.W.Frag} (hK : X.K = Kf) (hu : X.A.units + 64 < cLine) : OpR X (compareOp .NotEq) (rNeD Kf) := by
  subst hK
  exact op_neD hu
theorem op_eqDK {X : Cx} {Kf : PySem.W.Frag} (hK : X.K = Kf) (hu : X.A.units + 64 < cLine) : OpR X (compareOp .Eq) (rEqD Kf) := by
  subst hK
  exact op_eqD hu
theorem room_eqD {k : Nat} {A A' : Around} (r : Room k A) (e : A'.units = A.units) : A'.units + 64 < cLine := by
  have := r.un
  omega
end Kr
namespace Kr
theorem OV.atl_up {o : OV} {j k : Int} (h : o.atl j = false) (hk : j ≤ k) : o.atl k = false := by
  cases o with
  | num n =>
    have h : decide (j ≤ n) = false := h
    show decide (k ≤ n) = false
    rw [decide_eq_false_iff_not] at h ⊢
    omega
  | _ => rfl
end Kr
namespace Kr
open PySem L2 PySem.Spec PyProof.Rows LamX
theorem ent_tab0 {H : Hp} {T : Addr} {q : Str} (h : H T = some (.tbl #[])) : EntAt (.tab q) H T := ⟨_, h, _, rfl, (by first | exact trivial | exact PySem.TriplesOk_nil | simp [TriplesOk] | decide), fun pos cv hc => by first | cases hc | (simp [codeAmong] at hc)⟩
theorem sq_ne {K : PySem.W.Frag} {H : Hp} {a T : Addr} {xs : List V} (h : SqL K H a xs) (hT : H T = some (.tbl #[])) (nT : K.lookup T = none) : a ≠ T := fun e => by
  subst e
  rcases h with (h | ⟨o, h⟩) | ⟨o, _, _, h, _⟩
  · rw [hT] at h
    cases h
  · rw [hT] at h
    cases h
  · rw [nT] at h
    cases h
theorem eo_VL {g : Gr} {R : V → Prop} {Q : VK} (h : ∀ v H', R v → Q v H') : Eo g (kV R) { nx := fun _ H' => Q .non H', rt := Q } :=
  ⟨fun _ _ H k _ => h .non H k, fun v L H k z => h v H k, fun _ _ _ k _ => k.elim, fun _ _ _ k _ => k.elim⟩
theorem wr_repT {g : Gr} {L : Led} {C : V → Led → Prop} {l : Addr} {k : Int} {xs zs : List V} {bo : Bool} (i : Nat) (h : L[i]? = some (l, .ob (.lst xs), bo)) (h1 : 0 ≤ k ∧ k < 2 ^ 63) (h2 : xs.length * k.toNat ≤ 100000) (e : (List.replicate k.toNat xs).flatten = zs)
    (c : ∀ p, C (.ref p) (L ++ [(p, .ob (.lst zs), true)])) : Wp g L (rRep (.ref l) (.int k)) C := wr_rep i h h1 h2 (by rw [e]; exact c)
end Kr
namespace LamX
open PySem PySem.Spec PyProof.Rows L2
/-- the end of a law whose defs make lambdas: the tables of the named defs are told -/
theorem walk_tabs {l : PySem.W.OpenLaw} {n k : Nat} {q : Program} {loose : List Str} {XP : (Str → Option Value) → Heap → Prop} {YP : World → Heap → Prop} {d : DefRec} {K : Params → PySem.W.Frag} {x : Str} (names : List Str)
    (hn : l.most = some n) (hn2 : n ≤ sizeLine) (hdf : d.params.defaults = []) (hr : Room k callerA) (hrec : names.all (fun y => ((recsOf q).find? (fun e => e.name == y)).isSome) = true) (hY : ∀ (w : World) (h : Heap), YP w h → (K w.params).In h)
    (F : ∀ (w : World) (mg : Str → Option Value) (fa : Addr) (h : Heap), (K w.params).In h → h.Ns mainGlobals mg → mg d.name = some (.ref fa) →
      (∀ y ∈ names, ∀ c P, PySem.W.tabIn (K w.params) y = some (c, P) → PySem.W.CodeHd h c P ∧ h.get? P = some { cls := .none, data := .fields #[] }) → LawAtS l w (K w.params) CX0 k n x mg fa h) :
    PySem.W.WalkO q loose XP YP l.row.toRowW d [] (fun f vs => PySem.call f vs) := by
  refine Att.attach_callB hn hdf fun w s₀ s₁ mg mb fa o pm cd doc a vs ns G Y ho hd hcd hmg hobj hints hlen hbits hg => ?_
  have KX := hY w _ Y
  have own : ∀ y ∈ names, ∀ c P, PySem.W.tabIn (K w.params) y = some (c, P) → PySem.W.CodeHd s₁.heap c P ∧ s₁.heap.get? P = some { cls := .none, data := .fields #[] } := fun y hy c P ht => by
    obtain ⟨dy, hdy⟩ := Option.isSome_iff_exists.mp (List.all_eq_true.mp hrec y hy)
    exact PySem.W.tab_of G.T KX hdy ht
  obtain ⟨fd, cs, sp, hT, nT, C, hb, hsp, hF⟩ := F w mg fa _ KX G.T.g hmg own
  exact law_callTs KX G.T.g G.T.b G.T.builtins G.T.nolimit hg hT nT C G.T.bmain hobj hints (Nat.le_trans hlen hn2) hr hF hb (fun H h1 h2 => hsp H a ns hlen hbits h1 h2) fun _ _ _ z => z
end LamX
namespace Kr
open PySem PySem.W
theorem ki_ref {K : Frag} {D C : Addr} {b : Bool} (h1 : isClsIn K C = true) (h2 : typeIn K (.ref C) = some (.type "type")) (h3 : subIn K (.ref D) (.ref C) = some b) (hD : subIn K (.ref D) (.ref D) = some true) : kitOne K (.ref D) (.ref C) = some b := by
  have h1' : (clsIn K C).isSome = true := h1
  unfold kitOne
  by_cases h : (Value.ref D == Value.ref C) = true
  · rw [if_pos h]
    have e : D = C := Value.ref.inj (beq_iff_eq.mp h)
    subst e
    rw [hD] at h3
    exact h3
  · rw [if_neg h]
    show (if ((clsIn K C).isSome && typeIn K (.ref C) == some (.type "type")) = true then subIn K (.ref D) (.ref C) else none) = some b
    rw [h1', h2, if_pos (by rfl)]
    exact h3
theorem ki_ty {K : Frag} {D : Addr} {T : String} {b : Bool} (hm : kitMeta T = true) (h3 : subIn K (.ref D) (.type T) = some b) : kitOne K (.ref D) (.type T) = some b := by
  unfold kitOne
  rw [if_neg (by intro h; cases (beq_iff_eq.mp h))]
  show (if kitMeta T = true then subIn K (.ref D) (.type T) else none) = some b
  rw [if_pos hm]
  exact h3
end Kr
namespace Kr
open PySem PySem.W
theorem tabIn_mk {K : Frag} {x : Str} {f c P : Addr} {oc e : Value} {od dd : Option Addr} {osl sl : Array (Option Value)} {fd : FuncData} {vs : Array Value} (h1 : nsIn K mainGlobals x = some (some (.ref f))) (h2 : K.lookup f = some ⟨oc, od, .func fd, osl⟩) (h3 : fd.code = .ref c) (h4 : K.lookup c = some ⟨e, dd, .fields vs, sl⟩) (h5 : vs[11]? = some (.ref P)) :
    tabIn K x = some (c, P) := by
  unfold tabIn
  simp only [h1, h2, h3, h4, h5]
end Kr

set_option Elab.async false
set_option linter.all false
set_option maxRecDepth 100000
set_option maxHeartbeats 1000000
/-! ### an instance whose __init__ raises -/
namespace Kr
open PySem L2 PySem.Spec PyProof.Rows LamX NdefX Ke
structure OkCX (P : Program) (w : World) (K : PySem.W.Frag) (mg : Str → Option Value) (base : Heap) (x : Str) (C : Addr) (k : Nat) (qual : Str) (st : Stmt) (ps : List Str) (sp : Sp) : Prop where
  ex : ∃ f fd, mg x = some (.ref C) ∧ Mk K C f ∧ Fun K "__init__" qual st f fd ∧ Binds K fd ps [] ∧ FnOk P w K mg base (L2N.CX P w) k f fd ps sp
theorem OkCX.of {P : Program} {w : World} {K : PySem.W.Frag} {mg : Str → Option Value} {base : Heap} {C : Addr} {x qual : Str} {st : Stmt} {N ps : List Str} {k : Nat} {sp : Sp} (T : InitFn K mg x C qual st) (S : FnScope N ps (defScope st))
    (hb : ∀ (kV doc pm : Value) (an : Option Addr) (cdv ct : Value) (us : List Value), us.length = ps.length → bindArgs (PySem.W.fnOf "__init__" qual (defArgs st) (defBody st) (defScope st) .none kV doc pm an cdv ct) ⟨us, []⟩ = pure (ps.zip us))
    (len : ∀ vs H Q E, sp vs H Q E → vs.length = ps.length) (body : BodyX P w K mg base qual st N k sp) : OkCX P w K mg base x C (k + 1) qual st ps sp := by
  obtain ⟨f, fd, h1, F⟩ := T.ex
  exact ⟨f, fd, T.mg, h1, F, F.binds hb, F.okXN S len (body f)⟩
section
variable {X : Cx} {k : Nat} {x : Str} {ps : List Str} {sp : Sp} {p pos : Pos} {e : Expr} {es : List Expr} {t : TA} {C : Addr} {st : Stmt} {qual : Str} {E : XK}
theorem pe_ocE (O : OkCX X.prog X.w X.K X.mg X.base x C k qual st ps sp) (hx : Passes (L2N.CX X.prog X.w) X E) (hr : Room (k + 1) X.A) (hg : Gl X x) (ha : PA X (e :: es) t) (hdb : (x == ("__debug__" : Str)) = false := by decide) (he : starEach (e :: es) X.env = (false, eval e X.env) :: starEach es X.env := by rfl) (hpl : (backTo pos (starEach es X.env)).any (·.1) = false := by rfl) :
    PE X (.Call (.Name x p) (e :: es) [] pos) (tMake C sp [] E t) := by
  obtain ⟨f, fd, h1, h2, _, h3, F⟩ := O.ex
  exact pe_make h2 F hr hg h1 h3 .nil hx ha hdb he hpl
end
/-- what is raised later finds the same -/
theorem EX.grow {g : Gr} {L L' : Led} {E : XK} {C : Addr} {fs : List (Str × V)} (h : EX g L E C fs) (s : L <+: L') : EX g L' E C fs := fun H d z => h H d (z.sub (s.sublist.append (List.Sublist.refl _)))
theorem wf_nf {g : Gr} {L L' : Led} {J : It} {tg : TG} {tb : TS} {σ : L2.St} {K : Ks} (e : L = L') (h : WFor g L' J tg tb σ K) : WFor g L J tg tb σ K := e ▸ h
theorem made_same {H : Hp} {x dx C : Addr} (hx : H x = none) (hdx : H dx = none) : Same H (upd (upd H dx (.own x)) x (.ins C dx [])) := fun c w hw => by
  rw [upd_ne (ne_of_none hw hx), upd_ne (ne_of_none hw hdx)]
  exact hw
theorem none_same {H H' : Hp} {d : Addr} (s : Same H H') (h : H' d = none) : H d = none := by
  cases hq : H d with
  | none => rfl
  | some w =>
    rw [s _ _ hq] at h
    cases h
end Kr

set_option Elab.async false
set_option linter.all false
set_option maxRecDepth 100000
set_option maxHeartbeats 1000000
/-! ### try: x(); more except C as n: .. -/
namespace Kr
open PySem L2 PySem.Spec PyProof.Rows LamX NdefX Ke
theorem ws_tryD2 {g : Gr} {L : Led} {σ : L2.St} {K : Ks} {P : Program} {w : World} {Kf : PySem.W.Frag} {mg : Str → Option Value} {base : Heap} {CB : Addr} {f : Addr} {o : Out} {k i j : Nat} {ts : Addr → Value → Option Addr → TS} {Wout : WX} {tb : TS} (hs : σ[j]? = some (some (.ref f))) (hD : ∀ H, At g L H → Deed P w Kf mg base k H f o)
    (hn : o = none → Ws g L tb σ K)
    (hE : ∀ C fs, o = some (C, fs) → PySem.W.exmOne Kf (.ref C) (.ref CB) = some true ∧ ∀ a d, Ws g (L ++ [(d, .ob (.xd fs), true)]) (ts a (.ref C) (some d)) (σ.set i (some (.ref a))) { nx := fun σ' L' => K.nx (σ'.set i none) L', rt := K.rt, bk := fun σ' L' => K.bk (σ'.set i none) L', ct := fun σ' L' => K.ct (σ'.set i none) L' }) :
    Ws g L (fun D σ H => tSeq (tDrop (tDeed P w Kf mg base k j (wAs Kf (.ref CB) i ts Wout D))) tb D σ H) σ K := fun H z D e => by
  refine ⟨f, o, hs, hD H z, ?_⟩
  cases o with
  | none => exact fun v H' sm => hn rfl H' (z.same sm) D e
  | some c =>
    obtain ⟨C, fs⟩ := c
    obtain ⟨hx, hE⟩ := hE C fs rfl
    exact fun H' d sm n hd => ⟨true, hx, fun _ a _ => hE a d H' (z.new sm n hd) _ ⟨fun σ' L' H' k z => e.nx _ _ _ k z, e.rt, fun σ' L' H' k z => e.bk _ _ _ k z, fun σ' L' H' k z => e.ct _ _ _ k z⟩, fun q => Bool.noConfusion q⟩
/-! #### promises joined -/
section
variable {P : Program} {w : World} {K : PySem.W.Frag} {mg : Str → Option Value} {base : Heap} {k k' : Nat} {x : Str} {st : Stmt} {ps : List Str} {sp sp1 sp2 : Sp}
theorem OkX.imp (h : OkX P w K mg base k x st ps sp) (hk : k ≤ k') (hi : ∀ vs H Q E, sp1 vs H Q E → sp vs H Q E) : OkX P w K mg base k' x st ps sp1 := by
  obtain ⟨f, fd, m, F, b, o⟩ := h.ex
  exact ⟨f, fd, m, F, b, ⟨fun vs H Q E h => o.len vs H Q E (hi _ _ _ _ h), fun A outer s H args us vs Q E hr e0 hb r h => o.run A outer s H args us vs Q E (hr.mono hk) e0 hb r (hi _ _ _ _ h)⟩⟩
theorem Fun.uniq {qual : Str} {f : Addr} {fd fd2 : FuncData} (h1 : Fun K x qual st f fd) (h2 : Fun K x qual st f fd2) : fd = fd2 := by
  obtain ⟨_, _, _, _, _, _, _, _, _, e1, l1, _⟩ := h1.ex
  obtain ⟨_, _, _, _, _, _, _, _, _, e2, l2, _⟩ := h2.ex
  rw [l1] at l2
  subst e1 e2
  have := Option.some.inj l2
  simp only [Obj.mk.injEq] at this
  injection this.2.2.1
theorem OkX.or (h1 : OkX P w K mg base k x st ps sp1) (h2 : OkX P w K mg base k x st ps sp2) : OkX P w K mg base k x st ps (fun vs H Q E => sp1 vs H Q E ∨ sp2 vs H Q E) := by
  obtain ⟨f, fd, m1, F1, b1, o1⟩ := h1.ex
  obtain ⟨f2, fd2, m2, F2, b2, o2⟩ := h2.ex
  obtain rfl : f2 = f := by
    rw [m1] at m2
    exact (Value.ref.inj (Option.some.inj m2)).symm
  obtain rfl := Fun.uniq F1 F2
  exact ⟨f2, fd, m1, F1, b1, ⟨fun vs H Q E h => h.elim (o1.len vs H Q E) (o2.len vs H Q E), fun A outer s H args us vs Q E hr e0 hb r h => h.elim (o1.run A outer s H args us vs Q E hr e0 hb r) (o2.run A outer s H args us vs Q E hr e0 hb r)⟩⟩
end
/-! #### between two bounds; what is drawn from a list of odd ones -/
def OV.bw (lo hi : Int) : OV → Bool
  | .num n => decide (lo ≤ n) && decide (n ≤ hi)
  | _ => false
theorem OV.kinds (o : OV) : (∃ n, o = .num n) ∨ (isIv o.v = false ∧ ∀ lo hi, o.bw lo hi = false) := by
  cases o with
  | num n => exact .inl ⟨n, rfl⟩
  | _ => exact .inr ⟨rfl, fun _ _ => rfl⟩
/-- the odd ones of a law, as drawn: none is a number from 0 on -/
theorem ov_drawn {x : V} {p1 p2 p3 : Addr} (h : x ∈ [V.bl true, .non, .str "3", .ref p1, .ref p2, .ref p3, .int (-1), .int (0 - 100000000000000000000)]) : ∃ o : OV, x = o.v ∧ o.atl 0 = false ∧ ∀ (g : Gr) (L : Led) (i j k : Nat) (b1 b2 b3 : Bool), L[i]? = some (p1, .ob (.tup [.int 3]), b1) → L[j]? = some (p2, .ob (.lst [.int 3]), b2) → L[k]? = some (p3, .ob (.dK []), b3) → ∀ H, At g L H → o.At H := by
  simp only [List.mem_cons, List.not_mem_nil, or_false] at h
  rcases h with rfl | rfl | rfl | rfl | rfl | rfl | rfl | rfl
  · exact ⟨.bl true, rfl, rfl, fun g L i j k b1 b2 b3 h1 h2 h3 H z => trivial⟩
  · exact ⟨.non, rfl, rfl, fun g L i j k b1 b2 b3 h1 h2 h3 H z => trivial⟩
  · exact ⟨.lit "3", rfl, rfl, fun g L i j k b1 b2 b3 h1 h2 h3 H z => trivial⟩
  · exact ⟨.tup p1 3, rfl, rfl, fun g L i j k b1 b2 b3 h1 h2 h3 H z => ⟨by decide, z.get h1⟩⟩
  · exact ⟨.lst p2 3, rfl, rfl, fun g L i j k b1 b2 b3 h1 h2 h3 H z => ⟨by decide, z.get h2⟩⟩
  · exact ⟨.dct p3, rfl, rfl, fun g L i j k b1 b2 b3 h1 h2 h3 H z => z.get h3⟩
  · exact ⟨.num (-1), rfl, rfl, fun g L i j k b1 b2 b3 h1 h2 h3 H z => log_small (by omega)⟩
  · exact ⟨.num (0 - 100000000000000000000), rfl, by decide, fun g L i j k b1 b2 b3 h1 h2 h3 H z => log_small (by omega)⟩
end Kr

set_option Elab.async false
set_option linter.all false
set_option maxRecDepth 100000
set_option maxHeartbeats 4000000
/-! ### a further field of an exception that is being made -/
namespace Ke
open PySem PySem.Spec PySem.W PySem.Calls PyProof.Rows L2
section
open PySem.HandSPX PySem.OEX Builtin Builtin.ObjectAttr
variable {prog : Program} {w : World} {A : Around} {R : Result → Shared → Prop} {hp : Heap} {g : Array GenState} {d : Drawn} {t : Nat} {os : OsState}
/-- a further field: its dict is there -/
theorem later_field {K : W.Frag} {name : Str} {tk : Tok} {v : Value} {x C dx : Addr} {fv : Array Value} {cd : ClassData} {m0 : Str → Option Value} {nl : List Str}
    (X : K.In hp) (hx : hp.get? x = some { cls := .ref C, dict := some dx, data := .fields fv }) (hns : hp.Ns1 dx m0) (hw : Within m0 nl) (hz : nl.length ≤ 1000) (hcd : W.clsIn K C = some cd) (hm : excTail aeTail cd.mro = true) (hh : cd.hasDict = true) (ha : W.findIn K (.ref C) name = some none)
    (hq : ∀ h' tk', (∀ b o, b ≠ dx → hp.get? b = some o → h'.get? b = some o) → h'.Ns1 dx (fun y => if y = name then some v else m0 y) → R (.ok (.ret .none)) ⟨h', g, d, tk', os⟩) :
    codeAny (model prog w) A (.call (.builtin "object.__setattr__") ⟨[.ref x, .str name tk, v], []⟩) R ⟨hp, g, d, t, os⟩ := by
  obtain ⟨oD, esD, epD, hoD, hdD, _⟩ := hns.count hw
  have hI : W.InstAt hp x { cls := .ref C, dict := some dx, data := .fields fv } C (some oD) := ⟨hx, rfl, rfl, hoD⟩
  have hne := tail_ne hm
  have hob : cd.mro.contains (.type "object") = true := (excTail_contains "object" _ hm).trans (by decide +kernel)
  have hsub : W.Looks (model prog w) hp (isInstance (.ref x) (.type "object")) true := hI.type.andThen (W.looks_mroIn X (by unfold W.mroIn; rw [hcd, Option.bind_some, if_neg (by rw [hne]; decide), hob]))
  refine codeAny_call_builtin F.store_object.slot.plain F.store_object.entry (@W.check_slot (model prog w) _ _ ⟨hp, g, d, t, os⟩ "object.__setattr__" "object" "__setattr__" (.ref x) [.str name tk, v] [] _ F.store_object.kind F.store_object.split hsub (F.store_object.args (.ref x) (.str name tk) v) ?_)
  have hmr : W.Looks (model prog w) hp (mroOf (.ref C)) cd.mro := (W.looks_clsIn X hcd).andThen .now
  have hst : W.Looks (model prog w) hp (storeTaker? none) none := .now
  have hcls : W.Looks (model prog w) hp (classData C) cd := W.looks_clsIn X hcd
  rw [W.osa_eq, refuse_eq]
  refine wpAny_bind (wpAny_bind (hI.type.at (wpAny_bind (hmr.at ?_))))
  rw [excTail_pass _ (F.store_ArithmeticError.passes _) _ hm]
  refine wpAny_pure (wpAny_bind (hI.type.at (wpAny_bind ((W.looks_findIn X ha).at (wpAny_bind (hst.at ?_))))))
  show wpAny _ _ (storeInOwnDict (.ref x) (.ref C) (.str name tk) name v false) _ _ _
  obtain ⟨nm, bs, mro, ns, qn, hd, sn, sb, ab, col, del⟩ := cd
  dsimp only at hh
  subst hh
  unfold storeInOwnDict ownDictForStores
  repeat (first | with_reducible refine store_in_old hns hw hz ?_ | with_reducible refine wpAny_loadPart_at hx ?_ | with_reducible refine hcls.at ?_ | wp_step)
  intro h' tk' hn' hs
  exact hq h' tk' (fun b o hb ho => (hs.2 b hb).trans ho) hn'
end
section
variable {X : Cx} {pins : List (Addr × Obj)} {σ : L2.St} {H : Hp} {s : Shared} {a C dx : Addr} {f : Str} {y : V} {u : Value} {E : Value → Shared → Prop} {A : Around} {fs : List (Str × V)}
theorem next_set {Q : Unit → Shared → Prop} (T : OexA X.K C) (I : Inv X pins σ H s) (e : H a = some (exo a C (some dx))) (ed : H dx = some (exd dx fs)) (hl : fs.length ≤ 900) (hno : PySem.W.findIn X.K (.ref C) f = some none) (ry : RelV y u)
    (h : ∀ s', Inv X pins σ (upd H dx (exd dx ((f, y) :: fs))) s' → Q () s') : wpAny (model X.prog X.w) A (setAttr (.ref a) f u) Q E s := by
  obtain ⟨nm, q, N, bs, bm, sn, sub, ab, col, dd, k0, k1, k2, k3, k5, hC, hbm⟩ := T.cls
  have hcl : PySem.W.clsIn X.K C = some { name := nm, bases := bs, mro := .ref C :: bm, ns := N, qualname := q, hasDict := true, slotNames := sn, subclasses := sub, abstract := ab, collection := col, hasDel := false } := by unfold PySem.W.clsIn; rw [hC] <;> rfl
  obtain ⟨t1, ho⟩ := exo_at I.hok e
  obtain ⟨mA, hns, rel⟩ := exd_at I.hok ed
  have hw := within_of rel
  obtain ⟨hp, g, d, t, os⟩ := s
  obtain ⟨oD, _, _, hoD, _, _⟩ := hns.count hw
  refine PySem.W.set_plain I.kIn (ox := { cls := .ref C, dict := some dx, data := .fields #[.ref t1, .none, .none, .none, .bool false, .none] }) (od := some oD) ⟨ho, rfl, rfl, hoD⟩ T.sa ?_
  refine later_field I.kIn ho hns hw (by rw [List.length_map]; omega) hcl (show excTail aeTail (.ref C :: bm) = true from hbm) rfl hno (fun h' tk' k hn => ?_)
  have hd : ∃ o, h'.get? dx = some o := by
    obtain ⟨o, _, _, e', _⟩ := hn
    exact ⟨o, e'⟩
  exact h _ (I.write (t' := tk') (x := dx) (e := dx) (o := exd dx ((f, y) :: fs)) (by rw [ed]; exact True.intro) (.inl rfl) k hd (exd_ok hn (relO_put ry rel)))
end
/-- self.f = e, a further field -/
def tOst2 (K : PySem.W.Frag) (f : Str) (to te : TE) : TS := fun D σ H => te σ H fun y H1 => to σ H1 fun x H2 => ∃ (a C dx : Addr) (fs : List (Str × V)), x = .ref a ∧ OexA K C ∧ PySem.W.findIn K (.ref C) f = some none ∧
  H2 a = some (exo a C (some dx)) ∧ H2 dx = some (exd dx fs) ∧ fs.length ≤ 900 ∧ D.nx σ (upd H2 dx (exd dx ((f, y) :: fs)))
section
variable {X : Cx} {o e : Expr} {to te : TE} {f : Str} {p' pos : Pos}
theorem ps_next (ho : PE X o to) (he : PE X e te) (hs : swapsWith e (some (.Attribute o f p')) pos.line X.env = pure false := by rfl) : PS X (.Assign [.Attribute o f p'] e pos) (tOst2 X.K f to te) := by
  refine ⟨fun pins s σ H D I h => ?_⟩
  refine plainObj_wpAny_Assign_Attribute (thn (he.run pins s σ H _ I h) fun v s1 ⟨y, H1, I1, r1, q1⟩ => thn (ho.run pins s1 σ H1 _ I1 q1) fun u s2 ⟨x, H2, I2, r2, a, C, dx, fs, ex, T, hno, ea, ed, hl, q⟩ => ?_) hs
  subst ex
  obtain rfl : u = Value.ref a := r2
  exact next_set T I2 ea ed hl hno r1 fun s' J => ⟨σ, _, J, q⟩
end
end Ke

set_option Elab.async false
set_option linter.all false
set_option maxRecDepth 100000
set_option maxHeartbeats 1000000
/-! ### the raising of an own exception with two fields -/
namespace Kr
open PySem L2 PySem.Spec PyProof.Rows LamX NdefX Ke
/-- the fields f1 (stored first) and f2 of an exception of the class C -/
def sp_fieldP (K : PySem.W.Frag) (C : Addr) (f1 f2 : Str) : Sp := fun vs H Q _ => ∃ (a : Addr) (o1 o2 : OV), vs = [.ref a, o1.v, o2.v] ∧ o1.At H ∧ o2.At H ∧ H a = some (exo a C none) ∧ OexA K C ∧ PySem.W.findIn K (.ref C) f1 = some none ∧ PySem.W.findIn K (.ref C) f2 = some none ∧
  ∀ d, H d = none → d ≠ a → Q .non (upd (upd H d (exd d [(f2, o2.v), (f1, o1.v)])) a (exo a C (some d)))
theorem joined_le2 {m y n z : Str} (hy : y.length ≤ 2000) (hz : z.length ≤ 2000) (hm : m.length ≤ 100 := by decide) (hn : n.length ≤ 100 := by decide) : ((((Str.empty ++ m) ++ y) ++ n) ++ z).length ≤ sizeLine := by
  have h2 : ((((Str.empty ++ m) ++ y) ++ n) ++ z).length = m.length + y.length + n.length + z.length := by
    rw [Str.length_append, Str.length_append, Str.length_append, Str.length_append, show Str.empty.length = 0 from rfl, Nat.zero_add]
  rw [h2]
  have : (4200 : Nat) ≤ sizeLine := by decide
  omega
theorem joined_le3 {m y n : Str} (hy : y.length ≤ 2000) (hm : m.length ≤ 100 := by decide) (hn : n.length ≤ 100 := by decide) : (((Str.empty ++ m) ++ y) ++ n).length ≤ sizeLine := by
  have h2 : (((Str.empty ++ m) ++ y) ++ n).length = m.length + y.length + n.length := by
    rw [Str.length_append, Str.length_append, Str.length_append, show Str.empty.length = 0 from rfl, Nat.zero_add]
  rw [h2]
  have : (2200 : Nat) ≤ sizeLine := by decide
  omega
/-- the second store, over the first -/
theorem upd_two {H : Hp} {a d : Addr} {x y x' : HO} (h : d ≠ a) : upd (upd (upd H d x) a y) d x' = upd (upd H d x') a y := by
  funext b
  by_cases h1 : b = d
  · subst h1
    rw [upd_same, upd_ne h, upd_same]
  · rw [upd_ne h1]
    by_cases h2 : b = a
    · subst h2
      rw [upd_same, upd_same]
    · rw [upd_ne h2, upd_ne h1, upd_ne h2, upd_ne h1]
section
variable {g : Gr} {L : Led} {σ : L2.St} {K : Ks} {Kf : PySem.W.Frag} {C : Addr} {f1 f2 : Str} {ta : TA} {W : WX}
theorem ws_raiseP (hno : PySem.W.findIn Kf (.ref C) f1 = some none) (hno2 : PySem.W.findIn Kf (.ref C) f2 = some none) (hC : OexA Kf C) (h : Wp g L (ta σ) fun vs L1 => ∃ o1 o2 : OV, vs = [o1.v, o2.v] ∧ (∀ H, At g L1 H → o1.At H) ∧ (∀ H, At g L1 H → o2.At H) ∧ EX g L1 (fun c d H => W c d σ H) C [(f2, o2.v), (f1, o1.v)]) :
    Ws g L (fun _ σ H => tMkO C (sp_fieldP Kf C f1 f2) [] ta σ H fun cls d H' => W cls d σ H') σ K :=
  fun H z D e => h H z _ fun vs L1 H1 ⟨o1, o2, e1, hl1, hl2, k⟩ z1 => by
    subst e1
    have up : ∀ a, H1 a = none → Same H1 (upd H1 a (exo a C none)) := fun a ha b u hb => by
      rw [upd_ne (ne_of_none hb ha)]
      exact hb
    refine ⟨by simp, fun a ha => ⟨a, o1, o2, rfl, (hl1 H1 z1).same (up a ha), (hl2 H1 z1).same (up a ha), upd_same, hC, hno, hno2, fun d hd hda => ?_⟩⟩
    have hd1 : H1 d = none := by rw [← hd, upd_ne hda]
    have e3 : upd (del (upd (upd (upd H1 a (exo a C none)) d (exd d [(f2, o2.v), (f1, o1.v)])) a (exo a C (some d))) a) d (.xd [(f2, o2.v), (f1, o1.v)]) = upd H1 d (.xd [(f2, o2.v), (f1, o1.v)]) := by
      funext b
      by_cases h1 : b = d
      · rw [h1, upd_same, upd_same]
      · rw [upd_ne h1, upd_ne h1]
        by_cases h2 : b = a
        · rw [h2, del_same, ha]
        · rw [del_ne h2, upd_ne h2, upd_ne h1, upd_ne h2]
    refine ⟨rfl, d, _, upd_same, (upd_ne hda).trans upd_same, hd1, ?_⟩
    rw [e3]
    exact k _ d (z1.upd_new hd1)
end
end Kr

set_option Elab.async false
set_option linter.all false
set_option maxRecDepth 100000
set_option maxHeartbeats 1000000
/-! ### an instance whose __init__ has keyword-only parameters and raises; isinstance of odd values and an own class; refused lists of numbers -/
namespace Kr
open PySem L2 PySem.Spec PyProof.Rows LamX NdefX Ke
structure OkCKX (P : Program) (w : World) (K : PySem.W.Frag) (mg : Str → Option Value) (base : Heap) (x : Str) (C : Addr) (k : Nat) (qual : Str) (st : Stmt) (kwd : List (Str × V)) (ps : List Str) (sp : Sp) : Prop where
  ex : ∃ f fd, mg x = some (.ref C) ∧ Mk K C f ∧ FunD K "__init__" qual (defArgs st) (defBody st) (defScope st) [] kwd f fd ∧ FnOk P w K mg base (L2N.CX P w) k f fd ps sp
theorem OkCKX.of {P : Program} {w : World} {K : PySem.W.Frag} {mg : Str → Option Value} {base : Heap} {C : Addr} {x qual : Str} {st : Stmt} {kwd : List (Str × V)} {N ps : List Str} {k : Nat} {sp : Sp} (T : InitFnK K mg x C qual st kwd) (S : FnScope N ps (defScope st))
    (len : ∀ vs H Q E, sp vs H Q E → vs.length = ps.length) (body : BodyX P w K mg base qual st N k sp) : OkCKX P w K mg base x C (k + 1) qual st kwd ps sp := by
  obtain ⟨f, fd, h1, F⟩ := T.ex
  exact ⟨f, fd, T.mg, h1, F, F.ok S len (body f)⟩
section
variable {X : Cx} {k n : Nat} {x : Str} {ps ks : List Str} {sp : Sp} {p pos : Pos} {e : Expr} {es : List Expr} {t tk : TA} {C : Addr} {st : Stmt} {qual : Str} {kwd ms : List (Str × V)} {kws : List Keyword} {E : XK}
theorem pe_ocKX (perm : List (Nat ⊕ Nat)) (O : OkCKX X.prog X.w X.K X.mg X.base x C k qual st kwd ps sp) (hx : Passes (L2N.CX X.prog X.w) X E) (hr : Room (k + 1) X.A) (hg : Gl X x) (ha : PA X (e :: es) t) (hkw : PK X kws tk) (hk : kwd ≠ []) (hms : ∀ q ∈ ms, q ∈ kwd)
    (hb : ∀ (D : Addr) (doc pm : Value) (an : Option Addr) (cdv ct : Value) (us mv ws : List Value), us.length = n + 1 → mv.length = ms.length → ws.length = ks.length →
      KwChain D ((ms.map (·.1)).zip mv) (bindArgs (PySem.W.fnOf "__init__" qual (defArgs st) (defBody st) (defScope st) .none (.ref D) doc pm an cdv ct) ⟨us, ks.zip ws⟩) (ps.zip (mix perm us mv ws)))
    (hall : (backToKw pos (keywordEach kws X.env)).all (·.1.isSome) = true := by rfl) (hks : (backToKw pos (keywordEach kws X.env)).filterMap (·.1) = ks := by rfl) (hdb : (x == ("__debug__" : Str)) = false := by decide)
    (he : starEach (e :: es) X.env = (false, eval e X.env) :: starEach es X.env := by rfl) (hpl : ((backTo pos (starEach (e :: es) X.env)).any (·.1) || (backToKw pos (keywordEach kws X.env)).any (·.1.isNone)) = false := by rfl) :
    PE X (.Call (.Name x p) (e :: es) kws pos) (tMakeK C n ks.length sp (fun vs zs => mix perm vs (ms.map (·.2)) zs) E t tk) := by
  obtain ⟨f, fd, h1, M, F, O⟩ := O.ex
  obtain ⟨mv, kb⟩ := F.kbinds0 (ps := ps) (n + 1) ks ms (fun us mv ws => mix perm us mv ws) hk hms (fun r1 r2 r3 => mix_rel perm r1 r2 r3) hb
  exact pe_makeK M O hr hg h1 kb hx ha hkw hall hks hdb he hpl
end
/-- raised while the object at p is being made -/
theorem ex_ofP {H0 : Hp} {p : Addr} {L : Led} {E : XK} {C : Addr} {fs : List (Str × V)} {e : Ent} (h0 : L[0]? = some (p, e, true)) (hm : e.mov = true) (h : ∀ (d : Addr) (H' : Hp), H0 d = none → (∀ q o, H0 q = some o → q ≠ p → H' q = some o) → H' d = some (.xd fs) → E (.ref C) (some d) H') : EX ⟨H0, fun c => c = p⟩ L E C fs := fun H d z => by
  have hl : (L ++ [(d, Ent.ob (.xd fs), true)])[L.length]? = some (d, .ob (.xd fs), true) := by simp
  have h0' : (L ++ [(d, Ent.ob (.xd fs), true)])[0]? = some (p, e, true) := by
    rw [List.getElem?_append_left (List.getElem?_eq_some_iff.mp h0).1]
    exact h0
  have hne : p ≠ d := z.ne h0' hl (by have := (List.getElem?_eq_some_iff.mp h0).1; omega) (.inl hm) (.inl rfl)
  refine h d H ?_ (fun q o e n => z.old q o e n) (z.get hl)
  rcases z.own _ (List.mem_of_getElem? hl) rfl with q | q
  · exact q
  · exact absurd q.symm hne
/-- an own class, asked for by isinstance -/
def AskC (K : PySem.W.Frag) (C : Addr) : Prop := PySem.W.isClsIn K C = true ∧ PySem.W.typeIn K (.ref C) = some (.type "type")
theorem ki_tyref {K : PySem.W.Frag} {T : String} {C : Addr} (a : AskC K C) (h3 : PySem.W.subIn K (.type T) (.ref C) = some false) : PySem.W.kitOne K (.type T) (.ref C) = some false := by
  have h1' : (PySem.W.clsIn K C).isSome = true := a.1
  unfold PySem.W.kitOne
  rw [if_neg (by intro h; cases (beq_iff_eq.mp h))]
  show (if ((PySem.W.clsIn K C).isSome && PySem.W.typeIn K (.ref C) == some (.type "type")) = true then PySem.W.subIn K (.type T) (.ref C) else none) = some false
  rw [h1', a.2, if_pos (by rfl)]
  exact h3
theorem wc_isi_ownO {g : Gr} {L : Led} {C : V → Led → Prop} {Kf : PySem.W.Frag} {v : V} {B : Addr} (a : AskC Kf B) (h : ∀ H, At g L H → Od H v) (c : C (.bl false) L) : Wp g L (rIsi Kf [v, .ref B]) C := .now (fun H Q z q => by
  rcases h H z with ⟨n, rfl⟩ | rfl | ⟨b, rfl⟩ | ⟨s, rfl⟩ | ⟨a', xs, rfl, e⟩ | ⟨a', xs, rfl, e⟩ | ⟨a', rfl, e⟩
  · exact ⟨.int n, .ref B, _, _, false, rfl, .own _, .base (.int n), ki_tyref a (by rfl), q⟩
  · exact ⟨.non, .ref B, _, _, false, rfl, .own _, .base .non, ki_tyref a (by rfl), q⟩
  · exact ⟨.bl b, .ref B, _, _, false, rfl, .own _, .base (.bl b), ki_tyref a (by rfl), q⟩
  · exact ⟨.str s, .ref B, _, _, false, rfl, .own _, .base (.str s), ki_tyref a (by rfl), q⟩
  · exact ⟨.ref a', .ref B, _, _, false, rfl, .own _, .base (.lst e), ki_tyref a (by rfl), q⟩
  · exact ⟨.ref a', .ref B, _, _, false, rfl, .own _, .base (.tup e), ki_tyref a (by rfl), q⟩
  · exact ⟨.ref a', .ref B, _, _, false, rfl, .own _, .base (.dK e), ki_tyref a (by rfl), q⟩) c
/-! #### lists of numbers that are refused -/
/-- ns are good items, o is none after them -/
def WrongAt (least : Int) (bar ns : List Int) (o : OV) : Prop :=
  (∀ (j : Nat) (h : j < ns.length), (least ≤ ns[j] ∧ ns[j] ≤ 10 ^ 60) ∧ ns[j] ∉ bar ∧ ∀ q, q + 1 = j → ns.getD q 0 < ns[j]) ∧
  (isIv o.v = false ∨ ∃ n, o = .num n ∧ (n < least ∨ n ∈ bar ∨ ∃ q, q + 1 = ns.length ∧ n ≤ ns.getD q 0))
theorem enumV_item {xs : List V} {i : Nat} {x : V × Nat} (h : xs.zipIdx[i]? = some x) : ∃ v, x = (v, i) ∧ xs[i]? = some v := by
  rw [List.getElem?_zipIdx] at h
  cases e : xs[i]? with
  | none =>
    rw [e] at h
    cases h
  | some v =>
    rw [e] at h
    have := Option.some.inj h
    exact ⟨v, by rw [← this]; simp, rfl⟩
theorem wrong_prev {ns : List Int} {o : OV} {rest : List V} {i : Nat} (h0 : 0 < i) (h : i ≤ ns.length) : atI (ns.map V.int ++ o.v :: rest) ((i : Int) - 1) = some (.int (ns.getD (i - 1) 0)) := by
  have hj : i - 1 < ns.length := by omega
  refine at_of (j := i - 1) (by omega) ?_
  rw [List.getElem?_append_left (by rw [List.length_map]; exact hj), List.getElem?_map, List.getElem?_eq_getElem hj]
  simp [List.getD, List.getElem?_eq_getElem hj]
/-- what stands at place i ≤ ns.length -/
theorem wrong_item {least : Int} {bar ns : List Int} {o : OV} {rest : List V} {i : Nat} {v : V} (hw : WrongAt least bar ns o) (hi : i ≤ ns.length) (hv : (ns.map V.int ++ o.v :: rest)[i]? = some v) :
    (∃ n, v = .int n ∧ i < ns.length ∧ (least ≤ n ∧ n ≤ 10 ^ 60) ∧ n ∉ bar ∧ (0 < i → ns.getD (i - 1) 0 < n)) ∨ (∃ n, o = .num n ∧ v = .int n ∧ i = ns.length ∧ (n < least ∨ n ∈ bar ∨ (0 < i ∧ n ≤ ns.getD (i - 1) 0))) ∨ (v = o.v ∧ i = ns.length ∧ isIv o.v = false) := by
  rcases Nat.lt_or_ge i ns.length with h | h
  · rw [List.getElem?_append_left (by rw [List.length_map]; exact h), List.getElem?_map, List.getElem?_eq_getElem h] at hv
    have e := Option.some.inj hv
    obtain ⟨h1, h2, h3⟩ := hw.1 i h
    exact .inl ⟨ns[i], e.symm, h, h1, h2, fun q => h3 (i - 1) (by omega)⟩
  · have e : i = ns.length := by omega
    subst e
    rw [List.getElem?_append_right (by rw [List.length_map]; exact Nat.le_refl _)] at hv
    simp at hv
    rcases hw.2 with h2 | ⟨n, rfl, h2⟩
    · exact .inr (.inr ⟨hv.symm, rfl, h2⟩)
    · refine .inr (.inl ⟨n, rfl, hv.symm, rfl, ?_⟩)
      rcases h2 with h2 | h2 | ⟨q, h2, h3⟩
      · exact .inl h2
      · exact .inr (.inl h2)
      · exact .inr (.inr ⟨by omega, by rw [show ns.length - 1 = q by omega]; exact h3⟩)
/-- a value that is refused where a list is asked for: no list; one too long; one with a wrong item -/
inductive BadL where
  | nol (v : V)
  | big (a : Addr) (xs : List V)
  | wrong (a : Addr) (ns : List Int) (o : OV) (rest : List V)
def BadL.v : BadL → V
  | .nol v => v
  | .big a _ => .ref a
  | .wrong a _ _ _ => .ref a
/-- the place of the first wrong item -/
def BadL.pl : BadL → Int
  | .wrong _ ns _ _ => ns.length
  | _ => -1
def BadL.At (least : Int) (bar : List Int) (H : Hp) : BadL → Prop
  | .nol v => NoL H v ∧ v ≠ .non
  | .big a xs => H a = some (.lst xs) ∧ 200 < xs.length
  | .wrong a ns o rest => H a = some (.lst (ns.map V.int ++ o.v :: rest)) ∧ o.At H ∧ WrongAt least bar ns o ∧ ns.length + rest.length < 200
theorem BadL.At.same {least : Int} {bar : List Int} {b : BadL} {H H' : Hp} (h : b.At least bar H) (s : Same H H') : b.At least bar H' := by
  cases b with
  | nol v => exact ⟨NoL.same h.1 s, h.2⟩
  | big a xs => exact ⟨s _ _ h.1, h.2⟩
  | wrong a ns o rest => exact ⟨s _ _ h.1, h.2.1.same s, h.2.2⟩
/-- .. while an instance changes -/
theorem BadL.At.exc {least : Int} {bar : List Int} {b : BadL} {H H' : Hp} {p C dx : Addr} {fs : List (Str × V)} (h : b.At least bar H) (hp : H p = some (.ins C dx fs)) (s : ∀ q o, H q = some o → q ≠ p → H' q = some o) : b.At least bar H' := by
  have key : ∀ c u, H c = some u → (∀ C dx fs, u ≠ .ins C dx fs) → H' c = some u := fun c u e n => s c u e fun q => by
    subst q
    rw [hp] at e
    exact n _ _ _ (Option.some.inj e).symm
  cases b with
  | nol v =>
    refine ⟨?_, h.2⟩
    rcases h.1 with h | h | h | h | ⟨a, xs, h, e⟩ | ⟨a, h, e⟩
    · exact .inl h
    · exact .inr (.inl h)
    · exact .inr (.inr (.inl h))
    · exact .inr (.inr (.inr (.inl h)))
    · exact .inr (.inr (.inr (.inr (.inl ⟨a, xs, h, key _ _ e (fun _ _ _ q => by cases q)⟩))))
    · exact .inr (.inr (.inr (.inr (.inr ⟨a, h, key _ _ e (fun _ _ _ q => by cases q)⟩))))
  | big a xs => exact ⟨key _ _ h.1 (fun _ _ _ q => by cases q), h.2⟩
  | wrong a ns o rest =>
    refine ⟨key _ _ h.1 (fun _ _ _ q => by cases q), h.2.1.keepM (mu := fun c => c = p) (fun b u e n => s b u e n) (fun c e => ?_), h.2.2⟩
    subst e
    exact ⟨_, hp, (fun n q => by cases q), (fun r q => by cases q), (fun q => by cases q)⟩
theorem Od.exc {v : V} {H H' : Hp} {p C dx : Addr} {fs : List (Str × V)} (h : Od H v) (hp : H p = some (.ins C dx fs)) (s : ∀ q o, H q = some o → q ≠ p → H' q = some o) : Od H' v := by
  have key : ∀ c u, H c = some u → (∀ C dx fs, u ≠ .ins C dx fs) → H' c = some u := fun c u e n => s c u e fun q => by
    subst q
    rw [hp] at e
    exact n _ _ _ (Option.some.inj e).symm
  rcases h with h | h | h | h | ⟨a, xs, h, e⟩ | ⟨a, xs, h, e⟩ | ⟨a, h, e⟩
  · exact .inl h
  · exact .inr (.inl h)
  · exact .inr (.inr (.inl h))
  · exact .inr (.inr (.inr (.inl h)))
  · exact .inr (.inr (.inr (.inr (.inl ⟨a, xs, h, key _ _ e (fun _ _ _ q => by cases q)⟩))))
  · exact .inr (.inr (.inr (.inr (.inr (.inl ⟨a, xs, h, key _ _ e (fun _ _ _ q => by cases q)⟩)))))
  · exact .inr (.inr (.inr (.inr (.inr (.inr ⟨a, h, key _ _ e (fun _ _ _ q => by cases q)⟩)))))
/-- a source drawn from, and new things that are only read -/
theorem At.draw_olds {g : Gr} {L E : Led} {H H' : Hp} {a : Addr} {e e' : Ent} {i : Nat} (z : At g L H) (k : L[i]? = some (a, e, true)) (s : Exc a H H') (h : EntAt e' H' a) (hE : ∀ q ∈ E, H q.1 = none ∧ q.2.2 = false ∧ ∃ o, H' q.1 = some o ∧ q.2.1.In H' o) (hmv : e.mov2 = true := by rfl) : At g (L.set i (a, e', true) ++ E) H' := by
  have z2 := z.draw k s h hmv
  refine ⟨z2.old, fun q hq => ?_, fun q hq hb => ?_, ?_⟩
  · rcases List.mem_append.mp hq with hq | hq
    · exact z2.led q hq
    · exact (hE q hq).2.2
  · rcases List.mem_append.mp hq with hq | hq
    · exact z2.own q hq hb
    · rw [(hE q hq).2.1] at hb
      cases hb
  · rw [List.pairwise_append]
    refine ⟨z2.nd, ?_, fun x hx y hy e2 => ?_⟩
    · rw [List.pairwise_iff_getElem]
      exact fun i j hi hj _ _ => .inr ⟨(hE _ (List.getElem_mem hi)).2.1, (hE _ (List.getElem_mem hj)).2.1⟩
    · have hn := (hE y hy).1
      rcases List.mem_or_eq_of_mem_set hx with r | r
      · obtain ⟨o, h1, _⟩ := z.led x r
        rw [e2, hn] at h1
        cases h1
      · subst r
        obtain ⟨o, h1, _⟩ := z.look k
        rw [show a = y.1 from e2, hn] at h1
        cases h1
/-- with these two in the heap it is a refused list -/
def BadH (least : Int) (bb : BadL) (q1 : Addr) (e1 : HO) (q2 : Addr) (e2 : HO) : Prop := ∀ H : Hp, H q1 = some e1 → H q2 = some e2 → bb.At least [] H
theorem badL {least : Int} {bb : BadL} {q1 q2 : Addr} {e1 e2 : HO} (h : BadH least bb q1 e1 q2 e2) {g : Gr} {L : Led} {b1 b2 : Bool} (i1 i2 : Nat) (h1 : L[i1]? = some (q1, .ob e1, b1)) (h2 : L[i2]? = some (q2, .ob e2, b2)) : ∀ H, At g L H → bb.At least [] H := fun H z => h H (z.get h1) (z.get h2)
theorem cut_to {xs : List Int} {k : Int} (h : 0 ≤ k) : cutV (xs.map V.int) none (some k) = (xs.take k.toNat).map V.int := by
  unfold cutV
  have h1 : HT.sIx (xs.map V.int).length (xs.map V.int).length (some k) = min k.toNat xs.length := by
    unfold HT.sIx
    simp
    omega
  have h2 : HT.sIx (xs.map V.int).length 0 none = 0 := rfl
  rw [h1, h2, List.drop_zero, Nat.sub_zero, ← List.map_take]
  congr 1
  rw [← List.take_take, List.take_length]
theorem cut_from {xs : List Int} {k : Int} (h : 0 ≤ k) : cutV (xs.map V.int) (some k) none = (xs.drop k.toNat).map V.int := by
  unfold cutV
  have h1 : HT.sIx (xs.map V.int).length 0 (some k) = min k.toNat xs.length := by
    unfold HT.sIx
    simp
    omega
  have h2 : HT.sIx (xs.map V.int).length (xs.map V.int).length none = (xs.map V.int).length := rfl
  rw [h1, h2, List.length_map, ← List.map_drop, ← List.map_take]
  congr 1
  rcases Nat.lt_or_ge k.toNat xs.length with q | q
  · rw [Nat.min_eq_left (by omega)]
    exact List.take_of_length_le (by rw [List.length_drop]; omega)
  · rw [Nat.min_eq_right q, List.drop_eq_nil_of_le (Nat.le_refl _), List.drop_eq_nil_of_le q, List.take_nil]
/-- the odd ones, one of them one less than the least -/
theorem ov_drawn9 {x : V} {p1 p2 p3 : Addr} {least : Int} (hl : least = 0 ∨ least = 1) (h : x ∈ [V.bl true, .non, .str "9", .ref p1, .ref p2, .ref p3, .int (-1), .int (least - 1), .int (0 - 100000000000000000000)]) : ∃ o : OV, x = o.v ∧ o.atl least = false ∧ ((∀ H, H p1 = some (.tup [.int 9]) → o.At H) ∨ (∀ H, H p2 = some (.lst [.int 9]) → o.At H) ∨ ∀ H, H p3 = some (.dK []) → o.At H) := by
  have num : ∀ n : Int, n < least → OV.atl least (.num n) = false := fun n hn => decide_eq_false (by omega)
  simp only [List.mem_cons, List.not_mem_nil, or_false] at h
  rcases h with rfl | rfl | rfl | rfl | rfl | rfl | rfl | rfl | rfl
  · exact ⟨.bl true, rfl, rfl, .inl fun H z => trivial⟩
  · exact ⟨.non, rfl, rfl, .inl fun H z => trivial⟩
  · exact ⟨.lit "9", rfl, rfl, .inl fun H z => trivial⟩
  · exact ⟨.tup p1 9, rfl, rfl, .inl fun H z => ⟨by decide, z⟩⟩
  · exact ⟨.lst p2 9, rfl, rfl, .inr (.inl fun H z => ⟨by decide, z⟩)⟩
  · exact ⟨.dct p3, rfl, rfl, .inr (.inr fun H z => z)⟩
  · exact ⟨.num (-1), rfl, num _ (by omega), .inl fun H z => log_small (by omega)⟩
  · exact ⟨.num (least - 1), rfl, num _ (by omega), .inl fun H z => log_small (by omega)⟩
  · exact ⟨.num (0 - 100000000000000000000), rfl, num _ (by omega), .inl fun H z => log_small (by omega)⟩
theorem wrongAt_of {least : Int} {bar ns : List Int} {o : OV} (h1 : ns.Pairwise (· < ·)) (h2 : ∀ n ∈ ns, (least ≤ n ∧ n ≤ 10 ^ 60) ∧ n ∉ bar) (h3 : isIv o.v = false ∨ ∃ n, o = .num n ∧ (n < least ∨ n ∈ bar ∨ ∃ q, q + 1 = ns.length ∧ n ≤ ns.getD q 0)) : WrongAt least bar ns o :=
  ⟨fun j h => ⟨(h2 _ (List.getElem_mem h)).1, (h2 _ (List.getElem_mem h)).2, fun q e => by
    have hq : q < ns.length := by omega
    rw [show ns.getD q 0 = ns[q] by simp [List.getD, List.getElem?_eq_getElem hq]]
    exact List.pairwise_iff_getElem.mp h1 q j hq h (by omega)⟩, h3⟩
theorem atl_wrong {least : Int} {o : OV} (h : o.atl least = false) : isIv o.v = false ∨ ∃ n, o = .num n ∧ n < least := by
  rcases OV.bad h with ⟨n, e, h⟩ | h
  · exact .inr ⟨n, e, h⟩
  · exact .inl h
theorem wp_nf {α : Type} {g : Gr} {L L' : Led} {m : Hp → (α → Hp → Prop) → Prop} {C : α → Led → Prop} (e : L = L') (h : Wp g L' m C) : Wp g L m C := e ▸ h
/-- tables, and objects that are no lists -/
def noLst (L : Led) : Bool := L.all fun p => match p.2.1 with
  | .tab _ => true
  | .ob (.lst _) => false
  | .ob _ => true
  | _ => false
theorem at_srcN {g : Gr} {L : Led} {a : Addr} {E : Ent} {h : Hp} (z : At g L h) (he : EntAt E h a) (hE : ∀ u, E.In h u → ∃ xs, u = .lst xs) (hmu : g.mu a) (hn : noLst L = true) : At g ((a, E, true) :: L) h := by
  obtain ⟨o, h1, h2⟩ := he
  refine at_cons z h1 h2 (fun hm => ?_) fun _ => .inr hmu
  obtain ⟨p, hp, e⟩ := List.mem_map.mp hm
  have h3 := List.all_eq_true.mp hn p hp
  obtain ⟨u, h4, h5⟩ := z.led p hp
  obtain ⟨xs, rfl⟩ := hE o h2
  rw [e, h1] at h4
  cases h4
  revert h3
  cases hq : p.2.1 with
  | tab q =>
    rw [hq] at h5
    obtain ⟨ps, h6, _⟩ := h5
    cases h6
  | ob w =>
    rw [hq] at h5
    have h6 : HO.lst xs = w := h5
    subst h6
    simp
  | _ => simp
end Kr

set_option Elab.async false
set_option linter.all false
set_option maxRecDepth 100000
set_option maxHeartbeats 4000000
namespace Kr
open PySem L2
/-! #### a for loop over a few written items, turn by turn -/
section
variable {α : Type} {g : Gr} {L : Led} {σ : St} {tg : TG} {tb : TS} {J : It} {S : α → St → St} {K : Ks}
def Uf (g : Gr) (J : It) (tg : TG) (tb : TS) (S : α → St → St) (K : Ks) (xs0 : List α) : List α → St → Led → Prop
  | [], σ, L => Iter g L J tg xs0 S ∧ K.nx σ L
  | x :: r, σ, L => Iter g L J tg xs0 S ∧ Ws g L tb (S x σ) { K with nx := fun σ' L' => Uf g J tg tb S K xs0 r σ' L', ct := fun σ' L' => Uf g J tg tb S K xs0 r σ' L', bk := K.nx }
variable {xs0 r : List α} {x : α}
theorem uf_cons (it : Iter g L J tg xs0 S) (h : Ws g L tb (S x σ) { K with nx := fun σ' L' => Uf g J tg tb S K xs0 r σ' L', ct := fun σ' L' => Uf g J tg tb S K xs0 r σ' L', bk := K.nx }) : Uf g J tg tb S K xs0 (x :: r) σ L := ⟨it, h⟩
theorem uf_nil (it : Iter g L J tg xs0 S) (h : K.nx σ L) : Uf g J tg tb S K xs0 [] σ L := ⟨it, h⟩
theorem uf_nf {xs : List α} {σ' : St} {L' : Led} (e1 : σ = σ') (e2 : L = L') (h : Uf g J tg tb S K xs0 xs σ' L') : Uf g J tg tb S K xs0 xs σ L := by
  subst e1 e2
  exact h
theorem Uf.it : ∀ {xs : List α} {σ : St} {L : Led}, Uf g J tg tb S K xs0 xs σ L → Iter g L J tg xs0 S
  | [], _, _, h => h.1
  | _ :: _, _, _, h => h.1
theorem wf_U {xs : List α} (it0 : Iter g L J tg xs S) (h : Uf g J tg tb S K xs xs σ L) : WFor g L J tg tb σ K := by
  refine wf_G (xs := xs) (S := S) (fun i σ' L' => Uf g J tg tb S K xs (xs.drop i) σ' L') (fun i σ' L' u => u.it) (by rw [List.drop_zero]; exact h) ?_ ?_
  · intro i x σ' L' hi u
    have hlt := (List.getElem?_eq_some_iff.mp hi).1
    have hx := (List.getElem?_eq_some_iff.mp hi).2
    rw [List.drop_eq_getElem_cons hlt, hx] at u
    obtain ⟨_, u⟩ := u
    intro H3 z3 D e
    exact u H3 z3 D ⟨fun σ2 L2 H2 k z2 => e.nx σ2 L2 H2 ⟨L2, k, List.prefix_refl _⟩ z2, e.rt, e.bk, fun σ2 L2 H2 k z2 => e.ct σ2 L2 H2 ⟨L2, k, List.prefix_refl _⟩ z2⟩
  · intro σ' L' u
    rw [List.drop_length] at u
    exact u.2
end
end Kr

set_option Elab.async false
set_option linter.all false
set_option maxRecDepth 100000
set_option maxHeartbeats 4000000
/-! ### == of lists whose items are told by an own __eq__, both answers; == and != of an instance and a value of another kind -/
namespace Kq
open PySem PySem.SeqAt AutoSeq1 MeetsSeq MeetsSeq2 MeetsSeq3 SeqRoads2
section
variable {prog : Program} {w : World} {A : Around} {R : Result → Shared → Prop}
/-- at each turn the lists are read anew: the i-th two are equal, or it ends -/
def ListM (prog : Program) (w : World) (A : Around) (E : Value → Shared → Prop) (l b : Addr) (N : Nat) (I : Nat → Shared → Prop) (Dn : Shared → Prop) : Prop :=
  ∀ i s, I i s → ∃ (items items2 : Array Value) (n n2 : Nat), s.heap.get? l = some { cls := .type "list", data := .seq items n } ∧ s.heap.get? b = some { cls := .type "list", data := .seq items2 n2 } ∧ items.size = N ∧ items2.size = N ∧
    ∀ (h1 : i < items.size) (h2 : i < items2.size), wpAny (model prog w) A.in1 (eqBool items[i] items2[i]) (fun r s' => (r = true ∧ I (i + 1) s') ∨ (r = false ∧ Dn s')) E s
theorem eq_loopM (l b : Addr) (N : Nat) (I : Nat → Shared → Prop) (Dn : Shared → Prop) (hl : ListM prog w A (fun e s' => R (.error e) s') l b N I Dn)
    (hd : ∀ s, Dn s → ∃ (items items2 : Array Value) (n n2 : Nat), s.heap.get? l = some { cls := .type "list", data := .seq items n } ∧ s.heap.get? b = some { cls := .type "list", data := .seq items2 n2 } ∧ items.size = N ∧ items2.size = N)
    (fin : ∀ s, I N s → R (.ok (.ret (.bool true))) s) (dn : ∀ s, Dn s → R (.ok (.ret (.bool false))) s) (k : Nat) :
    ∀ i : Nat, N - i = k → i ≤ N → ∀ s, I i s →
      wpAny (model prog w) A.in1 (Builtin.«list.__eq__.loop» ⟨[.ref l, .ref b, rawInt i, rawInt 2], []⟩) (GQ.FinOf prog w A R) (fun e s' => R (.error e) s') s := by
  induction k with
  | zero =>
    intro i hk hi s h
    obtain ⟨items, items2, n, n2, hl1, hb1, hs1, hs2, _⟩ := hl _ _ h
    have hi' : i = N := by omega
    have hR : R (.ok (.ret (.bool true))) s := fin s (hi' ▸ h)
    obtain ⟨hp, g, d, tk, os⟩ := s
    wp_walk using wpAny_loadPart' hl1, wpAny_loadPart' hb1
    have hi1 : items[((i : Nat) : Int).toNat]? = none := by simp; omega
    have hi2 : items2[((i : Nat) : Int).toNat]? = none := by simp; omega
    rw [hi1, hi2]
    wp_walk using wpAny_loadPart' hl1, wpAny_loadPart' hb1
    show R (.ok (.ret (.bool (items.size == items2.size)))) _
    rw [hs1, hs2]
    simpa using hR
  | succ k ih =>
    intro i hk hi s h
    obtain ⟨items, items2, n, n2, hl1, hb1, hs1, hs2, turn⟩ := hl _ _ h
    have hlt : i < items.size := by omega
    have hlt2 : i < items2.size := by omega
    have ht := turn hlt hlt2
    obtain ⟨hp, g, d, tk, os⟩ := s
    wp_walk using wpAny_loadPart' hl1, wpAny_loadPart' hb1
    have hi1 : items[((i : Nat) : Int).toNat]? = some items[i] := by simp [hlt]
    have hi2 : items2[((i : Nat) : Int).toNat]? = some items2[i] := by simp [hlt2]
    have hc : ((i : Int) + 1) = ((i + 1 : Nat) : Int) := by omega
    rw [hi1, hi2]
    refine wpAny_bind (wpAny_mono ht (fun r s2 h2 => ?_) fun _ _ x => x)
    rcases h2 with ⟨hr, h2⟩ | ⟨hr, h2⟩
    · subst hr
      have hrec := ih (i + 1) (by omega) (by omega) s2 h2
      obtain ⟨hp2, g2, d2, tk2, os2⟩ := s2
      wp_walk
      rw [hc]
      exact ⟨plainId_quiet plain_eq_loop _, codeAny_builtin entry_eq_loop (by
        rw [Around.under_plainId plain_eq_loop _]
        exact hrec)⟩
    · subst hr
      have hR := dn s2 h2
      obtain ⟨its, its2, m, m2, hl2, hb2, hs3, hs4⟩ := hd s2 h2
      obtain ⟨hp2, g2, d2, tk2, os2⟩ := s2
      wp_walk using wpAny_loadPart' hl2, wpAny_loadPart' hb2
      have hj1 : its[((i : Nat) : Int).toNat]? = some (its[i]'(by omega)) := by
        rw [Int.toNat_natCast]
        exact Array.getElem?_eq_getElem (by omega)
      have hj2 : its2[((i : Nat) : Int).toNat]? = some (its2[i]'(by omega)) := by
        rw [Int.toNat_natCast]
        exact Array.getElem?_eq_getElem (by omega)
      rw [hj1, hj2]
      wp_walk
      exact hR
theorem list_eqM (l b : Addr) (N : Nat) (I : Nat → Shared → Prop) (Dn : Shared → Prop) (hl : ListM prog w A (fun e s' => R (.error e) s') l b N I Dn)
    (hd : ∀ s, Dn s → ∃ (items items2 : Array Value) (n n2 : Nat), s.heap.get? l = some { cls := .type "list", data := .seq items n } ∧ s.heap.get? b = some { cls := .type "list", data := .seq items2 n2 } ∧ items.size = N ∧ items2.size = N)
    (fin : ∀ s, I N s → R (.ok (.ret (.bool true))) s) (dn : ∀ s, Dn s → R (.ok (.ret (.bool false))) s) {s : Shared} (h : I 0 s) :
    wpAny (model prog w) A.in1 (Builtin.«list.__eq__» ⟨[.ref l, .ref b], []⟩) (GQ.FinOf prog w A R) (fun e s' => R (.error e) s') s := by
  obtain ⟨items, items2, n, n2, hl1, hb1, hs1, hs2, _⟩ := hl _ _ h
  have hrec := eq_loopM (A := A) (R := R) l b N I Dn hl hd fin dn _ 0 rfl (Nat.zero_le _) s h
  obtain ⟨hp, g, d, tk, os⟩ := s
  have f3 := AutoSeq1.sub_list_list
  have hne : ¬ (items.size != items2.size) = true := by simp [hs1, hs2]
  wp_walk using wpAny_loadPart' hl1, wpAny_loadPart' hb1
  exact ⟨plainId_quiet plain_eq_loop _, codeAny_builtin entry_eq_loop (by
    rw [Around.under_plainId plain_eq_loop _]
    exact hrec)⟩
end
section
variable {prog : Program} {w : World} {A : Around} {E : Value → Shared → Prop} {s : Shared}
theorem rc_listM {l b : Addr} {N : Nat} {Q : Value → Shared → Prop} (hu : A.units < cLine) (I : Nat → Shared → Prop) (Dn : Shared → Prop) (hl : ListM prog w A E l b N I Dn)
    (hd : ∀ s, Dn s → ∃ (items items2 : Array Value) (n n2 : Nat), s.heap.get? l = some { cls := .type "list", data := .seq items n } ∧ s.heap.get? b = some { cls := .type "list", data := .seq items2 n2 } ∧ items.size = N ∧ items2.size = N)
    (fin : ∀ s, I N s → Q (.bool true) s) (dn : ∀ s, Dn s → Q (.bool false) s) (h : I 0 s) : wpAny (model prog w) A (richCompare .Eq (.ref l) (.ref b)) Q E s := by
  obtain ⟨items, items2, n, n2, hl1, hb1, _, _, _⟩ := hl _ _ h
  refine wpAny_richCompare_same_room (op := .Eq) ⟨_, hl1, rfl⟩ ⟨_, hb1, rfl⟩ F.slot_list_eq (GQ.call_here F.slot_list_eq ⟨_, hl1, rfl⟩ F.entry_list_eq (F.args_list_eq_2 _ _) ?_) hu
  exact list_eqM (R := wants (fun v s' => v ≠ .notImplemented ∧ Q v s') E) l b N I Dn hl hd (fun s' q => ⟨(fun x => nomatch x), fin s' q⟩) (fun s' q => ⟨(fun x => nomatch x), dn s' q⟩) h
end
end Kq
namespace L2
open PySem PySem.Spec PyProof.Rows
section
variable {X : Cx} {n : Nat}
/-- x == y gives r, and only makes objects -/
abbrev EqvB := V → V → Bool → Hp → Prop
def MonB (D : EqvB) : Prop := ∀ x y r H H', Ext H H' → D x y r H → D x y r H'
def EqM (X : Cx) (n : Nat) (D : EqvB) : Prop :=
  ∀ (A : Around) (pins : List (Addr × Obj)) (s : Shared) (σ : St) (H : Hp) (x y : V) (u v : Value) (r : Bool), Sub X n A → Inv X pins σ H s → RelV x u → RelV y v → D x y r H →
    wpAny (model X.prog X.w) A (eqBool u v) (fun r' s' => r' = r ∧ ∃ H', Inv X pins σ H' s' ∧ Ext H H') X.xe s
/-- two instances, not the same, of a class with an own __eq__ that answers r -/
def DOwnB (C : Addr) (sp : Sp) : EqvB := fun x y r H => ∃ (a c dx dy : Addr) (fs gs : List (Str × V)), x = .ref a ∧ y = .ref c ∧ a ≠ c ∧ H a = some (.ins C dx fs) ∧ H c = some (.ins C dy gs) ∧ ∀ H1, Ext H H1 → ∀ Q : VK, (∀ H', Ext H1 H' → Q (.bl r) H') → sp [.ref a, .ref c] H1 Q E0
theorem monB_own {C : Addr} {sp : Sp} : MonB (DOwnB C sp) := fun x y r H H' e ⟨a, c, dx, dy, fs, gs, h1, h2, h3, h4, h5, h6⟩ => ⟨a, c, dx, dy, fs, gs, h1, h2, h3, e _ _ h4, e _ _ h5, fun H1 e1 => h6 H1 (e.trans e1)⟩
def DMixB (K : PySem.W.Frag) : EqvB := fun x y r H => MixV K H x y r
theorem monB_mix {K : PySem.W.Frag} : MonB (DMixB K) := fun x y r H H' e h => by
  cases h with
  | same a => exact .same a
  | num2 h1 h2 => exact .num2 (h1.ext e) (h2.ext e)
theorem monB_or {D1 D2 : EqvB} (h1 : MonB D1) (h2 : MonB D2) : MonB (fun x y r H => D1 x y r H ∨ D2 x y r H) := fun x y r H H' e h => h.imp (h1 x y r H H' e) (h2 x y r H H' e)
theorem eqM_or {D1 D2 : EqvB} (h1 : EqM X n D1) (h2 : EqM X n D2) : EqM X n (fun x y r H => D1 x y r H ∨ D2 x y r H) := fun A pins s σ H x y u v r sb I rx ry h => h.elim (h1 A pins s σ H x y u v r sb I rx ry) (h2 A pins s σ H x y u v r sb I rx ry)
theorem eqM_mix : EqM X n (DMixB X.K) := fun A pins s σ H x y u v r sb I rx ry h => by
  have q := mix_eqAt (A := A) I sb.room.units0 h rx ry
  exact q X.prog X.w X.xe _ ⟨rfl, H, I, Ext.rfl'⟩
theorem eqM_own {C f : Addr} {fd : FuncData} {ps : List Str} {sp : Sp} (F : FnOk X.prog X.w X.K X.mg X.base CX0 n f fd ps sp) (he : PySem.W.findIn X.K (.ref C) "__eq__" = some (some (.ref f))) (hf : PySem.W.isFn X.K (.ref f) = true) (hb : Binds X.K fd ps []) : EqM X n (DOwnB C sp) := fun A pins s σ H x y u v r sb I rx ry h => by
  obtain ⟨a, c, dx, dy, fs, gs, rfl, rfl, hne, ha, hc, hsp⟩ := h
  cases rx
  cases ry
  obtain ⟨m1, J1, _⟩ := ins_get I.hok ha
  obtain ⟨m2, J2, _⟩ := ins_get I.hok hc
  obtain ⟨o1, J1, _⟩ := J1.look
  obtain ⟨o2, J2, _⟩ := J2.look
  obtain ⟨m, hF⟩ := I.fr
  refine GQ.eqBool_refG hne ?_
  refine PySem.W.cmp_K (op := .Eq) (tb := .ref C) sb.room.units0 hF I.ok.mod.kin J1 J2.type (by simp [PySem.W.notFirst]) he hf ?_
  refine wpAny_mono (own_call F hb sb I (hsp H Ext.rfl' (fun v H' => v = .bl r ∧ Ext H H') fun H' e => ⟨rfl, e⟩)) (fun z t q => ?_) fun _ _ z => z
  obtain ⟨v, H', I', rz, rfl, q⟩ := q
  cases rz
  cases r <;> exact ⟨_, rfl, rfl, H', I', q⟩
theorem Sub.in1' {A : Around} (s : Sub X (n + 1) A) : Sub X n A.in1 := s.in1
/-- [..] == [..] -/
def rEqLM (D : EqvB) : R2 := fun x y H Q => ∃ (a b : Addr) (xs ys : List V) (rs : List Bool), x = .ref a ∧ y = .ref b ∧ H a = some (.lst xs) ∧ H b = some (.lst ys) ∧ xs.length = rs.length ∧ ys.length = rs.length ∧
  (∀ (j : Nat) x y r, xs[j]? = some x → ys[j]? = some y → rs[j]? = some r → D x y r H) ∧ ∀ H', Ext H H' → Q (.bl (rs.all id)) H'
theorem op_eqLM {D : EqvB} (hD : MonB D) (h : EqM X n D) (hr : Room (n + 1) X.A) : OpR X (compareOp .Eq) (rEqLM D) := by
  intro pins s σ H x y v u Q I rx ry hq
  obtain ⟨a, b, xs, ys, rs, rfl, rfl, ha, hb, l1, l2, hm, q⟩ := hq
  cases rx
  cases ry
  have sb : Sub X (n + 1) X.A := ⟨hr, rfl⟩
  show wpAny (model X.prog X.w) X.A (richCompare .Eq (.ref a) (.ref b)) (EP X pins σ Q) X.xe s
  refine Kq.rc_listM (N := rs.length) sb.room.units0 (fun i s' => (∀ (j : Nat) r, j < i → rs[j]? = some r → r = true) ∧ LoopI X pins σ H s') (fun s' => rs.all id = false ∧ LoopI X pins σ H s') (fun i s' z => ?_) (fun s' z => ?_) (fun s' z => ?_) (fun s' z => ?_) ⟨fun j r hj => absurd hj (Nat.not_lt_zero _), H, I, Ext.rfl'⟩
  · obtain ⟨hpre, H1, I1, e1⟩ := z
    obtain ⟨_, its, k, r, e⟩ := I1.hok a _ (e1 _ _ ha)
    obtain ⟨_, its2, k2, r2, e2⟩ := I1.hok b _ (e1 _ _ hb)
    refine ⟨its.toArray, its2.toArray, k, k2, e, e2, by rw [List.size_toArray, ← r.length]; exact l1, by rw [List.size_toArray, ← r2.length]; exact l2, fun h1 h2 => ?_⟩
    have j1 : i < its.length := by simpa using h1
    have j2 : i < its2.length := by simpa using h2
    have k1 := r.length
    have k3 := r2.length
    have hx : xs[i]? = some (xs[i]'(by omega)) := List.getElem?_eq_getElem (by omega)
    have hy : ys[i]? = some (ys[i]'(by omega)) := List.getElem?_eq_getElem (by omega)
    have hz : rs[i]? = some (rs[i]'(by omega)) := List.getElem?_eq_getElem (by omega)
    obtain ⟨v, hv, rv⟩ := r.get hx
    obtain ⟨u, hu2, ru⟩ := r2.get hy
    rw [List.getElem?_eq_getElem j1] at hv
    rw [List.getElem?_eq_getElem j2] at hu2
    have hv := Option.some.inj hv
    have hu2 := Option.some.inj hu2
    subst hv hu2
    have step := h X.A.in1 pins s' σ H1 _ _ its[i] its2[i] _ sb.in1 I1 rv ru (hD _ _ _ _ _ e1 (hm i _ _ _ hx hy hz))
    have g1 : its.toArray[i] = its[i] := by simp
    have g2 : its2.toArray[i] = its2[i] := by simp
    rw [g1, g2]
    refine wpAny_mono step (fun r' t z => ?_) fun _ _ z => z
    obtain ⟨rfl, H2, I2, e3⟩ := z
    cases hr9 : rs[i]'(by omega) with
    | true =>
      refine .inl ⟨rfl, fun j r hj hjr => ?_, H2, I2, e1.trans e3⟩
      by_cases hji : j = i
      · subst hji
        rw [hz, hr9] at hjr
        exact (Option.some.inj hjr).symm
      · exact hpre j r (by omega) hjr
    | false =>
      refine .inr ⟨rfl, ?_, H2, I2, e1.trans e3⟩
      rw [Bool.eq_false_iff]
      intro hall
      have := List.all_eq_true.mp hall _ (List.getElem_mem (show i < rs.length by omega))
      rw [hr9] at this
      cases this
  · obtain ⟨_, H1, I1, e1⟩ := z
    obtain ⟨_, its, k, r, e⟩ := I1.hok a _ (e1 _ _ ha)
    obtain ⟨_, its2, k2, r2, e2⟩ := I1.hok b _ (e1 _ _ hb)
    exact ⟨its.toArray, its2.toArray, k, k2, e, e2, by rw [List.size_toArray, ← r.length]; exact l1, by rw [List.size_toArray, ← r2.length]; exact l2⟩
  · obtain ⟨hpre, H1, I1, e1⟩ := z
    have e : rs.all id = true := List.all_eq_true.mpr fun r hr => by
      obtain ⟨j, hj⟩ := List.mem_iff_getElem?.mp hr
      exact hpre j r (List.getElem?_eq_some_iff.mp hj).1 hj
    exact ⟨.bl true, H1, I1, rfl, by rw [← e]; exact q H1 e1⟩
  · obtain ⟨e, H1, I1, e1⟩ := z
    exact ⟨.bl false, H1, I1, rfl, by rw [← e]; exact q H1 e1⟩
/-! #### an instance and any value -/
def rOwnX (K : PySem.W.Frag) (C : Addr) (neg : Bool) (sp : Sp) : R2 := fun x y H Q => ∃ (a dx : Addr) (fs : List (Str × V)) (t : Value), x = .ref a ∧ H a = some (.ins C dx fs) ∧ TyX K H y t ∧ PySem.W.notFirst K C t = true ∧ sp [.ref a, y] H (fun v H' => ∃ r : Bool, v = .bl r ∧ Q (.bl (r != neg)) H') E0
theorem own_callX {A : Around} {f : Addr} {fd : FuncData} {ps : List Str} {sp : Sp} {pins : List (Addr × Obj)} {σ : St} {H : Hp} {s : Shared} {a : Addr} {y : V} {u : Value} {Q : VK} (F : FnOk X.prog X.w X.K X.mg X.base CX0 n f fd ps sp) (hb : Binds X.K fd ps []) (sb : Sub X n A) (I : Inv X pins σ H s) (ry : RelV y u)
    (hsp : sp [.ref a, y] H Q E0) : wpAny (model X.prog X.w) A (call (.ref f) [.ref a, u]) (EP X pins σ Q) X.xe s := by
  have e0 : Env0 X.prog X.w X.K X.mg X.base A X.stack s H := by
    have e := I.env0
    exact ⟨by rw [sb.fr]; exact e.frames, e.mod, e.bs, e.bsz, e.funs, e.frf, e.hok, e.bare⟩
  have hl := F.len _ _ _ _ hsp
  have r2 : Vals [V.ref a, y] [Value.ref a, u] := .cons rfl (.cons ry .nil)
  refine wpAny_call (codeAny_mono (F.run A X.stack s H ⟨[.ref a, u], []⟩ [.ref a, u] [.ref a, y] _ E0 sb.room e0 (by
    have z := hb s [.ref a, u] I.kIn (by simpa using hl)
    simpa using z) r2 hsp) fun r t hq => ?_)
  cases r with
  | error e => exact pass0 pins σ H s e t I hq
  | ok fl =>
    cases fl with
    | ret z => exact I.after hq
    | next => exact False.elim hq
    | brk => exact False.elim hq
    | cont => exact False.elim hq
theorem op_ownEqX {C f : Addr} {fd : FuncData} {ps : List Str} {sp : Sp} (F : FnOk X.prog X.w X.K X.mg X.base CX0 n f fd ps sp) (he : PySem.W.findIn X.K (.ref C) "__eq__" = some (some (.ref f))) (hf : PySem.W.isFn X.K (.ref f) = true) (hb : Binds X.K fd ps []) (hr : Room n X.A) :
    OpR X (compareOp .Eq) (rOwnX X.K C false sp) := by
  intro pins s σ H x y v u Q I rx ry hq
  obtain ⟨a, dx, fs, t, rfl, ha, ty, hn, hsp⟩ := hq
  cases rx
  obtain ⟨m1, J1, _⟩ := ins_get I.hok ha
  obtain ⟨o1, J1, _⟩ := J1.look
  obtain ⟨m, hF⟩ := I.fr
  obtain ⟨P, Z, p, _⟩ := kit_of I ry ty
  refine PySem.W.cmp_K (op := .Eq) (tb := t) hr.units0 hF I.ok.mod.kin J1 (Z.ty _ _ I.kIn p) hn he hf ?_
  refine wpAny_mono (own_callX F hb ⟨hr, rfl⟩ I ry hsp) (fun z t q => ?_) fun _ _ z => z
  obtain ⟨v, H', I', rz, r, rfl, q⟩ := q
  cases rz
  refine ⟨.bl (r != false), H', I', ?_, q⟩
  cases r <;> rfl
end
end L2
namespace Kq
open PySem PySem.SeqAt
section
variable {prog : Program} {w : World} {A : Around} {E : Value → Shared → Prop} {s : Shared} {K : PySem.W.Frag} {x C f : Addr} {b tb : Value} {ox : Obj} {od : Option Obj}
theorem rc_neX {Q : Value → Shared → Prop} (hu : A.units + 1 < cLine) (X : K.In s.heap) (I : PySem.W.InstAt s.heap x ox C od) (hb : PySem.W.Looks (model prog w) s.heap (typeOf b) tb) (hnf : PySem.W.notFirst K C tb = true)
    (hn : PySem.W.findIn K (.ref C) "__ne__" = some (some (.builtin "object.__ne__"))) (he : PySem.W.findIn K (.ref C) "__eq__" = some (some (.ref f))) (hf : PySem.W.isFn K (.ref f) = true) (hm : PySem.W.mroIn K C (.type "object") = some true)
    (h : wpAny (model prog w) A.in1 (call (.ref f) [.ref x, b]) (fun v s' => ∃ r, v = .bool r ∧ Q (.bool (!r)) s') E s) : wpAny (model prog w) A (richCompare .NotEq (.ref x) b) Q E s := by
  have one : wpAny (model prog w) A (tryCompare (.ref x) "__ne__" b) (fun r s' => ∃ v, r = some v ∧ Q v s') E s := by
    unfold tryCompare
    refine wpAny_bind (bound_ne X I hn (wpAny_call (codeAny_call_builtin F.cmp_object.ne.plain F.cmpEntry_ne (PySem.W.check_slot F.cmpKind_ne F.cmpSplit_ne (I.type.andThen (PySem.W.looks_mroIn X hm)) (F.cmpArgs_ne _ _)
      (body_ne (A := A.in1) (b := b) hu X I he hf (wpAny_mono h (fun v s' q => ?_) fun _ _ z => z))))))
    obtain ⟨r, rfl, q⟩ := q
    first | exact ⟨r, rfl, wpAny_pure ⟨_, rfl, q⟩⟩ | exact ⟨r, rfl, wpAny_pure (wpAny_pure ⟨_, rfl, q⟩)⟩
  unfold richCompare
  simp only [oneThing_ref, cmpInfo_NotEq]
  refine wpAny_holding (wpAny_bind (wpAny_cRoomFor (Nat.lt_of_succ_lt hu) ?_))
  refine wpAny_bind (I.type.here (wpAny_bind (hb.here ?_)))
  split
  · rename_i q
    have e : PySem.W.subIn K tb (.ref C) = some false := by
      rcases Bool.or_eq_true_iff.mp hnf with e | e
      · rw [beq_iff_eq.mp e] at q; simp at q
      · exact beq_iff_eq.mp e
    refine wpAny_bind ((PySem.W.looks_subIn X e).here ?_)
    simp only [Bool.false_eq_true, if_false]
    refine wpAny_bind (wpAny_mono one (fun r s' z => ?_) fun _ _ e => e)
    obtain ⟨v, rfl, hq⟩ := z
    exact wpAny_pure hq
  · refine wpAny_bind (wpAny_pure ?_)
    simp only [Bool.false_eq_true, if_false]
    refine wpAny_bind (wpAny_mono one (fun r s' z => ?_) fun _ _ e => e)
    obtain ⟨v, rfl, hq⟩ := z
    exact wpAny_pure hq
end
end Kq
namespace L2
open PySem PySem.Spec PyProof.Rows
section
variable {X : Cx} {n : Nat}
theorem op_ownNeX {C f : Addr} {fd : FuncData} {ps : List Str} {sp : Sp} (F : FnOk X.prog X.w X.K X.mg X.base CX0 n f fd ps sp) (he : PySem.W.findIn X.K (.ref C) "__eq__" = some (some (.ref f))) (hf : PySem.W.isFn X.K (.ref f) = true) (hb : Binds X.K fd ps [])
    (hn : PySem.W.findIn X.K (.ref C) "__ne__" = some (some (.builtin "object.__ne__"))) (hm : PySem.W.mroIn X.K C (.type "object") = some true) (hr : Room (n + 1) X.A) : OpR X (compareOp .NotEq) (rOwnX X.K C true sp) := by
  intro pins s σ H x y v u Q I rx ry hq
  obtain ⟨a, dx, fs, t, rfl, ha, ty, hnf, hsp⟩ := hq
  cases rx
  obtain ⟨m1, J1, _⟩ := ins_get I.hok ha
  obtain ⟨o1, J1, _⟩ := J1.look
  obtain ⟨P, Z, p, _⟩ := kit_of I ry ty
  have sb : Sub X (n + 1) X.A := ⟨hr, rfl⟩
  show wpAny (model X.prog X.w) X.A (richCompare .NotEq (.ref a) u) (EP X pins σ Q) X.xe s
  refine Kq.rc_neX sb.in1.room.units0 I.kIn J1 (Z.ty _ _ I.kIn p) hnf hn he hf hm ?_
  refine wpAny_mono (own_callX F hb sb.in1 I ry hsp) (fun z t q => ?_) fun _ _ z => z
  obtain ⟨v, H', I', rz, r, rfl, q⟩ := q
  cases rz
  exact ⟨r, rfl, .bl (!r), H', I', rfl, by cases r <;> exact q⟩
end
end L2
namespace Kr
open PySem L2
section
variable {X : Cx} {C : Addr} {k n : Nat} {qual : Str} {st : Stmt} {ps : List Str} {sp : Sp}
theorem op_eqX (O : OkM X.prog X.w X.K X.mg X.base C k "__eq__" qual st ps sp) (hr : Room k X.A) : OpR X (compareOp .Eq) (rOwnX X.K C false sp) := by
  obtain ⟨f, fd, M, _, hb, F⟩ := O.ex
  exact op_ownEqX F M.1 M.2 hb hr
theorem op_neX (O : OkM X.prog X.w X.K X.mg X.base C k "__eq__" qual st ps sp) (N : NeC X.K C) (hr : Room (k + 1) X.A) : OpR X (compareOp .NotEq) (rOwnX X.K C true sp) := by
  obtain ⟨f, fd, M, _, hb, F⟩ := O.ex
  exact op_ownNeX F M.1 M.2 hb N.ne N.mro hr
theorem op_eqXK {Kf : PySem.W.Frag} (hK : X.K = Kf) (O : OkM X.prog X.w X.K X.mg X.base C k "__eq__" qual st ps sp) (hr : Room k X.A) : OpR X (compareOp .Eq) (rOwnX Kf C false sp) := hK ▸ op_eqX O hr
theorem op_neXK {Kf : PySem.W.Frag} (hK : X.K = Kf) (O : OkM X.prog X.w X.K X.mg X.base C k "__eq__" qual st ps sp) (N : NeC X.K C) (hr : Room (k + 1) X.A) : OpR X (compareOp .NotEq) (rOwnX Kf C true sp) := hK ▸ op_neX O N hr
theorem c_listK {X : Cx} {Kf : PySem.W.Frag} (hK : X.K = Kf) : CallR X (.type "list") (rListOf Kf) := hK ▸ c_list
/-- items: instances of the class, or ints' lists, or the same object -/
def DPrt (K : PySem.W.Frag) (C : Addr) (sp : Sp) : EqvB := fun x y r H => DOwnB C sp x y r H ∨ DMixB K x y r H
theorem op_eqPrt (O : OkM X.prog X.w X.K X.mg X.base C k "__eq__" qual st ps sp) (hr : Room (k + 1) X.A) : OpR X (compareOp .Eq) (rEqLM (DPrt X.K C sp)) := by
  obtain ⟨f, fd, M, _, hb, F⟩ := O.ex
  exact op_eqLM (monB_or monB_own monB_mix) (eqM_or (eqM_own F M.1 M.2 hb) eqM_mix) hr
end
section
variable {K : PySem.W.Frag} {g : Gr} {L : Led} {C : V → Led → Prop} {a b : Addr} {b1 b2 : Bool} {Cl : Addr} {sp : Sp}
/-- an item by the ledger -/
inductive PrtL (K : PySem.W.Frag) (Cl : Addr) (sp : Sp) (L : Led) : V → V → Bool → Prop
  | own {a c dx dy : Addr} {fs gs : List (Str × V)} {b1 b2 : Bool} {r : Bool} (i j : Nat) (h1 : L[i]? = some (a, .ob (.ins Cl dx fs), b1)) (h2 : L[j]? = some (c, .ob (.ins Cl dy gs), b2)) (hne : a ≠ c) (h : ∀ H1, H1 a = some (.ins Cl dx fs) → H1 c = some (.ins Cl dy gs) → ∀ Q : VK, (∀ H', Ext H1 H' → Q (.bl r) H') → sp [.ref a, .ref c] H1 Q E0) : PrtL K Cl sp L (.ref a) (.ref c) r
  | mix {x y : V} {r : Bool} (h : MixL L x y r) : PrtL K Cl sp L x y r
theorem PrtL.at_ {H : Hp} {x y : V} {r : Bool} (z : At g L H) (h : PrtL K Cl sp L x y r) : DPrt K Cl sp x y r H := by
  cases h with
  | own i j h1 h2 hne h => exact .inl ⟨_, _, _, _, _, _, rfl, rfl, hne, z.get h1, z.get h2, fun H1 e => h H1 (e _ _ (z.get h1)) (e _ _ (z.get h2))⟩
  | mix h => exact .inr (h.at_ z)
inductive PrtLs (K : PySem.W.Frag) (Cl : Addr) (sp : Sp) (L : Led) : List V → List V → List Bool → Prop
  | nil : PrtLs K Cl sp L [] [] []
  | cons {x y : V} {r : Bool} {xs ys : List V} {rs : List Bool} (h : PrtL K Cl sp L x y r) (t : PrtLs K Cl sp L xs ys rs) : PrtLs K Cl sp L (x :: xs) (y :: ys) (r :: rs)
theorem PrtLs.len {xs ys : List V} {rs : List Bool} (h : PrtLs K Cl sp L xs ys rs) : xs.length = rs.length ∧ ys.length = rs.length := by
  induction h with
  | nil => exact ⟨rfl, rfl⟩
  | cons h t ih => simp [ih.1, ih.2]
theorem PrtLs.all {H : Hp} (z : At g L H) {xs ys : List V} {rs : List Bool} (h : PrtLs K Cl sp L xs ys rs) : ∀ (j : Nat) x y r, xs[j]? = some x → ys[j]? = some y → rs[j]? = some r → DPrt K Cl sp x y r H := by
  induction h with
  | nil => intro j x y r h; simp at h
  | cons h t ih =>
    intro j x y r h1 h2 h3
    cases j with
    | zero =>
      simp at h1 h2 h3
      subst h1 h2 h3
      exact h.at_ z
    | succ j => exact ih j x y r (by simpa using h1) (by simpa using h2) (by simpa using h3)
theorem wr_eqPrt {xs ys : List V} {rs : List Bool} (i j : Nat) (h1 : L[i]? = some (a, .ob (.lst xs), b1)) (h2 : L[j]? = some (b, .ob (.lst ys), b2)) (e : ∀ H, At g L H → PrtLs K Cl sp L xs ys rs) (c : C (.bl (rs.all id)) L) : Wp g L (rEqLM (DPrt K Cl sp) (.ref a) (.ref b)) C :=
  fun H z Q q => ⟨a, b, xs, ys, rs, rfl, rfl, z.get h1, z.get h2, (e H z).len.1, (e H z).len.2, (e H z).all z, fun H' x => q _ _ _ c (z.ext x)⟩
/-- x == y, x != y: y of another kind -/
theorem wr_ownX {neg : Bool} {a dx : Addr} {fs : List (Str × V)} {y : V} {t : Value} {bo : Bool} (i : Nat) (h1 : L[i]? = some (a, .ob (.ins Cl dx fs), bo)) (ty : ∀ H, At g L H → TyX K H y t) (hnf : PySem.W.notFirst K Cl t = true)
    (h : Wp g L (fun H Q => sp [.ref a, y] H Q E0) fun v L' => ∃ r : Bool, v = .bl r ∧ C (.bl (r != neg)) L') : Wp g L (rOwnX K Cl neg sp (.ref a) y) C :=
  fun H z Q q => ⟨a, dx, fs, t, rfl, z.get h1, ty H z, hnf, h H z _ fun v L' H' ⟨r, e, c⟩ z' => ⟨r, e, q _ _ _ c z'⟩⟩
end
/-- a value of a builtin kind, or an instance of the class B -/
def OdI (B : Addr) (H : Hp) (v : V) : Prop := Od H v ∨ ∃ (a dx : Addr) (fs : List (Str × V)), v = .ref a ∧ H a = some (.ins B dx fs)
theorem OdI.same {B : Addr} {H H' : Hp} {v : V} (h : OdI B H v) (s : Same H H') : OdI B H' v := h.imp (fun h => h.same s) fun ⟨a, dx, fs, e, h⟩ => ⟨a, dx, fs, e, s _ _ h⟩
structure NoSub (K : PySem.W.Frag) (B C : Addr) : Prop where
  ask : AskC K C
  ins : C8.InsC K B
  sub : PySem.W.subIn K (.ref B) (.ref C) = some false
  self : PySem.W.subIn K (.ref B) (.ref B) = some true
/-- its type, and that it is no instance of C -/
theorem OdI.ty {K : PySem.W.Frag} {B C : Addr} {H : Hp} {v : V} (n : NoSub K B C) (h : OdI B H v) : ∃ t, TyX K H v t ∧ PySem.W.notFirst K C t = true ∧ PySem.W.kitOne K t (.ref C) = some false := by
  have key : ∀ T : String, PySem.W.subIn K (.type T) (.ref C) = some false → PySem.W.notFirst K C (.type T) = true ∧ PySem.W.kitOne K (.type T) (.ref C) = some false := fun T h => ⟨by unfold PySem.W.notFirst; rw [h]; simp, ki_tyref n.ask h⟩
  have ki : ∀ {D C : Addr}, PySem.W.isClsIn K C = true → PySem.W.typeIn K (.ref C) = some (.type "type") → PySem.W.subIn K (.ref D) (.ref C) = some false → PySem.W.subIn K (.ref D) (.ref D) = some true → PySem.W.kitOne K (.ref D) (.ref C) = some false := fun h1 h2 h3 h4 => ki_ref h1 h2 h3 h4
  rcases h with (⟨m, rfl⟩ | rfl | ⟨b, rfl⟩ | ⟨s, rfl⟩ | ⟨a, xs, rfl, e⟩ | ⟨a, xs, rfl, e⟩ | ⟨a, rfl, e⟩) | ⟨a, dx, fs, rfl, e⟩
  · exact ⟨_, .base (.int m), key _ rfl⟩
  · exact ⟨_, .base .non, key _ rfl⟩
  · exact ⟨_, .base (.bl b), key _ rfl⟩
  · exact ⟨_, .base (.str s), key _ rfl⟩
  · exact ⟨_, .base (.lst e), key _ rfl⟩
  · exact ⟨_, .base (.tup e), key _ rfl⟩
  · exact ⟨_, .base (.dK e), key _ rfl⟩
  · exact ⟨_, .base (.ins e n.ins.cl n.ins.ha n.ins.hn n.ins.htk n.ins.hm), by unfold PySem.W.notFirst; rw [n.sub]; simp, ki n.ask.1 n.ask.2 n.sub n.self⟩
section
variable {K : PySem.W.Frag} {g : Gr} {L : Led} {C : V → Led → Prop} {B D : Addr} {y : V}
theorem wc_isi_I (n : NoSub K B D) (h : ∀ H, At g L H → OdI B H y) (c : C (.bl false) L) : Wp g L (rIsi K [y, .ref D]) C := .now (fun H Q z q => by
  obtain ⟨t, h1, _, h3⟩ := (h H z).ty n
  exact ⟨y, .ref D, t, _, false, rfl, .own _, h1, h3, q⟩) c
theorem wr_ownI {neg : Bool} {sp : Sp} {a dx : Addr} {fs : List (Str × V)} {bo : Bool} (n : NoSub K B D) (i : Nat) (h1 : L[i]? = some (a, .ob (.ins D dx fs), bo)) (hy : ∀ H, At g L H → OdI B H y)
    (h : Wp g L (fun H Q => sp [.ref a, y] H Q E0) fun v L' => ∃ r : Bool, v = .bl r ∧ C (.bl (r != neg)) L') : Wp g L (rOwnX K D neg sp (.ref a) y) C :=
  fun H z Q q => by
    obtain ⟨t, h2, h3, _⟩ := (hy H z).ty n
    exact ⟨a, dx, fs, t, rfl, z.get h1, h2, h3, h H z _ fun v L' H' ⟨r, e, c⟩ z' => ⟨r, e, q _ _ _ c z'⟩⟩
end
end Kr

set_option Elab.async false
set_option linter.all false
set_option maxRecDepth 100000
set_option maxHeartbeats 2000000
/-! exceptions as values: made (by position and by keyword), asked for their class, their fields read -/
namespace L2
open PySem PySem.Spec PyProof.Rows
/-- at a: an exception of the class at C whose dict at d holds fs -/
def Xat (H : Hp) (a C d : Addr) (fs : List (Str × V)) : Prop := H a = some (exo a C (some d)) ∧ H d = some (exd d fs)
section
variable {X : Cx} {pins : List (Addr × Obj)} {σ : St} {H : Hp} {s : Shared} {a C d : Addr} {fs : List (Str × V)}
theorem xat_inst (I : Inv X pins σ H s) (h : Xat H a C d fs) : ∃ (ox od : Obj) (mA : Str → Option Value), PySem.W.InstAt s.heap a ox C (some od) ∧ (∀ f, RelO (fs.lookup f) (mA f)) ∧ ∀ n, PySem.W.lookIn n od = some (mA n) := by
  obtain ⟨t0, ha⟩ := exo_at I.hok h.1
  obtain ⟨mA, hns, hr⟩ := exd_at I.hok h.2
  obtain ⟨od, ho, hl⟩ := lookIn_ns hns
  exact ⟨_, od, mA, ⟨ha, rfl, rfl, ho⟩, hr, hl⟩
/-- isinstance(x, T), x such an exception -/
def rIsiE (K : PySem.W.Frag) : List V → Hp → VK → Prop := fun xs H Q => ∃ (a C d : Addr) (fs : List (Str × V)) (c : V) (u : Value) (b : Bool), xs = [.ref a, c] ∧ ClsV c u ∧ Xat H a C d fs ∧ ExcC K C ∧ PySem.W.kitOne K (.ref C) u = some b ∧ Q (.bl b) H
theorem call_isiE : CallR X (.builtin "isinstance") (rIsiE X.K) := by
  intro pins s σ H xs us Q I r h
  obtain ⟨a, C, d, fs, c, u, b, rfl, k, hx, T, e, q⟩ := h
  obtain ⟨u1, u2, rfl, r1, r2⟩ := r.two
  cases (show u1 = Value.ref a from r1)
  have e2 := k.eq r2
  subst e2
  obtain ⟨ox, od, mA, J, _⟩ := xat_inst I hx
  exact PySem.W.kia_one (Kp.kitx_xd T) I.kIn ⟨od, J⟩ e (fun z => nomatch z) fun tk => ⟨.bl b, H, I.tok _, rfl, q⟩
theorem call_isiEK {Kf : PySem.W.Frag} (hK : X.K = Kf) : CallR X (.builtin "isinstance") (rIsiE Kf) := by
  subst hK
  exact call_isiE
/-- e.f of such an exception -/
def tXa (K : PySem.W.Frag) (f : Str) (te : TE) : TE := fun σ H Q => te σ H fun x H1 => ∃ (a C d : Addr) (fs : List (Str × V)) (v : V), x = .ref a ∧ Xat H1 a C d fs ∧ XfC K C ∧ PySem.W.findIn K (.ref C) f = some none ∧ fs.lookup f = some v ∧ Q v H1
theorem pe_xa {e : Expr} {te : TE} {pos : Pos} {n : Str} (he : PE X e te) (hb : attributeBase e n X.env (eval e X.env) = eval e X.env := by rfl) : PE X (.Attribute e n pos) (tXa X.K n te) := by
  refine ⟨fun pins s σ H Q I h => ?_⟩
  refine attr_of hb (thn (he.run pins s σ H _ I h) fun u s1 hh => ?_)
  obtain ⟨x, H1, I1, rx, a, C, d, fs, v, ex, hx, T, hno, l, q⟩ := hh
  subst ex
  obtain rfl : u = Value.ref a := rx
  obtain ⟨ox, od, mA, J, hr, hl⟩ := xat_inst I1 hx
  obtain ⟨u, hu, ru⟩ := RelO.some_of (v := v) (o := mA n) (by rw [← l]; exact hr n)
  exact HandSPX.exc_get I1.kIn J T.ga T.gg T.exC (PySem.W.findObj_own T.hdC hno rfl (by rw [hl, hu])) (handed_of ru) ⟨v, H1, I1.tok _, ru, q⟩
/-- isinstance(x, T), x the exception that is pinned -/
def rIsiH (K : PySem.W.Frag) (a : Addr) (cls : Value) (d : Option Addr) : List V → Hp → VK → Prop := fun xs H Q => ∃ (C dd : Addr) (fs : List (Str × V)) (c : V) (u : Value) (b : Bool), xs = [.ref a, c] ∧ cls = .ref C ∧ d = some dd ∧ H dd = some (.xd fs) ∧ ClsV c u ∧ ExcC K C ∧ PySem.W.kitOne K (.ref C) u = some b ∧ Q (.bl b) H
theorem call_isiH {oe : Obj} {cls : Value} {d' : Option Addr} (hz : Zc cls d' oe) (hf : ∃ vs, oe.data = .fields vs) (hp : (a, oe) ∈ X.pn) : CallR X (.builtin "isinstance") (rIsiH X.K a cls d') := by
  intro pins s σ H xs us Q I r h
  obtain ⟨C, dd, fs, c, u, b, rfl, ec, ed, hd, k, T, e, q⟩ := h
  obtain ⟨u1, u2, rfl, r1, r2⟩ := r.two
  cases (show u1 = Value.ref a from r1)
  have e2 := k.eq r2
  subst e2 ec ed
  have ha := (I.pin (a, oe) (List.mem_append_left _ hp)).1
  obtain ⟨vs, hdt⟩ := hf
  obtain ⟨mA, hns, hr⟩ := (show ObjOk X.prog X.w H s.heap dd (.xd fs) from I.hok dd _ hd)
  obtain ⟨od, ho, hl⟩ := lookIn_ns hns
  have nc : PySem.W.notCls oe = true := by
    unfold PySem.W.notCls
    rw [hdt] <;> rfl
  have J : PySem.W.InstAt s.heap a oe C (some od) := ⟨ha, hz.1, nc, by rw [hz.2]; exact ho⟩
  exact PySem.W.kia_one (Kp.kitx_xd T) I.kIn ⟨od, J⟩ e (fun z => nomatch z) fun tk => ⟨.bl b, H, I.tok _, rfl, q⟩
end
end L2
/-! ### made by position or by keyword -/
namespace PySem
namespace HandSPX
open PySem.W PySem.Calls PyProof.Rows PySem.Spec
section
variable {M : Model} {A : Around} {E : Value → Shared → Prop} {h : Heap} {g : Array GenState} {d : Drawn} {t : Nat} {os : OsState}
variable {nm q : Str} {C N : Addr} {bs bm bmB : List Value} {hdct : Bool} {sn : List Str} {sub : List Value} {ab : Bool} {col : Option Bool} {dd : Option Addr} {k0 k1 k2 k3 k5 : Option Value} {B newId initId : String} {kw : List (Str × Value)}
theorem check_new_kw (F : ExcBaseFacts B newId initId bmB) (hT : ∀ X : String, bm.contains (.type X) = bmB.contains (.type X)) {rest : List Value} {Q : Unit → Shared → Prop}
    (hC : h.get? C = some (excClassObj nm q C N bs bm hdct sn sub ab col dd k0 k1 k2 k3 k5 newId)) (hq : Q () ⟨h, g, d, t, os⟩) : wpAny M A (checkBuiltinCall newId ⟨.ref C :: rest, kw⟩) Q E ⟨h, g, d, t, os⟩ := by
  have hcont : (Value.ref C :: bm).contains (.type B) = true := by rw [List.contains_cons, hT, F.hasB, Bool.or_true]
  have hstar := F.noStar
  simp only [checkBuiltinCall, F.newKind, F.newSplit, F.newRow]
  repeat (first | refine wpAny_loadPart_at hC ?_ | (refine wpAny_isSubtype_exc hC ?_; rw [hcont]) | refine wpAny_staticBase_exc hC ?_ | refine wpAny_madeBy_exc hC ?_ | simp only [bne_self_eq_false, Bool.false_eq_true, if_false] | wp_step)
  exact hq
end
section
variable {prog : Program} {w : World} {A : Around} {E : Value → Shared → Prop} {R : Result → Shared → Prop} {h : Heap} {g : Array GenState} {d : Drawn} {t : Nat} {os : OsState}
variable {nm q : Str} {C N : Addr} {bs bm bmB : List Value} {hdct : Bool} {sn : List Str} {sub : List Value} {ab : Bool} {col : Option Bool} {dd : Option Addr} {k0 k1 k2 k3 k5 : Option Value} {B newId initId : String} {kw : List (Str × Value)}
theorem new_kw (F : ExcBaseFacts B newId initId bmB) (hT : ∀ X : String, bm.contains (.type X) = bmB.contains (.type X)) {rest : List Value}
    (hC : h.get? C = some (excClassObj nm q C N bs bm hdct sn sub ab col dd k0 k1 k2 k3 k5 newId))
    (hq : R (.ok (.ret (.ref (h.objs.size + 1)))) ⟨(h.push { cls := .type "tuple", data := .seq rest.toArray }).push
      { cls := .ref C, data := .fields #[.ref h.objs.size, .none, .none, .none, .bool false, .none] }, g, d, t, os⟩) (hrest : rest.length ≤ sizeLine) :
    codeAny (model prog w) A (.builtin newId ⟨.ref C :: rest, kw⟩) R ⟨h, g, d, t, os⟩ := by
  have hends := F.ends
  have hcB : (Value.ref C :: bm).contains (.type B) = true := by rw [List.contains_cons, hT, F.hasB, Bool.or_true]
  have hcA : (Value.ref C :: bm).contains (.type "AttributeError") = false := by rw [List.contains_cons, hT, F.noAttr]; rfl
  have hcN : (Value.ref C :: bm).contains (.type "NameError") = false := by rw [List.contains_cons, hT, F.noName]; rfl
  refine codeAny_builtinAt F.entry ?_
  unfold Builtin.«BaseException.__new__»
  refine wpAt_bind ?_
  show wpAt _ _ _ (stack >>= _) _ _ _
  refine wpAt_bind (wpAt_stack fun p below => wpAt_of_wpAny ?_)
  wp_walk
  refine wpAt_of_wpAny ?_
  rw [F.owner]
  repeat (first | with_reducible refine wpAny_madeHere_exc F.canon hC ?_ | with_reducible refine wpAny_loadPart_at hC ?_ | (with_reducible refine wpAny_isSubtype_exc hC ?_; first | rw [hcB] | rw [hcA] | rw [hcN]) | wp_step)
  show R _ _
  rw [Heap.size_push]
  exact hq
theorem type_call_kw (F : ExcBaseFacts B newId initId bmB) (hT : ∀ X : String, bm.contains (.type X) = bmB.contains (.type X)) {rest : List Value} {fI : Addr} {Q : Fin → Shared → Prop}
    (hC : h.get? C = some (excClassObj nm q C N bs bm hdct sn sub ab col dd k0 k1 k2 k3 k5 newId))
    (hi : W.Looks (model prog w) h (typeLookup (.ref C) "__init__") (some (.ref fI))) (hb : ∀ self, W.Looks (model prog w) h (bindSpecial (.ref fI) self) (.ref fI, [self])) (hrest : rest.length ≤ sizeLine)
    (hq : codeAny (model prog w) A (.call (.ref fI) ⟨.ref (h.objs.size + 1) :: rest, kw⟩)
      (fun r s' => match r with | .ok (.ret v) => v = .none ∧ Q (.done (.ret (.ref (h.objs.size + 1)))) s' | .ok _ => False | .error e => E e s')
      ⟨(h.push (W.kdv_tup rest)).push (excO C h.objs.size), g, d, t, os⟩) :
    wpAny (model prog w) A (Builtin.«type.__call__» ⟨.ref C :: rest, kw⟩) Q E ⟨h, g, d, t, os⟩ := by
  repeat (first | with_reducible refine wpAny_loadPart_at hC ?_ | with_reducible refine wpAny_madeBy_exc hC ?_ | wp_step)
  refine codeAny_call_builtin_code (Code.quiet_builtin _ F.quiet) (check_new_kw F hT hC ?_)
  refine new_kw F hT hC ?_ hrest
  show wpAny _ _ _ _ _ _
  have k : ∀ b o, h.get? b = some o → ((h.push (W.kdv_tup rest)).push (excO C h.objs.size)).get? b = some o := fun b o e => Heap.get?_push_of_some _ (Heap.get?_push_of_some _ e)
  have hC₁ := k _ _ hC
  have hget : ((h.push (W.kdv_tup rest)).push (excO C h.objs.size)).get? (h.objs.size + 1) = some (excO C h.objs.size) := by heap_get
  have hcC : (Value.ref C :: bm).contains (.ref C) = true := by simp
  have i1 := hi.keeps k
  have b1 := (hb (.ref (h.objs.size + 1))).keeps k
  unfold isInstance
  repeat (first | with_reducible refine wpAny_loadPart_at hget ?_ | (with_reducible refine wpAny_isSubtype_exc hC₁ ?_; rw [hcC]) | wp_step)
  show wpAny _ _ (typeLookup (.ref C) _) _ _ _
  refine i1.at ?_
  refine wpAny_holding (wpAny_bind (b1.at ?_))
  refine wpAny_bind (wpAny_call (codeAny_mono hq fun r s' z => ?_))
  rcases r with e | (v | _ | _ | _) <;> first | exact z | exact z.elim | skip
  obtain ⟨rfl, z⟩ := z
  first
    | exact wpAny_pure (wpAny_pure z)
    | (wp_walk; exact z)
theorem call_kw (F : ExcBaseFacts B newId initId bmB) (hT : ∀ X : String, bm.contains (.type X) = bmB.contains (.type X)) {rest : List Value} {fI : Addr}
    (hC : h.get? C = some (excClassObj nm q C N bs bm hdct sn sub ab col dd k0 k1 k2 k3 k5 newId))
    (hi : W.Looks (model prog w) h (typeLookup (.ref C) "__init__") (some (.ref fI))) (hb : ∀ self, W.Looks (model prog w) h (bindSpecial (.ref fI) self) (.ref fI, [self])) (hrest : rest.length ≤ sizeLine)
    (hq : codeAny (model prog w) (A.under (.builtin "type.__call__" ⟨.ref C :: rest, kw⟩)) (.call (.ref fI) ⟨.ref (h.objs.size + 1) :: rest, kw⟩) (W.InitBack (h.objs.size + 1) R)
      ⟨(h.push (W.kdv_tup rest)).push (excO C h.objs.size), g, d, t, os⟩) :
    codeAny (model prog w) A (.call (.ref C) ⟨rest, kw⟩) R ⟨h, g, d, t, os⟩ := by
  have f1 := tc_lookup
  have f2 := tc_bind (.ref C)
  have hTy : (⟨h, g, d, t, os⟩ : Shared).TypeIs (.ref C) "type" := ⟨_, hC, rfl⟩
  refine codeAny_of_tree ?_
  show wpAny _ _ (callAny (.ref C) _) _ _ _
  repeat (any_goals (first | assumption | with_reducible refine wpAny_loadPart_at hC ?_ | wp_step))
  refine ⟨rfl, ?_⟩
  refine codeAny_call_builtin_at (Code.quiet_builtin _ (by decide +kernel)) entry_typeCall (wpAny_check_type_call_sub hC (type_call_kw F hT hC hi hb hrest ?_))
  refine codeAny_mono hq fun r s' z => ?_
  rcases r with e | (v | _ | _ | _) <;> exact z
end
end HandSPX
end PySem
namespace L2
open PySem PySem.Spec PyProof.Rows Ke
/-- C(e, .., k = v, ..), C a class of exceptions: the object stays known -/
def tMkE (C : Addr) (n m : Nat) (sp : Sp) (gV : List V → List V → List V) (t tk : TA) : TE := fun σ H Q => t σ H fun vs H1 => tk σ H1 fun zs H2 => vs.length = n ∧ zs.length = m ∧
  ∀ a, H2 a = none → sp (gV (.ref a :: vs) zs) (upd H2 a (exo a C none)) (fun v H3 => v = .non ∧ Q (.ref a) H3) (fun _ _ _ => False)
section
variable {X : Cx} {CX : CXT} {k n : Nat} {fI C : Addr} {fd : FuncData} {ps ks : List Str} {sp : Sp} {x : Str} {p pos : Pos} {e : Expr} {es : List Expr} {kws : List Keyword} {t tk : TA} {g : List Value → List Value → List Value} {gV : List V → List V → List V}
theorem run_mkE {pins : List (Addr × Obj)} {σ : St} {H : Hp} {s : Shared} {Q : VK} {us ws : List Value} {vs zs : List V} (T : OexA X.K C) (iC : PySem.W.findIn X.K (.ref C) "__init__" = some (some (.ref fI))) (tI : PySem.W.typeIn X.K (.ref fI) = some (.type "function"))
    (F1 : FnOk X.prog X.w X.K X.mg X.base CX k fI fd ps sp) (hr : Room (k + 1) X.A) (hb : KBn X.K fd ps (n + 1) ks g gV) (hx : Passes CX X (fun _ _ _ => False)) (I : Inv X pins σ H s) (r : Vals vs us) (rz : Vals zs ws) (l1 : vs.length = n) (hn : n ≤ 1000) (l2 : zs.length = ks.length)
    (h : ∀ a, H a = none → sp (gV (.ref a :: vs) zs) (upd H a (exo a C none)) (fun v H3 => v = .non ∧ Q (.ref a) H3) (fun _ _ _ => False)) :
    wpAny (model X.prog X.w) X.A (call (.ref C) us (ks.zip ws)) (EP X pins σ Q) X.xe s := by
  obtain ⟨nm, q, N, bs, bm, sn, sub, ab, col, dd, k0, k1, k2, k3, k5, hC, hbm⟩ := T.cls
  obtain ⟨hp, g', dr, tk', os⟩ := s
  have hsz : hp.objs.size ≤ hp.objs.size + 1 := Nat.le_succ _
  have hq := h (hp.objs.size + 1) (I.hok.fresh hsz)
  have kk : ∀ b o, hp.get? b = some o → ((hp.push (PySem.W.kdv_tup us)).push (PySem.HandSPX.excO C hp.objs.size)).get? b = some o := fun b o e => Heap.get?_push_of_some _ (Heap.get?_push_of_some _ e)
  have hget : ((hp.push (PySem.W.kdv_tup us)).push (PySem.HandSPX.excO C hp.objs.size)).get? (hp.objs.size + 1) = some (PySem.HandSPX.excO C hp.objs.size) := by heap_get
  have I2 : Inv X pins σ (upd H (hp.objs.size + 1) (exo (hp.objs.size + 1) C none)) ⟨(hp.push (PySem.W.kdv_tup us)).push (PySem.HandSPX.excO C hp.objs.size), g', dr, tk', os⟩ :=
    I.laid (t' := tk') (a := hp.objs.size + 1) (o := exo (hp.objs.size + 1) C none) (h' := (hp.push (PySem.W.kdv_tup us)).push (PySem.HandSPX.excO C hp.objs.size)) kk hsz (exo_ok hget)
  have r1 : Vals (V.ref (hp.objs.size + 1) :: vs) (Value.ref (hp.objs.size + 1) :: us) := .cons rfl r
  have r2 := hb.rel r1 rz
  have e1 : (Value.ref (hp.objs.size + 1) :: us).length = n + 1 := r1.length.symm.trans (congrArg Nat.succ l1)
  have e2 : ws.length = ks.length := rz.length.symm.trans l2
  have hus : us.length ≤ sizeLine := by
    rw [← Paired.length r, sizeLine_eq]
    omega
  refine wpAny_call (PySem.HandSPX.call_kw F.excBase_ArithmeticError (fun Y => PySem.W.excTail_contains Y bm hbm) (I.kIn _ _ hC) (PySem.W.looks_findIn I.kIn iC) (fun self => PySem.W.bind_fn I.kIn self tI) hus
    (codeAny_mono (F1.run _ X.stack _ _ ⟨Value.ref (hp.objs.size + 1) :: us, ks.zip ws⟩ (g (Value.ref (hp.objs.size + 1) :: us) ws) _ _ (fun _ _ _ => False) (hr.make C us (ks.zip ws)) (I2.env0.make C us (ks.zip ws)) (hb.to _ (Value.ref (hp.objs.size + 1) :: us) ws I2.kIn e1 e2) r2 hq) fun r s' hq' => ?_))
  cases r with
  | error er => exact hx pins σ _ _ er s' I2 hq'
  | ok fl =>
    cases fl with
    | ret u =>
      obtain ⟨v, H', I3, rv, ev, q3⟩ := I2.after hq'
      subst ev
      exact ⟨rv, ⟨V.ref (hp.objs.size + 1), H', I3, rfl, q3⟩⟩
    | next => exact False.elim hq'
    | brk => exact False.elim hq'
    | cont => exact False.elim hq'
theorem pe_mkE (T : OexA X.K C) (iC : PySem.W.findIn X.K (.ref C) "__init__" = some (some (.ref fI))) (tI : PySem.W.typeIn X.K (.ref fI) = some (.type "function")) (F1 : FnOk X.prog X.w X.K X.mg X.base CX k fI fd ps sp) (hr : Room (k + 1) X.A) (hb : Binds X.K fd ps [])
    (hps : ps.length = n + 1) (hn : n ≤ 1000) (hx : Passes CX X (fun _ _ _ => False)) (hg : Gl X x) (hm : X.mg x = some (.ref C)) (ha : PA X (e :: es) t)
    (hdb : (x == ("__debug__" : Str)) = false := by decide) (he : starEach (e :: es) X.env = (false, eval e X.env) :: starEach es X.env := by rfl) (hpl : (backTo pos (starEach es X.env)).any (·.1) = false := by rfl) :
    PE X (.Call (.Name x p) (e :: es) [] pos) (tMkE C n 0 sp (fun vs _ => vs) t tNil) := by
  refine ⟨fun pins s σ H Q I h => ?_⟩
  refine wpAny_Call_Name_kw (ld_glob I hg hm ?_ hdb)
  refine PySem.W.callWith_K (h₀ := X.base) I.ok.mod.kin T.kC (thn (ha.run pos pins s σ H _ I h) fun us s1 ⟨vs, H1, I1, r1, l1, _, q1⟩ => ⟨I1.kIn, ?_⟩) he hpl
  have kb : KBn X.K fd ps (n + 1) [] (fun us _ => us) (fun vs _ => vs) := ⟨fun s us ws hK e1 e2 => by
      have := hb s us hK (by rw [List.append_nil, e1, hps])
      rwa [List.append_nil] at this, fun r _ => r⟩
  exact run_mkE (ks := []) (ws := []) (zs := []) T iC tI F1 hr kb hx I1 r1 .nil l1 hn rfl q1
theorem pe_mkEK (T : OexA X.K C) (iC : PySem.W.findIn X.K (.ref C) "__init__" = some (some (.ref fI))) (tI : PySem.W.typeIn X.K (.ref fI) = some (.type "function")) (F1 : FnOk X.prog X.w X.K X.mg X.base CX k fI fd ps sp) (hr : Room (k + 1) X.A) (hb : KBn X.K fd ps (0 + 1) ks g gV)
    (hx : Passes CX X (fun _ _ _ => False)) (hg : Gl X x) (hm : X.mg x = some (.ref C)) (hkw : PK X kws tk)
    (hall : (backToKw pos (keywordEach kws X.env)).all (·.1.isSome) = true := by rfl) (hks : (backToKw pos (keywordEach kws X.env)).filterMap (·.1) = ks := by rfl) (hdb : (x == ("__debug__" : Str)) = false := by decide)
    (hpl : ((backTo pos (starEach [] X.env)).any (·.1) || (backToKw pos (keywordEach kws X.env)).any (·.1.isNone)) = false := by rfl) : PE X (.Call (.Name x p) [] kws pos) (tMkE C 0 ks.length sp gV tNil tk) := by
  refine ⟨fun pins s σ H Q I h => ?_⟩
  refine wpAny_Call_Name_kw (ld_glob I hg hm ?_ hdb)
  refine PySem.W.callWith_KW0 (h₀ := X.base) I.ok.mod.kin T.kC hall (thn (hkw.run pos pins s σ H _ I h) fun ws s2 ⟨zs, H2, I2, rz, _, l2, q2⟩ => ⟨I2.kIn, ?_⟩) hpl
  rw [hks]
  exact run_mkE (us := []) (vs := []) T iC tI F1 hr hb hx I2 .nil rz rfl (by decide) l2 q2
end
end L2
namespace Kr
open PySem L2 PySem.Spec PyProof.Rows Ke
section
variable {X : Cx} {k n : Nat} {x : Str} {C : Addr} {ps ks : List Str} {sp : Sp} {p pos : Pos} {e : Expr} {es : List Expr} {kws : List Keyword} {t tk : TA} {st : Stmt} {qual : Str}
/-- C(e, ..) -/
theorem pe_mkX (O : OkE X.prog X.w X.K X.mg X.base x C k qual st ps sp) (hr : Room (k + 1) X.A) (hps : ps.length = n + 1) (hn : n ≤ 1000) (hg : Gl X x) (ha : PA X (e :: es) t)
    (hdb : (x == ("__debug__" : Str)) = false := by decide) (he : starEach (e :: es) X.env = (false, eval e X.env) :: starEach es X.env := by rfl) (hpl : (backTo pos (starEach es X.env)).any (·.1) = false := by rfl) : PE X (.Call (.Name x p) (e :: es) [] pos) (tMkE C n 0 sp (fun vs _ => vs) t tNil) := by
  obtain ⟨f, fd, h1, hC, hi, ht, F, hb, hF⟩ := O.ex
  exact pe_mkE hC hi ht hF hr hb hps hn pass0 hg h1 ha hdb he hpl
/-- C(k = v, ..) -/
theorem pe_mkXK (perm : List Nat) (O : OkE X.prog X.w X.K X.mg X.base x C k qual st ps sp) (hr : Room (k + 1) X.A) (hg : Gl X x) (hkw : PK X kws tk)
    (hb : ∀ (kV doc pm : Value) (an : Option Addr) (cdv ct : Value) (u : Value) (ws : List Value), ws.length = ks.length → bindArgs (PySem.W.fnOf "__init__" qual (defArgs st) (defBody st) (defScope st) .none kV doc pm an cdv ct) ⟨[u], ks.zip ws⟩ = pure (ps.zip (u :: pick perm ws)))
    (hall : (backToKw pos (keywordEach kws X.env)).all (·.1.isSome) = true := by rfl) (hks : (backToKw pos (keywordEach kws X.env)).filterMap (·.1) = ks := by rfl) (hdb : (x == ("__debug__" : Str)) = false := by decide)
    (hpl : ((backTo pos (starEach [] X.env)).any (·.1) || (backToKw pos (keywordEach kws X.env)).any (·.1.isNone)) = false := by rfl) : PE X (.Call (.Name x p) [] kws pos) (tMkE C 0 ks.length sp (fun vs zs => vs ++ pick perm zs) tNil tk) := by
  obtain ⟨f, fd, h1, hC, hi, ht, h2, _, hF⟩ := O.ex
  have kb : KBn X.K fd ps (0 + 1) ks (fun us ws => us ++ pick perm ws) (fun vs zs => vs ++ pick perm zs) := by
    obtain ⟨oc, od, kV, doc, pm, an, cdv, ct, osl, rfl, lk, hcd⟩ := h2.ex
    refine ⟨fun s us ws _ l1 l2 => ?_, fun r1 r2 => Vals.append r1 (pick_vals r2 perm)⟩
    match us, l1 with
    | [u], _ => exact .of_eq (hb kV doc pm an cdv ct u ws l2)
  exact pe_mkEK hC hi ht hF hr kb pass0 hg h1 hkw hall hks hdb hpl
end
section
variable {g : Gr} {L : Led} {σ : L2.St} {Kf : PySem.W.Frag} {C a d : Addr} {fld f1 f2 f : Str} {t tk : TA} {te : TE} {n m i j : Nat} {gV : List V → List V → List V} {D : V → Led → Prop} {fs : List (Str × V)} {b1 b2 b : Bool}
theorem upd3 {H : Hp} {a d : Addr} {u v w : HO} (h : d ≠ a) : upd (upd (upd H a u) d v) a w = upd (upd H d v) a w := by
  funext b
  by_cases h1 : b = a
  · rw [h1, upd_same, upd_same]
  · rw [upd_ne h1, upd_ne h1]
    by_cases h2 : b = d
    · rw [h2, upd_same, upd_same]
    · rw [upd_ne h2, upd_ne h2, upd_ne h1]
theorem wp_mkE (hC : OexA Kf C) (hno : PySem.W.findIn Kf (.ref C) fld = some none)
    (h : Wp g L (t σ) fun vs L1 => Wp g L1 (tk σ) fun zs L2 => vs.length = n ∧ zs.length = m ∧ ∃ o : OV, (∀ a, gV (.ref a :: vs) zs = [.ref a, o.v]) ∧ (∀ H, At g L2 H → o.At H) ∧ ∀ d a, D (.ref a) (L2 ++ [(d, .ob (exd d [(fld, o.v)]), true), (a, .ob (exo a C (some d)), true)])) :
    Wp g L (tMkE C n m (sp_fieldO Kf C fld) gV t tk σ) D :=
  fun H z Q q => h H z _ fun vs L1 H1 k1 z1 => k1 H1 z1 _ fun zs L2 H2 ⟨l1, l2, o, eg, ho, k⟩ z2 => ⟨l1, l2, fun a ha => ⟨a, o, eg a, (ho H2 z2).same (fun c u e => by rw [upd_ne (ne_of_none e ha)]; exact e), upd_same, hC, hno, fun d hd hne => ⟨rfl, q _ _ _ (k d a) (by
    have hd2 : H2 d = none := by rw [← hd, upd_ne hne]
    rw [upd3 hne]
    have z3 := (z2.upd_new (o := exd d [(fld, o.v)]) hd2).upd_new (p := a) (o := exo a C (some d)) ((upd_ne (Ne.symm hne)).trans ha)
    rwa [List.append_assoc] at z3)⟩⟩⟩
theorem wp_mkE2 (hC : OexA Kf C) (hno1 : PySem.W.findIn Kf (.ref C) f1 = some none) (hno2 : PySem.W.findIn Kf (.ref C) f2 = some none)
    (h : Wp g L (t σ) fun vs L1 => Wp g L1 (tk σ) fun zs L2 => vs.length = n ∧ zs.length = m ∧ ∃ o1 o2 : OV, (∀ a, gV (.ref a :: vs) zs = [.ref a, o1.v, o2.v]) ∧ (∀ H, At g L2 H → o1.At H) ∧ (∀ H, At g L2 H → o2.At H) ∧
      ∀ d a, D (.ref a) (L2 ++ [(d, .ob (exd d ([(f2, o2.v), (f1, o1.v)])), true), (a, .ob (exo a C (some d)), true)])) :
    Wp g L (tMkE C n m (sp_fieldP Kf C f1 f2) gV t tk σ) D :=
  fun H z Q q => h H z _ fun vs L1 H1 k1 z1 => k1 H1 z1 _ fun zs L2 H2 ⟨l1, l2, o1, o2, eg, ho1, ho2, k⟩ z2 => ⟨l1, l2, fun a ha => ⟨a, o1, o2, eg a, (ho1 H2 z2).same (fun c u e => by rw [upd_ne (ne_of_none e ha)]; exact e), (ho2 H2 z2).same (fun c u e => by rw [upd_ne (ne_of_none e ha)]; exact e), upd_same, hC, hno1, hno2, fun d hd hne => ⟨rfl, q _ _ _ (k d a) (by
    have hd2 : H2 d = none := by rw [← hd, upd_ne hne]
    rw [upd3 hne]
    have z3 := (z2.upd_new (o := exd d ([(f2, o2.v), (f1, o1.v)])) hd2).upd_new (p := a) (o := exo a C (some d)) ((upd_ne (Ne.symm hne)).trans ha)
    rwa [List.append_assoc] at z3)⟩⟩⟩
theorem wp_xa (hT : XfC Kf C) (hno : PySem.W.findIn Kf (.ref C) f = some none)
    (h : Wp g L (te σ) fun x L1 => ∃ (a d : Addr) (i j : Nat) (b1 b2 : Bool) (fs : List (Str × V)) (v : V), x = .ref a ∧ L1[i]? = some (a, .ob (exo a C (some d)), b1) ∧ L1[j]? = some (d, .ob (exd d fs), b2) ∧ fs.lookup f = some v ∧ D v L1) : Wp g L (tXa Kf f te σ) D :=
  fun H z Q q => h H z _ fun x L1 H1 ⟨a, d, i, j, b1, b2, fs, v, e, hi, hj, hl, k⟩ z1 => ⟨a, C, d, fs, v, e, ⟨z1.get hi, z1.get hj⟩, hT, hno, hl, q _ _ _ k z1⟩
theorem iter_rngL {g : Gr} {L : Led} {lo : Int} {n i : Nat} {xs : List Int} (e : rngI lo n = xs) : Iter g L (Itr lo n) (gName i) xs (fun x σ => σ.set i (some (.int x))) := e ▸ iter_rng
theorem wc_isiE {u : Value} {c : V} (T : ExcC Kf C) (hX : ∀ H, At g L H → Xat H a C d fs) (hc : ClsV c u) (hk : PySem.W.kitOne Kf (.ref C) u = some b) (k : D (.bl b) L) : Wp g L (rIsiE Kf [.ref a, c]) D :=
  fun H z Q q => ⟨a, C, d, fs, c, u, b, rfl, hc, hX H z, T, hk, q _ _ _ k z⟩
theorem wc_isiH {u : Value} {c : V} (T : ExcC Kf C) (hX : ∀ H, At g L H → H d = some (.xd fs)) (hc : ClsV c u) (hk : PySem.W.kitOne Kf (.ref C) u = some b) (k : D (.bl b) L) : Wp g L (rIsiH Kf a (.ref C) (some d) [.ref a, c]) D :=
  fun H z Q q => ⟨C, d, fs, c, u, b, rfl, rfl, rfl, hX H z, hc, T, hk, q _ _ _ k z⟩
end
end Kr

set_option Elab.async false
set_option linter.all false
set_option maxRecDepth 100000
set_option maxHeartbeats 2000000
/-! a def that is called in an except suite with the exception that is handled; there: a comprehension over enumerate(list) -/
namespace HotX
open PySem PySem.Spec PyProof.Rows
section
variable {prog : Program} {w : World} {A : Around} {E : Value → Shared → Prop} {s : Shared}
theorem nextOf_list_end_hot {it l x1 : Addr} {i : Nat} {items : Array Value} {Q : Value → Shared → Prop} (hot : HotAt A x1 s.heap)
    (hit : s.heap.IsListIter it l i) (hl : s.heap.IsList l items) (hx : items[i]? = none)
    (hE : ∀ h' e, Heap.ExtBut it s.heap h' → (∃ o, h'.get? e = some o ∧ o.cls = .type "StopIteration") → E (.ref e) { s with heap := h' }) :
    wpAny (model prog w) A (Builtin.SmallTypes.nextOf (.ref it)) Q E s := by
  obtain ⟨o, ho, hc, hd⟩ := id hit
  obtain ⟨ol, hol, _, nl, hdl⟩ := hl
  obtain ⟨hh, o1, vs1, h1, d1, c1⟩ := hot
  have hne : it ≠ x1 := fun z => by
    rw [← z, ho] at h1
    cases h1
    rw [hd] at d1
    cases d1
    simp at c1
  unfold Builtin.SmallTypes.nextOf
  refine wpAny_bind (wpAny_callSpecial?_slot (name := Str.ofString "__next__") hit.typeIs slot_listiter_next
    (wpAny_call_entry slot_listiter_next hit.typeIs entry_listiter_next ?_ (args_listiter_next _)))
  show wpAny _ _ (field (.ref it) 0 >>= _) _ _ s
  refine wpAny_bind (wpAny_field ho hd (x := .ref l) rfl ?_)
  show wpAny _ _ (if (Value.ref l == Value.none) = true then _ else _) _ _ s
  rw [if_neg (show ¬ ((Value.ref l == Value.none) = true) from Bool.false_ne_true)]
  show wpAny _ _ (field (.ref it) 1 >>= _) _ _ s
  refine wpAny_bind (wpAny_field ho hd (x := .int i 0) rfl ?_)
  show wpAny _ _ (seqItems? (.ref l) >>= _) _ _ s
  refine wpAny_bind (wpAny_seqItems hol hdl ?_)
  simp only [Int.toNat_natCast, hx]
  refine wpAny_bind (wpAny_rule (wpAny_bind (wpAny_setField ho hd (by simp) ?_)))
  have hsb : Heap.ExtBut it s.heap (s.heap.update it (Obj.mapFields (·.setIfInBounds 0 .none))) := (Heap.SameBut.update ..).extBut
  have h1' : (s.heap.update it (Obj.mapFields (·.setIfInBounds 0 .none))).get? x1 = some o1 := (Heap.get?_update_other _ _ hne).trans h1
  show wpAny _ _ (newExc (.type "StopIteration") [] >>= _) _ _ _
  refine wpAny_bind ?_
  simp only [newExc, newTuple]
  refine wpAny_bind (wpAny_newObj_type ?_ (by size_fits))
  refine wpAny_bind (m := firstArgMember _ _) (wpAny_of_eq (a := Value.none) (by first | rfl | (simp only [firstArgMember]; rfl)) ?_)
  refine wpAny_newObj_type ?_ (by size_fits)
  refine raiseNew_hot ⟨hh, o1, vs1, Heap.get?_push_of_some _ (Heap.get?_push_of_some _ h1'), d1, c1⟩ (Nat.ne_of_lt (Heap.lt_size (Heap.get?_push_of_some _ h1'))) (Heap.get?_push_size _ rfl) rfl (by first | (simp; done) | (simp; omega) | (simp only [Array.size_append]; simp; omega)) ?_
  refine hE _ _ (fun b o hb e => ?_) ⟨_, Heap.get?_update_self _ (Heap.get?_push_size _ rfl) rfl, rfl⟩
  have e1 := hsb b o hb e
  rw [Heap.get?_update_other _ _ (Nat.ne_of_gt (Heap.lt_size (Heap.get?_push_of_some _ e1)))]
  exact Heap.get?_push_of_some _ (Heap.get?_push_of_some _ e1)
theorem pyNext_enum_end_hot {e it l x1 : Addr} {i : Nat} {items : Array Value} {old : Value} {Q : Option Value → Shared → Prop} (hot : HotAt A x1 s.heap)
    (he : IsEnum s.heap e it i old) (hit : s.heap.IsListIter it l i) (hl : s.heap.IsList l items) (hx : items[i]? = none)
    (hQ : ∀ h', Heap.ExtBut it s.heap h' → Q none { s with heap := h' }) : wpAny (model prog w) A (pyNext (.ref e)) Q E s := by
  have hT : s.TypeIs (.ref e) "enumerate" := ⟨_, he, rfl⟩
  unfold pyNext
  refine wpAny_bind (wpAny_attempt (wpAny_callSpecial?_slot (name := Str.ofString "__next__") hT F.slot_enumerate_next
    (wpAny_call_entry F.slot_enumerate_next hT F.entry_enumerate_next ?_ (F.args_enumerate_next_1 _))))
  show wpAny _ _ (field (.ref e) 2 >>= _) _ _ _
  refine wpAny_bind (wpAny_field he rfl (x := .ref it) rfl ?_)
  refine wpAny_bind (nextOf_list_end_hot hot hit hl hx fun h' x he' hx' => ?_)
  obtain ⟨o, ho, hc⟩ := hx'
  refine wpAny_bind (wpAny_isInstance (T := "StopIteration") (b := true) ⟨o, ho, hc⟩ isSubtype_stop ?_)
  exact wpAny_pure (hQ _ he')
theorem next_tuple_end_hot {it t x1 : Addr} {i : Nat} {items : Array Value} {Q : Option Value → Shared → Prop} (hot : HotAt A x1 s.heap)
    (hit : IsTupIter s.heap it t i) (ht : IsTup s.heap t items) (hx : items[i]? = none)
    (hQ : ∀ h', Heap.ExtBut it s.heap h' → Q none { s with heap := h' }) : wpAny (model prog w) A (pyNext (.ref it)) Q E s := by
  obtain ⟨o, ho, hc, hd⟩ := id hit
  obtain ⟨ol, hol, _, nl, hdl⟩ := ht
  obtain ⟨hh, o1, vs1, h1, d1, c1⟩ := hot
  have hne : it ≠ x1 := fun z => by
    rw [← z, ho] at h1
    cases h1
    rw [hd] at d1
    cases d1
    simp at c1
  unfold pyNext
  refine wpAny_bind (wpAny_attempt (wpAny_callSpecial?_slot (name := Str.ofString "__next__") hit.typeIs slot_tupleiter_next
    (wpAny_call_entry slot_tupleiter_next hit.typeIs entry_tupleiter_next ?_ (args_tupleiter_next _))))
  show wpAny _ _ (field (.ref it) 0 >>= _) _ _ s
  refine wpAny_bind (wpAny_field ho hd (x := .ref t) rfl ?_)
  show wpAny _ _ (if (Value.ref t == Value.none) = true then _ else _) _ _ s
  rw [if_neg (show ¬ ((Value.ref t == Value.none) = true) from Bool.false_ne_true)]
  show wpAny _ _ (field (.ref it) 1 >>= _) _ _ s
  refine wpAny_bind (wpAny_field ho hd (x := .int i 0) rfl ?_)
  show wpAny _ _ (seqItems? (.ref t) >>= _) _ _ s
  refine wpAny_bind (wpAny_seqItems hol hdl ?_)
  simp only [Int.toNat_natCast, hx]
  refine wpAny_bind (wpAny_rule (wpAny_bind (wpAny_setField ho hd (by simp) ?_)))
  have hsb : Heap.ExtBut it s.heap (s.heap.update it (Obj.mapFields (·.setIfInBounds 0 .none))) := (Heap.SameBut.update ..).extBut
  have h1' : (s.heap.update it (Obj.mapFields (·.setIfInBounds 0 .none))).get? x1 = some o1 := (Heap.get?_update_other _ _ hne).trans h1
  show wpAny _ _ (newExc (.type "StopIteration") [] >>= _) _ _ _
  refine wpAny_bind ?_
  simp only [newExc, newTuple]
  refine wpAny_bind (wpAny_newObj_type ?_ (by size_fits))
  refine wpAny_bind (m := firstArgMember _ _) (wpAny_of_eq (a := Value.none) (by first | rfl | (simp only [firstArgMember]; rfl)) ?_)
  refine wpAny_newObj_type ?_ (by size_fits)
  refine raiseNew_hot ⟨hh, o1, vs1, Heap.get?_push_of_some _ (Heap.get?_push_of_some _ h1'), d1, c1⟩ (Nat.ne_of_lt (Heap.lt_size (Heap.get?_push_of_some _ h1'))) (Heap.get?_push_size _ rfl) rfl (by first | (simp; done) | (simp; omega) | (simp only [Array.size_append]; simp; omega)) ?_
  refine wpAny_bind (wpAny_isInstance (T := "StopIteration") (b := true) ⟨_, Heap.get?_update_self _ (Heap.get?_push_size _ rfl) rfl, rfl⟩ isSubtype_stop ?_)
  refine wpAny_pure (hQ _ fun b o hb e => ?_)
  have e1 := hsb b o hb e
  rw [Heap.get?_update_other _ _ (Nat.ne_of_gt (Heap.lt_size (Heap.get?_push_of_some _ e1)))]
  exact Heap.get?_push_of_some _ (Heap.get?_push_of_some _ e1)
theorem unpackItems_tuple_hot {t x1 : Addr} {items : Array Value} {Q : List Value → Shared → Prop} (hot : HotAt A x1 s.heap) (ht : IsTup s.heap t items)
    (hQ : ∀ h', Heap.ExtBut s.heap.objs.size s.heap h' → Q items.toList { s with heap := h' }) : wpAny (model prog w) A (unpackItems (.ref t) items.size none) Q E s := by
  have hlt : t ≠ s.heap.objs.size := by obtain ⟨o, ho, _⟩ := ht; exact Nat.ne_of_lt (Heap.lt_size ho)
  unfold unpackItems
  refine wpAny_bind ?_
  · unfold notIterableAtAll
    refine wpAny_bind (wpAny_specialOf ht.typeIs slot_tuple_iter.lookup ?_)
    refine wpAny_pure ?_
    simp only [Bool.false_eq_true, if_false]
    refine wpAny_bind (wpAny_holding (iter_tuple ht ?_))
    refine wpAny_bind (wpAny_holding (draw_tuple hlt items.size 0 _ _ ⟨_, Heap.get?_push_size _ rfl, rfl, rfl⟩ (ht.push _) (by omega) fun h₁ hit₁ hs₁ => ?_))
    have hall : List.take items.size (List.drop 0 items.toList) = items.toList := by
      rw [List.drop_zero]; exact List.take_of_length_le (by simp)
    rw [hall]
    rw [if_neg (by simp)]
    have ht₁ : IsTup h₁ t items := (ht.push _).extBut hs₁.extBut hlt
    obtain ⟨hh, o1, vs1, h1, d1, c1⟩ := hot
    have hot₁ : HotAt A x1 h₁ := ⟨hh, o1, vs1, hs₁.extBut x1 o1 (Nat.ne_of_lt (Heap.lt_size h1)) (Heap.get?_push_of_some _ h1), d1, c1⟩
    refine wpAny_bind (wpAny_holding (next_tuple_end_hot hot₁ hit₁ ht₁ (by simp) fun h₂ he₂ => ?_))
    simp only [Option.isSome_none, Bool.false_eq_true, if_false]
    refine wpAny_pure (hQ h₂ fun b o hb e => he₂ b o hb (hs₁.extBut b o hb (Heap.get?_push_of_some _ e)))
theorem assign_tuple_hot {env : Env} {elts : List Expr} {kk : Nat} {pos : Pos} {t x1 : Addr} {items : Array Value} {Q : Unit → Shared → Prop} (hot : HotAt A x1 s.heap) (ht : IsTup s.heap t items)
    (hn : (assignEach elts env).length = items.size) (hstar : (assignEach elts env).findIdx? (·.1) = none)
    (h : ∀ h', Heap.ExtBut s.heap.objs.size s.heap h' → wpAny (model prog w) A (assignInOrder ((assignEach elts env).map (·.2)) items.toList) Q E { s with heap := h' }) :
    wpAny (model prog w) A (assign (.Tuple elts kk pos) env (.ref t)) Q E s := by
  rw [assign_Tuple]
  refine wpAny_bind (wpAny_standAt ?_)
  unfold unpack
  rw [hn, hstar]
  exact wpAny_bind (wpAny_holding (unpackItems_tuple_hot hot ht h))
end
end HotX
namespace L2
open PySem PySem.Spec PyProof.Rows HotX L2H
/-- an exception is handled here, by the state -/
def HotS (X : Cx) : Prop := ∀ (pins : List (Addr × Obj)) (σ : St) (H : Hp) (s : Shared), Inv X pins σ H s → ∃ x1, HotAt X.A x1 s.heap
theorem pg_tupS {X : Cx} {Kf : PySem.W.Frag} {es : List Expr} {k : Nat} {pos : Pos} {t : TGs} {n : Nat} (hK : X.K = Kf) (hc : HotS X) (h : PGs X es t) (hn : (assignEach es X.env).length = n) (hst : (assignEach es X.env).findIdx? (·.1) = none := by rfl) : PG X (.Tuple es k pos) (gTup Kf n t) := by
  subst hK
  refine ⟨fun pins s σ H v u Q I r hw => ?_⟩
  obtain ⟨a, xs, e1, hq, hl, hw⟩ := hw
  subst e1
  cases r
  obtain ⟨its, rv, ht, hz⟩ := I.tuple hq
  obtain ⟨x1, hot⟩ := hc _ _ _ _ I
  refine assign_tuple_hot hot ht (by simp [hn, ← hl, rv.length]) hst fun h' hx => ?_
  have I1 : Inv X pins σ H { s with heap := h' } := I.kept (t' := s.toks) fun b o e => hx b o (Nat.ne_of_lt (Heap.lt_size e)) e
  exact h.run pins _ σ H xs _ Q I1 (by simpa using rv) hw
/-- turns where an exception is handled: hot by the state -/
structure TurnS (P : Program) (w : World) (K : PySem.W.Frag) (tg : Expr) (J : It) (fp : List Addr) (it : Addr) (tn : Nat → Heap → Prop) : Prop where
  mem : it ∈ fp
  obj : ∀ i h, tn i h → ∀ b ∈ fp, ∃ o, h.get? b = some o ∧ ∀ v, o.data ≠ .cell v
  keep : ∀ i h h', tn i h → (∀ b ∈ fp, ∀ o, h.get? b = some o → h'.get? b = some o) → tn i h'
  item : ∀ (X : Cx), X.prog = P → X.w = w → X.K = K → ∀ (i : Nat) (pins : List (Addr × Obj)) (s : Shared) (σ : St) (H : Hp) (E : Value → Shared → Prop), Inv X pins σ H s → (∀ b ∈ fp, FpOk X pins H b) → tn i s.heap → J.go i H →
    wpAny (model P w) X.A (pyNext (.ref it)) (fun r s1 => ∃ u, r = some u ∧
      wpAny (model P w) X.A (letOwnedTupleGo tg (.ref it) u) (fun _ s2 => ∃ x H', Inv X pins σ H' s2 ∧ RelV x u ∧ J.yld i H x H' ∧ tn (i + 1) s2.heap ∧ ∀ b ∈ fp, H' b = none) E s1) E s
  done : ∀ (X : Cx), X.prog = P → X.w = w → X.K = K → ∀ (i : Nat) (pins : List (Addr × Obj)) (s : Shared) (σ : St) (H : Hp) (E : Value → Shared → Prop), Inv X pins σ H s → (∃ x1, HotAt X.A x1 s.heap) → (∀ b ∈ fp, FpOk X pins H b) → tn i s.heap → J.stop i H →
    wpAny (model P w) X.A (pyNext (.ref it)) (fun r s1 => r = none ∧ Inv X pins σ H s1) E s
  self : ∀ (A : Around) (i : Nat) (s : Shared) (Q : Value → Shared → Prop) (E : Value → Shared → Prop), tn i s.heap → Q (.ref it) s → wpAny (model P w) A (pyIter (.ref it)) Q E s
theorem turn_enumS {P : Program} {w : World} {K : PySem.W.Frag} {elts : List Expr} {kk : Nat} {tpos : Pos} (a e it : Addr) :
    TurnS P w K (.Tuple elts kk tpos) (Ite K a) [e, it] e (fun i h => (∃ old, IsEnum h e it ((i : Nat) : Int) old) ∧ h.IsListIter it a i ∧ e ≠ it) where
  mem := by simp
  obj := fun i h st b hb => by
    obtain ⟨⟨old, he⟩, ⟨o, ho, hc, hd⟩, _⟩ := st
    have e' : b = e ∨ b = it := by simpa using hb
    rcases e' with z | z
    · rw [z]; exact ⟨_, he, fun v q => nomatch q⟩
    · rw [z]; exact ⟨o, ho, fun v q => by rw [hd] at q; cases q⟩
  keep := fun i h h' st k => let ⟨⟨old, he⟩, hi, hne⟩ := st; ⟨⟨old, k e (by simp) _ he⟩, hi.at fun o q => k it (by simp) o q, hne⟩
  item := by
    intro X hP hw hK i pins s σ H E I hf st hg
    subst hP hw hK
    obtain ⟨⟨old, he⟩, hit, hne⟩ := st
    obtain ⟨xs, x, hq, hx⟩ := hg
    obtain ⟨its, rv, p, hz⟩ := I.list hq
    obtain ⟨u, hu, ru⟩ := rv.get hx
    have hel : e < s.heap.objs.size := Heap.lt_size he
    have hil : it < s.heap.objs.size := by obtain ⟨_, q, _⟩ := hit; exact Heap.lt_size q
    refine wpAny_pyNext_enum_item he hit p.isList (x := u) (by simpa using hu) hne fun h' ho hit' hT hsz hk => ?_
    refine ⟨_, rfl, wpAny_letOwnedTupleGo_enum (s := { s with heap := h', toks := s.toks + 1 }) ho fun h'' he' sb => ?_⟩
    have hT2 : h''.get? s.heap.objs.size = some { cls := .type "tuple", data := .seq #[.int i s.toks, u] } := (sb.2 _ (Nat.ne_of_gt hel)).trans hT
    have new : ObjOk X.prog X.w (upd H s.heap.objs.size (.tup [.int (i : Nat), x])) h'' s.heap.objs.size (.tup [.int (i : Nat), x]) :=
      ⟨by show 2 ≤ sizeLine; decide, [.int i s.toks, u], .cons ⟨_, rfl⟩ (.cons ru .nil), ⟨_, hT2, rfl, _, rfl⟩⟩
    have I1 : Inv X pins σ (upd H s.heap.objs.size (.tup [.int (i : Nat), x])) { s with heap := h'', toks := s.toks + 1 } :=
      I.turnedNew (ch := [e, it]) (fun b ob hb q => (sb.2 b (fun z => hb (by simp [z]))).trans (hk b ob (fun z => hb (by simp [z])) (fun z => hb (by simp [z])) q)) hf (Nat.le_refl _) new
    refine ⟨.ref s.heap.objs.size, _, I1, rfl, ⟨_, x, rfl, I.hok.fresh (Nat.le_refl _), rfl, fun ys hy => by rw [I.list_inj hy hq]; exact hx⟩, ⟨⟨u, ?_⟩, hit'.at fun o q => (sb.2 it (Ne.symm hne)).trans q, hne⟩, fun b hb => ?_⟩
    · have e1 : ((i + 1 : Nat) : Int) = (i : Int) + 1 := by omega
      rw [e1]; exact he'
    · have hb' : b < s.heap.objs.size := by
        have e' : b = e ∨ b = it := by simpa using hb
        rcases e' with z | z
        · rw [z]; exact hel
        · rw [z]; exact hil
      rw [upd_ne (Nat.ne_of_lt hb')]
      exact (hf b hb).1
  done := by
    intro X hP hw hK i pins s σ H E I hot hf st hg
    subst hP hw hK
    obtain ⟨⟨old, he⟩, hit, hne⟩ := st
    obtain ⟨xs, hq, hx⟩ := hg
    obtain ⟨its, rv, p, hz⟩ := I.list hq
    obtain ⟨f0, f1, f2, f3, f4, f5⟩ := hf it (by simp)
    have hl := rv.length
    obtain ⟨x1, hot⟩ := hot
    exact pyNext_enum_end_hot hot he hit p.isList (by simp; omega) fun h' eb => ⟨rfl, I.turned (t' := s.toks) (fun b o hb q => eb b o hb q) f0 f1 f3 f4 f5⟩
  self := fun A i s Q E st h => let ⟨⟨_, he⟩, _⟩ := st; wpAny_pyIter_enum he h
def PIES (X : Cx) (pins : List (Addr × Obj)) (σ : St) (tg : Expr) (R : It → Hp → Prop) (itv : Value) (s2 : Shared) : Prop :=
  ∃ (it : Addr) (fp : List Addr) (tn : Nat → Heap → Prop) (J : It) (H' : Hp), itv = .ref it ∧ Inv X pins σ H' s2 ∧ TurnS X.prog X.w X.K tg J fp it tn ∧ tn 0 s2.heap ∧ (∀ b ∈ fp, FpOk X pins H' b) ∧ R J H'
structure PIS (X : Cx) (tg iter : Expr) (wi : TI) : Prop where
  run : ∀ (pins : List (Addr × Obj)) (s : Shared) (σ : St) (H : Hp) (R : It → Hp → Prop), Inv X pins σ H s → wi σ H R →
    wpAny (model X.prog X.w) X.A (eval iter X.env) (fun v s1 => wpAny (model X.prog X.w) X.A (pyIter v) (PIES X pins σ tg R) X.xe s1) X.xe s
theorem pi_enumS {X : Cx} {e : Expr} {ta : TA} {p pos tpos : Pos} {elts : List Expr} {kk : Nat} (hg : Gl X "enumerate") (hm : X.mg "enumerate" = none) (ha : PA X [e] ta) (hs : starEach [e] X.env = [(false, eval e X.env)] := by rfl) :
    PIS X (.Tuple elts kk tpos) (.Call (.Name "enumerate" p) [e] [] pos) (iEnum X.K ta) := by
  refine ⟨fun pins s σ H R I h => ?_⟩
  refine Call_ (ld_blt I hg hm boot_enumerate (PyProof.Rows.callWith_type1 (thn (ha.run pos pins s σ H _ I h) fun us s1 ⟨vs, H1, I1, r1, q1⟩ => ?_) hs rfl))
  obtain ⟨a, xs, ex, hq, q⟩ := q1
  subst ex
  cases r1 with
  | cons r rr =>
    cases rr
    cases r
    obtain ⟨its, rv, p', hz⟩ := I1.list hq
    refine call_enumerate_list p'.isList fun h' he hit hsz hk => wpAny_pyIter_enum he ?_
    have I2 : Inv X pins σ H1 { s1 with heap := h' } := I1.kept (t' := s1.toks) hk
    refine ⟨s1.heap.objs.size + 1, [s1.heap.objs.size + 1, s1.heap.objs.size], _, _, H1, rfl, I2, turn_enumS a (s1.heap.objs.size + 1) s1.heap.objs.size, ⟨⟨.none, he⟩, hit, Nat.succ_ne_self _⟩, fun b hb => ?_, q⟩
    have e' : b = s1.heap.objs.size + 1 ∨ b = s1.heap.objs.size := by simpa using hb
    have hle : s1.heap.objs.size ≤ b := by
      rcases e' with z | z
      · rw [z]; exact Nat.le_add_right _ _
      · rw [z]; exact Nat.le_refl _
    exact I1.fpOk hle (I1.hok.fresh hle)
end L2
namespace Kr
open PySem L2 PySem.Spec PyProof.Rows HotX L2H
section
variable {Y : Cx} {tg elt : Expr} {J : It} {fp : List Addr} {it : Addr} {tn : Nat → Heap → Prop} {vs : List Nat} {ρ : L2.St} {i : Nat}
theorem turn_endS (T : TurnS Y.prog Y.w Y.K tg J fp it tn) {s7 : Shared} {σ8 : L2.St} {H' : Hp} {s' : Shared} (t7 : tn (i + 1) s7.heap) (hw : wipe σ8 vs = ρ) (I : Inv Y ([] ++ pinsAt fp s7.heap) σ8 H' s') : Btw Y fp tn ρ (i + 1) H' s' := by
  have held : ∀ b ∈ fp, ∀ o, s7.heap.get? b = some o → s'.heap.get? b = some o ∧ H' b = none := fun b hb o e => by
    have z := I.pin (b, o) (List.mem_append_right _ (List.mem_append_right _ (mem_pinsAt hb e)))
    exact ⟨z.1, z.2.1⟩
  refine ⟨(I.unpinned (pins := [])).weak (by rw [← hw, wipe_length]) fun j v e => ?_, T.keep _ _ _ t7 fun b hb o e => (held b hb o e).1, fun b hb => ?_⟩
  · rw [← hw] at e
    exact (wipe_some e).1
  · obtain ⟨o, e, _⟩ := T.obj _ _ t7 b hb
    exact (held b hb o e).2
end
section
variable {X : Cx}
/-- [e for t in it if ..], where an exception is handled -/
theorem lc_hot {pins : List (Addr × Obj)} {s : Shared} {σ : L2.St} {H : Hp} {Q : VK} {elt tg iter : Expr} {ifs : List Expr} {scope : Scope} {own : List (Str × Nat)} {pos pos' : Pos} {wi : TI} {g : TG} {tt : TT} {te : TE} {use : Option (Value → Sem Unit)} {Qf : Value → Shared → Prop}
    (hc : HotC X) (hN : X.N.Nodup) (I : Inv X pins σ H s) (hi : PIS X tg iter wi) (ok : BlkOk X.N X.env.scope scope own)
    (hg : ∀ (s : Shared) (H : Hp) (C : Addr) (cl : List (Str × Addr)) (fp : List Addr), HotS (X.blk s H scope (compEnvC scope cl C X.env) fp) → PG (X.blk s H scope (compEnvC scope cl C X.env) fp) tg g)
    (ht : ∀ (s : Shared) (H : Hp) (C : Addr) (cl : List (Str × Addr)) (fp : List Addr), PTs (X.blk s H scope (compEnvC scope cl C X.env) fp) ifs tt)
    (he : ∀ (s : Shared) (H : Hp) (C : Addr) (cl : List (Str × Addr)) (fp : List Addr), PE (X.blk s H scope (compEnvC scope cl C X.env) fp) elt te) (hs : ∀ x, foldedSetIterable iter X.env x = pure x)
    (h : tLc wi g tt te (own.map (·.2)) σ H Q)
    (hRR : ∀ D C s' m H', Inv X pins σ H' s' → Q (.ref D) H' → s'.heap.Ns C m → FpOk X pins H' C → compPost (model X.prog X.w) X.A X.xe use Qf (.ref D) C (.ok .next) s') :
    wpAny (model X.prog X.w) X.A (comprehension (.ListComp elt [⟨tg, iter, ifs, 0⟩] scope pos) scope X.env pos' (newList []) false (eval iter X.env) use) Qf X.xe s := by
  have cells : ∀ y ∈ scope.names, y.2 = .free → ∃ c, X.env.cells.lookup y.1 = some c := fun y hy e => (ok.free y hy e).elim (fun k => I.ok.has _ (.inl k)) fun k => I.ok.has _ (.inr k)
  refine wpAny_comprehension_free (use := use) rfl hs (closure_ok cells) ok.kind (fun y hy e => by rw [ok.uniq y hy, e]) (thn (hi.run pins s σ H _ I h) fun v s0 hv => thn hv fun w s1 hw => ?_)
  obtain ⟨it, fp, tn, J, H1, rfl, I1, T, t1, f1, go⟩ := hw
  -- the new list, then the block's own objects
  refine wpAny_newObj_type (newEnv_comp ?_) (by show 0 ≤ sizeLine; decide)
  have nD : H1 s1.heap.objs.size = none := I1.hok.fresh (Nat.le_refl _)
  obtain ⟨W, ⟨m0, w0⟩, turn⟩ := go _ nD
  have I2 : Inv X pins σ (upd H1 s1.heap.objs.size (.lst [])) { s1 with heap := s1.heap.push { cls := .type "list", data := .seq ([] : List Value).toArray } } :=
    I1.laid (t' := s1.toks) (fun b o e => Heap.get?_push_of_some _ e) (Nat.le_refl _) ⟨Nat.zero_le _, [], 0, .nil, Heap.get?_push_size _ rfl⟩
  have f2 : ∀ b ∈ fp, FpOk X pins (upd H1 s1.heap.objs.size (.lst [])) b ∧ b < s1.heap.objs.size := fun b hb => by
    obtain ⟨o, e, _⟩ := T.obj _ _ t1 b hb
    have lt := Heap.lt_size e
    exact ⟨⟨(upd_ne (Nat.ne_of_lt lt)).trans (f1 b hb).1, (f1 b hb).2⟩, lt⟩
  generalize hs2 : ({ s1 with heap := s1.heap.push { cls := .type "list", data := .seq ([] : List Value).toArray } } : Shared) = s2 at I2 ⊢
  have up : ∀ b o, s1.heap.get? b = some o → s2.heap.get? b = some o := fun b o e => by rw [← hs2]; exact Heap.get?_push_of_some _ e
  generalize upd H1 s1.heap.objs.size (.lst []) = H2 at I2 w0 f2
  generalize s1.heap.objs.size = D at turn f2 ⊢
  have t2 : tn 0 s2.heap := T.keep _ _ _ t1 fun b _ o e => up b o e
  have f3 : ∀ b ∈ fp, FpOk X pins H2 b ∧ b < s2.heap.objs.size := fun b hb => by
    obtain ⟨o, e, _⟩ := T.obj _ _ t2 b hb
    exact ⟨(f2 b hb).1, Heap.lt_size e⟩
  -- the exception that is handled stays through the block
  have hot : ∀ (ce : Env), HotS (X.blk s2 H2 scope ce fp) := fun ce pns ρ H' s' J => by
    obtain ⟨p, ⟨hh, v1, e1, c1⟩, hp⟩ := hc
    have hpm : p ∈ X.pn ++ pins := List.mem_append_left _ hp
    have P1 := I2.pin p hpm
    have hst : p.1 ∉ frs X.stack := fun hm => (List.mem_cons.mp (I2.stkSub p.1 hm)).elim P1.2.2.1 P1.2.2.2.1
    refine ⟨p.1, hh, p.2, v1, J.base.keep p.1 p.2 P1.1 P1.2.1 hst (fun hm => ?_), e1, c1⟩
    exact (f3 p.1 hm).1.2.2.2.2.2 p hpm rfl
  have I3 := block_start I2 ok hN f3
  generalize hL : s2.heap.objs.size = L0 at I3 ⊢
  generalize cellsFrom (L0 + 1) scope.names (cloFrom X.env.cells scope.names []) = cl0 at I3 ⊢
  have pg := hg s2 H2 L0 cl0 fp (hot _)
  have pt := ht s2 H2 L0 cl0 fp
  have pe := he s2 H2 L0 cl0 fp
  generalize hs3 : ({ s2 with heap := pushCells (s2.heap.push { cls := .type "dict", data := .dict #[] }) scope.names } : Shared) = s3 at I3 ⊢
  have t3 : tn 0 s3.heap := T.keep _ _ _ t2 fun b _ o e => by rw [← hs3]; exact pushCells_keeps _ _ _ _ (Heap.get?_push_of_some _ e)
  show codeAny _ _ (.compStart (.ListComp elt [⟨tg, iter, ifs, 0⟩] scope pos) 0 (.ref it) (.ref D) (compEnvC scope cl0 L0 X.env)) (compPost (model X.prog X.w) X.A X.xe use Qf (.ref D) L0) s3
  have eL : (compEnvC scope cl0 L0 X.env).locals = L0 := rfl
  generalize compEnvC scope cl0 L0 X.env = ce at I3 pg pt pe eL ⊢
  -- the turns
  have loop : codeAny (model X.prog X.w) X.A (.compLoop (.ListComp elt [⟨tg, iter, ifs, 0⟩] scope pos) 0 (.ref it) (.ref D) ce) (compPost (model X.prog X.w) X.A X.xe use Qf (.ref D) L0) s3 := by
    refine compLoop_any (fun n s' => ∃ i H', Btw (X.blk s2 H2 scope ce fp) fp tn (wipe σ (own.map (·.2))) i H' s' ∧ W i n H') ?_ m0 ⟨0, H2, ⟨I3, t3, fun b hb => (f2 b hb).1.1⟩, w0⟩
    rintro n s4 ⟨i, H4, b4, w4⟩
    have q4 := btw_fp rfl rfl b4
    rcases turn i n H4 w4 with ⟨stop, fin⟩ | ⟨more, Nx, hNx, step⟩
    · refine thnF (T.done (X.blk s2 H2 scope ce fp) rfl rfl rfl i [] s4 _ H4 (fun _ _ => False) b4.1 (hot _ _ _ _ _ b4.1) q4 b4.2.1 stop) fun r s5 ⟨er, I5⟩ => ?_
      subst er
      have I6 : Inv X pins σ H4 s5 := I2.call' (ch := fp) I5.os I5.base I5.hok I5.bare fun b hb => ⟨(f2 b hb).1.2.2.2.1, (f2 b hb).1.2.1, (f2 b hb).1.2.2.2.2.1, (f2 b hb).1.2.2.2.2.2⟩
      obtain ⟨m, hn, _⟩ := I5.loc
      have nL : H4 L0 = none := by rw [← eL]; exact I5.free
      exact hRR D L0 s5 m H4 I6 fin (by rw [← eL]; exact hn) (I2.fpOk (Nat.le_of_eq hL) nL)
    · refine thnF (T.item (X.blk s2 H2 scope ce fp) rfl rfl rfl i [] s4 _ H4 (fun _ _ => False) b4.1 q4 b4.2.1 more) fun r s5 ⟨u, er, h5⟩ => ?_
      subst er
      refine thnF h5 fun _ s6 ⟨x, H6, I6, r6, y6, t6, n6⟩ => ?_
      have b6 : Btw (X.blk s2 H2 scope ce fp) fp tn (wipe σ (own.map (·.2))) (i + 1) H6 s6 := ⟨I6, t6, n6⟩
      have I7 := I6.pinned (btw_fp rfl rfl b6) (T.obj _ _ t6)
      have back : ∀ {s' : Shared} {σ' : L2.St} {H' : Hp}, wipe σ' (own.map (·.2)) = wipe σ (own.map (·.2)) → Inv (X.blk s2 H2 scope ce fp) ([] ++ pinsAt fp s6.heap) σ' H' s' → Nx H' → ∃ m, m < n ∧ ∃ i H', Btw (X.blk s2 H2 scope ce fp) fp tn (wipe σ (own.map (·.2))) i H' s' ∧ W i m H' := fun hw I' nx => by
        obtain ⟨m', lt, w'⟩ := hNx _ nx
        exact ⟨m', lt, i + 1, _, turn_endS (Y := X.blk s2 H2 scope ce fp) T t6 hw I', w'⟩
      refine thnF (pg.run _ s6 _ H6 x u _ I7 r6 (step x H6 y6)) fun _ s7 ⟨σ7, H7, I7, hw, q7⟩ => ?_
      refine thnF (pt.run _ s7 σ7 H7 _ I7 q7) fun b s8 ⟨H8, I8, q8⟩ => ?_
      cases b with
      | false => exact back hw I8 q8
      | true => exact thnF (pe.run _ s8 σ7 H8 _ I8 q8) fun z s9 ⟨y, H9, I9, r9, acc, hD, lt, nx⟩ => app_ok (X := X.blk s2 H2 scope ce fp) I9 hD lt r9 fun s10 I10 => back hw I10 nx
  exact codeAny_compStart_list loop (T.self X.A 0 _ _ _ t3 loop)
theorem pe_lcS {elt tg iter : Expr} {ifs : List Expr} {scope : Scope} {own : List (Str × Nat)} {pos : Pos} {wi : TI} {g : TG} {tt : TT} {te : TE}
    (hc : HotC X) (hN : X.N.Nodup) (hi : PIS X tg iter wi) (ok : BlkOk X.N X.env.scope scope own)
    (hg : ∀ (s : Shared) (H : Hp) (C : Addr) (cl : List (Str × Addr)) (fp : List Addr), HotS (X.blk s H scope (compEnvC scope cl C X.env) fp) → PG (X.blk s H scope (compEnvC scope cl C X.env) fp) tg g)
    (ht : ∀ (s : Shared) (H : Hp) (C : Addr) (cl : List (Str × Addr)) (fp : List Addr), PTs (X.blk s H scope (compEnvC scope cl C X.env) fp) ifs tt)
    (he : ∀ (s : Shared) (H : Hp) (C : Addr) (cl : List (Str × Addr)) (fp : List Addr), PE (X.blk s H scope (compEnvC scope cl C X.env) fp) elt te) (hs : ∀ x, foldedSetIterable iter X.env x = pure x := by intro _; rfl) :
    PE X (.ListComp elt [⟨tg, iter, ifs, 0⟩] scope pos) (fun σ => tLc wi g tt te (own.map (·.2)) σ) := by
  refine ⟨fun pins s σ H Q I h => ?_⟩
  rw [eval_ListComp]
  refine lc_hot hc hN I hi ok hg ht he hs h fun D C s' m H' I' q hn f => ⟨m, hn, fun h'' sb => ?_⟩
  exact ⟨.ref D, H', I'.turned (t' := s'.toks) (fun b o hb e => (sb.2 b hb).trans e) f.1 f.2.1 f.2.2.2.1 f.2.2.2.2.1 f.2.2.2.2.2, rfl, q⟩
end
end Kr
namespace L2
open PySem PySem.Spec PyProof.Rows HotX L2H
/-- what a def promises that is called in an except suite; its promise knows the exception, its class, its dict -/
structure FnHP (P : Program) (w : World) (K : PySem.W.Frag) (mg : Str → Option Value) (base : Heap) (CX : CXT) (k : Nat) (f : Addr) (fd : FuncData) (ps : List Str) (sp : Addr → Value → Option Addr → Sp) : Prop where
  len : ∀ a cls d vs H Q E, sp a cls d vs H Q E → vs.length = ps.length
  run : ∀ (A : Around) (outer : List Env) (s : Shared) (H : Hp) (args : Args) (us : List Value) (vs : List V) (Q : VK) (E : XK) (p : Addr × Obj) (cls : Value) (d : Option Addr), Zc cls d p.2 → RoomH k A → Hot1 A p → PinOk outer H s p → Env0 P w K mg base A outer s H → BindsTo s fd args (ps.zip us) → Vals vs us → sp p.1 cls d vs H Q E →
    codeAny (model P w) A (.call (.ref f) args) (CR CX outer P w H s Q E) s
theorem fn_ofHP {CX : CXT} {P : Program} {w : World} {K : PySem.W.Frag} {mg : Str → Option Value} {base : Heap} {k : Nat} {f : Addr} {name qual : Str} {params : Arguments} {body : List Stmt} {scope : Scope} {dV kV doc pm cdv ct oc : Value} {an od : Option Addr}
    {osl : Array (Option Value)} {N ps : List Str} {sp : Addr → Value → Option Addr → Sp} (lk : K.lookup f = some ⟨oc, od, .func (PySem.W.fnOf name qual params body scope dV kV doc pm an cdv ct), osl⟩) (hcd : PySem.W.codeIn K cdv qual = true) (S : FnScope N ps scope)
    (len : ∀ a cls d vs H Q E, sp a cls d vs H Q E → vs.length = ps.length)
    (hbody : ∀ (A : Around) (outer : List Env) (s : Shared) (H : Hp) (vs : List V) (Q : VK) (E : XK) (p : Addr × Obj) (cls : Value) (d : Option Addr), Zc cls d p.2 → Hot1 A p → RoomH k (A.deeper (envOfC qual scope s.heap.objs.size f cdv)) → sp p.1 cls d vs H Q E →
      ∃ t, PSs (cxH CX P w K mg base N qual scope f cdv A outer s H E p) body t ∧ t { nx := fun _ H' => Q .non H', rt := Q } (L2.start N vs) H) :
    FnHP P w K mg base CX (k + 1) f (PySem.W.fnOf name qual params body scope dV kV doc pm an cdv ct) ps sp := by
  refine ⟨len, fun A outer s H args us vs Q E p cls d hz hr hot hpin e0 hb r hsp => ?_⟩
  have hl := len _ _ _ _ _ _ _ hsp
  have KX : K.In s.heap := e0.mod.kin.keeps fun b o e => (e0.bs b o e).1
  have lim : s.heap.NoLimit := e0.mod.nolimit.keeps fun b o e => (e0.bs b o e).1
  have hkind : ∀ y ∈ ps.zip us, scope.names.lookup y.1 = some .local ∨ (scope.names.lookup y.1 = some .cell ∧ ((cellsFrom (s.heap.objs.size + 1) scope.names []).lookup y.1).isSome = true) := fun ⟨n, v⟩ hy => by
    rcases S.par n (List.of_mem_zip hy).1 with q | q
    · exact .inl q
    · exact .inr ⟨q, PySem.W.cellsFrom_some _ _ _ (.inl q)⟩
  refine codeAny_call_function hr.depth (KX _ _ lk) rfl S.co S.gen rfl (PySem.W.codeRec_of KX hcd) (hb _ _ _ _ ?_)
  refine wpAny_newFunctionEnv_cells S.kind hkind fun env he s1 x => ?_
  subst he
  refine ⟨lim.keeps x.toInCall.keep, codeAny_func ?_⟩
  obtain ⟨t, ht, hq⟩ := hbody A outer s H vs Q E p cls d hz hot (hr.deeper _) hsp
  have I : Inv (cxH CX P w K mg base N qual scope f cdv A outer s H E p) [] (L2.start N vs) H s1 := inv_startH S hpin e0 hl r x
  refine wpAny_mono (ht.run [] s1 (L2.start N vs) H _ I hq) (fun fl s' hs => ?_) fun e s' hs => hs
  have fin : ∀ {σ' : St} {H' : Hp} {v : V} {u : Value}, Inv (cxH CX P w K mg base N qual scope f cdv A outer s H E p) [] σ' H' s' → RelV v u → Q v H' → CE outer P w H s Q u s' :=
    fun {σ' H' v u} J rv q => ⟨v, H', J.os, J.bare, J.base, J.hok, rv, q⟩
  cases fl with
  | ret u =>
    obtain ⟨v, σ', H', J, rv, q⟩ := hs
    exact fin J rv q
  | next =>
    obtain ⟨σ', H', J, q⟩ := hs
    exact fin (v := V.non) (u := Value.none) J rfl q
  | brk =>
    obtain ⟨_, _, _, q⟩ := hs
    exact False.elim q
  | cont =>
    obtain ⟨_, _, _, q⟩ := hs
    exact False.elim q
section
variable {X : Cx} {CX : CXT} {k : Nat} {f : Addr} {fd : FuncData} {ps : List Str} {sp : Addr → Value → Option Addr → Sp} {x : Str} {q pos : Pos} {e : Expr} {es : List Expr} {t : TA}
theorem run_fnHP {pins : List (Addr × Obj)} {σ : St} {H : Hp} {s : Shared} {Q : VK} {us : List Value} {vs : List V} {p : Addr × Obj} {cls : Value} {d : Option Addr} (F : FnHP X.prog X.w X.K X.mg X.base CX k f fd ps sp) (hr : RoomH k X.A) (hot : Hot1 X.A p) (hp : p ∈ X.pn) (hz : Zc cls d p.2) (hb : Binds X.K fd ps []) (hx : Passes CX X E0)
    (I : Inv X pins σ H s) (r : Vals vs us) (h : sp p.1 cls d vs H Q E0) : wpAny (model X.prog X.w) X.A (call (.ref f) us) (EP X pins σ Q) X.xe s := by
  have hl : us.length = ps.length := by rw [← r.length]; exact F.len _ _ _ _ _ _ _ h
  have b := hb s us I.kIn (by rw [List.append_nil]; exact hl)
  rw [List.append_nil] at b
  have P1 := I.pin p (List.mem_append_left _ hp)
  have hpin : PinOk X.stack H s p := ⟨P1.1, P1.2.1, fun hm => (List.mem_cons.mp (I.stkSub p.1 hm)).elim P1.2.2.1 P1.2.2.2.1, P1.2.2.2.2⟩
  refine wpAny_call (codeAny_mono (F.run X.A X.stack s H ⟨us, []⟩ us vs Q E0 p cls d hz hr hot hpin I.env0 b r h) fun r s' hq => ?_)
  cases r with
  | error e => exact hx pins σ H s e s' I hq
  | ok fl =>
    cases fl with
    | ret u => exact I.after hq
    | next => exact False.elim hq
    | brk => exact False.elim hq
    | cont => exact False.elim hq
theorem pe_callHP {p : Addr × Obj} {cls : Value} {d : Option Addr} (F : FnHP X.prog X.w X.K X.mg X.base CX k f fd ps sp) (hr : RoomH k X.A) (hot : Hot1 X.A p) (hp : p ∈ X.pn) (hz : Zc cls d p.2) (hg : Gl X x) (hm : X.mg x = some (.ref f)) (hk : PySem.W.keepIn X.K (.ref f) = true) (hb : Binds X.K fd ps []) (hx : Passes CX X E0)
    (ha : PA X (e :: es) t) (hdb : (x == ("__debug__" : Str)) = false := by decide) (he : starEach (e :: es) X.env = (false, eval e X.env) :: starEach es X.env := by rfl) (hpl : (backTo pos (starEach es X.env)).any (·.1) = false := by rfl) :
    PE X (.Call (.Name x q) (e :: es) [] pos) (tCallS (sp p.1 cls d) (fun _ => E0) t) := by
  refine ⟨fun pins s σ H Q I h => ?_⟩
  refine wpAny_Call_Name_kw (ld_glob I hg hm ?_ hdb)
  refine PySem.W.callWith_K (h₀ := X.base) I.ok.mod.kin hk (thn (ha.run pos pins s σ H _ I h) fun us s1 ⟨vs, H1, I1, r, q⟩ => ⟨I1.kIn, ?_⟩) he hpl
  exact run_fnHP F hr hot hp hz hb hx I1 r q
end
end L2
namespace Kr
open PySem L2 PySem.Spec PyProof.Rows HotX L2H
structure OkH (P : Program) (w : World) (K : PySem.W.Frag) (mg : Str → Option Value) (base : Heap) (k : Nat) (x : Str) (st : Stmt) (ps : List Str) (sp : Addr → Value → Option Addr → Sp) : Prop where
  ex : ∃ f fd, mg x = some (.ref f) ∧ Fun K x x st f fd ∧ Binds K fd ps [] ∧ FnHP P w K mg base CX0 k f fd ps sp
theorem OkH.of {P : Program} {w : World} {K : PySem.W.Frag} {mg : Str → Option Value} {base : Heap} {x : Str} {st : Stmt} {N ps : List Str} {k : Nat} {sp : Addr → Value → Option Addr → Sp} (T : TopFn K mg x st) (S : FnScope N ps (defScope st))
    (hb : ∀ (kV doc pm : Value) (an : Option Addr) (cdv ct : Value) (us : List Value), us.length = ps.length → bindArgs (PySem.W.fnOf x x (defArgs st) (defBody st) (defScope st) .none kV doc pm an cdv ct) ⟨us, []⟩ = pure (ps.zip us))
    (len : ∀ a cls d vs H Q E, sp a cls d vs H Q E → vs.length = ps.length)
    (body : ∀ (f : Addr) (cdv : Value) (A : Around) (outer : List Env) (s : Shared) (H : Hp) (vs : List V) (Q : VK) (E : XK) (p : Addr × Obj) (cls : Value) (d : Option Addr), Zc cls d p.2 → Hot1 A p → RoomH k (A.deeper (PyProof.Rows.envOfC x (defScope st) s.heap.objs.size f cdv)) → sp p.1 cls d vs H Q E →
      ∃ t, PSs (cxH CX0 P w K mg base N x (defScope st) f cdv A outer s H E p) (defBody st) t ∧ t { nx := fun _ H' => Q .non H', rt := Q } (start N vs) H) : OkH P w K mg base (k + 1) x st ps sp := by
  obtain ⟨f, fd, h1, F⟩ := T.ex
  refine ⟨f, fd, h1, F, F.binds hb, ?_⟩
  obtain ⟨oc, od, kV, doc, pm, an, cdv, ct, osl, rfl, lk, hcd⟩ := F.ex
  exact fn_ofHP lk hcd S len fun A outer s H vs Q E p cls d hz hot hr hsp => body f cdv A outer s H vs Q E p cls d hz hot hr hsp
/-- a call in an except suite -/
theorem pe_ownH {X : Cx} {k : Nat} {x : Str} {ps : List Str} {sp : Addr → Value → Option Addr → Sp} {st : Stmt} {q pos : Pos} {e : Expr} {es : List Expr} {t : TA} {a : Addr} {oe : Obj} {cls : Value} {d : Option Addr} {pn : List (Addr × Obj)} (O : OkH X.prog X.w X.K X.mg X.base k x st ps sp)
    (hr : Room k X.A) (hz : L2N.Zn cls d oe) (hf : ∃ vs, oe.data = .fields vs) (hg : Gl (X.suite a ((a, oe) :: pn)) x) (ha : PA (X.suite a ((a, oe) :: pn)) (e :: es) t) (hdb : (x == ("__debug__" : Str)) = false := by decide)
    (he : starEach (e :: es) X.env = (false, eval e X.env) :: starEach es X.env := by rfl) (hpl : (backTo pos (starEach es X.env)).any (·.1) = false := by rfl) :
    PE (X.suite a ((a, oe) :: pn)) (.Call (.Name x q) (e :: es) [] pos) (tCallS (sp a cls d) (fun _ => E0) t) := by
  obtain ⟨f, fd, h1, h2, h3, F⟩ := O.ex
  have hot : Hot1 (X.suite a ((a, oe) :: pn)).A (a, oe) := by
    obtain ⟨vs, e⟩ := hf
    exact ⟨rfl, vs, e, hz.2.2 vs e⟩
  exact pe_callHP (X := X.suite a ((a, oe) :: pn)) (p := (a, oe)) F ⟨hr.dp, hr.un⟩ hot List.mem_cons_self hz.zc hg h1 h2.kp h3 pass0 ha hdb he hpl
end Kr
namespace Kr
open PySem L2
/-- what stands behind is forgotten -/
theorem ws_cut {g : Gr} {L L' : Led} {t : TS} {σ : L2.St} {K : Ks} (n : Nat) (e : L.take n = L') (h : Ws g L' t σ K) : Ws g L t σ K := fun H z D eo => h H (z.sub (e ▸ List.take_sublist n L)) D eo
theorem wp_callS {g : Gr} {L : Led} {σ : L2.St} {C : V → Led → Prop} {tr : TA} {sp : Sp} {E : L2.St → XK} (h : Wp g L (tr σ) fun vs L1 => Wp g L1 (fun H Q => sp vs H Q (E σ)) C) : Wp g L (tCallS sp E tr σ) C :=
  fun H a Q q => h H a _ fun vs L1 H1 h1 a1 => h1 H1 a1 Q q
end Kr

set_option Elab.async false
set_option linter.all false
set_option maxRecDepth 100000
/-! powers, plain -/
namespace Ma
theorem pow_pos {b : Int} (h : 2 ≤ b) (k : Nat) : 1 ≤ b ^ k := by
  induction k with
  | zero => simp
  | succ k ih =>
    rw [Int.pow_succ]
    have : b ^ k * 1 ≤ b ^ k * b := Int.mul_le_mul_of_nonneg_left (by omega) (by omega)
    omega
theorem pow_step {b : Int} (h : 2 ≤ b) (k : Nat) : 2 * b ^ k ≤ b ^ (k + 1) := by
  rw [Int.pow_succ, Int.mul_comm]
  exact Int.mul_le_mul_of_nonneg_left h (by have := pow_pos h k; omega)
theorem pow_mono {b : Int} (h : 2 ≤ b) {i j : Nat} (hij : i ≤ j) : b ^ i ≤ b ^ j := by
  induction j with
  | zero => have : i = 0 := by omega
            subst this; exact Int.le_refl _
  | succ j ih =>
    by_cases e : i = j + 1
    · subst e; exact Int.le_refl _
    · have := ih (by omega)
      have := pow_step h j
      have := pow_pos h j
      omega
theorem pow_lt {b : Int} (h : 2 ≤ b) {i j : Nat} (hij : i < j) : b ^ i < b ^ j := by
  have h1 := pow_mono h (show i + 1 ≤ j by omega)
  have h2 := pow_step h i
  have h3 := pow_pos h i
  omega
theorem pow_inj {b : Int} (h : 2 ≤ b) {i j : Nat} (e : b ^ i = b ^ j) : i = j := by
  rcases Nat.lt_trichotomy i j with q | q | q
  · have := pow_lt h q; omega
  · exact q
  · have := pow_lt h q; omega
theorem pow_lt_iff {b : Int} (h : 2 ≤ b) {i j : Nat} (e : b ^ i < b ^ j) : i < j := by
  rcases Nat.lt_or_ge i j with q | q
  · exact q
  · have := pow_mono h q; omega
theorem two_le_pow {b : Int} (h : 2 ≤ b) (k : Nat) : 2 ^ k ≤ b ^ k := by
  induction k with
  | zero => simp
  | succ k ih =>
    have := pow_step h k
    rw [Int.pow_succ]
    omega
theorem pow_small {b : Int} (h : 2 ≤ b) {k : Nat} (hk : b ^ k ≤ 10 ^ 61) : k < 210 := by
  rcases Nat.lt_or_ge k 210 with q | q
  · exact q
  · have h1 := two_le_pow h k
    have h2 := pow_mono (b := 2) (by decide) q
    have h3 : (10 : Int) ^ 61 < 2 ^ 210 := by decide
    omega
theorem pow_le_big {b : Int} {k : Nat} (h1 : 2 ≤ b) (h2 : b ≤ 1000) (hk : k ≤ 30) : b ^ k ≤ 10 ^ 90 := by
  have key : ∀ k : Nat, b ^ k ≤ 1000 ^ k := fun k => by
    induction k with
    | zero => simp
    | succ k ih =>
      rw [Int.pow_succ, Int.pow_succ]
      have := pow_pos h1 k
      have h3 : b ^ k * b ≤ b ^ k * 1000 := Int.mul_le_mul_of_nonneg_left h2 (by omega)
      have h4 : b ^ k * 1000 ≤ 1000 ^ k * 1000 := Int.mul_le_mul_of_nonneg_right ih (by decide)
      omega
  have h3 := key k
  have h4 := pow_mono (b := 1000) (by decide) hk
  have h5 : (1000 : Int) ^ 30 = 10 ^ 90 := by decide
  omega
theorem pow_le_30 {b : Int} {k : Nat} (h1 : 2 ≤ b) (h2 : b ≤ 1000) (hk : k ≤ 9) : b ^ k ≤ 10 ^ 27 := by
  have key : ∀ k : Nat, b ^ k ≤ 1000 ^ k := fun k => by
    induction k with
    | zero => simp
    | succ k ih =>
      rw [Int.pow_succ, Int.pow_succ]
      have := pow_pos h1 k
      have h3 : b ^ k * b ≤ b ^ k * 1000 := Int.mul_le_mul_of_nonneg_left h2 (by omega)
      have h4 : b ^ k * 1000 ≤ 1000 ^ k * 1000 := Int.mul_le_mul_of_nonneg_right ih (by decide)
      omega
  have h3 := key k
  have h4 := pow_mono (b := 1000) (by decide) hk
  have h5 : (1000 : Int) ^ 9 = 10 ^ 27 := by decide
  omega
theorem top_big {b m : Int} {k : Nat} (h : 2 ≤ b) (hm : m ≤ 10 ^ 60) (hk : (k = 0 ∨ b ^ k ≤ m) ∧ m < b ^ (k + 1) ∧ k < 210) : -(10 ^ 200) ≤ b ^ k ∧ b ^ k ≤ 10 ^ 200 := by
  have h1 := pow_pos h k
  rcases hk.1 with q | q
  · subst q
    simp
  · omega
def IsPow (b u : Int) : Prop := ∃ j : Nat, u = b ^ j
theorem IsPow.one (b : Int) : IsPow b 1 := ⟨0, by simp⟩
theorem IsPow.mul {b u : Int} (h : IsPow b u) : IsPow b (u * b) := by
  obtain ⟨j, e⟩ := h
  exact ⟨j + 1, by rw [e, Int.pow_succ]⟩
theorem IsPow.pos {b u : Int} (hb : 2 ≤ b) (h : IsPow b u) : 1 ≤ u := by
  obtain ⟨j, e⟩ := h
  rw [e]
  exact pow_pos hb j
theorem IsPow.next {b u v : Int} (hb : 2 ≤ b) (hu : IsPow b u) (hv : IsPow b v) (h : u < v) : u * b ≤ v := by
  obtain ⟨i, rfl⟩ := hu
  obtain ⟨j, rfl⟩ := hv
  rw [← Int.pow_succ]
  exact pow_mono hb (pow_lt_iff hb h)
/-- the greatest power up to m -/
def IsTop (b m u : Int) : Prop := IsPow b u ∧ u ≤ m ∧ m < u * b
theorem IsTop.uniq {b m u v : Int} (hb : 2 ≤ b) (hu : IsTop b m u) (hv : IsTop b m v) : u = v := by
  obtain ⟨p1, l1, g1⟩ := hu
  obtain ⟨p2, l2, g2⟩ := hv
  rcases Int.lt_trichotomy u v with q | q | q
  · have := p1.next hb p2 q; omega
  · exact q
  · have := p2.next hb p1 q; omega
/-- the least factor -/
def IsFac (b age loss F : Int) : Prop := (age ≤ 1 ∧ F = 1) ∨ (1 < age ∧ ∃ u, IsTop b (loss + 1) u ∧ 2 ≤ F ∧ (F - 2) * u < age - 1 ∧ age - 1 ≤ (F - 1) * u)
/-- the least power that is enough for an age -/
def IsSafe (b f age v : Int) : Prop := IsPow b v ∧ age ≤ (f - 1) * v + 1 ∧ ∀ u, IsPow b u → age ≤ (f - 1) * u + 1 → v ≤ u
theorem ceil_ok {a u : Int} (hu : 1 ≤ u) (ha : 1 ≤ a) : 2 ≤ (a + u - 1) / u + 1 ∧ ((a + u - 1) / u + 1 - 2) * u < a ∧ a ≤ ((a + u - 1) / u + 1 - 1) * u := by
  have h0 := Int.mul_ediv_add_emod (a + u - 1) u
  have h1 := Int.emod_nonneg (a + u - 1) (show u ≠ 0 by omega)
  have h2 := Int.emod_lt_of_pos (a + u - 1) (show 0 < u by omega)
  generalize (a + u - 1) / u = q at *
  generalize (a + u - 1) % u = r at *
  have e1 : (q + 1 - 2) * u = u * q - u := by rw [show q + 1 - 2 = q - 1 by omega, Int.sub_mul, Int.mul_comm]; omega
  have e2 : (q + 1 - 1) * u = u * q := by rw [show q + 1 - 1 = q by omega, Int.mul_comm]
  rw [e1, e2]
  refine ⟨?_, by omega, by omega⟩
  rcases Int.lt_or_le q 1 with z | z
  · have : u * q ≤ u * 0 := Int.mul_le_mul_of_nonneg_left (by omega) (by omega)
    omega
  · omega
theorem fac_pos {b age loss F : Int} (h : IsFac b age loss F) : 1 ≤ F ∧ (F = 1 → age ≤ 1) := by
  rcases h with ⟨h1, e⟩ | ⟨h1, u, _, h2, _⟩
  · omega
  · omega
/-- the law k70, in numbers -/
theorem fac_none {b age loss F v : Int} (hb : 2 ≤ b) (hF : IsFac b age loss F) (h : 1000000 < F) (hv : IsSafe b 1000000 age v) : loss < v - 1 := by
  rcases hF with ⟨_, e⟩ | ⟨h1, u, ⟨p, l, gt⟩, _, h3, h4⟩
  · omega
  · obtain ⟨pv, a1, _⟩ := hv
    have hu := p.pos hb
    have k1 : (1000000 + 1 - 2) * u ≤ (F - 2) * u := Int.mul_le_mul_of_nonneg_right (by omega) (by omega)
    rcases Int.lt_or_le u v with q | q
    · have := p.next hb pv q; omega
    · have : (1000000 - 1) * v ≤ (1000000 - 1) * u := Int.mul_le_mul_of_nonneg_left q (by decide)
      omega
theorem fac_some {b age loss F v : Int} (hb : 2 ≤ b) (hF : IsFac b age loss F) (hl : 0 ≤ loss) (hv : IsSafe b F age v) : v - 1 ≤ loss := by
  rcases hF with ⟨h1, e⟩ | ⟨h1, u, ⟨p, l, gt⟩, _, h3, h4⟩
  · subst e
    have := hv.2.2 1 (IsPow.one b) (by omega)
    omega
  · have := hv.2.2 u p (by omega)
    omega
theorem fac_less {b age loss F v : Int} (hb : 2 ≤ b) (hF : IsFac b age loss F) (h : 1 < F) (hv : IsSafe b (F - 1) age v) : loss < v - 1 := by
  rcases hF with ⟨_, e⟩ | ⟨h1, u, ⟨p, l, gt⟩, _, h3, h4⟩
  · omega
  · obtain ⟨pv, a1, _⟩ := hv
    have hu := p.pos hb
    rcases Int.lt_or_le u v with q | q
    · have := p.next hb pv q; omega
    · have k1 : (F - 1 - 1) * v ≤ (F - 1 - 1) * u := Int.mul_le_mul_of_nonneg_left q (by omega)
      have e : F - 1 - 1 = F - 2 := by omega
      rw [e] at k1 a1
      omega
theorem fac_age {b age loss F u : Int} (hb : 2 ≤ b) (hF : IsFac b age loss F) (hu : IsTop b (loss + 1) u) : age ≤ (F - 1) * u + 1 ∧ (1 < F → (F - 1 - 1) * u + 1 < age) := by
  rcases hF with ⟨h1, e⟩ | ⟨h1, u', hu', _, h3, h4⟩
  · subst e
    omega
  · have := hu.uniq hb hu'
    subst this
    have e : F - 1 - 1 = F - 2 := by omega
    rw [e]
    omega
theorem fac_uniq {b age loss F G : Int} (hb : 2 ≤ b) (hF : IsFac b age loss F) (hG : IsFac b age loss G) : F = G := by
  rcases hF with ⟨h1, e⟩ | ⟨h1, u, hu, f2, h3, h4⟩
  · rcases hG with ⟨_, e'⟩ | ⟨h1', _⟩
    · omega
    · omega
  · rcases hG with ⟨_, e'⟩ | ⟨h1', v, hv, g2, h3', h4'⟩
    · omega
    · have e := hu.uniq hb hv
      subst e
      have up := hu.1.pos hb
      rcases Int.lt_trichotomy F G with q | q | q
      · have : (F - 1) * u ≤ (G - 2) * u := Int.mul_le_mul_of_nonneg_right (by omega) (by omega)
        omega
      · exact q
      · have : (G - 1) * u ≤ (F - 2) * u := Int.mul_le_mul_of_nonneg_right (by omega) (by omega)
        omega
end Ma

set_option Elab.async false
set_option linter.all false
set_option maxRecDepth 100000
/-! units, parents, chains, plain -/
namespace Ma
/-- the greatest power of b that divides n, by fuel -/
def unitN (b : Int) : Nat → Int → Int
  | 0, _ => 1
  | k + 1, n => if n % b = 0 then b * unitN b k (n / b) else 1
def unitF (b n : Int) : Int := unitN b n.toNat n
theorem unitN_pow (b : Int) : ∀ (k : Nat) (n : Int), IsPow b (unitN b k n)
  | 0, _ => IsPow.one b
  | k + 1, n => by
    unfold unitN
    split
    · rw [Int.mul_comm]
      exact (unitN_pow b k _).mul
    · exact IsPow.one b
theorem unitN_dvd (b : Int) : ∀ (k : Nat) (n : Int), unitN b k n ∣ n
  | 0, n => Int.one_dvd n
  | k + 1, n => by
    unfold unitN
    split
    · rename_i h
      have e : n = b * (n / b) := by
        have := Int.mul_ediv_add_emod n b
        omega
      have := unitN_dvd b k (n / b)
      have q := Int.mul_dvd_mul (Int.dvd_refl b) this
      rw [← e] at q
      exact q
    · exact Int.one_dvd n
theorem div_lt {b n : Int} (hb : 2 ≤ b) (hn : 1 ≤ n) (h : n % b = 0) : 1 ≤ n / b ∧ n / b < n := by
  have e : n = b * (n / b) := by
    have := Int.mul_ediv_add_emod n b
    omega
  have h1 : 1 ≤ n / b := by
    rcases Int.lt_or_le (n / b) 1 with q | q
    · have : b * (n / b) ≤ b * 0 := Int.mul_le_mul_of_nonneg_left (by omega) (by omega)
      omega
    · exact q
  have : 2 * (n / b) ≤ b * (n / b) := Int.mul_le_mul_of_nonneg_right hb (by omega)
  omega
theorem unitN_not {b : Int} (hb : 2 ≤ b) : ∀ (k : Nat) (n : Int), 1 ≤ n → n.toNat ≤ k → ¬ (unitN b k n * b ∣ n)
  | 0, n, h1, h2 => by omega
  | k + 1, n, h1, h2 => by
    unfold unitN
    split
    · rename_i h
      have d := div_lt hb h1 h
      have ih := unitN_not hb k (n / b) d.1 (by omega)
      intro q
      apply ih
      have e : n = b * (n / b) := by
        have := Int.mul_ediv_add_emod n b
        omega
      rw [e, Int.mul_assoc] at q
      have e2 : b * (n / b) / b = n / b := Int.mul_ediv_cancel_left _ (by omega)
      rw [e2] at q
      exact Int.dvd_of_mul_dvd_mul_left (by omega) q
    · rename_i h
      rw [Int.one_mul]
      intro q
      exact h (Int.emod_eq_zero_of_dvd q)
/-- what a unit is -/
def IsUnit (b n u : Int) : Prop := IsPow b u ∧ u ∣ n ∧ ¬ (u * b ∣ n)
theorem unitF_is {b n : Int} (hb : 2 ≤ b) (hn : 1 ≤ n) : IsUnit b n (unitF b n) := ⟨unitN_pow b _ _, unitN_dvd b _ _, unitN_not hb _ _ hn (Nat.le_refl _)⟩
theorem pow_dvd {b u v : Int} (hb : 2 ≤ b) (hu : IsPow b u) (hv : IsPow b v) (h : u ≤ v) : u ∣ v := by
  obtain ⟨i, rfl⟩ := hu
  obtain ⟨j, rfl⟩ := hv
  have hij : i ≤ j := by
    rcases Nat.lt_or_ge j i with q | q
    · have := pow_lt hb q
      omega
    · exact q
  obtain ⟨d, rfl⟩ := Nat.le.dest hij
  exact ⟨b ^ d, by rw [Int.pow_add]⟩
theorem IsUnit.uniq {b n u v : Int} (hb : 2 ≤ b) (hu : IsUnit b n u) (hv : IsUnit b n v) : u = v := by
  rcases Int.lt_trichotomy u v with q | q | q
  · exact absurd (Int.dvd_trans (pow_dvd hb hu.1.mul hv.1 (hu.1.next hb hv.1 q)) hv.2.1) hu.2.2
  · exact q
  · exact absurd (Int.dvd_trans (pow_dvd hb hv.1.mul hu.1 (hv.1.next hb hu.1 q)) hu.2.1) hv.2.2
theorem IsUnit.eq {b n u : Int} (hb : 2 ≤ b) (hn : 1 ≤ n) (hu : IsUnit b n u) : u = unitF b n := hu.uniq hb (unitF_is hb hn)
theorem unitF_pos {b n : Int} (hb : 2 ≤ b) : 1 ≤ unitF b n := (unitN_pow b _ _).pos hb
theorem unitF_pow {b n : Int} : IsPow b (unitF b n) := unitN_pow b _ _
theorem unitF_dvd {b n : Int} : unitF b n ∣ n := unitN_dvd b _ _
theorem unitF_le {b n : Int} (hn : 1 ≤ n) : unitF b n ≤ n := Int.le_of_dvd (by omega) unitF_dvd
/-- a power divides n exactly if it is at most the unit -/
theorem dvd_iff {b n u : Int} (hb : 2 ≤ b) (hn : 1 ≤ n) (hu : IsPow b u) : u ∣ n ↔ u ≤ unitF b n := by
  constructor
  · intro h
    rcases Int.lt_or_le (unitF b n) u with q | q
    · have := unitF_is hb hn
      exact absurd (Int.dvd_trans (pow_dvd hb this.1.mul hu (this.1.next hb hu q)) h) this.2.2
    · exact q
  · intro h
    exact Int.dvd_trans (pow_dvd hb hu unitF_pow h) unitF_dvd
/-- the parent -/
def parF (b n : Int) : Int := n / (unitF b n * b) * (unitF b n * b)
theorem ub_pos {b n : Int} (hb : 2 ≤ b) : 2 ≤ unitF b n * b := by
  have h1 : 1 * b ≤ unitF b n * b := Int.mul_le_mul_of_nonneg_right (unitF_pos hb) (by omega)
  omega
theorem parF_le {b n : Int} (hb : 2 ≤ b) : parF b n ≤ n ∧ n < parF b n + unitF b n * b := by
  have h := ub_pos (b := b) (n := n) hb
  have h0 := Int.mul_ediv_add_emod n (unitF b n * b)
  have h1 := Int.emod_nonneg n (show unitF b n * b ≠ 0 by omega)
  have h2 := Int.emod_lt_of_pos n (show 0 < unitF b n * b by omega)
  unfold parF
  rw [Int.mul_comm] at h0
  omega
theorem parF_dvd {b n : Int} : unitF b n * b ∣ parF b n := ⟨n / (unitF b n * b), by unfold parF; rw [Int.mul_comm]⟩
theorem parF_lt {b n : Int} (hb : 2 ≤ b) (hn : 1 ≤ n) : parF b n < n := by
  have h := (parF_le (n := n) hb).1
  have : parF b n ≠ n := fun e => (unitF_is hb hn).2.2 (by have := parF_dvd (b := b) (n := n); rw [e] at this; exact this)
  omega
theorem parF_nonneg {b n : Int} (hb : 2 ≤ b) (hn : 0 ≤ n) : 0 ≤ parF b n := by
  unfold parF
  have := ub_pos (b := b) (n := n) hb
  exact Int.mul_nonneg (Int.ediv_nonneg hn (by omega)) (by omega)
/-- n lies at least a unit above its parent -/
theorem parF_gap {b n : Int} (hb : 2 ≤ b) (hn : 1 ≤ n) : parF b n + unitF b n ≤ n := by
  have h1 : unitF b n ∣ n - parF b n := Int.dvd_sub unitF_dvd (Int.dvd_trans ⟨b, rfl⟩ parF_dvd)
  have h2 := parF_lt hb hn
  have := Int.le_of_dvd (by omega) h1
  omega
/-- the chain, by fuel -/
def chainN (b : Int) : Nat → Int → List Int
  | 0, n => [n]
  | k + 1, n => if n ≤ 0 then [n] else n :: chainN b k (parF b n)
def chainF (b n : Int) : List Int := chainN b n.toNat n
theorem chainN_fuel {b : Int} (hb : 2 ≤ b) : ∀ (k j : Nat) (n : Int), n.toNat ≤ k → n.toNat ≤ j → chainN b k n = chainN b j n
  | 0, 0, n, _, _ => rfl
  | 0, j + 1, n, h, _ => by
    unfold chainN
    rw [if_pos (by omega)]
  | k + 1, 0, n, _, h => by
    unfold chainN
    rw [if_pos (by omega)]
  | k + 1, j + 1, n, h1, h2 => by
    unfold chainN
    split
    · rfl
    · have := parF_lt (b := b) (n := n) hb (by omega)
      rw [chainN_fuel hb k j (parF b n) (by omega) (by omega)]
theorem chainF_zero (b : Int) : chainF b 0 = [0] := rfl
theorem chainF_pos {b n : Int} (hb : 2 ≤ b) (hn : 1 ≤ n) : chainF b n = n :: chainF b (parF b n) := by
  have hk : ∃ k, n.toNat = k + 1 := ⟨n.toNat - 1, by omega⟩
  obtain ⟨k, e⟩ := hk
  unfold chainF
  rw [e]
  show (if n ≤ 0 then [n] else n :: chainN b k (parF b n)) = _
  rw [if_neg (by omega)]
  have := parF_lt hb hn
  have := parF_nonneg (b := b) (n := n) hb (by omega)
  rw [chainN_fuel hb k (parF b n).toNat (parF b n) (by omega) (Nat.le_refl _)]
theorem chainF_len {b : Int} (hb : 2 ≤ b) : ∀ (d j k : Nat) (n : Int), k = j + d → 0 ≤ n → b ^ j ∣ n → n < b ^ k → (chainF b n).length ≤ d + 1
  | 0, j, k, n, e, h0, hd, hl => by
    have hz : n = 0 := by
      have e2 : k = j := by omega
      subst e2
      rcases Int.lt_or_le 0 n with q | q
      · have := Int.le_of_dvd q hd
        omega
      · omega
    subst hz
    simp [chainF_zero]
  | d + 1, j, k, n, e, h0, hd, hl => by
    by_cases hz : n = 0
    · subst hz
      simp [chainF_zero]
    · rw [chainF_pos hb (by omega), List.length_cons]
      obtain ⟨i, hi⟩ := unitF_pow (b := b) (n := n)
      have hji : b ^ j ≤ b ^ i := by
        rw [← hi]
        exact (dvd_iff hb (by omega) ⟨j, rfl⟩).mp hd
      have hij : j ≤ i := by
        rcases Nat.lt_or_ge i j with q | q
        · have := pow_lt hb q
          omega
        · exact q
      have hd2 : b ^ (j + 1) ∣ parF b n := by
        have h1 := parF_dvd (b := b) (n := n)
        rw [hi, ← Int.pow_succ] at h1
        exact Int.dvd_trans (pow_dvd hb ⟨_, rfl⟩ ⟨_, rfl⟩ (pow_mono hb (by omega))) h1
      have hp := parF_lt (b := b) (n := n) hb (by omega)
      have := chainF_len hb d (j + 1) k (parF b n) (by omega) (parF_nonneg hb h0) hd2 (by omega)
      omega
theorem chainF_small {b n : Int} (hb : 2 ≤ b) (h0 : 0 ≤ n) (h : n ≤ 10 ^ 61) : (chainF b n).length ≤ 211 := by
  refine chainF_len hb 210 0 210 n rfl h0 (by simp) ?_
  have h1 := two_le_pow hb 210
  have h2 : (10 : Int) ^ 61 < 2 ^ 210 := by decide
  omega
/-- membership in a chain is to lie in the block -/
theorem mem_chain {b : Int} (hb : 2 ≤ b) : ∀ (k : Nat) (n m : Int), n.toNat ≤ k → 0 ≤ n → 1 ≤ m → (m ∈ chainF b n ↔ m ≤ n ∧ n < m + unitF b m)
  | 0, n, m, hk, h0, hm => by
    have hz : n = 0 := by omega
    subst hz
    rw [chainF_zero]
    simp
    omega
  | k + 1, n, m, hk, h0, hm => by
    by_cases hz : n = 0
    · subst hz
      rw [chainF_zero]
      simp
      omega
    · rw [chainF_pos hb (by omega), List.mem_cons]
      have hp := parF_lt (b := b) (n := n) hb (by omega)
      have hp0 := parF_nonneg (b := b) (n := n) hb h0
      have ih := mem_chain hb k (parF b n) m (by omega) hp0 hm
      rw [ih]
      have hu := unitF_pos (b := b) (n := m) hb
      have hun := unitF_pos (b := b) (n := n) hb
      have hle := parF_le (b := b) (n := n) hb
      constructor
      · rintro (e | ⟨h1, h2⟩)
        · subst e
          omega
        · refine ⟨by omega, ?_⟩
          -- the block of m is a multiple of its unit; n lies below the next multiple of unit n * b
          rcases Int.lt_or_le n (m + unitF b m) with q | q
          · exact q
          · exfalso
            -- parent < m + um ≤ n, and um is a power: um ≤ un (else un * b ∣ um, and then parent's next multiple ...)
            rcases Int.lt_or_le (unitF b n) (unitF b m) with r | r
            · have hn := unitF_pow (b := b) (n := n)
              have hm' := unitF_pow (b := b) (n := m)
              have dv : unitF b n * b ∣ unitF b m := pow_dvd hb hn.mul hm' (hn.next hb hm' r)
              have dm : unitF b n * b ∣ m + unitF b m := Int.dvd_add (Int.dvd_trans dv unitF_dvd) dv
              have dd : unitF b n * b ∣ m + unitF b m - parF b n := Int.dvd_sub dm parF_dvd
              have := Int.le_of_dvd (by omega) dd
              omega
            · -- um ≤ un: parent is a multiple of un * b, so of um * b; m ≤ parent < m + um, m multiple of um: parent = m
              have hn := unitF_pow (b := b) (n := n)
              have hm' := unitF_pow (b := b) (n := m)
              have dp : unitF b m * b ∣ parF b n := Int.dvd_trans (Int.mul_dvd_mul (pow_dvd hb hm' hn r) (Int.dvd_refl b)) parF_dvd
              have dq : unitF b m ∣ parF b n - m := Int.dvd_sub (Int.dvd_trans ⟨b, rfl⟩ dp) unitF_dvd
              have e : parF b n = m := by
                rcases Int.lt_or_le 0 (parF b n - m) with z | z
                · have := Int.le_of_dvd z dq
                  omega
                · omega
              exact (unitF_is hb hm).2.2 (e ▸ dp)
      · rintro ⟨h1, h2⟩
        by_cases e : m = n
        · exact .inl e
        · refine .inr ⟨?_, by omega⟩
          -- m < n < m + um: um > un (else n - m would be a multiple of um)
          have hn := unitF_pow (b := b) (n := n)
          have hm' := unitF_pow (b := b) (n := m)
          rcases Int.lt_or_le (unitF b n) (unitF b m) with r | r
          · have dv : unitF b n * b ∣ m := Int.dvd_trans (pow_dvd hb hn.mul hm' (hn.next hb hm' r)) unitF_dvd
            have dd : unitF b n * b ∣ m - parF b n := Int.dvd_sub dv parF_dvd
            rcases Int.lt_or_le (parF b n) m with z | z
            · have := Int.le_of_dvd (by omega) dd
              omega
            · exact z
          · exfalso
            have dd : unitF b m ∣ n - m := Int.dvd_sub (Int.dvd_trans (pow_dvd hb hm' hn r) unitF_dvd) unitF_dvd
            have := Int.le_of_dvd (by omega) dd
            omega
theorem zero_mem_chain {b : Int} (hb : 2 ≤ b) : ∀ (k : Nat) (n : Int), n.toNat ≤ k → 0 ≤ n → (0 : Int) ∈ chainF b n
  | 0, n, hk, h0 => by
    have hz : n = 0 := by omega
    subst hz
    simp [chainF_zero]
  | k + 1, n, hk, h0 => by
    by_cases hz : n = 0
    · subst hz
      simp [chainF_zero]
    · rw [chainF_pos hb (by omega)]
      have hp := parF_lt (b := b) (n := n) hb (by omega)
      exact List.mem_cons_of_mem _ (zero_mem_chain hb k (parF b n) (by omega) (parF_nonneg hb h0))
theorem chain_nonneg {b : Int} (hb : 2 ≤ b) : ∀ (k : Nat) (n : Int), n.toNat ≤ k → 0 ≤ n → ∀ m ∈ chainF b n, 0 ≤ m ∧ m ≤ n
  | 0, n, hk, h0, m, h => by
    have hz : n = 0 := by omega
    subst hz
    simp [chainF_zero] at h
    omega
  | k + 1, n, hk, h0, m, h => by
    by_cases hz : n = 0
    · subst hz
      simp [chainF_zero] at h
      omega
    · rw [chainF_pos hb (by omega)] at h
      have hp := parF_lt (b := b) (n := n) hb (by omega)
      rcases List.mem_cons.mp h with e | e
      · omega
      · have := chain_nonneg hb k (parF b n) (by omega) (parF_nonneg hb h0) m e
        omega
/-- in_chain as the program asks it -/
def inCh (b n m : Int) : Bool := decide (m = 0) || (decide (m ≤ n) && decide (n < m + unitF b m))
theorem inCh_iff {b n m : Int} (hb : 2 ≤ b) (hn : 0 ≤ n) (hm : 0 ≤ m) : inCh b n m = true ↔ m ∈ chainF b n := by
  unfold inCh
  by_cases e : m = 0
  · subst e
    simp [zero_mem_chain hb n.toNat n (Nat.le_refl _) hn]
  · rw [mem_chain hb n.toNat n m (Nat.le_refl _) hn (by omega)]
    simp [e]
/-- two blocks are nested or disjoint -/
theorem blocks {b m n : Int} (hb : 2 ≤ b) (hm : 1 ≤ m) (hn : 1 ≤ n) (h1 : m < n + unitF b n) (h2 : n < m + unitF b m) : (m ≤ n ∧ n + unitF b n ≤ m + unitF b m) ∨ (n ≤ m ∧ m + unitF b m ≤ n + unitF b n) := by
  have key : ∀ m n : Int, 1 ≤ m → 1 ≤ n → m < n + unitF b n → n < m + unitF b m → unitF b m ≤ unitF b n → n ≤ m ∧ m + unitF b m ≤ n + unitF b n := by
    intro m n hm hn h1 h2 hu
    have dv : unitF b m ∣ unitF b n := pow_dvd hb unitF_pow unitF_pow hu
    have d1 : unitF b m ∣ n := Int.dvd_trans dv unitF_dvd
    have d2 : unitF b m ∣ n - m := Int.dvd_sub d1 unitF_dvd
    have d3 : unitF b m ∣ n + unitF b n - m := Int.dvd_sub (Int.dvd_add d1 dv) unitF_dvd
    constructor
    · rcases Int.lt_or_le 0 (n - m) with q | q
      · have := Int.le_of_dvd q d2
        omega
      · omega
    · have := Int.le_of_dvd (by omega) d3
      omega
  rcases Int.lt_or_le (unitF b n) (unitF b m) with q | q
  · exact .inl (key n m hn hm h2 h1 (by omega))
  · exact .inr (key m n hm hn h1 h2 q)
theorem k02_a {b x N : Int} (h : ¬ inCh b x N = (decide (N ≤ x) && decide (x < N + unitF b N))) (hN : 1 ≤ N) : False := by
  apply h
  unfold inCh
  rw [decide_eq_false (show ¬ N = 0 by omega)]
  rfl
theorem k02_b {b x N : Int} (h : ¬ decide (N ∈ chainF b x) = (decide (N ≤ x) && decide (x < N + unitF b N))) (hb : 2 ≤ b) (hx : 0 ≤ x) (hN : 1 ≤ N) : False := by
  apply h
  rw [Bool.eq_iff_iff]
  simp [mem_chain hb x.toNat x N (Nat.le_refl _) hx hN]
/-- kept, as the program asks it -/
def keptB (b f n t : Int) : Bool := decide (n ≤ t) && (decide (n = 0) || decide (t ≤ n + f * unitF b n))
/-- how a parent outlives its child -/
theorem life_step {b f n : Int} (hb : 2 ≤ b) (hf : 1 ≤ f) (hn : 1 ≤ n) (hp : 1 ≤ parF b n) : n + f * unitF b n ≤ parF b n + f * unitF b (parF b n) ∧ (2 ≤ f → n + f * unitF b n < parF b n + f * unitF b (parF b n)) := by
  have hu := unitF_pos (b := b) (n := n) hb
  have h1 := (dvd_iff hb hp (unitF_pow (b := b) (n := n)).mul).mp parF_dvd
  have hl := parF_le (b := b) (n := n) hb
  -- n - parent ≤ (b - 1) * unit
  have hgap : n - parF b n ≤ unitF b n * b - unitF b n := by
    have d1 : unitF b n ∣ parF b n + unitF b n * b - n := Int.dvd_sub (Int.dvd_add (Int.dvd_trans ⟨b, rfl⟩ parF_dvd) ⟨b, rfl⟩) unitF_dvd
    have := Int.le_of_dvd (by omega) d1
    omega
  have h2 : f * (unitF b n * b) ≤ f * unitF b (parF b n) := Int.mul_le_mul_of_nonneg_left h1 (by omega)
  have h3 : f * (unitF b n * b) = f * unitF b n * b := by rw [Int.mul_assoc]
  generalize unitF b n = u at *
  -- (f - 1) * (b - 1) * u ≥ 0
  have e : f * u * b - f * u - (u * b - u) = (f - 1) * ((b - 1) * u) := by
    rw [Int.sub_mul, Int.sub_mul, Int.mul_sub, Int.one_mul, Int.one_mul, Int.mul_assoc, Int.mul_comm u b]
  have h4 : 0 ≤ (b - 1) * u := Int.mul_nonneg (by omega) (by omega)
  have h5 : 0 ≤ (f - 1) * ((b - 1) * u) := Int.mul_nonneg (by omega) h4
  constructor
  · omega
  · intro hf2
    have h6 : 1 * u ≤ (b - 1) * u := Int.mul_le_mul_of_nonneg_right (by omega) (by omega)
    have h7 : 1 * ((b - 1) * u) ≤ (f - 1) * ((b - 1) * u) := Int.mul_le_mul_of_nonneg_right (by omega) h4
    omega
/-- the last time -/
def lastF (b f n : Int) : Int := n + f * unitF b n
theorem keptB_pos {b f n t : Int} (hn : 1 ≤ n) (ht : n ≤ t) : keptB b f n t = decide (t ≤ n + f * unitF b n) := by
  unfold keptB
  rw [decide_eq_true ht, decide_eq_false (show ¬ n = 0 by omega)]
  rfl
theorem keptB_zero {b f t : Int} (ht : 0 ≤ t) : keptB b f 0 t = true := by
  unfold keptB
  rw [decide_eq_true ht]
  rfl
theorem chain_kept {b f t : Int} (hb : 2 ≤ b) (hf : 1 ≤ f) : ∀ (k : Nat) (n : Int), n.toNat ≤ k → 0 ≤ n → keptB b f n t = true → ∀ m ∈ chainF b n, keptB b f m t = true
  | 0, n, hk, h0, h, m, hm => by
    have hz : n = 0 := by omega
    subst hz
    simp [chainF_zero] at hm
    rw [hm]
    exact h
  | k + 1, n, hk, h0, h, m, hm => by
    by_cases hz : n = 0
    · subst hz
      simp [chainF_zero] at hm
      rw [hm]
      exact h
    · rw [chainF_pos hb (by omega)] at hm
      have hp := parF_lt (b := b) (n := n) hb (by omega)
      have hp0 := parF_nonneg (b := b) (n := n) hb h0
      rcases List.mem_cons.mp hm with e | e
      · rw [e]
        exact h
      · refine chain_kept hb hf k (parF b n) (by omega) hp0 ?_ m e
        have hnt : n ≤ t := by
          unfold keptB at h
          rw [Bool.and_eq_true] at h
          exact of_decide_eq_true h.1
        by_cases hz2 : parF b n = 0
        · rw [hz2]
          exact keptB_zero (by omega)
        · rw [keptB_pos (by omega) (by omega)] at *
          have := (life_step hb hf (n := n) (by omega) (by omega)).1
          have h := of_decide_eq_true h
          exact decide_eq_true (by omega)
/-- the last times along a chain, without 0, ascend -/
theorem ends_up {b f : Int} (hb : 2 ≤ b) (hf : 1 ≤ f) : ∀ (k : Nat) (n : Int), n.toNat ≤ k → 1 ≤ n → ((chainF b n).dropLast.map (lastF b f)).Pairwise (· ≤ ·) ∧ (2 ≤ f → ((chainF b n).dropLast.map (lastF b f)).Pairwise (· < ·)) ∧ ∀ m ∈ (chainF b n).dropLast, lastF b f n ≤ lastF b f m
  | 0, n, hk, h0 => by omega
  | k + 1, n, hk, h0 => by
    rw [chainF_pos hb h0]
    have hp := parF_lt (b := b) (n := n) hb h0
    have hp0 := parF_nonneg (b := b) (n := n) hb (by omega)
    by_cases hz : parF b n = 0
    · rw [hz, chainF_zero]
      simp
    · have ih := ends_up hb hf k (parF b n) (by omega) (by omega)
      have hs := life_step hb hf (n := n) h0 (by omega)
      have hne : chainF b (parF b n) ≠ [] := by
        rw [chainF_pos hb (by omega)]
        simp
      have hd : (n :: chainF b (parF b n)).dropLast = n :: (chainF b (parF b n)).dropLast := by
        cases hc : chainF b (parF b n) with
        | nil => exact absurd hc hne
        | cons x r => rfl
      rw [hd, List.map_cons]
      have hle : ∀ m ∈ (chainF b (parF b n)).dropLast, lastF b f n ≤ lastF b f m := fun m hm => by
        have := ih.2.2 m hm
        unfold lastF at *
        omega
      refine ⟨?_, fun h2 => ?_, ?_⟩
      · rw [List.pairwise_cons]
        refine ⟨fun x hx => ?_, ih.1⟩
        obtain ⟨m, hm, rfl⟩ := List.mem_map.mp hx
        exact hle m hm
      · rw [List.pairwise_cons]
        refine ⟨fun x hx => ?_, ih.2.1 h2⟩
        obtain ⟨m, hm, rfl⟩ := List.mem_map.mp hx
        have := ih.2.2 m hm
        have := hs.2 h2
        unfold lastF at *
        omega
      · intro m hm
        rcases List.mem_cons.mp hm with e | e
        · rw [e]
          exact Int.le_refl _
        · exact hle m e
theorem drop_pos {b : Int} (hb : 2 ≤ b) : ∀ (k : Nat) (n : Int), n.toNat ≤ k → 0 ≤ n → ∀ m ∈ (chainF b n).dropLast, 1 ≤ m
  | 0, n, hk, h0, m, hm => by
    have hz : n = 0 := by omega
    subst hz
    simp [chainF_zero] at hm
  | k + 1, n, hk, h0, m, hm => by
    by_cases hz : n = 0
    · subst hz
      simp [chainF_zero] at hm
    · rw [chainF_pos hb (by omega)] at hm
      have hp := parF_lt (b := b) (n := n) hb (by omega)
      have hp0 := parF_nonneg (b := b) (n := n) hb h0
      have hne : chainF b (parF b n) ≠ [] := by
        by_cases hz2 : parF b n = 0
        · rw [hz2, chainF_zero]
          simp
        · rw [chainF_pos hb (by omega)]
          simp
      have hd : (n :: chainF b (parF b n)).dropLast = n :: (chainF b (parF b n)).dropLast := by
        cases hc : chainF b (parF b n) with
        | nil => exact absurd hc hne
        | cons x r => rfl
      rw [hd] at hm
      rcases List.mem_cons.mp hm with e | e
      · omega
      · exact drop_pos hb k (parF b n) (by omega) hp0 m e
end Ma

set_option Elab.async false
set_option linter.all false
set_option maxRecDepth 100000
/-! sizes, plain -/
namespace Ma
def sizeF (b n w : Int) : Int := if n = 0 then w else min w (n - parF b n)
/-- the digits' sizes, by fuel -/
def digN (b w : Int) : Nat → Int → Int → Int
  | 0, _, _ => 0
  | k + 1, n, p => if n ≤ 0 then 0 else min w (n % b * p) + digN b w k (n / b) (p * b)
def digF (b w n p : Int) : Int := digN b w n.toNat n p
theorem div_small {b n : Int} (hb : 2 ≤ b) (hn : 1 ≤ n) : 0 ≤ n / b ∧ n / b < n := by
  have h0 : 0 ≤ n / b := Int.ediv_nonneg (by omega) (by omega)
  have e := Int.mul_ediv_add_emod n b
  have h1 := Int.emod_nonneg n (show b ≠ 0 by omega)
  have h2 : 2 * (n / b) ≤ b * (n / b) := Int.mul_le_mul_of_nonneg_right hb h0
  omega
theorem digN_fuel {b w : Int} (hb : 2 ≤ b) : ∀ (k j : Nat) (n p : Int), n.toNat ≤ k → n.toNat ≤ j → digN b w k n p = digN b w j n p
  | 0, 0, n, p, _, _ => rfl
  | 0, j + 1, n, p, h, _ => by
    unfold digN
    rw [if_pos (by omega)]
  | k + 1, 0, n, p, _, h => by
    unfold digN
    rw [if_pos (by omega)]
  | k + 1, j + 1, n, p, h1, h2 => by
    unfold digN
    split
    · rfl
    · have := div_small (b := b) (n := n) hb (by omega)
      rw [digN_fuel hb k j (n / b) (p * b) (by omega) (by omega)]
theorem digF_zero {b w n p : Int} (h : n ≤ 0) : digF b w n p = 0 := by
  unfold digF
  have e : n.toNat = 0 := by omega
  rw [e]
  rfl
theorem digF_pos {b w n p : Int} (hb : 2 ≤ b) (hn : 1 ≤ n) : digF b w n p = min w (n % b * p) + digF b w (n / b) (p * b) := by
  obtain ⟨k, e⟩ : ∃ k, n.toNat = k + 1 := ⟨n.toNat - 1, by omega⟩
  have hd := div_small (b := b) (n := n) hb hn
  unfold digF
  rw [e]
  show (if n ≤ 0 then 0 else min w (n % b * p) + digN b w k (n / b) (p * b)) = _
  rw [if_neg (by omega), digN_fuel hb k (n / b).toNat (n / b) (p * b) (by omega) (Nat.le_refl _)]
theorem dig_turn {b w n x p tot : Int} (hb : 2 ≤ b) (hx : 1 ≤ x) (hn : 0 ≤ n) (h : 0 ≤ x ∧ x ≤ n ∧ 1 ≤ p ∧ (0 < x → p * x ≤ n) ∧ tot + digF b w x p = w + digF b w n 1) :
    0 ≤ x / b ∧ x / b ≤ n ∧ 1 ≤ p * b ∧ (0 < x / b → p * b * (x / b) ≤ n) ∧ tot + min w (x % b * p) + digF b w (x / b) (p * b) = w + digF b w n 1 := by
  obtain ⟨h1, h2, h3, h4, h5⟩ := h
  have hd := div_small (b := b) (n := x) hb hx
  have hpb : p * 1 ≤ p * b := Int.mul_le_mul_of_nonneg_left (by omega) (by omega)
  refine ⟨hd.1, by omega, by omega, fun _ => ?_, ?_⟩
  · have e := Int.mul_ediv_add_emod x b
    have h6 := Int.emod_nonneg x (show b ≠ 0 by omega)
    have h7 : p * (b * (x / b)) ≤ p * x := Int.mul_le_mul_of_nonneg_left (by omega) (by omega)
    rw [Int.mul_assoc]
    have := h4 (by omega)
    omega
  · rw [digF_pos hb hx] at h5
    omega
/-- units of multiples of the base -/
theorem unit_mul {b m : Int} (hb : 2 ≤ b) (hm : 1 ≤ m) : unitF b (b * m) = b * unitF b m := by
  have hbm : 1 * m ≤ b * m := Int.mul_le_mul_of_nonneg_right (by omega) (by omega)
  refine ((IsUnit.eq hb (by omega) ⟨?_, ?_, ?_⟩)).symm
  · rw [Int.mul_comm]
    exact unitF_pow.mul
  · exact Int.mul_dvd_mul (Int.dvd_refl b) unitF_dvd
  · intro q
    rw [Int.mul_assoc] at q
    exact (unitF_is hb hm).2.2 (Int.dvd_of_mul_dvd_mul_left (by omega) q)
theorem unit_one {b n : Int} (hb : 2 ≤ b) (hn : 1 ≤ n) (h : ¬ n % b = 0) : unitF b n = 1 := by
  refine ((IsUnit.eq hb hn ⟨IsPow.one b, Int.one_dvd n, ?_⟩)).symm
  rw [Int.one_mul]
  exact fun q => h (Int.emod_eq_zero_of_dvd q)
theorem par_mul {b m : Int} (hb : 2 ≤ b) (hm : 1 ≤ m) : parF b (b * m) = b * parF b m := by
  unfold parF
  rw [unit_mul hb hm, Int.mul_assoc b (unitF b m) b, Int.mul_ediv_mul_of_pos _ _ (by omega)]
  rw [Int.mul_comm b (unitF b m * b), ← Int.mul_assoc, Int.mul_comm]
/-- one digit less -/
theorem dig_par {b w : Int} (hb : 2 ≤ b) (hw : 0 ≤ w) : ∀ (k : Nat) (n p : Int), n.toNat ≤ k → 1 ≤ n → 1 ≤ p → digF b w n p = min w ((n - parF b n) * p) + digF b w (parF b n) p
  | 0, n, p, hk, hn, hp => by omega
  | k + 1, n, p, hk, hn, hp => by
    have e := Int.mul_ediv_add_emod n b
    have hm0 : min w 0 = 0 := by
      rw [Int.min_def]
      split <;> omega
    by_cases hz : n % b = 0
    · have hd := div_lt hb hn hz
      have en : n = b * (n / b) := by omega
      have ih := dig_par hb hw k (n / b) (p * b) (by omega) hd.1 (by have : p * 1 ≤ p * b := Int.mul_le_mul_of_nonneg_left (by omega) (by omega); omega)
      rw [digF_pos hb hn, hz, Int.zero_mul, ih]
      have ep : parF b n = b * parF b (n / b) := by
        have q := par_mul hb hd.1
        rw [← en] at q
        exact q
      have e1 : (n / b - parF b (n / b)) * (p * b) = (n - parF b n) * p := by
        rw [ep]
        have e3 : n - b * parF b (n / b) = b * (n / b - parF b (n / b)) := by rw [Int.mul_sub, ← en]
        rw [e3, Int.mul_comm p b, ← Int.mul_assoc, Int.mul_comm (n / b - parF b (n / b)) b]
      rw [e1, ep]
      have hp0 := parF_nonneg (b := b) (n := n / b) hb (by omega)
      by_cases hz2 : parF b (n / b) = 0
      · rw [hz2, Int.mul_zero, digF_zero (by omega), digF_zero (by omega)]
        omega
      · have hb1 : b * 1 ≤ b * parF b (n / b) := Int.mul_le_mul_of_nonneg_left (by omega) (by omega)
        rw [digF_pos (n := b * parF b (n / b)) hb (by omega), Int.mul_emod_right, Int.zero_mul, Int.mul_ediv_cancel_left _ (by omega)]
        omega
    · have eu := unit_one hb hn hz
      have ep : parF b n = b * (n / b) := by
        unfold parF
        rw [eu, Int.one_mul, Int.mul_comm]
      have hd := div_small (b := b) (n := n) hb hn
      rw [digF_pos hb hn, ep]
      have e1 : n - b * (n / b) = n % b := by omega
      rw [e1]
      congr 1
      by_cases hz2 : n / b = 0
      · rw [hz2, Int.mul_zero, digF_zero (by omega), digF_zero (by omega)]
      · have hb1 : b * 1 ≤ b * (n / b) := Int.mul_le_mul_of_nonneg_left (by omega) (by omega)
        rw [digF_pos (n := b * (n / b)) hb (by omega), Int.mul_emod_right, Int.zero_mul, Int.mul_ediv_cancel_left _ (by omega)]
        omega
theorem chain_sum' {b w : Int} (hb : 2 ≤ b) (hw : 0 ≤ w) : ∀ (k : Nat) (n : Int), n.toNat ≤ k → 0 ≤ n → ((chainF b n).map (fun m => sizeF b m w)).sum = w + digF b w n 1
  | 0, n, hk, h0 => by
    have hz : n = 0 := by omega
    subst hz
    rw [chainF_zero, digF_zero (by omega)]
    simp [sizeF]
  | k + 1, n, hk, h0 => by
    by_cases hz : n = 0
    · subst hz
      rw [chainF_zero, digF_zero (by omega)]
      simp [sizeF]
    · have hp := parF_lt (b := b) (n := n) hb (by omega)
      have hp0 := parF_nonneg (b := b) (n := n) hb h0
      rw [chainF_pos hb (by omega), List.map_cons, List.sum_cons, chain_sum' hb hw k (parF b n) (by omega) hp0, dig_par hb hw n.toNat n 1 (Nat.le_refl _) (by omega) (by omega)]
      unfold sizeF
      rw [if_neg hz, Int.mul_one]
      omega
theorem chain_sum {b w n : Int} (hb : 2 ≤ b) (hw : 1 ≤ w) (h0 : 0 ≤ n) : ((chainF b n).map (fun m => sizeF b m w)).sum = w + digF b w n 1 := chain_sum' hb (by omega) n.toNat n (Nat.le_refl _) h0
theorem chain_big {b w : Int} (hb : 2 ≤ b) : ∀ (k : Nat) (n : Int), n.toNat ≤ k → 0 ≤ n → n ≤ w → ((chainF b n).map (fun m => sizeF b m w)).sum = n + w
  | 0, n, hk, h0, hw => by
    have hz : n = 0 := by omega
    subst hz
    rw [chainF_zero]
    simp [sizeF]
  | k + 1, n, hk, h0, hw => by
    by_cases hz : n = 0
    · subst hz
      rw [chainF_zero]
      simp [sizeF]
    · have hp := parF_lt (b := b) (n := n) hb (by omega)
      have hp0 := parF_nonneg (b := b) (n := n) hb h0
      rw [chainF_pos hb (by omega), List.map_cons, List.sum_cons, chain_big hb k (parF b n) (by omega) hp0 (by omega)]
      unfold sizeF
      rw [if_neg hz, Int.min_def]
      split <;> omega
end Ma

namespace Ma
/-! ### the newest kept number up to a state -/
def newN (b f t : Int) : Nat → Int
  | 0 => 0
  | k + 1 => if keptB b f ((k : Int) + 1) t = true then (k : Int) + 1 else newN b f t k
def newF (b f s t : Int) : Int := newN b f t s.toNat
def IsNew (b f s t r : Int) : Prop := 0 ≤ r ∧ r ≤ s ∧ keptB b f r t = true ∧ ∀ n, r < n → n ≤ s → ¬ keptB b f n t = true
theorem newN_is {b f t : Int} (ht : 0 ≤ t) : ∀ k : Nat, IsNew b f k t (newN b f t k)
  | 0 => ⟨Int.le_refl _, Int.le_refl _, keptB_zero ht, fun n h1 h2 => by
    have : newN b f t 0 = 0 := rfl
    rw [this] at h1
    exfalso
    simp at h2
    omega⟩
  | k + 1 => by
    unfold newN
    by_cases h : keptB b f ((k : Int) + 1) t = true
    · rw [if_pos h]
      exact ⟨by omega, by simp, h, fun n h1 h2 => by exfalso; simp at h2; omega⟩
    · rw [if_neg h]
      obtain ⟨h1, h2, h3, h4⟩ := newN_is (b := b) (f := f) ht k
      refine ⟨h1, by simp; omega, h3, fun n q1 q2 => ?_⟩
      simp at q2
      by_cases e : n = (k : Int) + 1
      · rw [e]
        exact h
      · exact h4 n q1 (by omega)
theorem newF_is {b f s t : Int} (hs : 0 ≤ s) (ht : 0 ≤ t) : IsNew b f s t (newF b f s t) := by
  have h := newN_is (b := b) (f := f) ht s.toNat
  have e : ((s.toNat : Nat) : Int) = s := by omega
  rw [e] at h
  exact h
theorem IsNew.uniq {b f s t r q : Int} (h : IsNew b f s t r) (k : IsNew b f s t q) : r = q := by
  obtain ⟨a1, a2, a3, a4⟩ := h
  obtain ⟨b1, b2, b3, b4⟩ := k
  rcases Int.lt_trichotomy r q with h | h | h
  · exact absurd b3 (a4 q h b2)
  · exact h
  · exact absurd a3 (b4 r h a2)
theorem IsNew.eq {b f s t r : Int} (ht : 0 ≤ t) (h : IsNew b f s t r) : r = newF b f s t :=
  h.uniq (newF_is (by have := h.1; have := h.2.1; omega) ht)
theorem keptB_chain {b f n t : Int} (hn : 1 ≤ n) : (decide (0 < n) && (decide (n ≤ t) && decide (t ≤ n + f * unitF b n))) = keptB b f n t := by
  unfold keptB
  rw [decide_eq_true (show 0 < n by omega), decide_eq_false (show ¬ n = 0 by omega)]
  simp
/-! the walk through the powers -/
def downF (s u : Int) : Int := s / u * u
theorem down_le {s u : Int} (hu : 1 ≤ u) : downF s u ≤ s ∧ s < downF s u + u := by
  unfold downF
  have h1 := Int.mul_ediv_add_emod s u
  have h2 := Int.emod_nonneg s (show u ≠ 0 by omega)
  have h3 := Int.emod_lt_of_pos s (show 0 < u by omega)
  rw [Int.mul_comm] at h1
  omega
theorem down_nonneg {s u : Int} (hs : 0 ≤ s) (hu : 1 ≤ u) : 0 ≤ downF s u :=
  Int.mul_nonneg (Int.ediv_nonneg hs (by omega)) (by omega)
theorem down_dvd {s u : Int} : u ∣ downF s u := ⟨s / u, by unfold downF; rw [Int.mul_comm]⟩
theorem down_max {s u n : Int} (hu : 1 ≤ u) (hd : u ∣ n) (hn : n ≤ s) : n ≤ downF s u := by
  obtain ⟨c, rfl⟩ := hd
  unfold downF
  rw [Int.mul_comm u c] at hn ⊢
  exact Int.mul_le_mul_of_nonneg_right ((Int.le_ediv_iff_mul_le (by omega)).mpr hn) (by omega)
/-- what the loop over the first i powers has found -/
def NewI (b f s t : Int) (i : Nat) (r : Int) : Prop := 0 ≤ r ∧ r ≤ s ∧ keptB b f r t = true ∧ ∀ j : Nat, j < i → t - downF s (b ^ j) ≤ f * b ^ j → downF s (b ^ j) ≤ r
theorem NewI.zero {b f s t : Int} (hs : 0 ≤ s) (ht : 0 ≤ t) : NewI b f s t 0 0 := ⟨by omega, hs, keptB_zero ht, fun j h => absurd h (by omega)⟩
theorem down_kept {b f s t : Int} {j : Nat} (hb : 2 ≤ b) (hf : 1 ≤ f) (hs : 0 ≤ s) (hst : s ≤ t) (h : t - downF s (b ^ j) ≤ f * b ^ j) : keptB b f (downF s (b ^ j)) t = true := by
  have hu := pow_pos hb j
  have h1 := down_nonneg hs hu
  have h2 := down_le (s := s) hu
  by_cases e : downF s (b ^ j) = 0
  · rw [e]
    exact keptB_zero (by omega)
  · rw [keptB_pos (by omega) (by omega)]
    refine decide_eq_true ?_
    have h3 := (dvd_iff hb (n := downF s (b ^ j)) (by omega) ⟨j, rfl⟩).mp down_dvd
    have h4 : f * b ^ j ≤ f * unitF b (downF s (b ^ j)) := Int.mul_le_mul_of_nonneg_left h3 (by omega)
    omega
theorem NewI.yes {b f s t r : Int} {i : Nat} (hb : 2 ≤ b) (hf : 1 ≤ f) (hs : 0 ≤ s) (hst : s ≤ t) (hI : NewI b f s t i r) (h : t - downF s (b ^ i) ≤ f * b ^ i) : NewI b f s t (i + 1) (max r (downF s (b ^ i))) := by
  obtain ⟨h1, h2, h3, h4⟩ := hI
  have q1 := down_le (s := s) (pow_pos hb i)
  have q2 := down_nonneg hs (pow_pos hb i)
  have q3 := down_kept hb hf hs hst h
  refine ⟨by omega, by omega, ?_, fun j hj hk => ?_⟩
  · rcases Int.le_total r (downF s (b ^ i)) with z | z
    · rw [Int.max_eq_right z]
      exact q3
    · rw [Int.max_eq_left z]
      exact h3
  · by_cases e : j = i
    · subst e
      exact Int.le_max_right _ _
    · have := h4 j (by omega) hk
      omega
theorem NewI.no {b f s t r : Int} {i : Nat} (hI : NewI b f s t i r) (h : ¬ t - downF s (b ^ i) ≤ f * b ^ i) : NewI b f s t (i + 1) r := by
  obtain ⟨h1, h2, h3, h4⟩ := hI
  refine ⟨h1, h2, h3, fun j hj hk => ?_⟩
  by_cases e : j = i
  · subst e
    exact absurd hk h
  · exact h4 j (by omega) hk
theorem NewI.done {b f s t r : Int} {k : Nat} (hb : 2 ≤ b) (hf : 1 ≤ f) (hst : s ≤ t) (hk : s < b ^ (k + 1)) (hI : NewI b f s t (k + 1) r) : r = newF b f s t := by
  obtain ⟨h1, h2, h3, h4⟩ := hI
  refine IsNew.eq (by omega) ⟨h1, h2, h3, fun n q1 q2 q3 => ?_⟩
  obtain ⟨j, hj⟩ := unitF_pow (b := b) (n := n)
  have hle := unitF_le (b := b) (n := n) (by omega)
  rw [keptB_pos (by omega) (by omega)] at q3
  have q3 := of_decide_eq_true q3
  have hd := down_max (s := s) (unitF_pos (b := b) (n := n) hb) unitF_dvd q2
  rw [hj] at hd q3 hle
  have hlt : j < k + 1 := pow_lt_iff hb (by omega)
  have := h4 j hlt (by omega)
  omega
/-! the greatest of a list of the kept numbers -/
theorem max_new {b f s t m : Int} {ns : List Int} (h1 : m ∈ ns) (h2 : ∀ k ∈ ns, k ≤ m) (h0 : 0 ≤ m) (ht : 0 ≤ t) (hin : ∀ n, 0 ≤ n → n ≤ s → keptB b f n t = true → n ∈ ns) (hm : m ≤ s) (hk : keptB b f m t = true) : m = newF b f s t :=
  IsNew.eq ht ⟨h0, hm, hk, fun n q1 q2 q3 => by have := h2 n (hin n (by omega) q2 q3); omega⟩
theorem mem_rng {lo n : Int} {k : Nat} : n ∈ Kr.rngI lo k ↔ lo ≤ n ∧ n < lo + k := by
  unfold Kr.rngI
  simp only [List.mem_map, List.mem_range]
  constructor
  · rintro ⟨i, hi, rfl⟩
    omega
  · intro h
    exact ⟨(n - lo).toNat, by omega, by omega⟩
theorem mem_kept {b f t s m : Int} {n : Nat} : m ∈ ((Kr.rngI 0 n).filter (fun m => keptB b f m t)).filter (fun m => decide (m ≤ s)) ↔ (0 ≤ m ∧ m < n) ∧ keptB b f m t = true ∧ m ≤ s := by
  rw [List.mem_filter, List.mem_filter, mem_rng]
  simp only [decide_eq_true_eq, Int.zero_add, and_assoc]
theorem kept_some {b f t s : Int} {n : Nat} (h1 : 0 < n) (h2 : 0 ≤ s) (ht : 0 ≤ t) : 0 < (((Kr.rngI 0 n).filter (fun m => keptB b f m t)).filter (fun m => decide (m ≤ s))).length :=
  List.length_pos_of_mem (a := 0) (mem_kept.mpr ⟨by omega, keptB_zero ht, h2⟩)
theorem kept_len {b f t : Int} {n : Nat} : ((Kr.rngI 0 n).filter (fun m => keptB b f m t)).length ≤ n := by
  have := List.length_filter_le (fun m => keptB b f m t) (Kr.rngI 0 n)
  rw [Kr.rngI_len] at this
  exact this
theorem kept_max {b f t s m : Int} {n : Nat} (h2 : 0 ≤ s) (ht : 0 ≤ t) (hn : s < n) (hm : m ∈ ((Kr.rngI 0 n).filter (fun m => keptB b f m t)).filter (fun m => decide (m ≤ s))) (hM : ∀ k ∈ ((Kr.rngI 0 n).filter (fun m => keptB b f m t)).filter (fun m => decide (m ≤ s)), k ≤ m) : m = newF b f s t := by
  have h := mem_kept.mp hm
  exact max_new hm hM h.1.1 ht (fun k h0 h1 h3 => mem_kept.mpr ⟨by omega, h3, h1⟩) h.2.2 h.2.1
end Ma

set_option Elab.async false
set_option linter.all false
set_option maxRecDepth 100000
set_option maxHeartbeats 4000000
namespace Sn
open PySem L2 Kr
structure Cs where
  sc : Addr
  ch : Addr
  ar : Addr
  st : Addr
  vw : Addr
  xs : Addr
  xn : Addr
  xt : Addr
  xa : Addr
  xb : Addr
  xl : Addr
  xe : Addr
  k0 : Addr
  t0 : Addr
instance : Coe Cs Addr := ⟨Cs.sc⟩
def topS (i : Nat) : Stmt := PySem.Challenge.pw_snapdigits_k05_invalid_schemes_numbers_a.main.body.getD i (.Pass ⟨0, 0, 0, 0⟩)
abbrev s__law_source_of : Stmt := topS 18
abbrev s__law_next : Stmt := topS 19
abbrev s__law_one : Stmt := topS 20
abbrev s_is_integer : Stmt := topS 9
abbrev s_is_between : Stmt := topS 10
abbrev s_InvalidScheme_init : Stmt := inClass (topS 2) 0
abbrev s_Scheme_init : Stmt := inClass (topS 16) 0
abbrev s__law_cell_at : Stmt := topS 21
abbrev s_InvalidNumber_init : Stmt := inClass (topS 3) 0
abbrev s_InvalidTime_init : Stmt := inClass (topS 4) 0
abbrev s_InvalidArchive_init : Stmt := inClass (topS 5) 0
abbrev s_InvalidBound_init : Stmt := inClass (topS 6) 0
abbrev s_LimitExceeded_init : Stmt := inClass (topS 7) 0
abbrev s__law_classes : Stmt := topS 22
abbrev s__law_made_by_hand : Stmt := topS 23
abbrev s__law_raised : Stmt := topS 24
abbrev s_check_number : Stmt := topS 11
abbrev s_Scheme_level : Stmt := inClass (topS 16) 5
abbrev s_Scheme_unit : Stmt := inClass (topS 16) 4
abbrev s_Scheme_parent_of : Stmt := inClass (topS 16) 7
abbrev s_Scheme_parent : Stmt := inClass (topS 16) 6
abbrev s_Scheme_chain : Stmt := inClass (topS 16) 8
abbrev s_Scheme_block : Stmt := inClass (topS 16) 9
abbrev s_Scheme_last_time : Stmt := inClass (topS 16) 11
abbrev s_check_time : Stmt := topS 12
abbrev s_Scheme_is_kept : Stmt := inClass (topS 16) 12
abbrev s_Scheme_has_in_chain : Stmt := inClass (topS 16) 10
abbrev s_Scheme_eq : Stmt := inClass (topS 16) 1
abbrev s_law : Stmt := topS 25
structure Top (K : PySem.W.Frag) (mg : Str → Option Value) (CS : Cs) : Prop where
  b_ArithmeticError : mg "ArithmeticError" = none
  b_all : mg "all" = none
  b_bool : mg "bool" = none
  b_enumerate : mg "enumerate" = none
  b_int : mg "int" = none
  b_isinstance : mg "isinstance" = none
  b_len : mg "len" = none
  b_range : mg "range" = none
  b_repr : mg "repr" = none
  c_MOST_BASE : ∃ t, mg "MOST_BASE" = some (.int 1000 t)
  c_MOST_FACTOR : ∃ t, mg "MOST_FACTOR" = some (.int 1000000 t)
  cl_Scheme : Cls K CS
  n_Scheme_radix : NoAttr K CS "radix"
  n_Scheme_multiple : NoAttr K CS "multiple"
  ne_Scheme : NeC K CS
  ko_Scheme : AskC K CS
  m_Scheme : mg "Scheme" = some (.ref CS)
  is_Scheme : C8.InsC K CS
  xf_InvalidScheme : XfC K CS.xs
  xo_InvalidScheme : PySem.W.findIn K (.ref CS.xs) "part" = some none
  xs_InvalidScheme : PySem.W.exmOne K (.ref CS.xs) (.ref CS.xs) = some true
  xf_InvalidNumber : XfC K CS.xn
  xo_InvalidNumber : PySem.W.findIn K (.ref CS.xn) "number" = some none
  xs_InvalidNumber : PySem.W.exmOne K (.ref CS.xn) (.ref CS.xn) = some true
  xf_InvalidTime : XfC K CS.xt
  xo_InvalidTime : PySem.W.findIn K (.ref CS.xt) "time" = some none
  xs_InvalidTime : PySem.W.exmOne K (.ref CS.xt) (.ref CS.xt) = some true
  xf_InvalidArchive : XfC K CS.xa
  xo_InvalidArchive : PySem.W.findIn K (.ref CS.xa) "part" = some none
  xo2_InvalidArchive : PySem.W.findIn K (.ref CS.xa) "at" = some none
  xs_InvalidArchive : PySem.W.exmOne K (.ref CS.xa) (.ref CS.xa) = some true
  xf_InvalidBound : XfC K CS.xb
  xo_InvalidBound : PySem.W.findIn K (.ref CS.xb) "part" = some none
  xs_InvalidBound : PySem.W.exmOne K (.ref CS.xb) (.ref CS.xb) = some true
  xf_LimitExceeded : XfC K CS.xl
  xo_LimitExceeded : PySem.W.findIn K (.ref CS.xl) "limit" = some none
  xs_LimitExceeded : PySem.W.exmOne K (.ref CS.xl) (.ref CS.xl) = some true
  xb_SnapError : ∃ S, mg "SnapError" = some (.ref S) ∧ ClX.CRead K S (.type "type") ∧ PySem.W.findCls K (.ref S) (.type "type") "__init__" = some (.val (.builtin "ArithmeticError.__init__"))
  m_InvalidScheme : mg "InvalidScheme" = some (.ref CS.xs)
  m_InvalidNumber : mg "InvalidNumber" = some (.ref CS.xn)
  m_InvalidTime : mg "InvalidTime" = some (.ref CS.xt)
  m_InvalidArchive : mg "InvalidArchive" = some (.ref CS.xa)
  m_InvalidBound : mg "InvalidBound" = some (.ref CS.xb)
  m_LimitExceeded : mg "LimitExceeded" = some (.ref CS.xl)
  m_SnapError : mg "SnapError" = some (.ref CS.xe)
  ec_InvalidScheme : L2.ExcC K CS.xs
  ki_InvalidScheme_InvalidScheme : PySem.W.kitOne K (.ref CS.xs) (.ref CS.xs) = some true
  ki_InvalidScheme_InvalidNumber : PySem.W.kitOne K (.ref CS.xs) (.ref CS.xn) = some false
  ki_InvalidScheme_InvalidTime : PySem.W.kitOne K (.ref CS.xs) (.ref CS.xt) = some false
  ki_InvalidScheme_InvalidArchive : PySem.W.kitOne K (.ref CS.xs) (.ref CS.xa) = some false
  ki_InvalidScheme_InvalidBound : PySem.W.kitOne K (.ref CS.xs) (.ref CS.xb) = some false
  ki_InvalidScheme_LimitExceeded : PySem.W.kitOne K (.ref CS.xs) (.ref CS.xl) = some false
  ki_InvalidScheme_ArithmeticError : PySem.W.kitOne K (.ref CS.xs) (.type "ArithmeticError") = some true
  ki_InvalidScheme_SnapError : PySem.W.kitOne K (.ref CS.xs) (.ref CS.xe) = some true
  xm_InvalidScheme_SnapError : PySem.W.exmOne K (.ref CS.xs) (.ref CS.xe) = some true
  ec_InvalidNumber : L2.ExcC K CS.xn
  ki_InvalidNumber_InvalidScheme : PySem.W.kitOne K (.ref CS.xn) (.ref CS.xs) = some false
  ki_InvalidNumber_InvalidNumber : PySem.W.kitOne K (.ref CS.xn) (.ref CS.xn) = some true
  ki_InvalidNumber_InvalidTime : PySem.W.kitOne K (.ref CS.xn) (.ref CS.xt) = some false
  ki_InvalidNumber_InvalidArchive : PySem.W.kitOne K (.ref CS.xn) (.ref CS.xa) = some false
  ki_InvalidNumber_InvalidBound : PySem.W.kitOne K (.ref CS.xn) (.ref CS.xb) = some false
  ki_InvalidNumber_LimitExceeded : PySem.W.kitOne K (.ref CS.xn) (.ref CS.xl) = some false
  ki_InvalidNumber_ArithmeticError : PySem.W.kitOne K (.ref CS.xn) (.type "ArithmeticError") = some true
  ki_InvalidNumber_SnapError : PySem.W.kitOne K (.ref CS.xn) (.ref CS.xe) = some true
  xm_InvalidNumber_SnapError : PySem.W.exmOne K (.ref CS.xn) (.ref CS.xe) = some true
  ec_InvalidTime : L2.ExcC K CS.xt
  ki_InvalidTime_InvalidScheme : PySem.W.kitOne K (.ref CS.xt) (.ref CS.xs) = some false
  ki_InvalidTime_InvalidNumber : PySem.W.kitOne K (.ref CS.xt) (.ref CS.xn) = some false
  ki_InvalidTime_InvalidTime : PySem.W.kitOne K (.ref CS.xt) (.ref CS.xt) = some true
  ki_InvalidTime_InvalidArchive : PySem.W.kitOne K (.ref CS.xt) (.ref CS.xa) = some false
  ki_InvalidTime_InvalidBound : PySem.W.kitOne K (.ref CS.xt) (.ref CS.xb) = some false
  ki_InvalidTime_LimitExceeded : PySem.W.kitOne K (.ref CS.xt) (.ref CS.xl) = some false
  ki_InvalidTime_ArithmeticError : PySem.W.kitOne K (.ref CS.xt) (.type "ArithmeticError") = some true
  ki_InvalidTime_SnapError : PySem.W.kitOne K (.ref CS.xt) (.ref CS.xe) = some true
  xm_InvalidTime_SnapError : PySem.W.exmOne K (.ref CS.xt) (.ref CS.xe) = some true
  ec_InvalidArchive : L2.ExcC K CS.xa
  ki_InvalidArchive_InvalidScheme : PySem.W.kitOne K (.ref CS.xa) (.ref CS.xs) = some false
  ki_InvalidArchive_InvalidNumber : PySem.W.kitOne K (.ref CS.xa) (.ref CS.xn) = some false
  ki_InvalidArchive_InvalidTime : PySem.W.kitOne K (.ref CS.xa) (.ref CS.xt) = some false
  ki_InvalidArchive_InvalidArchive : PySem.W.kitOne K (.ref CS.xa) (.ref CS.xa) = some true
  ki_InvalidArchive_InvalidBound : PySem.W.kitOne K (.ref CS.xa) (.ref CS.xb) = some false
  ki_InvalidArchive_LimitExceeded : PySem.W.kitOne K (.ref CS.xa) (.ref CS.xl) = some false
  ki_InvalidArchive_ArithmeticError : PySem.W.kitOne K (.ref CS.xa) (.type "ArithmeticError") = some true
  ki_InvalidArchive_SnapError : PySem.W.kitOne K (.ref CS.xa) (.ref CS.xe) = some true
  xm_InvalidArchive_SnapError : PySem.W.exmOne K (.ref CS.xa) (.ref CS.xe) = some true
  ec_InvalidBound : L2.ExcC K CS.xb
  ki_InvalidBound_InvalidScheme : PySem.W.kitOne K (.ref CS.xb) (.ref CS.xs) = some false
  ki_InvalidBound_InvalidNumber : PySem.W.kitOne K (.ref CS.xb) (.ref CS.xn) = some false
  ki_InvalidBound_InvalidTime : PySem.W.kitOne K (.ref CS.xb) (.ref CS.xt) = some false
  ki_InvalidBound_InvalidArchive : PySem.W.kitOne K (.ref CS.xb) (.ref CS.xa) = some false
  ki_InvalidBound_InvalidBound : PySem.W.kitOne K (.ref CS.xb) (.ref CS.xb) = some true
  ki_InvalidBound_LimitExceeded : PySem.W.kitOne K (.ref CS.xb) (.ref CS.xl) = some false
  ki_InvalidBound_ArithmeticError : PySem.W.kitOne K (.ref CS.xb) (.type "ArithmeticError") = some true
  ki_InvalidBound_SnapError : PySem.W.kitOne K (.ref CS.xb) (.ref CS.xe) = some true
  xm_InvalidBound_SnapError : PySem.W.exmOne K (.ref CS.xb) (.ref CS.xe) = some true
  ec_LimitExceeded : L2.ExcC K CS.xl
  ki_LimitExceeded_InvalidScheme : PySem.W.kitOne K (.ref CS.xl) (.ref CS.xs) = some false
  ki_LimitExceeded_InvalidNumber : PySem.W.kitOne K (.ref CS.xl) (.ref CS.xn) = some false
  ki_LimitExceeded_InvalidTime : PySem.W.kitOne K (.ref CS.xl) (.ref CS.xt) = some false
  ki_LimitExceeded_InvalidArchive : PySem.W.kitOne K (.ref CS.xl) (.ref CS.xa) = some false
  ki_LimitExceeded_InvalidBound : PySem.W.kitOne K (.ref CS.xl) (.ref CS.xb) = some false
  ki_LimitExceeded_LimitExceeded : PySem.W.kitOne K (.ref CS.xl) (.ref CS.xl) = some true
  ki_LimitExceeded_ArithmeticError : PySem.W.kitOne K (.ref CS.xl) (.type "ArithmeticError") = some true
  ki_LimitExceeded_SnapError : PySem.W.kitOne K (.ref CS.xl) (.ref CS.xe) = some true
  xm_LimitExceeded_SnapError : PySem.W.exmOne K (.ref CS.xl) (.ref CS.xe) = some true
  f__law_source_of : TopFn K mg "_law_source_of" s__law_source_of
  f__law_next : TopFn K mg "_law_next" s__law_next
  f__law_one : TopFn K mg "_law_one" s__law_one
  f_is_integer : TopFn K mg "is_integer" s_is_integer
  f_is_between : TopFn K mg "is_between" s_is_between
  f_InvalidScheme_init : ExcFn K mg "InvalidScheme" CS.xs "InvalidScheme.__init__" s_InvalidScheme_init
  f_Scheme_init : InitFn K mg "Scheme" CS "Scheme.__init__" s_Scheme_init
  f__law_cell_at : TopFn K mg "_law_cell_at" s__law_cell_at
  f_InvalidNumber_init : ExcFn K mg "InvalidNumber" CS.xn "InvalidNumber.__init__" s_InvalidNumber_init
  f_InvalidTime_init : ExcFn K mg "InvalidTime" CS.xt "InvalidTime.__init__" s_InvalidTime_init
  f_InvalidArchive_init : ExcFn K mg "InvalidArchive" CS.xa "InvalidArchive.__init__" s_InvalidArchive_init
  f_InvalidBound_init : ExcFn K mg "InvalidBound" CS.xb "InvalidBound.__init__" s_InvalidBound_init
  f_LimitExceeded_init : ExcFn K mg "LimitExceeded" CS.xl "LimitExceeded.__init__" s_LimitExceeded_init
  f__law_classes : TopFn K mg "_law_classes" s__law_classes
  f__law_made_by_hand : TopFn K mg "_law_made_by_hand" s__law_made_by_hand
  f__law_raised : TopFn K mg "_law_raised" s__law_raised
  f_check_number : TopFn K mg "check_number" s_check_number
  f_Scheme_level : MethFn K CS "level" "Scheme.level" s_Scheme_level
  f_Scheme_unit : MethFn K CS "unit" "Scheme.unit" s_Scheme_unit
  f_Scheme_parent_of : MethFn K CS "parent_of" "Scheme.parent_of" s_Scheme_parent_of
  f_Scheme_parent : MethFn K CS "parent" "Scheme.parent" s_Scheme_parent
  f_Scheme_chain : MethFn K CS "chain" "Scheme.chain" s_Scheme_chain
  f_Scheme_block : MethFn K CS "block" "Scheme.block" s_Scheme_block
  f_Scheme_last_time : MethFn K CS "last_time" "Scheme.last_time" s_Scheme_last_time
  f_check_time : TopFn K mg "check_time" s_check_time
  f_Scheme_is_kept : MethFn K CS "is_kept" "Scheme.is_kept" s_Scheme_is_kept
  f_Scheme_has_in_chain : MethFn K CS "has_in_chain" "Scheme.has_in_chain" s_Scheme_has_in_chain
  f_Scheme_eq : MethFn K CS "__eq__" "Scheme.__eq__" s_Scheme_eq
  f_law : TopFnT K mg "law" s_law CS.k0
structure Tb (base : Heap) (mg : Str → Option Value) (CS : Cs) : Prop where
  t0 : LamX.TabB base mg CS.k0 CS.t0

/-! ### sizes -/
theorem log2_big {x : Int} (h1 : -(10 ^ 200) ≤ x) (h2 : x ≤ 10 ^ 200) : x.natAbs < 2 ^ 700 := by
  have h : (10 ^ 200 : Nat) < 2 ^ 700 := by decide +kernel
  have e : ((10 ^ 200 : Nat) : Int) = 10 ^ 200 := by norm_cast
  exact Nat.lt_of_le_of_lt (by omega) h
theorem mulOk {i j : Int} (h1 : -(10 ^ 200) ≤ i ∧ i ≤ 10 ^ 200) (h2 : -(10 ^ 200) ≤ j ∧ j ≤ 10 ^ 200) : CMulW i j :=
  wide_mul (log2_big h1.1 h1.2) (log2_big h2.1 h2.2) (by decide) (by decide) (by decide)
theorem mulOk1 {i j : Int} (h1 : i.natAbs < 2 ^ 500000) (h2 : -(10 ^ 200) ≤ j ∧ j ≤ 10 ^ 200) : CMulW i j :=
  wide_mul h1 (log2_big h2.1 h2.2) (by decide) (by decide) (by decide)
theorem divOk {i j : Int} (h : 0 < j ∧ j ≤ 10 ^ 200) : CDivW i j := wide_div h.1 (log2_big (by omega) h.2) (by decide) (by decide)
theorem powOk {i j : Int} (h : 0 ≤ j ∧ j ≤ 1000 ∧ 0 ≤ i ∧ i < 2 ^ 63) : CPow i j := ⟨h.1, by omega, by omega⟩

/-! ### a scheme's attributes -/
def scF (b f : Int) : List (Str × V) := putF "multiple" (.int f) (putF "radix" (.int b) [])
theorem scF_ne : ¬ (("radix" : Str) = "multiple") := by decide +kernel
theorem scF_radix (b f : Int) : (scF b f).lookup ("radix" : Str) = some (.int b) := by
  unfold scF
  rw [lookup_putF, if_neg scF_ne, lookup_putF, if_pos rfl]
theorem scF_multiple (b f : Int) : (scF b f).lookup ("multiple" : Str) = some (.int f) := by
  unfold scF
  rw [lookup_putF, if_pos rfl]
theorem scF_no (b f : Int) {m : Str} (h1 : ¬ m = "multiple") (h2 : ¬ m = "radix") : (scF b f).lookup m = none := by
  unfold scF
  rw [lookup_putF, if_neg h1, lookup_putF, if_neg h2]
  all_goals rfl
def SchOk (b f : Int) : Prop := 2 ≤ b ∧ b ≤ 1000 ∧ 1 ≤ f ∧ f ≤ 1000000

section
variable {K : PySem.W.Frag} {g : Gr} {L : Led} {C : V → Led → Prop} {σ : St}
theorem wc_isi_int {n : Int} (c : C (.bl true) L) : Wp g L (rIsi K [.int n, .ty "int"]) C :=
  .now (fun H _ _ q => ⟨.int n, .ty "int", _, _, true, rfl, .ty _, .base (.int n), kit_ty (by decide +kernel), q⟩) c
theorem wc_isi_bool {n : Int} (c : C (.bl false) L) : Wp g L (rIsi K [.int n, .ty "bool"]) C :=
  .now (fun H _ _ q => ⟨.int n, .ty "bool", _, _, false, rfl, .ty _, .base (.int n), kit_ty (by decide +kernel), q⟩) c
end
theorem op_in_seqK {X : Cx} {Kf : PySem.W.Frag} (hK : X.K = Kf) : OpR X (compareOp .In) (rIn Kf false) := hK ▸ op_in_seq
theorem op_notIn_seqK {X : Cx} {Kf : PySem.W.Frag} (hK : X.K = Kf) : OpR X (compareOp .NotIn) (rIn Kf true) := hK ▸ op_notIn_seq
def sp_Scheme_init (CS : Cs) : Sp := fun vs H Q _ => ∃ (p dx : Addr) (b f : Int), vs = [.ref p, .int b, .int f] ∧ H p = some (.ins CS dx []) ∧ SchOk b f ∧
  ∀ H' : Hp, H' p = some (.ins CS dx (scF b f)) → (∀ q o, H q = some o → q ≠ p → H' q = some o) → Q .non H'
theorem wm_Scheme {CS : Cs} {g : Gr} {L : Led} {C : V → Led → Prop} {σ : St} {E : XK} {tr : TA}
    (h : Wp g L (tr σ) fun vs L1 => ∃ b f : Int, vs = [.int b, .int f] ∧ SchOk b f ∧ ∀ p dx, C (.ref p) (L1 ++ [(p, .ob (.ins CS dx (scF b f)), true)])) : Wp g L (tMake CS (sp_Scheme_init CS) [] E tr σ) C :=
  fun H z Q q => h H z _ fun vs L1 H1 ⟨b, f, e, hs, k⟩ z1 => fun x dx hx hdx hne => by
    subst e
    refine ⟨x, dx, b, f, rfl, upd_same, hs, fun H' h1 h2 => ⟨rfl, q _ _ _ (k x dx) ?_⟩⟩
    refine z1.new (fun c o ho => h2 c o ?_ (ne_of_none ho hx)) hx h1
    rw [upd_ne (ne_of_none ho hx), upd_ne (ne_of_none ho hdx)]
    exact ho

/-- the powers 1, b, .., b ^ k as values -/
def pows (b : Int) : Nat → List V
  | 0 => [.int 1]
  | k + 1 => pows b k ++ [.int (b ^ (k + 1))]
theorem pows_len (b : Int) (k : Nat) : (pows b k).length = k + 1 := by
  induction k with
  | zero => rfl
  | succ k ih => simp [pows, ih]
theorem atI_neg1 {xs : List V} {x : V} : atI (xs ++ [x]) (-1) = some x := by
  unfold atI ixN
  rw [if_neg (by decide), if_pos (by simp; omega)]
  have e : (-1 + ((xs ++ [x]).length : Int)).toNat = xs.length := by simp; omega
  first
    | (rw [e]; simp)
    | (simp; have e2 : (-1 + ((xs.length : Int) + 1)).toNat = xs.length := by omega
       rw [e2]; simp)
theorem pows_last (b : Int) (k : Nat) : atI (pows b k) (-1) = some (.int (b ^ k)) := by
  cases k with
  | zero => rw [show pows b 0 = [] ++ [V.int 1] from rfl, atI_neg1]; simp
  | succ k => exact atI_neg1
theorem pows_get (b : Int) : ∀ (k i : Nat), i ≤ k → (pows b k)[i]? = some (.int (b ^ i))
  | 0, i, h => by
    have : i = 0 := by omega
    subst this
    simp [pows]
  | k + 1, i, h => by
    by_cases e : i = k + 1
    · subst e
      rw [pows, List.getElem?_append_right (by rw [pows_len]; omega), pows_len]
      simp
    · rw [pows, List.getElem?_append_left (by rw [pows_len]; omega)]
      exact pows_get b k i (by omega)

theorem last_map {pre : List Int} {m : Int} : atI ((pre ++ [m]).map V.int) (-1) = some (.int m) := by
  rw [List.map_append]
  exact atI_neg1
theorem cut_butlast (ms : List Int) : cutV (ms.map V.int) none (some (-1)) = ms.dropLast.map V.int := by
  unfold cutV
  have h1 : HT.sIx (ms.map V.int).length 0 none = 0 := rfl
  have h2 : HT.sIx (ms.map V.int).length (ms.map V.int).length (some (-1)) = ms.length - 1 := by
    unfold HT.sIx
    simp
    omega
  rw [h1, h2, List.drop_zero, Nat.sub_zero, List.dropLast_eq_take, List.map_take]
theorem wr_slB {K : PySem.W.Frag} {g : Gr} {L : Led} {C : V → Led → Prop} {a : Addr} {ms : List Int} (s : Seen K g L a (ms.map V.int)) (c : ∀ p, C (.ref p) (L ++ [(p, .ob (.lst (ms.dropLast.map V.int)), true)])) : Wp g L (rSlL K (.ref a) none (some (-1))) C :=
  wr_slL s (by rw [cut_butlast]; exact c)
theorem wmk_Scheme {CS : Cs} {g : Gr} {L : Led} {C : V → Led → Prop} {σ : St} {E : XK} {tk : TA} {perm : List Nat} {n : Nat}
    (h : Wp g L (tk σ) fun zs L1 => zs.length = n ∧ ∃ b f : Int, pick perm zs = [.int b, .int f] ∧ SchOk b f ∧ ∀ p dx, C (.ref p) (L1 ++ [(p, .ob (.ins CS dx (scF b f)), true)])) : Wp g L (tKwC CS (sp_Scheme_init CS) perm n E tk σ) C :=
  fun H z Q q => h H z _ fun zs L1 H1 ⟨el, b, f, e, hs, k⟩ z1 => ⟨el, fun x dx hx hdx hne => by
    rw [e]
    refine ⟨x, dx, b, f, rfl, upd_same, hs, fun H' h1 h2 => ⟨rfl, q _ _ _ (k x dx) ?_⟩⟩
    refine z1.new (fun c o ho => h2 c o ?_ (ne_of_none ho hx)) hx h1
    rw [upd_ne (ne_of_none ho hx), upd_ne (ne_of_none ho hdx)]
    exact ho⟩

theorem prime_at (k : Int) (h0 : 0 ≤ k) (h1 : k < 7) : ∃ q : Int, atI [V.int 2147483647, .int 2147483629, .int 2147483587, .int 2147483579, .int 2147483563, .int 2147483549, .int 2147483543] k = some (.int q) ∧ 1 < q ∧ q ≤ 2147483647 := by
  have h : k = 0 ∨ k = 1 ∨ k = 2 ∨ k = 3 ∨ k = 4 ∨ k = 5 ∨ k = 6 := by omega
  rcases h with rfl | rfl | rfl | rfl | rfl | rfl | rfl <;> exact ⟨_, rfl, by decide, by decide⟩
theorem atI_in {xs : List V} {k : Int} (h0 : 0 ≤ k) (h1 : k < (xs.length : Int)) : ∃ v, atI xs k = some v ∧ v ∈ xs := by
  have hk : k.toNat < xs.length := by omega
  refine ⟨xs[k.toNat], at_of (j := k.toNat) (by omega) (List.getElem?_eq_getElem hk), List.getElem_mem hk⟩
theorem ints_all {ns : List Int} : ∀ v ∈ ns.map V.int, ∃ n : Int, v = .int n := fun v hv => by
  obtain ⟨n, _, e⟩ := List.mem_map.mp hv
  exact ⟨n, e.symm⟩
theorem cut_mem {xs : List V} {lo hi : Option Int} {v : V} (h : v ∈ cutV xs lo hi) : v ∈ xs := List.mem_of_mem_drop (List.mem_of_mem_take h)

inductive Rf where
  | num (o : OV)
  | tim (o : OV)
  | sch (s : Str)
def Rf.out (xn xt xs : Addr) : Rf → Out
  | .num o => some (xn, [("number", o.v)])
  | .tim o => some (xt, [("time", o.v)])
  | .sch s => some (xs, [("part", .str s)])
def Rf.At (H : Hp) : Rf → Prop
  | .num o => o.At H
  | .tim o => o.At H
  | _ => True
def Rf.obj (gg : List Code) : Rf → HO
  | .num o => .tup [.str "number", .str (o.tx gg)]
  | .tim o => .tup [.str "time", .str (o.tx gg)]
  | .sch s => .tup [.str "scheme", .str s]

theorem OV.bw_of {o : OV} {lo hi : Int} (h : o.atl 0 = false) (hl : 0 ≤ lo) : o.bw lo hi = false := by
  cases o with
  | num n =>
    have h : decide (0 ≤ n) = false := h
    rw [decide_eq_false_iff_not] at h
    show (decide (lo ≤ n) && decide (n ≤ hi)) = false
    rw [decide_eq_false (show ¬ lo ≤ n by omega), Bool.false_and]
  | _ => rfl
theorem ov_drawn5 {x : V} {p1 p2 p3 : Addr} (h : x ∈ [V.bl true, .bl false, .non, .str "3", .ref p1, .ref p2, .ref p3, .int (-1), .int (0 - 100000000000000000000)]) : ∃ o : OV, x = o.v ∧ o.atl 0 = false ∧ ∀ (g : Gr) (L : Led) (i j k : Nat) (b1 b2 b3 : Bool), L[i]? = some (p1, .ob (.tup [.int 3]), b1) → L[j]? = some (p2, .ob (.lst [.int 3]), b2) → L[k]? = some (p3, .ob (.dK []), b3) → ∀ H, At g L H → o.At H := by
  simp only [List.mem_cons, List.not_mem_nil, or_false] at h
  rcases h with rfl | h
  · exact ov_drawn (by simp)
  rcases h with rfl | h
  · exact ⟨.bl false, rfl, rfl, fun g L i j k b1 b2 b3 h1 h2 h3 H z => trivial⟩
  · exact ov_drawn (by simp only [List.mem_cons, List.not_mem_nil, or_false]; exact .inr h)
theorem nf_tup {C : Addr} : PySem.W.notFirst K C (.type "tuple") = true := by
  unfold PySem.W.notFirst
  rw [show PySem.W.subIn K (.type "tuple") (.ref C) = some false from rfl]
  simp

section
variable {P : Program} {w : World} {K : PySem.W.Frag} {mg : Str → Option Value} {base : Heap} {CS : Cs}
theorem sc__law_source_of : FnScope ["_law_cell"] ["_law_cell"] (defScope s__law_source_of) := ⟨rfl, rfl, rfl, by decide +kernel, rfl, by decide +kernel, by decide +kernel⟩
def sp__law_source_of (CS : Cs) : Sp := fun vs H Q _ => ∃ n : Int, vs = [.int n] ∧ ∀ (p : Addr) (H' : Hp), H p = none → Same H H' → EntAt (.src 0) H' p → Q (.ref p) H'
theorem wc__law_source_of {CS : Cs} {g : Gr} {L : Led} {C : V → Led → Prop} {E : XK} {n : Int} (c : ∀ p : Addr, C (.ref p) (L ++ [(p, .src 0, true)])) : Wp g L (fun H Q => sp__law_source_of CS [.int n] H Q E) C :=
  fun H z Q q => ⟨n, rfl, fun p H' hn s ⟨o, h1, h2⟩ => q _ _ _ (c p) (z.newE s hn h1 h2)⟩

theorem ok__law_source_of (T : Top K mg CS) : Ok P w K mg base 1 "_law_source_of" s__law_source_of ["_law_cell"] (sp__law_source_of CS) := by
  refine Ok.of T.f__law_source_of sc__law_source_of (fun _ _ _ _ _ _ us hl => match us, hl with | [_], _ => rfl) (fun vs H Q E h => ?_) (fun f cdv A outer s H vs Q E hr h => ?_)
  · obtain ⟨n, rfl, _⟩ := h
    rfl
  · obtain ⟨n, rfl, kk⟩ := h
    refine ⟨_, (pss_one (ps_ret (pe_lst (pa_cons (pe_op op_mul (pv 0) (pe_callTy c_int1 (by rfl) T.b_int (by decide +kernel) (pa_cons (pe_cmpR op_ge (pv 0) (pe_op op_pow pe_int pe_int) (nomark _)) pa_nil))) (pa_cons (pe_op op_mod (pv 0) pe_int) (pa_cons pe_int pa_nil)))))), ?_⟩
    refine run_ws (σ := [some (.int n)]) (K := kR (fun o => (Ent.src 0).Is o)) (L := []) ?_ at_nil (eo_R fun p H' o r n s' hp => kk p H' n s' ⟨o, hp, r⟩)
    refine ws_ret ?_
    refine wp_lst ?_
    refine wa_cons ?_
    refine wp_op ?_
    refine wp_var rfl ?_
    refine wp_cb ?_
    refine wa_cons ?_
    refine wp_op ?_
    refine wp_var rfl ?_
    refine wp_op ?_
    refine wp_c ?_
    refine wp_c ?_
    refine wr_powc (r := 1000000000000000000) (powOk (by decide)) (by decide) ?_
    refine wr0 ?_
    refine wa_nil ?_
    refine wc_intB ?_
    refine wr1 (Or.inr ⟨by split <;> decide, by split <;> decide⟩) ?_
    refine wa_cons ?_
    refine wp_op ?_
    refine wp_var rfl ?_
    refine wp_c ?_
    refine wr_modA (by decide) ?_
    intro y hy0 hy1
    refine wa_cons ?_
    refine wp_c ?_
    refine wa_nil ?_
    refine ⟨by simp, fun p1 => ?_⟩
    exact ⟨_, 0, _, rfl, rfl, _, _, _, rfl, hy0, by omega, by decide, by decide⟩
theorem sc__law_next : FnScope ["_law_source", "_law_many", "_law_prime", "_law_figure", "_law_found"] ["_law_source", "_law_many"] (defScope s__law_next) := ⟨rfl, rfl, rfl, by decide +kernel, rfl, by decide +kernel, by decide +kernel⟩
def sp__law_next (CS : Cs) : Sp := fun vs H Q _ => ∃ (a : Addr) (m : Nat) (many : Int), vs = [.ref a, .int many] ∧ EntAt (.src m) H a ∧ m ≤ 1000000 ∧ (1 ≤ many ∧ many ≤ 10 ^ 100) ∧ ∀ (n : Int) (H' : Hp), (0 ≤ n ∧ n < many) → EntAt (.src (m + 1)) H' a → Exc a H H' → Q (.int n) H'
theorem wc__law_next {CS : Cs} {g : Gr} {L : Led} {C : V → Led → Prop} {E : XK} {a : Addr} {m : Nat} {many : Int} (i : Nat) (h : L[i]? = some (a, .src m, true)) (hm : m ≤ 1000000) (hn : 1 ≤ many ∧ many ≤ 10 ^ 100)
    (c : ∀ n : Int, (0 ≤ n ∧ n < many) → C (.int n) (L.set i (a, .src (m + 1), true))) : Wp g L (fun H Q => sp__law_next CS [.ref a, .int many] H Q E) C :=
  fun H z Q q => ⟨a, m, many, rfl, z.look h, hm, hn, fun n H' hn' he hx => q _ _ _ (c n hn') (z.draw h hx he)⟩

theorem ok__law_next (T : Top K mg CS) : Ok P w K mg base 1 "_law_next" s__law_next ["_law_source", "_law_many"] (sp__law_next CS) := by
  refine Ok.of T.f__law_next sc__law_next (fun _ _ _ _ _ _ us hl => match us, hl with | [_, _], _ => rfl) (fun vs H Q E h => ?_) (fun f cdv A outer s H vs Q E hr h => ?_)
  · obtain ⟨a, m, many, rfl, _⟩ := h
    rfl
  · obtain ⟨a, m, many, rfl, ⟨o, ha, x, y, z, rfl, hy0, hy1, hz0, hz1⟩, hm, hmany, kk⟩ := h
    refine ⟨_, (pss_cons (ps_if (pt_cmpR op_gt (pe_ix ix_list (pv 0) pe_int (fun _ _ => rfl)) pe_int (nomark _)) (pss_cons (ps_set (i := 4) sc__law_next.nd rfl (Or.inl rfl) (pe_op op_mod (pe_ix ix_list (pv 0) pe_int (fun _ _ => rfl)) (pv 1)))
      (pss_cons (ps_asg (pe_op op_fdivW (pe_ix ix_list (pv 0) pe_int (fun _ _ => rfl)) (pv 1)) (pg_sub (pv 0) pe_int set_list))
      (pss_one (ps_ret (pv 4))))) pss_nil)
      (pss_cons (ps_asg (pe_op op_add (pe_ix ix_list (pv 0) pe_int (fun _ _ => rfl)) pe_int) (pg_sub (pv 0) pe_int set_list))
      (pss_cons (ps_set (i := 2) sc__law_next.nd rfl (Or.inl rfl) (pe_ix ix_list (pe_lst (pa_cons pe_int (pa_cons pe_int (pa_cons pe_int (pa_cons pe_int (pa_cons pe_int (pa_cons pe_int (pa_cons pe_int pa_nil)))))))) (pe_op op_mod (pe_ix ix_list (pv 0) pe_int (fun _ _ => rfl)) pe_int) (fun _ _ => rfl)))
      (pss_cons (ps_set (i := 3) sc__law_next.nd rfl (Or.inl rfl) (pe_op op_mod (pe_op op_pow (pe_op op_add (pe_op op_add (pe_ix ix_list (pv 0) pe_int (fun _ _ => rfl)) (pe_op op_mulW pe_int (pe_ix ix_list (pv 0) pe_int (fun _ _ => rfl)))) pe_int) pe_int) (pv 2)))
      (pss_cons (ps_set (i := 3) sc__law_next.nd rfl (Or.inl rfl) (pe_op op_mod (pe_op op_mulW (pe_op op_add (pv 3) (pe_ix ix_list (pv 0) pe_int (fun _ _ => rfl))) (pe_op op_add (pe_op op_fdivW (pv 3) pe_int) pe_int)) (pv 2)))
      (pss_one (ps_ret (pe_op op_mod (pe_op op_fdivW (pv 3) pe_int) (pv 1))))))))), ?_⟩
    refine run_ws (σ := [some (.ref a), some (.int many), none, none, none]) (g := ⟨H, fun c => c = a⟩) (K := kS a (.src (m + 1)) (fun v => ∃ n : Int, v = .int n ∧ 0 ≤ n ∧ n < many)) (L := [(a, .ob (.lst [.int x, .int y, .int z]), true)]) ?_ (at_cons at_nil ha rfl (by simp) (fun _ => .inr rfl)) (eo_S fun v H' ⟨n, e, h1, h2⟩ he hx => e ▸ kk n H' ⟨h1, h2⟩ he hx)
    refine ws_seq ?_
    refine ws_if ?_
    refine wt_test ?_
    refine wp_op ?_
    refine wp_op ?_
    refine wp_var rfl ?_
    refine wp_c ?_
    refine wr_ixL (seen 0 rfl) (rfl) ?_
    refine wp_c ?_
    refine wr0 ?_
    refine ⟨_, rfl, ?_⟩
    refine ifB (fun hc1 => ?_) (fun hc1 => ?_)
    · try simp only [decide_eq_true_eq, decide_eq_false_iff_not, Bool.and_eq_true, Bool.or_eq_true, Bool.not_eq_true', Bool.and_eq_false_iff, Bool.or_eq_false_iff, Bool.not_eq_false', Bool.not_true, Bool.not_false, Bool.false_or, Bool.true_and, Bool.true_or, Bool.false_and, Bool.and_true, Bool.or_false, reduceCtorEq, not_true_eq_false, not_false_eq_true, decide_true, decide_false] at hc1
      refine ws_seq ?_
      refine ws_set ?_
      refine wp_op ?_
      refine wp_op ?_
      refine wp_var rfl ?_
      refine wp_c ?_
      refine wr_ixL (seen 0 rfl) (rfl) ?_
      refine wp_var rfl ?_
      refine wr_modA (by omega) ?_
      intro r hr0 hr1
      refine ws_seq ?_
      refine ws_asg ?_
      refine wp_op ?_
      refine wp_op ?_
      refine wp_var rfl ?_
      refine wp_c ?_
      refine wr_ixL (seen 0 rfl) (rfl) ?_
      refine wp_var rfl ?_
      refine wr1 (by exact divOk (by omega)) ?_
      refine wg_sub ?_
      refine wp_var rfl ?_
      refine wp_c ?_
      refine wr_setL 0 rfl (rfl) ?_
      refine ws_ret ?_
      refine wp_var rfl ?_
      exact ⟨⟨_, rfl, hr0, hr1⟩, 0, _, rfl, _, _, _, rfl, hy0, hy1, hz0, by omega⟩
    · try simp only [decide_eq_true_eq, decide_eq_false_iff_not, Bool.and_eq_true, Bool.or_eq_true, Bool.not_eq_true', Bool.and_eq_false_iff, Bool.or_eq_false_iff, Bool.not_eq_false', Bool.not_true, Bool.not_false, Bool.false_or, Bool.true_and, Bool.true_or, Bool.false_and, Bool.and_true, Bool.or_false, reduceCtorEq, not_true_eq_false, not_false_eq_true, decide_true, decide_false] at hc1
      refine ws_next ?_
      refine ws_seq ?_
      refine ws_asg ?_
      refine wp_op ?_
      refine wp_op ?_
      refine wp_var rfl ?_
      refine wp_c ?_
      refine wr_ixL (seen 0 rfl) (rfl) ?_
      refine wp_c ?_
      refine wr0 ?_
      refine wg_sub ?_
      refine wp_var rfl ?_
      refine wp_c ?_
      refine wr_setL 0 rfl (rfl) ?_
      refine ws_seq ?_
      obtain ⟨q, hq, hq1, hq2⟩ := prime_at ((z + 1) % 7) (by omega) (by omega)
      refine ws_set ?_
      refine wp_op ?_
      refine wp_lst ?_
      refine wa_cons ?_
      refine wp_c ?_
      refine wa_cons ?_
      refine wp_c ?_
      refine wa_cons ?_
      refine wp_c ?_
      refine wa_cons ?_
      refine wp_c ?_
      refine wa_cons ?_
      refine wp_c ?_
      refine wa_cons ?_
      refine wp_c ?_
      refine wa_cons ?_
      refine wp_c ?_
      refine wa_nil ?_
      refine ⟨by simp, fun p2 => ?_⟩
      refine wp_op ?_
      refine wp_op ?_
      refine wp_var rfl ?_
      refine wp_c ?_
      refine wr_ixL (seen 0 rfl) (rfl) ?_
      refine wp_c ?_
      refine wr1 (by (show (0 : Int) < _; omega)) ?_
      refine wr_ixL (seen 1 rfl) (hq) ?_
      refine ws_seq ?_
      refine ws_set ?_
      refine wp_op ?_
      refine wp_op ?_
      refine wp_op ?_
      refine wp_op ?_
      refine wp_op ?_
      refine wp_var rfl ?_
      refine wp_c ?_
      refine wr_ixL (seen 0 rfl) (rfl) ?_
      refine wp_op ?_
      refine wp_c ?_
      refine wp_op ?_
      refine wp_var rfl ?_
      refine wp_c ?_
      refine wr_ixL (seen 0 rfl) (rfl) ?_
      refine wr1 (by exact mulOk (by omega) (by omega)) ?_
      refine wr0 ?_
      refine wp_c ?_
      refine wr0 ?_
      refine wp_c ?_
      refine wr1 (powOk (by omega)) ?_
      refine wp_var rfl ?_
      refine wr_modA (by omega) ?_
      intro f1 hf1 hf2
      refine ws_seq ?_
      refine ws_set ?_
      refine wp_op ?_
      refine wp_op ?_
      refine wp_op ?_
      refine wp_var rfl ?_
      refine wp_op ?_
      refine wp_var rfl ?_
      refine wp_c ?_
      refine wr_ixL (seen 0 rfl) (rfl) ?_
      refine wr0 ?_
      refine wp_op ?_
      refine wp_op ?_
      refine wp_var rfl ?_
      refine wp_c ?_
      refine wr1 (by exact divOk (by omega)) ?_
      refine wp_c ?_
      refine wr0 ?_
      refine wr1 (by exact mulOk (by omega) (by omega)) ?_
      refine wp_var rfl ?_
      refine wr_modA (by omega) ?_
      intro f2 hf3 hf4
      refine ws_ret ?_
      refine wp_op ?_
      refine wp_op ?_
      refine wp_var rfl ?_
      refine wp_c ?_
      refine wr1 (by exact divOk (by omega)) ?_
      refine wp_var rfl ?_
      refine wr_modA (by omega) ?_
      intro r hr0 hr1
      exact ⟨⟨_, rfl, hr0, hr1⟩, 0, _, rfl, _, _, _, rfl, hy0, hy1, by omega, by omega⟩
theorem sc__law_one : FnScope ["_law_source", "_law_options"] ["_law_source", "_law_options"] (defScope s__law_one) := ⟨rfl, rfl, rfl, by decide +kernel, rfl, by decide +kernel, by decide +kernel⟩
def sp__law_one (CS : Cs) : Sp := fun vs H Q _ => ∃ (a q : Addr) (m : Nat) (xs : List V), vs = [.ref a, .ref q] ∧ EntAt (.src m) H a ∧ H q = some (.lst xs) ∧ a ≠ q ∧ m ≤ 1000000 ∧ (1 ≤ xs.length ∧ xs.length ≤ 1000) ∧ ∀ (v : V) (H' : Hp), v ∈ xs → EntAt (.src (m + 1)) H' a → Exc a H H' → Q v H'
theorem wc__law_one {CS : Cs} {g : Gr} {L : Led} {C : V → Led → Prop} {E : XK} {a q : Addr} {m : Nat} {xs : List V} {bo : Bool} {P : Int → Prop} (i j : Nat) (h : L[i]? = some (a, .src m, true)) (h2 : L[j]? = some (q, .ob (.lst xs), bo)) (hij : i ≠ j) (hm : m ≤ 1000000) (hl : 1 ≤ xs.length ∧ xs.length ≤ 1000)
    (hP : ∀ v ∈ xs, ∃ n : Int, v = .int n ∧ P n) (c : ∀ n : Int, P n → C (.int n) (L.set i (a, .src (m + 1), true))) : Wp g L (fun H Q => sp__law_one CS [.ref a, .ref q] H Q E) C :=
  fun H z Q k => ⟨a, q, m, xs, rfl, z.look h, z.get h2, z.ne h h2 hij, hm, hl, fun v H' hv he hx => by
    obtain ⟨n, e, hn⟩ := hP v hv
    subst e
    exact k _ _ _ (c n hn) (z.draw h hx he)⟩

theorem wc__law_oneA {CS : Cs} {g : Gr} {L : Led} {C : V → Led → Prop} {E : XK} {a q : Addr} {m : Nat} {xs : List V} {bo : Bool} (i j : Nat) (h : L[i]? = some (a, .src m, true)) (h2 : L[j]? = some (q, .ob (.lst xs), bo)) (hij : i ≠ j) (hm : m ≤ 1000000) (hl : 1 ≤ xs.length ∧ xs.length ≤ 1000)
    (c : ∀ v : V, v ∈ xs → C v (L.set i (a, .src (m + 1), true))) : Wp g L (fun H Q => sp__law_one CS [.ref a, .ref q] H Q E) C :=
  fun H z Q k => ⟨a, q, m, xs, rfl, z.look h, z.get h2, z.ne h h2 hij, hm, hl, fun v H' hv he hx => k _ _ _ (c v hv) (z.draw h hx he)⟩

theorem ok__law_one (T : Top K mg CS) : Ok P w K mg base 2 "_law_one" s__law_one ["_law_source", "_law_options"] (sp__law_one CS) := by
  refine Ok.of T.f__law_one sc__law_one (fun _ _ _ _ _ _ us hl => match us, hl with | [_, _], _ => rfl) (fun vs H Q E h => ?_) (fun f cdv A outer s H vs Q E hr h => ?_)
  · obtain ⟨a, q, m, xs, rfl, _⟩ := h
    rfl
  · obtain ⟨a, q, m, xs, rfl, ⟨o, ha, he⟩, hq, hne, hm, hl, kk⟩ := h
    refine ⟨_, (pss_one (ps_ret (pe_ix ix_list (pv 1) (pe_own (ok__law_next T) (hr.mono (by decide)) rfl (pa_cons (pv 0) (pa_cons (pe_callB c_len (by rfl) T.b_len PySem.boot_len (pa_cons (pv 1) pa_nil)) pa_nil))) (fun _ _ => rfl)))), ?_⟩
    refine run_ws (σ := [some (.ref a), some (.ref q)]) (g := ⟨H, fun c => c = a⟩) (K := kM a (.src (m + 1)) 0 (fun v => v ∈ xs)) (L := [(a, .src m, true), (q, .ob (.lst xs), false)]) ?_ (at_cons (at_one hq) ha he (by simpa using hne) (fun _ => .inr rfl)) (eo_M fun v H' r he hx => kk v H' r he hx)
    refine ws_ret ?_
    refine wp_op ?_
    refine wp_var rfl ?_
    refine wp_call ?_
    refine wa_cons ?_
    refine wp_var rfl ?_
    refine wa_cons ?_
    refine wp_cb ?_
    refine wa_cons ?_
    refine wp_var rfl ?_
    refine wa_nil ?_
    refine wc_len (seen 1 rfl) ?_
    refine wa_nil ?_
    refine wc__law_next 0 rfl hm (by omega) ?_
    intro nx hnx
    obtain ⟨v, hv, hvm⟩ := atI_in hnx.1 hnx.2
    refine wr_ixL (seen 1 rfl) (hv) ?_
    exact ⟨hvm, rfl⟩
theorem sc_is_integer : FnScope ["value"] ["value"] (defScope s_is_integer) := ⟨rfl, rfl, rfl, by decide +kernel, rfl, by decide +kernel, by decide +kernel⟩
def sp_is_integer (CS : Cs) : Sp := fun vs H Q _ => ∃ (n : Int), (vs = [.int n]) ∧ ∀ (H' : Hp), Same H H' → Q (.bl true) H'
theorem wc_is_integer {CS : Cs} {g : Gr} {L : Led} {C : V → Led → Prop} {E : XK} {n : Int} (c : C (.bl true) L) : Wp g L (fun H Q => sp_is_integer CS [.int n] H Q E) C := fun H z Q q => ⟨n, rfl, fun H' s' => q _ _ _ (c) (z.same s')⟩
theorem ok_is_integer (T : Top K mg CS) : Ok P w K mg base 1 "is_integer" s_is_integer ["value"] (sp_is_integer CS) := by
  refine Ok.of T.f_is_integer sc_is_integer (fun _ _ _ _ _ _ us hl => match us, hl with | [_], _ => rfl) (fun vs H Q E h => ?_) (fun f cdv A outer s H vs Q E hr h => ?_)
  · obtain ⟨n, rfl, _⟩ := h
    rfl
  · obtain ⟨n, rfl, kk⟩ := h
    refine ⟨_, (pss_one (ps_ret (pe_and (pe_callB call_isi (by rfl) T.b_isinstance (by decide +kernel) (pa_cons (pv 0) (pa_cons (pe_tyint rfl T.b_int) pa_nil))) (pe_one (pe_not (pe_callB call_isi (by rfl) T.b_isinstance (by decide +kernel) (pa_cons (pv 0) (pa_cons (pe_tybool rfl T.b_bool) pa_nil)))))))), ?_⟩
    refine run_ws (σ := [some (.int n)]) (K := kV (fun v => v = (.bl true))) (L := []) ?_ at_nil (eo_V fun v H' e s' => e ▸ kk H' s')
    refine ws_ret ?_
    refine wp_andVP ?_
    refine wp_cb ?_
    refine wa_cons ?_
    refine wp_var rfl ?_
    refine wa_cons ?_
    refine wp_c ?_
    refine wa_nil ?_
    refine wc_isi_int ?_
    refine ⟨_, rfl, ?_⟩
    apply andK
    · intro hb1
      try simp only [decide_eq_true_eq, decide_eq_false_iff_not, Bool.and_eq_true, Bool.or_eq_true, Bool.not_eq_true', Bool.and_eq_false_iff, Bool.or_eq_false_iff, Bool.not_eq_false', Bool.not_true, Bool.not_false, Bool.false_or, Bool.true_and, Bool.true_or, Bool.false_and, Bool.and_true, Bool.or_false, reduceCtorEq, not_true_eq_false, not_false_eq_true, decide_true, decide_false] at hb1
      refine wp_notV ?_
      refine wp_cb ?_
      refine wa_cons ?_
      refine wp_var rfl ?_
      refine wa_cons ?_
      refine wp_c ?_
      refine wa_nil ?_
      refine wc_isi_bool ?_
      refine ⟨_, rfl, ?_⟩
      exact ⟨rfl, rfl⟩
    exact rfl
theorem sc_is_between : FnScope ["value", "low", "high"] ["value", "low", "high"] (defScope s_is_between) := ⟨rfl, rfl, rfl, by decide +kernel, rfl, by decide +kernel, by decide +kernel⟩
def sp_is_between (CS : Cs) : Sp := fun vs H Q _ => ∃ (n lo hi : Int), (vs = [.int n, .int lo, .int hi]) ∧ ∀ (H' : Hp), Same H H' → Q (.bl (decide (lo ≤ n) && decide (n ≤ hi))) H'
theorem wc_is_between {CS : Cs} {g : Gr} {L : Led} {C : V → Led → Prop} {E : XK} {n lo hi : Int} (c : C (.bl (decide (lo ≤ n) && decide (n ≤ hi))) L) : Wp g L (fun H Q => sp_is_between CS [.int n, .int lo, .int hi] H Q E) C := fun H z Q q => ⟨n, lo, hi, rfl, fun H' s' => q _ _ _ (c) (z.same s')⟩
theorem ok_is_between (T : Top K mg CS) : Ok P w K mg base 2 "is_between" s_is_between ["value", "low", "high"] (sp_is_between CS) := by
  refine Ok.of T.f_is_between sc_is_between (fun _ _ _ _ _ _ us hl => match us, hl with | [_, _, _], _ => rfl) (fun vs H Q E h => ?_) (fun f cdv A outer s H vs Q E hr h => ?_)
  · obtain ⟨n, lo, hi, rfl, _⟩ := h
    rfl
  · obtain ⟨n, lo, hi, rfl, kk⟩ := h
    refine ⟨_, (pss_one (ps_ret (pe_and (pe_own (ok_is_integer T) (hr.mono (by decide)) rfl (pa_cons (pv 0) pa_nil)) (pe_one (pe_chain op_le op_le (pv 1) (pv 0) (pv 2)))))), ?_⟩
    refine run_ws (σ := [some (.int n), some (.int lo), some (.int hi)]) (K := kV (fun v => v = (.bl (decide (lo ≤ n) && decide (n ≤ hi))))) (L := []) ?_ at_nil (eo_V fun v H' e s' => e ▸ kk H' s')
    refine ws_ret ?_
    refine wp_andVP ?_
    refine wp_call ?_
    refine wa_cons ?_
    refine wp_var rfl ?_
    refine wa_nil ?_
    refine wc_is_integer ?_
    refine ⟨_, rfl, ?_⟩
    apply andK
    · intro hb1
      try simp only [decide_eq_true_eq, decide_eq_false_iff_not, Bool.and_eq_true, Bool.or_eq_true, Bool.not_eq_true', Bool.and_eq_false_iff, Bool.or_eq_false_iff, Bool.not_eq_false', Bool.not_true, Bool.not_false, Bool.false_or, Bool.true_and, Bool.true_or, Bool.false_and, Bool.and_true, Bool.or_false, reduceCtorEq, not_true_eq_false, not_false_eq_true, decide_true, decide_false] at hb1
      refine wp_chainP ?_
      refine wp_var rfl ?_
      refine wp_var rfl ?_
      refine wr0 ?_
      refine ⟨_, rfl, ?_⟩
      apply andK
      · intro _
        refine wp_var rfl ?_
        refine wr0 ?_
        exact ⟨rfl, rfl⟩
      exact ⟨rfl, rfl⟩
    exact rfl
theorem sc_InvalidScheme_init : FnScope ["self", "part"] ["self", "part"] (defScope s_InvalidScheme_init) := ⟨rfl, rfl, rfl, by decide +kernel, rfl, by decide +kernel, by decide +kernel⟩


theorem ok_InvalidScheme_init (T : Top K mg CS) : OkE P w K mg base "InvalidScheme" CS.xs 1 "InvalidScheme.__init__" s_InvalidScheme_init ["self", "part"] (sp_fieldO K CS.xs "part") := by
  refine OkE.of T.f_InvalidScheme_init sc_InvalidScheme_init (fun _ _ _ _ _ _ us hl => match us, hl with | [_, _], _ => rfl) (fun vs H Q E h => ?_) (fun f cdv A outer s H vs Q E hr h => ?_)
  · obtain ⟨a, o, rfl, _⟩ := h
    rfl
  · obtain ⟨a, o, rfl, ho, ha, hC, hno, kk⟩ := h
    obtain ⟨S, hS, hR, hV⟩ := T.xb_SnapError
    refine ⟨_, pss_cons (ps_expr (Ke.pe_base rfl hS hR hV (pa_cons (pv 0) (pa_cons (pe_joined (.cons pe_str (.cons (pe_fmtO (room_units hr) (pv 1)) .nil))) pa_nil)))) (pss_one (Ke.ps_first (pv 0) (pv 1))), ?_⟩
    exact ⟨_, rfl, ⟨_, rfl, by decide +kernel, ⟨_, rfl, o, rfl, ho, fun y hy => ⟨_, rfl, joined_le hy, ⟨a, CS.xs, [_], rfl, by simp, hC, ha, ⟨_, rfl, _, rfl, a, CS.xs, rfl, hC, hno, ha, fun dx hd hne => kk dx hd hne⟩⟩⟩⟩⟩⟩

theorem sc_Scheme_init : FnScope ["self", "base", "factor"] ["self", "base", "factor"] (defScope s_Scheme_init) := ⟨rfl, rfl, rfl, by decide +kernel, rfl, by decide +kernel, by decide +kernel⟩


theorem ok_Scheme_init (T : Top K mg CS) : OkC P w K mg base "Scheme" CS 3 "Scheme.__init__" s_Scheme_init ["self", "base", "factor"] (sp_Scheme_init CS) := by
  refine OkC.of T.f_Scheme_init sc_Scheme_init (fun _ _ _ _ _ _ us hl => match us, hl with | [_, _, _], _ => rfl) (fun vs H Q E h => ?_) (fun f cdv A outer s H vs Q E hr h => ?_)
  · obtain ⟨p, dx, b, f, rfl, _⟩ := h
    rfl
  · obtain ⟨p, dx, b, f, rfl, hp, hs, kk⟩ := h
    unfold SchOk at hs
    refine ⟨_, (pss_cons (ps_if (pt_not (pt_val (pe_own (ok_is_between T) (hr.mono (by decide)) rfl (pa_cons (pv 1) (pa_cons pe_int (pa_cons (pe_const rfl T.c_MOST_BASE) pa_nil)))))) (pss_one ps_never) pss_nil)
      (pss_cons (ps_if (pt_not (pt_val (pe_own (ok_is_between T) (hr.mono (by decide)) rfl (pa_cons (pv 2) (pa_cons pe_int (pa_cons (pe_const rfl T.c_MOST_FACTOR) pa_nil)))))) (pss_one ps_never) pss_nil)
      (pss_cons (ps_fld (pv 0) (pv 1) rfl)
      (pss_one (ps_fld (pv 0) (pv 2) rfl))))), ?_⟩
    refine run_ws (σ := [some (.ref p), some (.int b), some (.int f)]) (g := ⟨H, fun c => c = p⟩) (L := [(p, .ob (.ins CS dx []), true)]) (K := { nx := fun _ L => L = [(p, .ob (.ins CS dx (scF b f)), true)], rt := fun _ _ => False }) ?_ (at_cons at_nil hp rfl (by simp) (fun _ => .inr rfl)) ⟨fun σ L H' e z => ?_, fun _ _ _ e _ => e.elim, fun _ _ _ e _ => e.elim, fun _ _ _ e _ => e.elim⟩
    rotate_left
    · have e : L = [(p, .ob (.ins CS dx (scF b f)), true)] := e
      subst e
      exact kk H' (z.get (i := 0) rfl) fun q o h hn => z.old q o h hn
    refine ws_seq ?_
    refine ws_if ?_
    refine wt_not ?_
    refine wt_B ?_
    refine wp_call ?_
    refine wa_cons ?_
    refine wp_var rfl ?_
    refine wa_cons ?_
    refine wp_c ?_
    refine wa_cons ?_
    refine wp_c ?_
    refine wa_nil ?_
    refine wc_is_between ?_
    refine ⟨_, rfl, ?_⟩
    refine ifB (fun hc1 => ?_) (fun hc1 => ?_)
    · try simp only [decide_eq_true_eq, decide_eq_false_iff_not, Bool.and_eq_true, Bool.or_eq_true, Bool.not_eq_true', Bool.and_eq_false_iff, Bool.or_eq_false_iff, Bool.not_eq_false', Bool.not_true, Bool.not_false, Bool.false_or, Bool.true_and, Bool.true_or, Bool.false_and, Bool.and_true, Bool.or_false, reduceCtorEq, not_true_eq_false, not_false_eq_true, decide_true, decide_false] at hc1
      exact ws_never (by first | omega | (simp at *; done) | (exfalso; omega) | (simp at *; omega))
    · try simp only [decide_eq_true_eq, decide_eq_false_iff_not, Bool.and_eq_true, Bool.or_eq_true, Bool.not_eq_true', Bool.and_eq_false_iff, Bool.or_eq_false_iff, Bool.not_eq_false', Bool.not_true, Bool.not_false, Bool.false_or, Bool.true_and, Bool.true_or, Bool.false_and, Bool.and_true, Bool.or_false, reduceCtorEq, not_true_eq_false, not_false_eq_true, decide_true, decide_false] at hc1
      refine ws_next ?_
      refine ws_seq ?_
      refine ws_if ?_
      refine wt_not ?_
      refine wt_B ?_
      refine wp_call ?_
      refine wa_cons ?_
      refine wp_var rfl ?_
      refine wa_cons ?_
      refine wp_c ?_
      refine wa_cons ?_
      refine wp_c ?_
      refine wa_nil ?_
      refine wc_is_between ?_
      refine ⟨_, rfl, ?_⟩
      refine ifB (fun hc2 => ?_) (fun hc2 => ?_)
      · try simp only [decide_eq_true_eq, decide_eq_false_iff_not, Bool.and_eq_true, Bool.or_eq_true, Bool.not_eq_true', Bool.and_eq_false_iff, Bool.or_eq_false_iff, Bool.not_eq_false', Bool.not_true, Bool.not_false, Bool.false_or, Bool.true_and, Bool.true_or, Bool.false_and, Bool.and_true, Bool.or_false, reduceCtorEq, not_true_eq_false, not_false_eq_true, decide_true, decide_false] at hc2
        exact ws_never (by first | omega | (simp at *; done) | (exfalso; omega) | (simp at *; omega))
      · try simp only [decide_eq_true_eq, decide_eq_false_iff_not, Bool.and_eq_true, Bool.or_eq_true, Bool.not_eq_true', Bool.and_eq_false_iff, Bool.or_eq_false_iff, Bool.not_eq_false', Bool.not_true, Bool.not_false, Bool.false_or, Bool.true_and, Bool.true_or, Bool.false_and, Bool.and_true, Bool.or_false, reduceCtorEq, not_true_eq_false, not_false_eq_true, decide_true, decide_false] at hc2
        refine ws_next ?_
        refine ws_seq ?_
        refine ws_fld 0 T.cl_Scheme T.n_Scheme_radix ?_
        refine wp_var rfl ?_
        refine wp_var rfl ?_
        refine ⟨_, _, _, rfl, rfl, by first | decide | (simp [putF]; done) | (simp [putF]; split <;> simp), rfl, ?_⟩
        refine ws_fld 0 T.cl_Scheme T.n_Scheme_multiple ?_
        refine wp_var rfl ?_
        refine wp_var rfl ?_
        refine ⟨_, _, _, rfl, rfl, by first | decide | (simp [putF]; done) | (simp [putF]; split <;> simp), rfl, ?_⟩
        exact rfl
theorem sc__law_cell_at : FnScope ["_law_script", "_law_k"] ["_law_script", "_law_k"] (defScope s__law_cell_at) := ⟨rfl, rfl, rfl, by decide +kernel, rfl, by decide +kernel, by decide +kernel⟩
def sp__law_cell_at (K : PySem.W.Frag) (CS : Cs) : Sp := fun vs H Q _ => ∃ (a : Addr) (ns : List Int) (k : Int), vs = [.ref a, .int k] ∧ SqL K H a (ns.map V.int) ∧ 0 ≤ k ∧ ∀ (n : Int) (H' : Hp), Same H H' → Q (.int n) H'
theorem wc__law_cell_at {K : PySem.W.Frag} {CS : Cs} {g : Gr} {L : Led} {C : V → Led → Prop} {E : XK} {a : Addr} {ns : List Int} {k : Int} (s : Seen K g L a (ns.map V.int)) (hk : 0 ≤ k) (c : ∀ n : Int, C (.int n) L) : Wp g L (fun H Q => sp__law_cell_at K CS [.ref a, .int k] H Q E) C :=
  fun H z Q q => ⟨a, ns, k, rfl, s.at_ H z, hk, fun n H' s' => q _ _ _ (c n) (z.same s')⟩

theorem ok__law_cell_at (T : Top K mg CS) : Ok P w K mg base 1 "_law_cell_at" s__law_cell_at ["_law_script", "_law_k"] (sp__law_cell_at K CS) := by
  refine Ok.of T.f__law_cell_at sc__law_cell_at (fun _ _ _ _ _ _ us hl => match us, hl with | [_, _], _ => rfl) (fun vs H Q E h => ?_) (fun f cdv A outer s H vs Q E hr h => ?_)
  · obtain ⟨a, ns, k, rfl, _⟩ := h
    rfl
  · obtain ⟨a, ns, k, rfl, hS0, hk, kk⟩ := h
    have hS : ∀ {L : Led}, Seen K ⟨H, fun _ => False⟩ L a (ns.map V.int) := seen0 hS0 (fun z => z)
    refine ⟨_, (pss_cons (ps_if (pt_cmpR op_lt (pv 1) (pe_callB c_len (by rfl) T.b_len PySem.boot_len (pa_cons (pv 0) pa_nil)) (nomark _)) (pss_one (ps_ret (pe_ix ix_list (pv 0) (pv 1) (fun _ _ => rfl)))) pss_nil)
      (pss_one (ps_ret pe_int))), ?_⟩
    refine run_ws (σ := [some (.ref a), some (.int k)]) (K := kV (fun v => ∃ n : Int, v = .int n)) (L := []) ?_ at_nil (eo_V fun v H' ⟨n, e⟩ s' => e ▸ kk n H' s')
    refine ws_seq ?_
    refine ws_if ?_
    refine wt_test ?_
    refine wp_op ?_
    refine wp_var rfl ?_
    refine wp_cb ?_
    refine wa_cons ?_
    refine wp_var rfl ?_
    refine wa_nil ?_
    refine wc_len hS ?_
    refine wr0 ?_
    refine ⟨_, rfl, ?_⟩
    refine ifB (fun hc1 => ?_) (fun hc1 => ?_)
    · try simp only [decide_eq_true_eq, decide_eq_false_iff_not, Bool.and_eq_true, Bool.or_eq_true, Bool.not_eq_true', Bool.and_eq_false_iff, Bool.or_eq_false_iff, Bool.not_eq_false', Bool.not_true, Bool.not_false, Bool.false_or, Bool.true_and, Bool.true_or, Bool.false_and, Bool.and_true, Bool.or_false, reduceCtorEq, not_true_eq_false, not_false_eq_true, decide_true, decide_false] at hc1
      obtain ⟨v, hv, hvm⟩ := atI_in hk hc1
      obtain ⟨n, rfl⟩ := ints_all v hvm
      refine ws_ret ?_
      refine wp_op ?_
      refine wp_var rfl ?_
      refine wp_var rfl ?_
      refine wr_ixL hS (hv) ?_
      exact ⟨_, rfl⟩
    · try simp only [decide_eq_true_eq, decide_eq_false_iff_not, Bool.and_eq_true, Bool.or_eq_true, Bool.not_eq_true', Bool.and_eq_false_iff, Bool.or_eq_false_iff, Bool.not_eq_false', Bool.not_true, Bool.not_false, Bool.false_or, Bool.true_and, Bool.true_or, Bool.false_and, Bool.and_true, Bool.or_false, reduceCtorEq, not_true_eq_false, not_false_eq_true, decide_true, decide_false] at hc1
      refine ws_next ?_
      refine ws_ret ?_
      refine wp_c ?_
      exact ⟨_, rfl⟩
theorem sc_InvalidNumber_init : FnScope ["self", "number"] ["self", "number"] (defScope s_InvalidNumber_init) := ⟨rfl, rfl, rfl, by decide +kernel, rfl, by decide +kernel, by decide +kernel⟩


theorem ok_InvalidNumber_init (T : Top K mg CS) : OkE P w K mg base "InvalidNumber" CS.xn 1 "InvalidNumber.__init__" s_InvalidNumber_init ["self", "number"] (sp_fieldO K CS.xn "number") := by
  refine OkE.of T.f_InvalidNumber_init sc_InvalidNumber_init (fun _ _ _ _ _ _ us hl => match us, hl with | [_, _], _ => rfl) (fun vs H Q E h => ?_) (fun f cdv A outer s H vs Q E hr h => ?_)
  · obtain ⟨a, o, rfl, _⟩ := h
    rfl
  · obtain ⟨a, o, rfl, ho, ha, hC, hno, kk⟩ := h
    obtain ⟨S, hS, hR, hV⟩ := T.xb_SnapError
    refine ⟨_, pss_cons (ps_expr (Ke.pe_base rfl hS hR hV (pa_cons (pv 0) (pa_cons (pe_joined (.cons pe_str (.cons (pe_fmtO (room_units hr) (pv 1)) .nil))) pa_nil)))) (pss_one (Ke.ps_first (pv 0) (pv 1))), ?_⟩
    exact ⟨_, rfl, ⟨_, rfl, by decide +kernel, ⟨_, rfl, o, rfl, ho, fun y hy => ⟨_, rfl, joined_le hy, ⟨a, CS.xn, [_], rfl, by simp, hC, ha, ⟨_, rfl, _, rfl, a, CS.xn, rfl, hC, hno, ha, fun dx hd hne => kk dx hd hne⟩⟩⟩⟩⟩⟩

theorem sc_InvalidTime_init : FnScope ["self", "time"] ["self", "time"] (defScope s_InvalidTime_init) := ⟨rfl, rfl, rfl, by decide +kernel, rfl, by decide +kernel, by decide +kernel⟩


theorem ok_InvalidTime_init (T : Top K mg CS) : OkE P w K mg base "InvalidTime" CS.xt 1 "InvalidTime.__init__" s_InvalidTime_init ["self", "time"] (sp_fieldO K CS.xt "time") := by
  refine OkE.of T.f_InvalidTime_init sc_InvalidTime_init (fun _ _ _ _ _ _ us hl => match us, hl with | [_, _], _ => rfl) (fun vs H Q E h => ?_) (fun f cdv A outer s H vs Q E hr h => ?_)
  · obtain ⟨a, o, rfl, _⟩ := h
    rfl
  · obtain ⟨a, o, rfl, ho, ha, hC, hno, kk⟩ := h
    obtain ⟨S, hS, hR, hV⟩ := T.xb_SnapError
    refine ⟨_, pss_cons (ps_expr (Ke.pe_base rfl hS hR hV (pa_cons (pv 0) (pa_cons (pe_joined (.cons pe_str (.cons (pe_fmtO (room_units hr) (pv 1)) .nil))) pa_nil)))) (pss_one (Ke.ps_first (pv 0) (pv 1))), ?_⟩
    exact ⟨_, rfl, ⟨_, rfl, by decide +kernel, ⟨_, rfl, o, rfl, ho, fun y hy => ⟨_, rfl, joined_le hy, ⟨a, CS.xt, [_], rfl, by simp, hC, ha, ⟨_, rfl, _, rfl, a, CS.xt, rfl, hC, hno, ha, fun dx hd hne => kk dx hd hne⟩⟩⟩⟩⟩⟩

theorem sc_InvalidArchive_init : FnScope ["self", "part", "at"] ["self", "part", "at"] (defScope s_InvalidArchive_init) := ⟨rfl, rfl, rfl, by decide +kernel, rfl, by decide +kernel, by decide +kernel⟩


theorem ok_InvalidArchive_init (T : Top K mg CS) : OkE P w K mg base "InvalidArchive" CS.xa 1 "InvalidArchive.__init__" s_InvalidArchive_init ["self", "part", "at"] (sp_fieldP K CS.xa "part" "at") := by
  refine OkE.of T.f_InvalidArchive_init sc_InvalidArchive_init (fun _ _ _ _ _ _ us hl => match us, hl with | [_, _, _], _ => rfl) (fun vs H Q E h => ?_) (fun f cdv A outer s H vs Q E hr h => ?_)
  · obtain ⟨a, o1, o2, rfl, _⟩ := h
    rfl
  · obtain ⟨a, o1, o2, rfl, ho1, ho2, ha, hC, hno, hno2, kk⟩ := h
    obtain ⟨S, hS, hR, hV⟩ := T.xb_SnapError
    refine ⟨_, pss_cons (ps_expr (Ke.pe_base rfl hS hR hV (pa_cons (pv 0) (pa_cons (pe_joined (.cons pe_str (.cons (pe_fmtO (room_units hr) (pv 1)) (.cons pe_str (.cons (pe_fmtO (room_units hr) (pv 2)) .nil))))) pa_nil)))) (pss_cons (Ke.ps_first (pv 0) (pv 1)) (pss_one (Ke.ps_next (pv 0) (pv 2)))), ?_⟩
    exact ⟨_, rfl, ⟨_, rfl, by decide +kernel, ⟨_, rfl, o1, rfl, ho1, fun y hy => ⟨_, rfl, joined_le hy, ⟨_, rfl, joined_le3 hy, ⟨_, rfl, o2, rfl, ho2, fun z hz => ⟨_, rfl, joined_le2 hy hz, ⟨a, CS.xa, [_], rfl, by simp, hC, ha, ⟨_, rfl, _, rfl, a, CS.xa, rfl, hC, hno, ha, fun dx hd hne => ⟨_, rfl, _, rfl, a, CS.xa, dx, _, rfl, hC, hno2, upd_same, (upd_ne hne).trans upd_same, Nat.le_trans (Nat.le_refl 1) (by decide), by rw [upd_two hne]; exact kk dx hd hne⟩⟩⟩⟩⟩⟩⟩⟩⟩⟩

theorem sc_InvalidBound_init : FnScope ["self", "part"] ["self", "part"] (defScope s_InvalidBound_init) := ⟨rfl, rfl, rfl, by decide +kernel, rfl, by decide +kernel, by decide +kernel⟩


theorem ok_InvalidBound_init (T : Top K mg CS) : OkE P w K mg base "InvalidBound" CS.xb 1 "InvalidBound.__init__" s_InvalidBound_init ["self", "part"] (sp_fieldO K CS.xb "part") := by
  refine OkE.of T.f_InvalidBound_init sc_InvalidBound_init (fun _ _ _ _ _ _ us hl => match us, hl with | [_, _], _ => rfl) (fun vs H Q E h => ?_) (fun f cdv A outer s H vs Q E hr h => ?_)
  · obtain ⟨a, o, rfl, _⟩ := h
    rfl
  · obtain ⟨a, o, rfl, ho, ha, hC, hno, kk⟩ := h
    obtain ⟨S, hS, hR, hV⟩ := T.xb_SnapError
    refine ⟨_, pss_cons (ps_expr (Ke.pe_base rfl hS hR hV (pa_cons (pv 0) (pa_cons (pe_joined (.cons pe_str (.cons (pe_fmtO (room_units hr) (pv 1)) .nil))) pa_nil)))) (pss_one (Ke.ps_first (pv 0) (pv 1))), ?_⟩
    exact ⟨_, rfl, ⟨_, rfl, by decide +kernel, ⟨_, rfl, o, rfl, ho, fun y hy => ⟨_, rfl, joined_le hy, ⟨a, CS.xb, [_], rfl, by simp, hC, ha, ⟨_, rfl, _, rfl, a, CS.xb, rfl, hC, hno, ha, fun dx hd hne => kk dx hd hne⟩⟩⟩⟩⟩⟩

theorem sc_LimitExceeded_init : FnScope ["self", "limit"] ["self", "limit"] (defScope s_LimitExceeded_init) := ⟨rfl, rfl, rfl, by decide +kernel, rfl, by decide +kernel, by decide +kernel⟩


theorem ok_LimitExceeded_init (T : Top K mg CS) : OkE P w K mg base "LimitExceeded" CS.xl 1 "LimitExceeded.__init__" s_LimitExceeded_init ["self", "limit"] (sp_fieldO K CS.xl "limit") := by
  refine OkE.of T.f_LimitExceeded_init sc_LimitExceeded_init (fun _ _ _ _ _ _ us hl => match us, hl with | [_, _], _ => rfl) (fun vs H Q E h => ?_) (fun f cdv A outer s H vs Q E hr h => ?_)
  · obtain ⟨a, o, rfl, _⟩ := h
    rfl
  · obtain ⟨a, o, rfl, ho, ha, hC, hno, kk⟩ := h
    obtain ⟨S, hS, hR, hV⟩ := T.xb_SnapError
    refine ⟨_, pss_cons (ps_expr (Ke.pe_base rfl hS hR hV (pa_cons (pv 0) (pa_cons (pe_joined (.cons pe_str (.cons (pe_fmtO (room_units hr) (pv 1)) .nil))) pa_nil)))) (pss_one (Ke.ps_first (pv 0) (pv 1))), ?_⟩
    exact ⟨_, rfl, ⟨_, rfl, by decide +kernel, ⟨_, rfl, o, rfl, ho, fun y hy => ⟨_, rfl, joined_le hy, ⟨a, CS.xl, [_], rfl, by simp, hC, ha, ⟨_, rfl, _, rfl, a, CS.xl, rfl, hC, hno, ha, fun dx hd hne => kk dx hd hne⟩⟩⟩⟩⟩⟩

theorem sc__law_classes : FnScope ["_law_e", "_law_some", "_law_k", "_law_mark"] ["_law_e"] (defScope s__law_classes) := ⟨rfl, rfl, rfl, by decide +kernel, rfl, by decide +kernel, by decide +kernel⟩

/-- the classes, by their place -/
def clsX (CS : Cs) : Nat → Addr
  | 0 => CS.xs
  | 1 => CS.xn
  | 2 => CS.xt
  | 3 => CS.xa
  | 4 => CS.xb
  | _ => CS.xl

theorem ec_all {CS : Cs} (T : Top K mg CS) {k : Nat} (hk : k < 6) : ExcC K (clsX CS k) := by
  rcases (show k = 0 ∨ k = 1 ∨ k = 2 ∨ k = 3 ∨ k = 4 ∨ k = 5 by omega) with rfl | rfl | rfl | rfl | rfl | rfl
  · exact T.ec_InvalidScheme
  · exact T.ec_InvalidNumber
  · exact T.ec_InvalidTime
  · exact T.ec_InvalidArchive
  · exact T.ec_InvalidBound
  · exact T.ec_LimitExceeded
theorem ki_all {CS : Cs} (T : Top K mg CS) {k j : Nat} (hk : k < 6) (hj : j < 6) : PySem.W.kitOne K (.ref (clsX CS k)) (.ref (clsX CS j)) = some (decide (k = j)) := by
  rcases (show k = 0 ∨ k = 1 ∨ k = 2 ∨ k = 3 ∨ k = 4 ∨ k = 5 by omega) with rfl | rfl | rfl | rfl | rfl | rfl <;> rcases (show j = 0 ∨ j = 1 ∨ j = 2 ∨ j = 3 ∨ j = 4 ∨ j = 5 by omega) with rfl | rfl | rfl | rfl | rfl | rfl
  · exact T.ki_InvalidScheme_InvalidScheme
  · exact T.ki_InvalidScheme_InvalidNumber
  · exact T.ki_InvalidScheme_InvalidTime
  · exact T.ki_InvalidScheme_InvalidArchive
  · exact T.ki_InvalidScheme_InvalidBound
  · exact T.ki_InvalidScheme_LimitExceeded
  · exact T.ki_InvalidNumber_InvalidScheme
  · exact T.ki_InvalidNumber_InvalidNumber
  · exact T.ki_InvalidNumber_InvalidTime
  · exact T.ki_InvalidNumber_InvalidArchive
  · exact T.ki_InvalidNumber_InvalidBound
  · exact T.ki_InvalidNumber_LimitExceeded
  · exact T.ki_InvalidTime_InvalidScheme
  · exact T.ki_InvalidTime_InvalidNumber
  · exact T.ki_InvalidTime_InvalidTime
  · exact T.ki_InvalidTime_InvalidArchive
  · exact T.ki_InvalidTime_InvalidBound
  · exact T.ki_InvalidTime_LimitExceeded
  · exact T.ki_InvalidArchive_InvalidScheme
  · exact T.ki_InvalidArchive_InvalidNumber
  · exact T.ki_InvalidArchive_InvalidTime
  · exact T.ki_InvalidArchive_InvalidArchive
  · exact T.ki_InvalidArchive_InvalidBound
  · exact T.ki_InvalidArchive_LimitExceeded
  · exact T.ki_InvalidBound_InvalidScheme
  · exact T.ki_InvalidBound_InvalidNumber
  · exact T.ki_InvalidBound_InvalidTime
  · exact T.ki_InvalidBound_InvalidArchive
  · exact T.ki_InvalidBound_InvalidBound
  · exact T.ki_InvalidBound_LimitExceeded
  · exact T.ki_LimitExceeded_InvalidScheme
  · exact T.ki_LimitExceeded_InvalidNumber
  · exact T.ki_LimitExceeded_InvalidTime
  · exact T.ki_LimitExceeded_InvalidArchive
  · exact T.ki_LimitExceeded_InvalidBound
  · exact T.ki_LimitExceeded_LimitExceeded
theorem lst_k {k : Nat} (hk : k < 6) : ((([decide (k = 0), decide (k = 1), decide (k = 2), decide (k = 3), decide (k = 4), decide (k = 5)] : List Bool).zipIdx.filter fun x => x.1).map fun x => ((x.2 : Nat) : Int)) = [(k : Int)] := by
  rcases (show k = 0 ∨ k = 1 ∨ k = 2 ∨ k = 3 ∨ k = 4 ∨ k = 5 by omega) with rfl | rfl | rfl | rfl | rfl | rfl <;> rfl
def sp__law_classes (CS : Cs) : Sp := fun vs H Q _ => ∃ (a d : Addr) (fs : List (Str × V)) (k : Nat), vs = [.ref a] ∧ k < 6 ∧ Xat H a (clsX CS k) d fs ∧ ∀ (p : Addr) (H' : Hp), H p = none → Same H H' → H' p = some (.lst [.int (k : Int)]) → Q (.ref p) H'
theorem wc__law_classes {CS : Cs} {g : Gr} {L : Led} {C : V → Led → Prop} {E : XK} {a d : Addr} {fs : List (Str × V)} (k : Nat) (hk : k < 6) (hX : ∀ H, At g L H → Xat H a (clsX CS k) d fs) (c : ∀ p : Addr, C (.ref p) (L ++ [(p, .ob (.lst [.int (k : Int)]), true)])) : Wp g L (fun H Q => sp__law_classes CS [.ref a] H Q E) C := fun H z Q q => ⟨a, d, fs, k, rfl, hk, hX H z, fun p H' n s' hp => q _ _ _ (c p) (z.new s' n hp)⟩

theorem ok__law_classes (T : Top K mg CS) : Ok P w K mg base 1 "_law_classes" s__law_classes ["_law_e"] (sp__law_classes CS) := by
  refine Ok.of T.f__law_classes sc__law_classes (fun _ _ _ _ _ _ us hl => match us, hl with | [_], _ => rfl) (fun vs H Q E h => ?_) (fun f cdv A outer s H vs Q E hr h => ?_)
  · obtain ⟨a, d, fs, k, rfl, _⟩ := h
    rfl
  · obtain ⟨a, d, fs, k, rfl, hk, hx, kk⟩ := h
    have hec : ExcC K (clsX CS k) := ec_all T hk
    have hkk : ∀ j, j < 6 → PySem.W.kitOne K (.ref (clsX CS k)) (.ref (clsX CS j)) = some (decide (k = j)) := fun j hj => ki_all T hk hj
    have hX : ∀ (L : Led) (H1 : Hp), At ⟨H, fun _ => False⟩ L H1 → Xat H1 a (clsX CS k) d fs := fun L H1 z => ⟨z.old _ _ hx.1 (fun q => q), z.old _ _ hx.2 (fun q => q)⟩
    refine ⟨_, (pss_cons (ps_set (i := 1) sc__law_classes.nd rfl (Or.inl rfl) (pe_lst (pa_cons (pe_callB call_isiE (by rfl) T.b_isinstance (by decide +kernel) (pa_cons (pv 0) (pa_cons (pe_cls (by rfl) T.m_InvalidScheme) pa_nil))) (pa_cons (pe_callB call_isiE (by rfl) T.b_isinstance (by decide +kernel) (pa_cons (pv 0) (pa_cons (pe_cls (by rfl) T.m_InvalidNumber) pa_nil))) (pa_cons (pe_callB call_isiE (by rfl) T.b_isinstance (by decide +kernel) (pa_cons (pv 0) (pa_cons (pe_cls (by rfl) T.m_InvalidTime) pa_nil))) pa_nil)))))
      (pss_cons (ps_set (i := 1) sc__law_classes.nd rfl (Or.inl rfl) (pe_op op_cat (pv 1) (pe_lst (pa_cons (pe_callB call_isiE (by rfl) T.b_isinstance (by decide +kernel) (pa_cons (pv 0) (pa_cons (pe_cls (by rfl) T.m_InvalidArchive) pa_nil))) (pa_cons (pe_callB call_isiE (by rfl) T.b_isinstance (by decide +kernel) (pa_cons (pv 0) (pa_cons (pe_cls (by rfl) T.m_InvalidBound) pa_nil))) (pa_cons (pe_callB call_isiE (by rfl) T.b_isinstance (by decide +kernel) (pa_cons (pv 0) (pa_cons (pe_cls (by rfl) T.m_LimitExceeded) pa_nil))) pa_nil))))))
      (pss_one (ps_ret (pe_lc (own := [("_law_k", 2), ("_law_mark", 3)]) rfl sc__law_classes.nd (pi_enum (by rfl) T.b_enumerate (pa_cons (pv 1) pa_nil)) (blkOk_by (N := ["_law_e", "_law_some", "_law_k", "_law_mark"]) (sc := defScope s__law_classes) (by decide +kernel)) (fun _ _ _ _ _ => (pg_tupK (Kf := K) (n := 2) rfl rfl (pgs_cons (pg_name (i := 2) sc__law_classes.nd rfl (Or.inl rfl)) (pgs_cons (pg_name (i := 3) sc__law_classes.nd rfl (Or.inl rfl)) pgs_nil)) rfl)) (fun _ _ _ _ _ => (pts_one (pt_val (pv 3)))) (fun _ _ _ _ _ => (pv 2))))))), ?_⟩
    refine run_ws (σ := [some (.ref a), none, none, none]) (g := ⟨H, fun _ => False⟩) (K := kN (.lst [.int (k : Int)])) (L := []) ?_ at_nil (eo_N fun p H1 n s1 hp => kk p H1 n s1 hp)
    refine ws_seq ?_
    refine ws_set ?_
    refine wp_lst ?_
    refine wa_cons ?_
    refine wp_cb ?_
    refine wa_cons ?_
    refine wp_var rfl ?_
    refine wa_cons ?_
    refine wp_c ?_
    refine wa_nil ?_
    refine wc_isiE hec (hX _) (.own (clsX CS 0)) (hkk 0 (by decide)) ?_
    refine wa_cons ?_
    refine wp_cb ?_
    refine wa_cons ?_
    refine wp_var rfl ?_
    refine wa_cons ?_
    refine wp_c ?_
    refine wa_nil ?_
    refine wc_isiE hec (hX _) (.own (clsX CS 1)) (hkk 1 (by decide)) ?_
    refine wa_cons ?_
    refine wp_cb ?_
    refine wa_cons ?_
    refine wp_var rfl ?_
    refine wa_cons ?_
    refine wp_c ?_
    refine wa_nil ?_
    refine wc_isiE hec (hX _) (.own (clsX CS 2)) (hkk 2 (by decide)) ?_
    refine wa_nil ?_
    refine ⟨by simp, fun p1 => ?_⟩
    refine ws_seq ?_
    refine ws_set ?_
    refine wp_op ?_
    refine wp_var rfl ?_
    refine wp_lst ?_
    refine wa_cons ?_
    refine wp_cb ?_
    refine wa_cons ?_
    refine wp_var rfl ?_
    refine wa_cons ?_
    refine wp_c ?_
    refine wa_nil ?_
    refine wc_isiE hec (hX _) (.own (clsX CS 3)) (hkk 3 (by decide)) ?_
    refine wa_cons ?_
    refine wp_cb ?_
    refine wa_cons ?_
    refine wp_var rfl ?_
    refine wa_cons ?_
    refine wp_c ?_
    refine wa_nil ?_
    refine wc_isiE hec (hX _) (.own (clsX CS 4)) (hkk 4 (by decide)) ?_
    refine wa_cons ?_
    refine wp_cb ?_
    refine wa_cons ?_
    refine wp_var rfl ?_
    refine wa_cons ?_
    refine wp_c ?_
    refine wa_nil ?_
    refine wc_isiE hec (hX _) (.own (clsX CS 5)) (hkk 5 (by decide)) ?_
    refine wa_nil ?_
    refine ⟨by simp, fun p2 => ?_⟩
    refine wr_cat 0 1 rfl rfl (by simp) ?_
    intro p3
    refine ws_ret ?_
    refine wp_lc ?_
    refine wi_enum ?_
    refine wa_cons ?_
    refine wp_var rfl ?_
    refine wa_nil ?_
    refine ⟨_, _, rfl, (seen 2 rfl), ?_⟩
    refine lc_V V.int (fun x : Bool × Nat => x.1) (fun x => (x.2 : Int)) (iter_enum 2 3 V.bl (xs := [decide (k = 0), decide (k = 1), decide (k = 2), decide (k = 3), decide (k = 4), decide (k = 5)]) (seen 2 rfl)) (fun _ => rfl) (by simp) ?_ ?_
    · rintro ⟨v, i⟩ hx D acc
      refine wt_B ?_
      refine wp_var rfl ?_
      refine ⟨_, rfl, ?_⟩
      refine ⟨rfl, ?_⟩
      refine ifB (fun hc => ?_) (fun hc => ?_)
      · refine wp_var rfl ?_
        exact ⟨rfl, by first | exact List.prefix_refl _ | exact ⟨_, rfl⟩⟩
      · first | exact List.prefix_refl _ | exact ⟨_, rfl⟩
    intro p4
    have e6 := lst_k hk
    exact ⟨p4, 3, rfl, congrArg (fun l : List Int => some (p4, Ent.ob (.lst (l.map V.int)), true)) e6⟩

theorem sc__law_made_by_hand : FnScope ["_law_value_here", "_law_every", "_law_fields", "_law_named", "_law_e", "_law_k"] ["_law_value_here"] (defScope s__law_made_by_hand) := ⟨rfl, rfl, rfl, by decide +kernel, rfl, by decide +kernel, by decide +kernel⟩
def sp__law_made_by_hand (CS : Cs) : Sp := fun vs H Q _ => ∃ (n : Int), (vs = [.int n]) ∧ (0 ≤ n ∧ n < 1000) ∧ ∀ (H' : Hp), Same H H' → Q (.bl true) H'
theorem wc__law_made_by_hand {CS : Cs} {g : Gr} {L : Led} {C : V → Led → Prop} {E : XK} {n : Int} (hpre : 0 ≤ n ∧ n < 1000) (c : C (.bl true) L) : Wp g L (fun H Q => sp__law_made_by_hand CS [.int n] H Q E) C := fun H z Q q => ⟨n, rfl, hpre, fun H' s' => q _ _ _ (c) (z.same s')⟩
theorem sh_mix (n : Int) : SeqAt.shaped (PyData.list [.str "base", .int n, .int n, .str "full", .int n, .str "age"]) = true := by
  unfold SeqAt.shaped
  rw [Bool.and_eq_true]
  refine ⟨?_, rfl⟩
  have h1 : PyData.strOk "base" = true := strOk_of _
  have h2 : PyData.strOk "full" = true := strOk_of _
  have h3 : PyData.strOk "age" = true := strOk_of _
  simp [PyData.canLay0, PyData.canLayAll0, h1, h2, h3]

theorem ok__law_made_by_hand (T : Top K mg CS) : Ok P w K mg base 3 "_law_made_by_hand" s__law_made_by_hand ["_law_value_here"] (sp__law_made_by_hand CS) := by
  refine Ok.of T.f__law_made_by_hand sc__law_made_by_hand (fun _ _ _ _ _ _ us hl => match us, hl with | [_], _ => rfl) (fun vs H Q E h => ?_) (fun f cdv A outer s H vs Q E hr h => ?_)
  · obtain ⟨n, rfl, _⟩ := h
    rfl
  · obtain ⟨n, rfl, hpre, kk⟩ := h
    refine ⟨_, (pss_cons (ps_set (i := 1) sc__law_made_by_hand.nd rfl (Or.inl rfl) (pe_lst (pa_cons (pe_mkX (n := 1) (ok_InvalidScheme_init T) (hr.mono (by decide)) rfl (by decide) rfl (pa_cons pe_str pa_nil)) (pa_cons (pe_mkX (n := 1) (ok_InvalidNumber_init T) (hr.mono (by decide)) rfl (by decide) rfl (pa_cons (pv 0) pa_nil)) (pa_cons (pe_mkX (n := 1) (ok_InvalidTime_init T) (hr.mono (by decide)) rfl (by decide) rfl (pa_cons (pv 0) pa_nil)) pa_nil)))))
      (pss_cons (ps_set (i := 1) sc__law_made_by_hand.nd rfl (Or.inl rfl) (pe_op op_cat (pv 1) (pe_lst (pa_cons (pe_mkX (n := 2) (ok_InvalidArchive_init T) (hr.mono (by decide)) rfl (by decide) rfl (pa_cons pe_str (pa_cons (pv 0) pa_nil))) pa_nil))))
      (pss_cons (ps_set (i := 1) sc__law_made_by_hand.nd rfl (Or.inl rfl) (pe_op op_cat (pv 1) (pe_lst (pa_cons (pe_mkX (n := 1) (ok_InvalidBound_init T) (hr.mono (by decide)) rfl (by decide) rfl (pa_cons pe_str pa_nil)) (pa_cons (pe_mkX (n := 1) (ok_LimitExceeded_init T) (hr.mono (by decide)) rfl (by decide) rfl (pa_cons (pv 0) pa_nil)) pa_nil)))))
      (pss_cons (ps_if (pt_cmpR (op_neD hr.units) (pe_lc (own := [("_law_e", 4)]) rfl sc__law_made_by_hand.nd (pi_list (pv 1)) (blkOk_by (N := ["_law_value_here", "_law_every", "_law_fields", "_law_named", "_law_e", "_law_k"]) (sc := defScope s__law_made_by_hand) (by decide +kernel)) (fun _ _ _ _ _ => (pg_name (i := 4) sc__law_made_by_hand.nd rfl (Or.inl rfl))) (fun _ _ _ _ _ => pts_nil) (fun _ _ _ _ _ => (pe_own (ok__law_classes T) (hr.mono (by decide)) rfl (pa_cons (pv 4) pa_nil)))) (pe_lc (own := [("_law_k", 5)]) rfl sc__law_made_by_hand.nd (pi_rangeW1 rfl T.b_range (pa_cons pe_int pa_nil)) (blkOk_by (N := ["_law_value_here", "_law_every", "_law_fields", "_law_named", "_law_e", "_law_k"]) (sc := defScope s__law_made_by_hand) (by decide +kernel)) (fun _ _ _ _ _ => (pg_name (i := 5) sc__law_made_by_hand.nd rfl (Or.inl rfl))) (fun _ _ _ _ _ => pts_nil) (fun _ _ _ _ _ => (pe_lst (pa_cons (pv 5) pa_nil)))) (nomark _)) (pss_one (ps_ret pe_bl)) pss_nil)
      (pss_cons (ps_if (pt_not (pt_val (pe_callB (cr_all rfl) (by rfl) T.b_all (by decide +kernel) (pa_cons (pe_lc (own := [("_law_e", 4)]) rfl sc__law_made_by_hand.nd (pi_list (pv 1)) (blkOk_by (N := ["_law_value_here", "_law_every", "_law_fields", "_law_named", "_law_e", "_law_k"]) (sc := defScope s__law_made_by_hand) (by decide +kernel)) (fun _ _ _ _ _ => (pg_name (i := 4) sc__law_made_by_hand.nd rfl (Or.inl rfl))) (fun _ _ _ _ _ => pts_nil) (fun _ _ _ _ _ => (pe_and (pe_callB (call_isiEK (Kf := K) rfl) (by rfl) T.b_isinstance (by decide +kernel) (pa_cons (pv 4) (pa_cons (pe_cls rfl T.m_SnapError) pa_nil))) (pe_one (pe_callB (call_isiEK (Kf := K) rfl) (by rfl) T.b_isinstance (by decide +kernel) (pa_cons (pv 4) (pa_cons (pe_tyA (by rfl) T.b_ArithmeticError) pa_nil))))))) pa_nil)))) (pss_one (ps_ret pe_bl)) pss_nil)
      (pss_cons (ps_set (i := 2) sc__law_made_by_hand.nd rfl (Or.inl rfl) (pe_lst (pa_cons (pe_xa (pe_ix ix_list (pv 1) pe_int (fun _ _ => rfl))) (pa_cons (pe_xa (pe_ix ix_list (pv 1) pe_int (fun _ _ => rfl))) (pa_cons (pe_xa (pe_ix ix_list (pv 1) pe_int (fun _ _ => rfl))) (pa_cons (pe_xa (pe_ix ix_list (pv 1) pe_int (fun _ _ => rfl))) (pa_cons (pe_xa (pe_ix ix_list (pv 1) pe_int (fun _ _ => rfl))) (pa_cons (pe_xa (pe_ix ix_list (pv 1) pe_int (fun _ _ => rfl))) pa_nil))))))))
      (pss_cons (ps_if (pt_cmpR (op_neD hr.units) (pv 2) (pe_lst (pa_cons pe_str (pa_cons (pv 0) (pa_cons (pv 0) (pa_cons pe_str (pa_cons (pv 0) (pa_cons pe_str pa_nil))))))) (nomark _)) (pss_one (ps_ret pe_bl)) pss_nil)
      (pss_cons (ps_set (i := 3) sc__law_made_by_hand.nd rfl (Or.inl rfl) (pe_lst (pa_cons (pe_xa (pe_mkXK (ks := ["part"]) [0] (ok_InvalidScheme_init T) (hr.mono (by decide)) rfl (pk_cons (pv 0) pk_nil) (fun _ _ _ _ _ _ _ ws hl => match ws, hl with | [_], _ => rfl))) (pa_cons (pe_xa (pe_mkXK (ks := ["number"]) [0] (ok_InvalidNumber_init T) (hr.mono (by decide)) rfl (pk_cons (pv 0) pk_nil) (fun _ _ _ _ _ _ _ ws hl => match ws, hl with | [_], _ => rfl))) pa_nil))))
      (pss_cons (ps_set (i := 3) sc__law_made_by_hand.nd rfl (Or.inl rfl) (pe_op op_cat (pv 3) (pe_lst (pa_cons (pe_xa (pe_mkXK (ks := ["time"]) [0] (ok_InvalidTime_init T) (hr.mono (by decide)) rfl (pk_cons (pv 0) pk_nil) (fun _ _ _ _ _ _ _ ws hl => match ws, hl with | [_], _ => rfl))) pa_nil))))
      (pss_cons (ps_set (i := 3) sc__law_made_by_hand.nd rfl (Or.inl rfl) (pe_op op_cat (pv 3) (pe_lst (pa_cons (pe_xa (pe_mkXK (ks := ["at", "part"]) [1, 0] (ok_InvalidArchive_init T) (hr.mono (by decide)) rfl (pk_cons (pv 0) (pk_cons pe_str pk_nil)) (fun _ _ _ _ _ _ _ ws hl => match ws, hl with | [_, _], _ => rfl))) (pa_cons (pe_xa (pe_mkXK (ks := ["part"]) [0] (ok_InvalidBound_init T) (hr.mono (by decide)) rfl (pk_cons (pv 0) pk_nil) (fun _ _ _ _ _ _ _ ws hl => match ws, hl with | [_], _ => rfl))) pa_nil)))))
      (pss_one (ps_ret (pe_cmpR (op_eqD hr.units) (pe_op op_cat (pv 3) (pe_lst (pa_cons (pe_xa (pe_mkXK (ks := ["limit"]) [0] (ok_LimitExceeded_init T) (hr.mono (by decide)) rfl (pk_cons (pv 0) pk_nil) (fun _ _ _ _ _ _ _ ws hl => match ws, hl with | [_], _ => rfl))) (pa_cons (pe_xa (pe_ix ix_list (pv 1) pe_int (fun _ _ => rfl))) pa_nil)))) (pe_op op_rep (pe_lst (pa_cons (pv 0) pa_nil)) pe_int) (nomark _)))))))))))))), ?_⟩
    refine run_ws (σ := [some (.int n), none, none, none, none, none]) (K := kV (fun v => v = (.bl true))) (L := []) ?_ at_nil (eo_V fun v H' e s' => e ▸ kk H' s')
    refine ws_seq ?_
    refine ws_set ?_
    refine wp_lst ?_
    refine wa_cons ?_
    refine wp_mkE T.f_InvalidScheme_init.cls T.xo_InvalidScheme ?_
    refine wa_cons ?_
    refine wp_c ?_
    refine wa_nil ?_
    refine wa_nil ?_
    refine ⟨rfl, rfl, (.lit "base"), fun _ => rfl, fun _ _ => trivial, fun d0 a0 => ?_⟩
    refine wa_cons ?_
    refine wp_mkE T.f_InvalidNumber_init.cls T.xo_InvalidNumber ?_
    refine wa_cons ?_
    refine wp_var rfl ?_
    refine wa_nil ?_
    refine wa_nil ?_
    refine ⟨rfl, rfl, (.num _), fun _ => rfl, fun _ _ => log_small (by omega), fun d2 a2 => ?_⟩
    refine wa_cons ?_
    refine wp_mkE T.f_InvalidTime_init.cls T.xo_InvalidTime ?_
    refine wa_cons ?_
    refine wp_var rfl ?_
    refine wa_nil ?_
    refine wa_nil ?_
    refine ⟨rfl, rfl, (.num _), fun _ => rfl, fun _ _ => log_small (by omega), fun d4 a4 => ?_⟩
    refine wa_nil ?_
    refine ⟨by simp, fun p1 => ?_⟩
    refine ws_nf (σ' := [_, _, _, _, _, _]) (L' := [_, _, _, _, _, _, _]) rfl rfl ?_
    refine ws_seq ?_
    refine ws_set ?_
    refine wp_op ?_
    refine wp_var rfl ?_
    refine wp_lst ?_
    refine wa_cons ?_
    refine wp_mkE2 T.f_InvalidArchive_init.cls T.xo_InvalidArchive T.xo2_InvalidArchive ?_
    refine wa_cons ?_
    refine wp_c ?_
    refine wa_cons ?_
    refine wp_var rfl ?_
    refine wa_nil ?_
    refine wa_nil ?_
    refine ⟨rfl, rfl, (.lit "full"), (.num _), fun _ => rfl, fun _ _ => trivial, fun _ _ => log_small (by omega), fun d7 a7 => ?_⟩
    refine wa_nil ?_
    refine ⟨by simp, fun p2 => ?_⟩
    refine wr_catL (zs := [_, _, _, _]) 6 9 rfl rfl rfl (by simp) ?_
    intro p3
    refine ws_nf (σ' := [_, _, _, _, _, _]) (L' := [_, _, _, _, _, _, _, _, _, _, _]) rfl rfl ?_
    refine ws_seq ?_
    refine ws_set ?_
    refine wp_op ?_
    refine wp_var rfl ?_
    refine wp_lst ?_
    refine wa_cons ?_
    refine wp_mkE T.f_InvalidBound_init.cls T.xo_InvalidBound ?_
    refine wa_cons ?_
    refine wp_c ?_
    refine wa_nil ?_
    refine wa_nil ?_
    refine ⟨rfl, rfl, (.lit "age"), fun _ => rfl, fun _ _ => trivial, fun d11 a11 => ?_⟩
    refine wp_nf (L' := [_, _, _, _, _, _, _, _, _, _, _, _, _]) rfl ?_
    refine wa_cons ?_
    refine wp_mkE T.f_LimitExceeded_init.cls T.xo_LimitExceeded ?_
    refine wa_cons ?_
    refine wp_var rfl ?_
    refine wa_nil ?_
    refine wa_nil ?_
    refine ⟨rfl, rfl, (.num _), fun _ => rfl, fun _ _ => log_small (by omega), fun d13 a13 => ?_⟩
    refine wa_nil ?_
    refine ⟨by simp, fun p4 => ?_⟩
    refine wp_nf (L' := [_, _, _, _, _, _, _, _, _, _, _, _, _, _, _, _]) rfl ?_
    refine wr_catL (zs := [_, _, _, _, _, _]) 10 15 rfl rfl rfl (by simp) ?_
    intro p5
    refine ws_nf (σ' := [_, _, _, _, _, _]) (L' := [_, _, _, _, _, _, _, _, _, _, _, _, _, _, _, _, _]) rfl rfl ?_
    refine ws_seq ?_
    refine ws_if ?_
    refine wt_test ?_
    refine wp_op ?_
    refine wp_lc ?_
    refine wi_list ?_
    refine wp_var rfl ?_
    refine ⟨_, _, rfl, (seen 16 rfl), ?_⟩
    refine lc_U (iter_listV (seen 16 rfl)) (fun _ => rfl) (fun D17 => ?_)
    refine un_cons (iter_listV (seen 16 rfl)) ?_
    refine wt_yes ?_
    refine ifT rfl ?_
    refine wp_call ?_
    refine wp_nf (L' := [_, _, _, _, _, _, _, _, _, _, _, _, _, _, _, _, _, _]) rfl ?_
    refine wa_cons ?_
    refine wp_var rfl ?_
    refine wa_nil ?_
    refine wc__law_classes 0 (by decide) (fun H_ z_ => ⟨z_.get (i := 1) rfl, z_.get (i := 0) rfl⟩) ?_
    intro p6
    refine ⟨rfl, by simp, ?_⟩
    refine un_nf (acc' := [_]) (L' := [_, _, _, _, _, _, _, _, _, _, _, _, _, _, _, _, _, _, _]) rfl rfl ?_
    refine un_cons (iter_listV (seen 16 rfl)) ?_
    refine wt_yes ?_
    refine ifT rfl ?_
    refine wp_call ?_
    refine wp_nf (L' := [_, _, _, _, _, _, _, _, _, _, _, _, _, _, _, _, _, _, _]) rfl ?_
    refine wa_cons ?_
    refine wp_var rfl ?_
    refine wa_nil ?_
    refine wc__law_classes 1 (by decide) (fun H_ z_ => ⟨z_.get (i := 3) rfl, z_.get (i := 2) rfl⟩) ?_
    intro p7
    refine ⟨rfl, by simp, ?_⟩
    refine un_nf (acc' := [_, _]) (L' := [_, _, _, _, _, _, _, _, _, _, _, _, _, _, _, _, _, _, _, _]) rfl rfl ?_
    refine un_cons (iter_listV (seen 16 rfl)) ?_
    refine wt_yes ?_
    refine ifT rfl ?_
    refine wp_call ?_
    refine wp_nf (L' := [_, _, _, _, _, _, _, _, _, _, _, _, _, _, _, _, _, _, _, _]) rfl ?_
    refine wa_cons ?_
    refine wp_var rfl ?_
    refine wa_nil ?_
    refine wc__law_classes 2 (by decide) (fun H_ z_ => ⟨z_.get (i := 5) rfl, z_.get (i := 4) rfl⟩) ?_
    intro p8
    refine ⟨rfl, by simp, ?_⟩
    refine un_nf (acc' := [_, _, _]) (L' := [_, _, _, _, _, _, _, _, _, _, _, _, _, _, _, _, _, _, _, _, _]) rfl rfl ?_
    refine un_cons (iter_listV (seen 16 rfl)) ?_
    refine wt_yes ?_
    refine ifT rfl ?_
    refine wp_call ?_
    refine wp_nf (L' := [_, _, _, _, _, _, _, _, _, _, _, _, _, _, _, _, _, _, _, _, _]) rfl ?_
    refine wa_cons ?_
    refine wp_var rfl ?_
    refine wa_nil ?_
    refine wc__law_classes 3 (by decide) (fun H_ z_ => ⟨z_.get (i := 8) rfl, z_.get (i := 7) rfl⟩) ?_
    intro p9
    refine ⟨rfl, by simp, ?_⟩
    refine un_nf (acc' := [_, _, _, _]) (L' := [_, _, _, _, _, _, _, _, _, _, _, _, _, _, _, _, _, _, _, _, _, _]) rfl rfl ?_
    refine un_cons (iter_listV (seen 16 rfl)) ?_
    refine wt_yes ?_
    refine ifT rfl ?_
    refine wp_call ?_
    refine wp_nf (L' := [_, _, _, _, _, _, _, _, _, _, _, _, _, _, _, _, _, _, _, _, _, _]) rfl ?_
    refine wa_cons ?_
    refine wp_var rfl ?_
    refine wa_nil ?_
    refine wc__law_classes 4 (by decide) (fun H_ z_ => ⟨z_.get (i := 12) rfl, z_.get (i := 11) rfl⟩) ?_
    intro p10
    refine ⟨rfl, by simp, ?_⟩
    refine un_nf (acc' := [_, _, _, _, _]) (L' := [_, _, _, _, _, _, _, _, _, _, _, _, _, _, _, _, _, _, _, _, _, _, _]) rfl rfl ?_
    refine un_cons (iter_listV (seen 16 rfl)) ?_
    refine wt_yes ?_
    refine ifT rfl ?_
    refine wp_call ?_
    refine wp_nf (L' := [_, _, _, _, _, _, _, _, _, _, _, _, _, _, _, _, _, _, _, _, _, _, _]) rfl ?_
    refine wa_cons ?_
    refine wp_var rfl ?_
    refine wa_nil ?_
    refine wc__law_classes 5 (by decide) (fun H_ z_ => ⟨z_.get (i := 14) rfl, z_.get (i := 13) rfl⟩) ?_
    intro p11
    refine ⟨rfl, by simp, ?_⟩
    refine un_nil (iter_listV (seen 16 rfl)) ?_
    refine wp_lc ?_
    refine wi_rngW1 ?_
    refine wp_nf (L' := [_, _, _, _, _, _, _, _, _, _, _, _, _, _, _, _, _, _, _, _, _, _, _, _]) rfl ?_
    refine wa_cons ?_
    refine wp_c ?_
    refine wa_nil ?_
    refine ⟨_, rfl, ?_⟩
    refine lc_U (iter_rngL (xs := [0, 1, 2, 3, 4, 5]) (by decide)) (fun _ => rfl) (fun D24 => ?_)
    refine un_cons (iter_rngL (xs := [0, 1, 2, 3, 4, 5]) (by decide)) ?_
    refine wt_yes ?_
    refine ifT rfl ?_
    refine wp_lst ?_
    refine wp_nf (L' := [_, _, _, _, _, _, _, _, _, _, _, _, _, _, _, _, _, _, _, _, _, _, _, _, _]) rfl ?_
    refine wa_cons ?_
    refine wp_var rfl ?_
    refine wa_nil ?_
    refine ⟨by simp, fun p12 => ?_⟩
    refine ⟨rfl, by simp, ?_⟩
    refine un_nf (acc' := [_]) (L' := [_, _, _, _, _, _, _, _, _, _, _, _, _, _, _, _, _, _, _, _, _, _, _, _, _, _]) rfl rfl ?_
    refine un_cons (iter_rngL (xs := [0, 1, 2, 3, 4, 5]) (by decide)) ?_
    refine wt_yes ?_
    refine ifT rfl ?_
    refine wp_lst ?_
    refine wp_nf (L' := [_, _, _, _, _, _, _, _, _, _, _, _, _, _, _, _, _, _, _, _, _, _, _, _, _, _]) rfl ?_
    refine wa_cons ?_
    refine wp_var rfl ?_
    refine wa_nil ?_
    refine ⟨by simp, fun p13 => ?_⟩
    refine ⟨rfl, by simp, ?_⟩
    refine un_nf (acc' := [_, _]) (L' := [_, _, _, _, _, _, _, _, _, _, _, _, _, _, _, _, _, _, _, _, _, _, _, _, _, _, _]) rfl rfl ?_
    refine un_cons (iter_rngL (xs := [0, 1, 2, 3, 4, 5]) (by decide)) ?_
    refine wt_yes ?_
    refine ifT rfl ?_
    refine wp_lst ?_
    refine wp_nf (L' := [_, _, _, _, _, _, _, _, _, _, _, _, _, _, _, _, _, _, _, _, _, _, _, _, _, _, _]) rfl ?_
    refine wa_cons ?_
    refine wp_var rfl ?_
    refine wa_nil ?_
    refine ⟨by simp, fun p14 => ?_⟩
    refine ⟨rfl, by simp, ?_⟩
    refine un_nf (acc' := [_, _, _]) (L' := [_, _, _, _, _, _, _, _, _, _, _, _, _, _, _, _, _, _, _, _, _, _, _, _, _, _, _, _]) rfl rfl ?_
    refine un_cons (iter_rngL (xs := [0, 1, 2, 3, 4, 5]) (by decide)) ?_
    refine wt_yes ?_
    refine ifT rfl ?_
    refine wp_lst ?_
    refine wp_nf (L' := [_, _, _, _, _, _, _, _, _, _, _, _, _, _, _, _, _, _, _, _, _, _, _, _, _, _, _, _]) rfl ?_
    refine wa_cons ?_
    refine wp_var rfl ?_
    refine wa_nil ?_
    refine ⟨by simp, fun p15 => ?_⟩
    refine ⟨rfl, by simp, ?_⟩
    refine un_nf (acc' := [_, _, _, _]) (L' := [_, _, _, _, _, _, _, _, _, _, _, _, _, _, _, _, _, _, _, _, _, _, _, _, _, _, _, _, _]) rfl rfl ?_
    refine un_cons (iter_rngL (xs := [0, 1, 2, 3, 4, 5]) (by decide)) ?_
    refine wt_yes ?_
    refine ifT rfl ?_
    refine wp_lst ?_
    refine wp_nf (L' := [_, _, _, _, _, _, _, _, _, _, _, _, _, _, _, _, _, _, _, _, _, _, _, _, _, _, _, _, _]) rfl ?_
    refine wa_cons ?_
    refine wp_var rfl ?_
    refine wa_nil ?_
    refine ⟨by simp, fun p16 => ?_⟩
    refine ⟨rfl, by simp, ?_⟩
    refine un_nf (acc' := [_, _, _, _, _]) (L' := [_, _, _, _, _, _, _, _, _, _, _, _, _, _, _, _, _, _, _, _, _, _, _, _, _, _, _, _, _, _]) rfl rfl ?_
    refine un_cons (iter_rngL (xs := [0, 1, 2, 3, 4, 5]) (by decide)) ?_
    refine wt_yes ?_
    refine ifT rfl ?_
    refine wp_lst ?_
    refine wp_nf (L' := [_, _, _, _, _, _, _, _, _, _, _, _, _, _, _, _, _, _, _, _, _, _, _, _, _, _, _, _, _, _]) rfl ?_
    refine wa_cons ?_
    refine wp_var rfl ?_
    refine wa_nil ?_
    refine ⟨by simp, fun p17 => ?_⟩
    refine ⟨rfl, by simp, ?_⟩
    refine un_nil (iter_rngL (xs := [0, 1, 2, 3, 4, 5]) (by decide)) ?_
    refine wr_neD (dp_lst (seen 17 rfl) (dps_cons (dp_lst (seen 18 rfl) (dps_cons dp_int dps_nil)) (dps_cons (dp_lst (seen 19 rfl) (dps_cons dp_int dps_nil)) (dps_cons (dp_lst (seen 20 rfl) (dps_cons dp_int dps_nil)) (dps_cons (dp_lst (seen 21 rfl) (dps_cons dp_int dps_nil)) (dps_cons (dp_lst (seen 22 rfl) (dps_cons dp_int dps_nil)) (dps_cons (dp_lst (seen 23 rfl) (dps_cons dp_int dps_nil)) dps_nil))))))) (dp_lst (seen 24 rfl) (dps_cons (dp_lst (seen 25 rfl) (dps_cons dp_int dps_nil)) (dps_cons (dp_lst (seen 26 rfl) (dps_cons dp_int dps_nil)) (dps_cons (dp_lst (seen 27 rfl) (dps_cons dp_int dps_nil)) (dps_cons (dp_lst (seen 28 rfl) (dps_cons dp_int dps_nil)) (dps_cons (dp_lst (seen 29 rfl) (dps_cons dp_int dps_nil)) (dps_cons (dp_lst (seen 30 rfl) (dps_cons dp_int dps_nil)) dps_nil))))))) rfl rfl ?_
    refine ⟨_, rfl, ?_⟩
    refine ifF (by first | rfl | (simp; done) | (simp [*]; done) | (simp [PyData.eqv, PyData.eqvAll]; done)) ?_
    refine ws_next ?_
    refine ws_seq ?_
    refine ws_if ?_
    refine wt_not ?_
    refine wt_B ?_
    refine wp_cb ?_
    refine wp_nf (L' := [_, _, _, _, _, _, _, _, _, _, _, _, _, _, _, _, _, _, _, _, _, _, _, _, _, _, _, _, _, _, _]) rfl ?_
    refine wa_cons ?_
    refine wp_lc ?_
    refine wi_list ?_
    refine wp_var rfl ?_
    refine ⟨_, _, rfl, (seen 16 rfl), ?_⟩
    refine lc_U (iter_listV (seen 16 rfl)) (fun _ => rfl) (fun D31 => ?_)
    refine un_cons (iter_listV (seen 16 rfl)) ?_
    refine wt_yes ?_
    refine ifT rfl ?_
    refine wp_andVP ?_
    refine wp_cb ?_
    refine wp_nf (L' := _ :: _ :: _ :: _ :: _ :: _ :: _ :: _ :: _ :: _ :: _ :: _ :: _ :: _ :: _ :: _ :: _ :: _ :: _ :: _ :: _ :: _ :: _ :: _ :: _ :: _ :: _ :: _ :: _ :: _ :: _ :: _ :: []) rfl ?_
    refine wa_cons ?_
    refine wp_var rfl ?_
    refine wa_cons ?_
    refine wp_c ?_
    refine wa_nil ?_
    refine wc_isiE T.ec_InvalidScheme (fun H_ z_ => ⟨z_.get (i := 1) rfl, z_.get (i := 0) rfl⟩) (.own _) T.ki_InvalidScheme_SnapError ?_
    refine ⟨_, rfl, ?_⟩
    apply andK
    · intro hb18
      try simp only [decide_eq_true_eq, decide_eq_false_iff_not, Bool.and_eq_true, Bool.or_eq_true, Bool.not_eq_true', Bool.and_eq_false_iff, Bool.or_eq_false_iff, Bool.not_eq_false', Bool.not_true, Bool.not_false, Bool.false_or, Bool.true_and, Bool.true_or, Bool.false_and, Bool.and_true, Bool.or_false, reduceCtorEq, not_true_eq_false, not_false_eq_true, decide_true, decide_false] at hb18
      refine wp_cb ?_
      refine wa_cons ?_
      refine wp_var rfl ?_
      refine wa_cons ?_
      refine wp_c ?_
      refine wa_nil ?_
      refine wc_isiE T.ec_InvalidScheme (fun H_ z_ => ⟨z_.get (i := 1) rfl, z_.get (i := 0) rfl⟩) (.ty _) T.ki_InvalidScheme_ArithmeticError ?_
      exact ⟨rfl, rfl⟩
    refine ⟨rfl, by simp, ?_⟩
    refine un_nf (acc' := [_]) (L' := _ :: _ :: _ :: _ :: _ :: _ :: _ :: _ :: _ :: _ :: _ :: _ :: _ :: _ :: _ :: _ :: _ :: _ :: _ :: _ :: _ :: _ :: _ :: _ :: _ :: _ :: _ :: _ :: _ :: _ :: _ :: _ :: []) rfl rfl ?_
    refine un_cons (iter_listV (seen 16 rfl)) ?_
    refine wt_yes ?_
    refine ifT rfl ?_
    refine wp_andVP ?_
    refine wp_cb ?_
    refine wa_cons ?_
    refine wp_var rfl ?_
    refine wa_cons ?_
    refine wp_c ?_
    refine wa_nil ?_
    refine wc_isiE T.ec_InvalidNumber (fun H_ z_ => ⟨z_.get (i := 3) rfl, z_.get (i := 2) rfl⟩) (.own _) T.ki_InvalidNumber_SnapError ?_
    refine ⟨_, rfl, ?_⟩
    apply andK
    · intro hb19
      try simp only [decide_eq_true_eq, decide_eq_false_iff_not, Bool.and_eq_true, Bool.or_eq_true, Bool.not_eq_true', Bool.and_eq_false_iff, Bool.or_eq_false_iff, Bool.not_eq_false', Bool.not_true, Bool.not_false, Bool.false_or, Bool.true_and, Bool.true_or, Bool.false_and, Bool.and_true, Bool.or_false, reduceCtorEq, not_true_eq_false, not_false_eq_true, decide_true, decide_false] at hb19
      refine wp_cb ?_
      refine wa_cons ?_
      refine wp_var rfl ?_
      refine wa_cons ?_
      refine wp_c ?_
      refine wa_nil ?_
      refine wc_isiE T.ec_InvalidNumber (fun H_ z_ => ⟨z_.get (i := 3) rfl, z_.get (i := 2) rfl⟩) (.ty _) T.ki_InvalidNumber_ArithmeticError ?_
      exact ⟨rfl, rfl⟩
    refine ⟨rfl, by simp, ?_⟩
    refine un_nf (acc' := [_, _]) (L' := _ :: _ :: _ :: _ :: _ :: _ :: _ :: _ :: _ :: _ :: _ :: _ :: _ :: _ :: _ :: _ :: _ :: _ :: _ :: _ :: _ :: _ :: _ :: _ :: _ :: _ :: _ :: _ :: _ :: _ :: _ :: _ :: []) rfl rfl ?_
    refine un_cons (iter_listV (seen 16 rfl)) ?_
    refine wt_yes ?_
    refine ifT rfl ?_
    refine wp_andVP ?_
    refine wp_cb ?_
    refine wa_cons ?_
    refine wp_var rfl ?_
    refine wa_cons ?_
    refine wp_c ?_
    refine wa_nil ?_
    refine wc_isiE T.ec_InvalidTime (fun H_ z_ => ⟨z_.get (i := 5) rfl, z_.get (i := 4) rfl⟩) (.own _) T.ki_InvalidTime_SnapError ?_
    refine ⟨_, rfl, ?_⟩
    apply andK
    · intro hb20
      try simp only [decide_eq_true_eq, decide_eq_false_iff_not, Bool.and_eq_true, Bool.or_eq_true, Bool.not_eq_true', Bool.and_eq_false_iff, Bool.or_eq_false_iff, Bool.not_eq_false', Bool.not_true, Bool.not_false, Bool.false_or, Bool.true_and, Bool.true_or, Bool.false_and, Bool.and_true, Bool.or_false, reduceCtorEq, not_true_eq_false, not_false_eq_true, decide_true, decide_false] at hb20
      refine wp_cb ?_
      refine wa_cons ?_
      refine wp_var rfl ?_
      refine wa_cons ?_
      refine wp_c ?_
      refine wa_nil ?_
      refine wc_isiE T.ec_InvalidTime (fun H_ z_ => ⟨z_.get (i := 5) rfl, z_.get (i := 4) rfl⟩) (.ty _) T.ki_InvalidTime_ArithmeticError ?_
      exact ⟨rfl, rfl⟩
    refine ⟨rfl, by simp, ?_⟩
    refine un_nf (acc' := [_, _, _]) (L' := _ :: _ :: _ :: _ :: _ :: _ :: _ :: _ :: _ :: _ :: _ :: _ :: _ :: _ :: _ :: _ :: _ :: _ :: _ :: _ :: _ :: _ :: _ :: _ :: _ :: _ :: _ :: _ :: _ :: _ :: _ :: _ :: []) rfl rfl ?_
    refine un_cons (iter_listV (seen 16 rfl)) ?_
    refine wt_yes ?_
    refine ifT rfl ?_
    refine wp_andVP ?_
    refine wp_cb ?_
    refine wa_cons ?_
    refine wp_var rfl ?_
    refine wa_cons ?_
    refine wp_c ?_
    refine wa_nil ?_
    refine wc_isiE T.ec_InvalidArchive (fun H_ z_ => ⟨z_.get (i := 8) rfl, z_.get (i := 7) rfl⟩) (.own _) T.ki_InvalidArchive_SnapError ?_
    refine ⟨_, rfl, ?_⟩
    apply andK
    · intro hb21
      try simp only [decide_eq_true_eq, decide_eq_false_iff_not, Bool.and_eq_true, Bool.or_eq_true, Bool.not_eq_true', Bool.and_eq_false_iff, Bool.or_eq_false_iff, Bool.not_eq_false', Bool.not_true, Bool.not_false, Bool.false_or, Bool.true_and, Bool.true_or, Bool.false_and, Bool.and_true, Bool.or_false, reduceCtorEq, not_true_eq_false, not_false_eq_true, decide_true, decide_false] at hb21
      refine wp_cb ?_
      refine wa_cons ?_
      refine wp_var rfl ?_
      refine wa_cons ?_
      refine wp_c ?_
      refine wa_nil ?_
      refine wc_isiE T.ec_InvalidArchive (fun H_ z_ => ⟨z_.get (i := 8) rfl, z_.get (i := 7) rfl⟩) (.ty _) T.ki_InvalidArchive_ArithmeticError ?_
      exact ⟨rfl, rfl⟩
    refine ⟨rfl, by simp, ?_⟩
    refine un_nf (acc' := [_, _, _, _]) (L' := _ :: _ :: _ :: _ :: _ :: _ :: _ :: _ :: _ :: _ :: _ :: _ :: _ :: _ :: _ :: _ :: _ :: _ :: _ :: _ :: _ :: _ :: _ :: _ :: _ :: _ :: _ :: _ :: _ :: _ :: _ :: _ :: []) rfl rfl ?_
    refine un_cons (iter_listV (seen 16 rfl)) ?_
    refine wt_yes ?_
    refine ifT rfl ?_
    refine wp_andVP ?_
    refine wp_cb ?_
    refine wa_cons ?_
    refine wp_var rfl ?_
    refine wa_cons ?_
    refine wp_c ?_
    refine wa_nil ?_
    refine wc_isiE T.ec_InvalidBound (fun H_ z_ => ⟨z_.get (i := 12) rfl, z_.get (i := 11) rfl⟩) (.own _) T.ki_InvalidBound_SnapError ?_
    refine ⟨_, rfl, ?_⟩
    apply andK
    · intro hb22
      try simp only [decide_eq_true_eq, decide_eq_false_iff_not, Bool.and_eq_true, Bool.or_eq_true, Bool.not_eq_true', Bool.and_eq_false_iff, Bool.or_eq_false_iff, Bool.not_eq_false', Bool.not_true, Bool.not_false, Bool.false_or, Bool.true_and, Bool.true_or, Bool.false_and, Bool.and_true, Bool.or_false, reduceCtorEq, not_true_eq_false, not_false_eq_true, decide_true, decide_false] at hb22
      refine wp_cb ?_
      refine wa_cons ?_
      refine wp_var rfl ?_
      refine wa_cons ?_
      refine wp_c ?_
      refine wa_nil ?_
      refine wc_isiE T.ec_InvalidBound (fun H_ z_ => ⟨z_.get (i := 12) rfl, z_.get (i := 11) rfl⟩) (.ty _) T.ki_InvalidBound_ArithmeticError ?_
      exact ⟨rfl, rfl⟩
    refine ⟨rfl, by simp, ?_⟩
    refine un_nf (acc' := [_, _, _, _, _]) (L' := _ :: _ :: _ :: _ :: _ :: _ :: _ :: _ :: _ :: _ :: _ :: _ :: _ :: _ :: _ :: _ :: _ :: _ :: _ :: _ :: _ :: _ :: _ :: _ :: _ :: _ :: _ :: _ :: _ :: _ :: _ :: _ :: []) rfl rfl ?_
    refine un_cons (iter_listV (seen 16 rfl)) ?_
    refine wt_yes ?_
    refine ifT rfl ?_
    refine wp_andVP ?_
    refine wp_cb ?_
    refine wa_cons ?_
    refine wp_var rfl ?_
    refine wa_cons ?_
    refine wp_c ?_
    refine wa_nil ?_
    refine wc_isiE T.ec_LimitExceeded (fun H_ z_ => ⟨z_.get (i := 14) rfl, z_.get (i := 13) rfl⟩) (.own _) T.ki_LimitExceeded_SnapError ?_
    refine ⟨_, rfl, ?_⟩
    apply andK
    · intro hb23
      try simp only [decide_eq_true_eq, decide_eq_false_iff_not, Bool.and_eq_true, Bool.or_eq_true, Bool.not_eq_true', Bool.and_eq_false_iff, Bool.or_eq_false_iff, Bool.not_eq_false', Bool.not_true, Bool.not_false, Bool.false_or, Bool.true_and, Bool.true_or, Bool.false_and, Bool.and_true, Bool.or_false, reduceCtorEq, not_true_eq_false, not_false_eq_true, decide_true, decide_false] at hb23
      refine wp_cb ?_
      refine wa_cons ?_
      refine wp_var rfl ?_
      refine wa_cons ?_
      refine wp_c ?_
      refine wa_nil ?_
      refine wc_isiE T.ec_LimitExceeded (fun H_ z_ => ⟨z_.get (i := 14) rfl, z_.get (i := 13) rfl⟩) (.ty _) T.ki_LimitExceeded_ArithmeticError ?_
      exact ⟨rfl, rfl⟩
    refine ⟨rfl, by simp, ?_⟩
    refine un_nil (iter_listV (seen 16 rfl)) ?_
    refine wa_nil ?_
    refine wc_all (bs := [true, true, true, true, true, true]) (seen 31 rfl) ?_
    refine ⟨_, rfl, ?_⟩
    refine ifF (by first | rfl | (simp; done) | (simp [*]; done) | (simp [PyData.eqv, PyData.eqvAll]; done)) ?_
    refine ws_next ?_
    refine ws_seq ?_
    refine ws_set ?_
    refine wp_lst ?_
    refine wa_cons ?_
    refine wp_xa T.xf_InvalidScheme T.xo_InvalidScheme ?_
    refine wp_op ?_
    refine wp_var rfl ?_
    refine wp_c ?_
    refine wr_ixL (seen 16 rfl) (rfl) ?_
    refine ⟨_, _, 1, 0, _, _, _, _, rfl, rfl, rfl, rfl, ?_⟩
    refine wa_cons ?_
    refine wp_xa T.xf_InvalidNumber T.xo_InvalidNumber ?_
    refine wp_op ?_
    refine wp_var rfl ?_
    refine wp_c ?_
    refine wr_ixL (seen 16 rfl) (rfl) ?_
    refine ⟨_, _, 3, 2, _, _, _, _, rfl, rfl, rfl, rfl, ?_⟩
    refine wa_cons ?_
    refine wp_xa T.xf_InvalidTime T.xo_InvalidTime ?_
    refine wp_op ?_
    refine wp_var rfl ?_
    refine wp_c ?_
    refine wr_ixL (seen 16 rfl) (rfl) ?_
    refine ⟨_, _, 5, 4, _, _, _, _, rfl, rfl, rfl, rfl, ?_⟩
    refine wa_cons ?_
    refine wp_xa T.xf_InvalidArchive T.xo_InvalidArchive ?_
    refine wp_op ?_
    refine wp_var rfl ?_
    refine wp_c ?_
    refine wr_ixL (seen 16 rfl) (rfl) ?_
    refine ⟨_, _, 8, 7, _, _, _, _, rfl, rfl, rfl, rfl, ?_⟩
    refine wa_cons ?_
    refine wp_xa T.xf_InvalidArchive T.xo2_InvalidArchive ?_
    refine wp_op ?_
    refine wp_var rfl ?_
    refine wp_c ?_
    refine wr_ixL (seen 16 rfl) (rfl) ?_
    refine ⟨_, _, 8, 7, _, _, _, _, rfl, rfl, rfl, rfl, ?_⟩
    refine wa_cons ?_
    refine wp_xa T.xf_InvalidBound T.xo_InvalidBound ?_
    refine wp_op ?_
    refine wp_var rfl ?_
    refine wp_c ?_
    refine wr_ixL (seen 16 rfl) (rfl) ?_
    refine ⟨_, _, 12, 11, _, _, _, _, rfl, rfl, rfl, rfl, ?_⟩
    refine wa_nil ?_
    refine ⟨by simp, fun p24 => ?_⟩
    refine ws_nf (σ' := [_, _, _, _, _, _]) (L' := _ :: _ :: _ :: _ :: _ :: _ :: _ :: _ :: _ :: _ :: _ :: _ :: _ :: _ :: _ :: _ :: _ :: _ :: _ :: _ :: _ :: _ :: _ :: _ :: _ :: _ :: _ :: _ :: _ :: _ :: _ :: _ :: _ :: []) rfl rfl ?_
    refine ws_seq ?_
    refine ws_if ?_
    refine wt_test ?_
    refine wp_op ?_
    refine wp_var rfl ?_
    refine wp_lst ?_
    refine wp_nf (L' := _ :: _ :: _ :: _ :: _ :: _ :: _ :: _ :: _ :: _ :: _ :: _ :: _ :: _ :: _ :: _ :: _ :: _ :: _ :: _ :: _ :: _ :: _ :: _ :: _ :: _ :: _ :: _ :: _ :: _ :: _ :: _ :: _ :: []) rfl ?_
    refine wa_cons ?_
    refine wp_c ?_
    refine wa_cons ?_
    refine wp_var rfl ?_
    refine wa_cons ?_
    refine wp_var rfl ?_
    refine wa_cons ?_
    refine wp_c ?_
    refine wa_cons ?_
    refine wp_var rfl ?_
    refine wa_cons ?_
    refine wp_c ?_
    refine wa_nil ?_
    refine ⟨by simp, fun p25 => ?_⟩
    refine wr_neD (dp_lst (seen 32 rfl) (dps_cons dp_str (dps_cons dp_int (dps_cons dp_int (dps_cons dp_str (dps_cons dp_int (dps_cons dp_str dps_nil))))))) (dp_lst (seen 33 rfl) (dps_cons dp_str (dps_cons dp_int (dps_cons dp_int (dps_cons dp_str (dps_cons dp_int (dps_cons dp_str dps_nil))))))) (sh_mix _) (sh_mix _) ?_
    refine ⟨_, rfl, ?_⟩
    refine ifF (by first | rfl | (simp; done) | (simp [*]; done) | (simp [PyData.eqv, PyData.eqvAll]; done)) ?_
    refine ws_next ?_
    refine ws_seq ?_
    refine ws_set ?_
    refine wp_lst ?_
    refine wp_nf (L' := _ :: _ :: _ :: _ :: _ :: _ :: _ :: _ :: _ :: _ :: _ :: _ :: _ :: _ :: _ :: _ :: _ :: _ :: _ :: _ :: _ :: _ :: _ :: _ :: _ :: _ :: _ :: _ :: _ :: _ :: _ :: _ :: _ :: _ :: []) rfl ?_
    refine wa_cons ?_
    refine wp_xa T.xf_InvalidScheme T.xo_InvalidScheme ?_
    refine wp_mkE T.f_InvalidScheme_init.cls T.xo_InvalidScheme ?_
    refine wa_nil ?_
    refine wa_cons ?_
    refine wp_var rfl ?_
    refine wa_nil ?_
    refine ⟨rfl, rfl, (.num _), fun _ => rfl, fun _ _ => log_small (by omega), fun d34 a34 => ?_⟩
    refine ⟨_, _, 35, 34, _, _, _, _, rfl, rfl, rfl, rfl, ?_⟩
    refine wp_nf (L' := _ :: _ :: _ :: _ :: _ :: _ :: _ :: _ :: _ :: _ :: _ :: _ :: _ :: _ :: _ :: _ :: _ :: _ :: _ :: _ :: _ :: _ :: _ :: _ :: _ :: _ :: _ :: _ :: _ :: _ :: _ :: _ :: _ :: _ :: _ :: _ :: []) rfl ?_
    refine wa_cons ?_
    refine wp_xa T.xf_InvalidNumber T.xo_InvalidNumber ?_
    refine wp_mkE T.f_InvalidNumber_init.cls T.xo_InvalidNumber ?_
    refine wa_nil ?_
    refine wa_cons ?_
    refine wp_var rfl ?_
    refine wa_nil ?_
    refine ⟨rfl, rfl, (.num _), fun _ => rfl, fun _ _ => log_small (by omega), fun d36 a36 => ?_⟩
    refine ⟨_, _, 37, 36, _, _, _, _, rfl, rfl, rfl, rfl, ?_⟩
    refine wa_nil ?_
    refine ⟨by simp, fun p26 => ?_⟩
    refine ws_nf (σ' := [_, _, _, _, _, _]) (L' := _ :: _ :: _ :: _ :: _ :: _ :: _ :: _ :: _ :: _ :: _ :: _ :: _ :: _ :: _ :: _ :: _ :: _ :: _ :: _ :: _ :: _ :: _ :: _ :: _ :: _ :: _ :: _ :: _ :: _ :: _ :: _ :: _ :: _ :: _ :: _ :: _ :: _ :: _ :: []) rfl rfl ?_
    refine ws_seq ?_
    refine ws_set ?_
    refine wp_op ?_
    refine wp_var rfl ?_
    refine wp_lst ?_
    refine wp_nf (L' := _ :: _ :: _ :: _ :: _ :: _ :: _ :: _ :: _ :: _ :: _ :: _ :: _ :: _ :: _ :: _ :: _ :: _ :: _ :: _ :: _ :: _ :: _ :: _ :: _ :: _ :: _ :: _ :: _ :: _ :: _ :: _ :: _ :: _ :: _ :: _ :: _ :: _ :: _ :: []) rfl ?_
    refine wa_cons ?_
    refine wp_xa T.xf_InvalidTime T.xo_InvalidTime ?_
    refine wp_mkE T.f_InvalidTime_init.cls T.xo_InvalidTime ?_
    refine wa_nil ?_
    refine wa_cons ?_
    refine wp_var rfl ?_
    refine wa_nil ?_
    refine ⟨rfl, rfl, (.num _), fun _ => rfl, fun _ _ => log_small (by omega), fun d39 a39 => ?_⟩
    refine ⟨_, _, 40, 39, _, _, _, _, rfl, rfl, rfl, rfl, ?_⟩
    refine wa_nil ?_
    refine ⟨by simp, fun p27 => ?_⟩
    refine wp_nf (L' := _ :: _ :: _ :: _ :: _ :: _ :: _ :: _ :: _ :: _ :: _ :: _ :: _ :: _ :: _ :: _ :: _ :: _ :: _ :: _ :: _ :: _ :: _ :: _ :: _ :: _ :: _ :: _ :: _ :: _ :: _ :: _ :: _ :: _ :: _ :: _ :: _ :: _ :: _ :: _ :: _ :: _ :: []) rfl ?_
    refine wr_catL (zs := [_, _, _]) 38 41 rfl rfl rfl (by simp) ?_
    intro p28
    refine ws_nf (σ' := [_, _, _, _, _, _]) (L' := _ :: _ :: _ :: _ :: _ :: _ :: _ :: _ :: _ :: _ :: _ :: _ :: _ :: _ :: _ :: _ :: _ :: _ :: _ :: _ :: _ :: _ :: _ :: _ :: _ :: _ :: _ :: _ :: _ :: _ :: _ :: _ :: _ :: _ :: _ :: _ :: _ :: _ :: _ :: _ :: _ :: _ :: _ :: []) rfl rfl ?_
    refine ws_seq ?_
    refine ws_set ?_
    refine wp_op ?_
    refine wp_var rfl ?_
    refine wp_lst ?_
    refine wp_nf (L' := _ :: _ :: _ :: _ :: _ :: _ :: _ :: _ :: _ :: _ :: _ :: _ :: _ :: _ :: _ :: _ :: _ :: _ :: _ :: _ :: _ :: _ :: _ :: _ :: _ :: _ :: _ :: _ :: _ :: _ :: _ :: _ :: _ :: _ :: _ :: _ :: _ :: _ :: _ :: _ :: _ :: _ :: _ :: []) rfl ?_
    refine wa_cons ?_
    refine wp_xa T.xf_InvalidArchive T.xo2_InvalidArchive ?_
    refine wp_mkE2 T.f_InvalidArchive_init.cls T.xo_InvalidArchive T.xo2_InvalidArchive ?_
    refine wa_nil ?_
    refine wa_cons ?_
    refine wp_var rfl ?_
    refine wa_cons ?_
    refine wp_c ?_
    refine wa_nil ?_
    refine ⟨rfl, rfl, (.lit "x"), (.num _), fun _ => rfl, fun _ _ => trivial, fun _ _ => log_small (by omega), fun d43 a43 => ?_⟩
    refine ⟨_, _, 44, 43, _, _, _, _, rfl, rfl, rfl, rfl, ?_⟩
    refine wp_nf (L' := _ :: _ :: _ :: _ :: _ :: _ :: _ :: _ :: _ :: _ :: _ :: _ :: _ :: _ :: _ :: _ :: _ :: _ :: _ :: _ :: _ :: _ :: _ :: _ :: _ :: _ :: _ :: _ :: _ :: _ :: _ :: _ :: _ :: _ :: _ :: _ :: _ :: _ :: _ :: _ :: _ :: _ :: _ :: _ :: _ :: []) rfl ?_
    refine wa_cons ?_
    refine wp_xa T.xf_InvalidBound T.xo_InvalidBound ?_
    refine wp_mkE T.f_InvalidBound_init.cls T.xo_InvalidBound ?_
    refine wa_nil ?_
    refine wa_cons ?_
    refine wp_var rfl ?_
    refine wa_nil ?_
    refine ⟨rfl, rfl, (.num _), fun _ => rfl, fun _ _ => log_small (by omega), fun d45 a45 => ?_⟩
    refine ⟨_, _, 46, 45, _, _, _, _, rfl, rfl, rfl, rfl, ?_⟩
    refine wa_nil ?_
    refine ⟨by simp, fun p29 => ?_⟩
    refine wp_nf (L' := _ :: _ :: _ :: _ :: _ :: _ :: _ :: _ :: _ :: _ :: _ :: _ :: _ :: _ :: _ :: _ :: _ :: _ :: _ :: _ :: _ :: _ :: _ :: _ :: _ :: _ :: _ :: _ :: _ :: _ :: _ :: _ :: _ :: _ :: _ :: _ :: _ :: _ :: _ :: _ :: _ :: _ :: _ :: _ :: _ :: _ :: _ :: _ :: []) rfl ?_
    refine wr_catL (zs := [_, _, _, _, _]) 42 47 rfl rfl rfl (by simp) ?_
    intro p30
    refine ws_nf (σ' := [_, _, _, _, _, _]) (L' := _ :: _ :: _ :: _ :: _ :: _ :: _ :: _ :: _ :: _ :: _ :: _ :: _ :: _ :: _ :: _ :: _ :: _ :: _ :: _ :: _ :: _ :: _ :: _ :: _ :: _ :: _ :: _ :: _ :: _ :: _ :: _ :: _ :: _ :: _ :: _ :: _ :: _ :: _ :: _ :: _ :: _ :: _ :: _ :: _ :: _ :: _ :: _ :: _ :: []) rfl rfl ?_
    refine ws_ret ?_
    refine wp_op ?_
    refine wp_op ?_
    refine wp_var rfl ?_
    refine wp_lst ?_
    refine wp_nf (L' := _ :: _ :: _ :: _ :: _ :: _ :: _ :: _ :: _ :: _ :: _ :: _ :: _ :: _ :: _ :: _ :: _ :: _ :: _ :: _ :: _ :: _ :: _ :: _ :: _ :: _ :: _ :: _ :: _ :: _ :: _ :: _ :: _ :: _ :: _ :: _ :: _ :: _ :: _ :: _ :: _ :: _ :: _ :: _ :: _ :: _ :: _ :: _ :: _ :: []) rfl ?_
    refine wa_cons ?_
    refine wp_xa T.xf_LimitExceeded T.xo_LimitExceeded ?_
    refine wp_mkE T.f_LimitExceeded_init.cls T.xo_LimitExceeded ?_
    refine wa_nil ?_
    refine wa_cons ?_
    refine wp_var rfl ?_
    refine wa_nil ?_
    refine ⟨rfl, rfl, (.num _), fun _ => rfl, fun _ _ => log_small (by omega), fun d49 a49 => ?_⟩
    refine ⟨_, _, 50, 49, _, _, _, _, rfl, rfl, rfl, rfl, ?_⟩
    refine wp_nf (L' := _ :: _ :: _ :: _ :: _ :: _ :: _ :: _ :: _ :: _ :: _ :: _ :: _ :: _ :: _ :: _ :: _ :: _ :: _ :: _ :: _ :: _ :: _ :: _ :: _ :: _ :: _ :: _ :: _ :: _ :: _ :: _ :: _ :: _ :: _ :: _ :: _ :: _ :: _ :: _ :: _ :: _ :: _ :: _ :: _ :: _ :: _ :: _ :: _ :: _ :: _ :: []) rfl ?_
    refine wa_cons ?_
    refine wp_xa T.xf_LimitExceeded T.xo_LimitExceeded ?_
    refine wp_op ?_
    refine wp_var rfl ?_
    refine wp_c ?_
    refine wr_ixL (seen 16 rfl) (rfl) ?_
    refine ⟨_, _, 14, 13, _, _, _, _, rfl, rfl, rfl, rfl, ?_⟩
    refine wa_nil ?_
    refine ⟨by simp, fun p31 => ?_⟩
    refine wp_nf (L' := _ :: _ :: _ :: _ :: _ :: _ :: _ :: _ :: _ :: _ :: _ :: _ :: _ :: _ :: _ :: _ :: _ :: _ :: _ :: _ :: _ :: _ :: _ :: _ :: _ :: _ :: _ :: _ :: _ :: _ :: _ :: _ :: _ :: _ :: _ :: _ :: _ :: _ :: _ :: _ :: _ :: _ :: _ :: _ :: _ :: _ :: _ :: _ :: _ :: _ :: _ :: _ :: []) rfl ?_
    refine wr_catL (zs := [_, _, _, _, _, _, _]) 48 51 rfl rfl rfl (by simp) ?_
    intro p32
    refine wp_op ?_
    refine wp_lst ?_
    refine wp_nf (L' := _ :: _ :: _ :: _ :: _ :: _ :: _ :: _ :: _ :: _ :: _ :: _ :: _ :: _ :: _ :: _ :: _ :: _ :: _ :: _ :: _ :: _ :: _ :: _ :: _ :: _ :: _ :: _ :: _ :: _ :: _ :: _ :: _ :: _ :: _ :: _ :: _ :: _ :: _ :: _ :: _ :: _ :: _ :: _ :: _ :: _ :: _ :: _ :: _ :: _ :: _ :: _ :: _ :: []) rfl ?_
    refine wa_cons ?_
    refine wp_var rfl ?_
    refine wa_nil ?_
    refine ⟨by simp, fun p33 => ?_⟩
    refine wp_c ?_
    refine wr_repT (zs := [_, _, _, _, _, _, _]) 53 rfl (by decide) (by simp) rfl ?_
    intro p34
    refine wr_eqD (dp_lst (seen 52 rfl) (dps_cons dp_int (dps_cons dp_int (dps_cons dp_int (dps_cons dp_int (dps_cons dp_int (dps_cons dp_int (dps_cons dp_int dps_nil)))))))) (dp_lst (seen 54 rfl) (dps_cons dp_int (dps_cons dp_int (dps_cons dp_int (dps_cons dp_int (dps_cons dp_int (dps_cons dp_int (dps_cons dp_int dps_nil)))))))) rfl rfl ?_
    exact congrArg V.bl (by simp [PyData.eqv, PyData.eqvAll])
def sp__law_classes__h (CS : Cs) : Addr → Value → Option Addr → Sp := fun a cls d vs H Q _ => ∃ (dd : Addr) (fs : List (Str × V)) (k : Nat), vs = [.ref a] ∧ k < 6 ∧ cls = .ref (clsX CS k) ∧ d = some dd ∧ H dd = some (.xd fs) ∧ ∀ (p : Addr) (H' : Hp), H p = none → Same H H' → H' p = some (.lst [.int (k : Int)]) → Q (.ref p) H'
theorem wc__law_classes__h {CS : Cs} {g : Gr} {L : Led} {C : V → Led → Prop} {E : XK} {a d : Addr} {fs : List (Str × V)} {bo : Bool} (k j : Nat) (hk : k < 6) {cl : Addr} (hcl : cl = clsX CS k) (hj : L[j]? = some (d, .ob (.xd fs), bo)) (c : ∀ p : Addr, C (.ref p) (L ++ [(p, .ob (.lst [.int (k : Int)]), true)])) : Wp g L (fun H Q => sp__law_classes__h CS a (.ref cl) (some d) [.ref a] H Q E) C := fun H z Q q => ⟨d, fs, k, rfl, hk, congrArg Value.ref hcl, rfl, z.get hj, fun p H' n s' hp => q _ _ _ (c p) (z.new s' n hp)⟩

theorem ok__law_classes__h (T : Top K mg CS) : OkH P w K mg base 2 "_law_classes" s__law_classes ["_law_e"] (sp__law_classes__h CS) := by
  refine OkH.of T.f__law_classes sc__law_classes (fun _ _ _ _ _ _ us hl => match us, hl with | [_], _ => rfl) (fun a cls d vs H Q E h => ?_) (fun f cdv A outer s H vs Q E p cls d hz hot hr h => ?_)
  · obtain ⟨dd, fs, k, rfl, _⟩ := h
    rfl
  · obtain ⟨a, oe⟩ := p
    obtain ⟨dd, fs, k, rfl, hk, rfl, rfl, hx, kk⟩ := h
    have hf : ∃ vs, oe.data = .fields vs := by
      obtain ⟨_, vs, e, _⟩ := hot
      exact ⟨vs, e⟩
    have hec : ExcC K (clsX CS k) := ec_all T hk
    have hkk : ∀ j, j < 6 → PySem.W.kitOne K (.ref (clsX CS k)) (.ref (clsX CS j)) = some (decide (k = j)) := fun j hj => ki_all T hk hj
    have hX : ∀ (L : Led) (H1 : Hp), At ⟨H, fun _ => False⟩ L H1 → H1 dd = some (.xd fs) := fun L H1 z => z.old _ _ hx (fun q => q)
    refine ⟨_, (pss_cons (ps_set (i := 1) sc__law_classes.nd rfl (Or.inl rfl) (pe_lst (pa_cons (pe_callB (call_isiH hz hf List.mem_cons_self) (by rfl) T.b_isinstance (by decide +kernel) (pa_cons (pv 0) (pa_cons (pe_cls (by rfl) T.m_InvalidScheme) pa_nil))) (pa_cons (pe_callB (call_isiH hz hf List.mem_cons_self) (by rfl) T.b_isinstance (by decide +kernel) (pa_cons (pv 0) (pa_cons (pe_cls (by rfl) T.m_InvalidNumber) pa_nil))) (pa_cons (pe_callB (call_isiH hz hf List.mem_cons_self) (by rfl) T.b_isinstance (by decide +kernel) (pa_cons (pv 0) (pa_cons (pe_cls (by rfl) T.m_InvalidTime) pa_nil))) pa_nil)))))
      (pss_cons (ps_set (i := 1) sc__law_classes.nd rfl (Or.inl rfl) (pe_op op_cat (pv 1) (pe_lst (pa_cons (pe_callB (call_isiH hz hf List.mem_cons_self) (by rfl) T.b_isinstance (by decide +kernel) (pa_cons (pv 0) (pa_cons (pe_cls (by rfl) T.m_InvalidArchive) pa_nil))) (pa_cons (pe_callB (call_isiH hz hf List.mem_cons_self) (by rfl) T.b_isinstance (by decide +kernel) (pa_cons (pv 0) (pa_cons (pe_cls (by rfl) T.m_InvalidBound) pa_nil))) (pa_cons (pe_callB (call_isiH hz hf List.mem_cons_self) (by rfl) T.b_isinstance (by decide +kernel) (pa_cons (pv 0) (pa_cons (pe_cls (by rfl) T.m_LimitExceeded) pa_nil))) pa_nil))))))
      (pss_one (ps_ret (pe_lcS (own := [("_law_k", 2), ("_law_mark", 3)]) ⟨_, hot, List.mem_cons_self⟩ sc__law_classes.nd (pi_enumS (by rfl) T.b_enumerate (pa_cons (pv 1) pa_nil)) (blkOk_by (N := ["_law_e", "_law_some", "_law_k", "_law_mark"]) (sc := defScope s__law_classes) (by decide +kernel)) (fun _ _ _ _ _ hs => (pg_tupS (Kf := K) (n := 2) rfl hs (pgs_cons (pg_name (i := 2) sc__law_classes.nd rfl (Or.inl rfl)) (pgs_cons (pg_name (i := 3) sc__law_classes.nd rfl (Or.inl rfl)) pgs_nil)) rfl)) (fun _ _ _ _ _ => (pts_one (pt_val (pv 3)))) (fun _ _ _ _ _ => (pv 2))))))), ?_⟩
    refine run_ws (σ := [some (.ref a), none, none, none]) (g := ⟨H, fun _ => False⟩) (K := kN (.lst [.int (k : Int)])) (L := []) ?_ at_nil (eo_N fun p H1 n s1 hp => kk p H1 n s1 hp)
    refine ws_seq ?_
    refine ws_set ?_
    refine wp_lst ?_
    refine wa_cons ?_
    refine wp_cb ?_
    refine wa_cons ?_
    refine wp_var rfl ?_
    refine wa_cons ?_
    refine wp_c ?_
    refine wa_nil ?_
    refine wc_isiH hec (hX _) (.own (clsX CS 0)) (hkk 0 (by decide)) ?_
    refine wa_cons ?_
    refine wp_cb ?_
    refine wa_cons ?_
    refine wp_var rfl ?_
    refine wa_cons ?_
    refine wp_c ?_
    refine wa_nil ?_
    refine wc_isiH hec (hX _) (.own (clsX CS 1)) (hkk 1 (by decide)) ?_
    refine wa_cons ?_
    refine wp_cb ?_
    refine wa_cons ?_
    refine wp_var rfl ?_
    refine wa_cons ?_
    refine wp_c ?_
    refine wa_nil ?_
    refine wc_isiH hec (hX _) (.own (clsX CS 2)) (hkk 2 (by decide)) ?_
    refine wa_nil ?_
    refine ⟨by simp, fun p1 => ?_⟩
    refine ws_seq ?_
    refine ws_set ?_
    refine wp_op ?_
    refine wp_var rfl ?_
    refine wp_lst ?_
    refine wa_cons ?_
    refine wp_cb ?_
    refine wa_cons ?_
    refine wp_var rfl ?_
    refine wa_cons ?_
    refine wp_c ?_
    refine wa_nil ?_
    refine wc_isiH hec (hX _) (.own (clsX CS 3)) (hkk 3 (by decide)) ?_
    refine wa_cons ?_
    refine wp_cb ?_
    refine wa_cons ?_
    refine wp_var rfl ?_
    refine wa_cons ?_
    refine wp_c ?_
    refine wa_nil ?_
    refine wc_isiH hec (hX _) (.own (clsX CS 4)) (hkk 4 (by decide)) ?_
    refine wa_cons ?_
    refine wp_cb ?_
    refine wa_cons ?_
    refine wp_var rfl ?_
    refine wa_cons ?_
    refine wp_c ?_
    refine wa_nil ?_
    refine wc_isiH hec (hX _) (.own (clsX CS 5)) (hkk 5 (by decide)) ?_
    refine wa_nil ?_
    refine ⟨by simp, fun p2 => ?_⟩
    refine wr_cat 0 1 rfl rfl (by simp) ?_
    intro p3
    refine ws_ret ?_
    refine wp_lc ?_
    refine wi_enum ?_
    refine wa_cons ?_
    refine wp_var rfl ?_
    refine wa_nil ?_
    refine ⟨_, _, rfl, (seen 2 rfl), ?_⟩
    refine lc_V V.int (fun x : Bool × Nat => x.1) (fun x => (x.2 : Int)) (iter_enum 2 3 V.bl (xs := [decide (k = 0), decide (k = 1), decide (k = 2), decide (k = 3), decide (k = 4), decide (k = 5)]) (seen 2 rfl)) (fun _ => rfl) (by simp) ?_ ?_
    · rintro ⟨v, i⟩ hx D acc
      refine wt_B ?_
      refine wp_var rfl ?_
      refine ⟨_, rfl, ?_⟩
      refine ⟨rfl, ?_⟩
      refine ifB (fun hc => ?_) (fun hc => ?_)
      · refine wp_var rfl ?_
        exact ⟨rfl, by first | exact List.prefix_refl _ | exact ⟨_, rfl⟩⟩
      · first | exact List.prefix_refl _ | exact ⟨_, rfl⟩
    intro p4
    have e6 := lst_k hk
    exact ⟨p4, 3, rfl, congrArg (fun l : List Int => some (p4, Ent.ob (.lst (l.map V.int)), true)) e6⟩

theorem sc__law_raised : FnScope ["_law_call", "_law_found", "_law_e", "_law_classes_here"] ["_law_call"] (defScope s__law_raised) := ⟨rfl, rfl, rfl, by decide +kernel, rfl, by decide +kernel, by decide +kernel⟩
def sp__law_raised (P : Program) (w : World) (K : PySem.W.Frag) (mg : Str → Option Value) (base : Heap) (gg : List Code) (CS : Cs) : Sp := fun vs H Q _ => ∃ (f : Addr) (r : Rf), vs = [.ref f] ∧ Deed P w K mg base 30 H f (r.out CS.xn CS.xt CS.xs) ∧ r.At H ∧ ∀ (p : Addr) (H' : Hp), H p = none → Same H H' → H' p = some (r.obj gg) → Q (.ref p) H'
theorem wc__law_raised {CS : Cs} {g : Gr} {L : Led} {C : V → Led → Prop} {E : XK} {f : Addr} (r : Rf) (hd : ∀ H, At g L H → Deed P w K mg base 30 H f (r.out CS.xn CS.xt CS.xs)) (hr : ∀ H, At g L H → r.At H) (c : ∀ p : Addr, C (.ref p) (L ++ [(p, .ob (r.obj gg), true)])) : Wp g L (fun H Q => sp__law_raised P w K mg base gg CS [.ref f] H Q E) C := fun H z Q q => ⟨f, r, rfl, hd H z, hr H z, fun p H' n s' hp => q _ _ _ (c p) (z.new s' n hp)⟩

theorem ok__law_raised (T : Top K mg CS) (gg : List Code) : OkG P w K mg base gg 33 "_law_raised" s__law_raised ["_law_call"] (sp__law_raised P w K mg base gg CS) := by
  refine OkG.of T.f__law_raised sc__law_raised (fun _ _ _ _ _ _ us hl => match us, hl with | [_], _ => rfl) (fun vs H Q E h => ?_) (fun f cdv A outer s H vs Q E hgg hr h => ?_)
  · obtain ⟨f0, r, rfl, _⟩ := h
    rfl
  · obtain ⟨f0, r, rfl, hdd, ho0, kk⟩ := h
    refine ⟨_, (pss_cons (ps_set (i := 1) sc__law_raised.nd rfl (Or.inl rfl) (pe_tup (pa_cons pe_str (pa_cons pe_non pa_nil))))
      (pss_cons (L2N.ps_try_as (i := 2) (Wout := fun _ _ _ _ => False) rfl rfl sc__law_raised.nd rfl rfl ⟨rfl, by decide, Or.inl T.m_SnapError⟩ L2N.takes0 (fun W pn xe tk _ => (pss_cons (ps_expr (pe_deed (P := P) (w := w) (K := K) (mg := mg) (base := base) (k := 30) (i := 0) tk (hr.mono (by decide)) rfl (Or.inl rfl))) (pss_one (ps_set (i := 1) sc__law_raised.nd rfl (Or.inl rfl) pe_non)))) (fun a oe cls d pn hz hf => (pss_cons (ps_set (i := 3) sc__law_raised.nd rfl (Or.inl rfl) (pe_ownH (ok__law_classes__h T) (hr.mono (by decide)) hz hf (by rfl) (pa_cons (pv 2) pa_nil)))
      (pss_cons (ps_if (pt_cmpR (op_eqDK (Kf := K) rfl (room_eqD hr rfl)) (pv 3) (pe_lst (pa_cons pe_int pa_nil)) (nomark _)) (pss_one (ps_set (i := 1) sc__law_raised.nd rfl (Or.inl rfl) (pe_tup (pa_cons pe_str (pa_cons (pe_xfG hz hf (pv 2)) pa_nil))))) pss_nil)
      (pss_cons (ps_if (pt_cmpR (op_eqDK (Kf := K) rfl (room_eqD hr rfl)) (pv 3) (pe_lst (pa_cons pe_int pa_nil)) (nomark _)) (pss_one (ps_set (i := 1) sc__law_raised.nd rfl (Or.inl rfl) (pe_tup (pa_cons pe_str (pa_cons (pe_callB (call_reprO hgg (room_suite hr rfl)) (by rfl) T.b_repr (by decide +kernel) (pa_cons (pe_xfG hz hf (pv 2)) pa_nil)) pa_nil))))) pss_nil)
      (pss_one (ps_if (pt_cmpR (op_eqDK (Kf := K) rfl (room_eqD hr rfl)) (pv 3) (pe_lst (pa_cons pe_int pa_nil)) (nomark _)) (pss_one (ps_set (i := 1) sc__law_raised.nd rfl (Or.inl rfl) (pe_tup (pa_cons pe_str (pa_cons (pe_callB (call_reprO hgg (room_suite hr rfl)) (by rfl) T.b_repr (by decide +kernel) (pa_cons (pe_xfG hz hf (pv 2)) pa_nil)) pa_nil))))) pss_nil)))))))
      (pss_one (ps_ret (pv 1))))), ?_⟩
    refine run_ws (σ := [some (.ref f0), none, none, none]) (g := ⟨H, fun _ => False⟩) (K := kN (r.obj gg)) (L := []) ?_ at_nil (eo_N fun p H' n s' hp => kk p H' n s' hp)
    refine ws_seq ?_
    rcases r with o | o | y
    · have ho : ∀ (L : Led) (H1 : Hp), At ⟨H, fun _ => False⟩ L H1 → o.At H1 := fun L H1 z1 => ho0.same (fun b u e => z1.old b u e (fun q => q))
      refine ws_set ?_
      refine wp_tup ?_
      refine wa_cons ?_
      refine wp_c ?_
      refine wa_cons ?_
      refine wp_c ?_
      refine wa_nil ?_
      refine ⟨by simp, fun p1 => ?_⟩
      refine ws_seq ?_
      refine ws_tryD2 (o := (some (CS.xn, [("number", o.v)]))) rfl (fun H z => hdd.later z.since) ?_ ?_
      · intro hn
        cases hn
      · intro C_ fs_ e_
        cases e_
        refine ⟨T.xm_InvalidNumber_SnapError, fun a_ d_ => ?_⟩
        refine ws_seq ?_
        refine ws_set ?_
        refine wp_callS ?_
        refine wa_cons ?_
        refine wp_var rfl ?_
        refine wa_nil ?_
        refine wc__law_classes__h 1 1 (by decide) rfl rfl ?_
        intro p2
        refine ws_seq ?_
        refine ws_if ?_
        refine wt_test ?_
        refine wp_op ?_
        refine wp_var rfl ?_
        refine wp_lst ?_
        refine wa_cons ?_
        refine wp_c ?_
        refine wa_nil ?_
        refine ⟨by simp, fun p3 => ?_⟩
        refine wr_eqD (dp_lst (seen 2 rfl) (dps_cons dp_int dps_nil)) (dp_lst (seen 3 rfl) (dps_cons dp_int dps_nil)) rfl rfl ?_
        refine ⟨_, rfl, ?_⟩
        refine ifF (by first | rfl | (simp; done) | (simp [*]; done) | (simp [PyData.eqv, PyData.eqvAll]; done)) ?_
        refine ws_next ?_
        refine ws_seq ?_
        refine ws_if ?_
        refine wt_test ?_
        refine wp_op ?_
        refine wp_var rfl ?_
        refine wp_lst ?_
        refine wa_cons ?_
        refine wp_c ?_
        refine wa_nil ?_
        refine ⟨by simp, fun p4 => ?_⟩
        refine wr_eqD (dp_lst (seen 2 rfl) (dps_cons dp_int dps_nil)) (dp_lst (seen 4 rfl) (dps_cons dp_int dps_nil)) rfl rfl ?_
        refine ⟨_, rfl, ?_⟩
        refine ifT (by first | rfl | (simp; done) | (simp [*]; done) | (simp [PyData.eqv, PyData.eqvAll]; done)) ?_
        refine ws_set ?_
        refine wp_tup ?_
        refine wa_cons ?_
        refine wp_c ?_
        refine wa_cons ?_
        refine wp_cb ?_
        refine wa_cons ?_
        refine wp_xfG T.xf_InvalidNumber T.xo_InvalidNumber ?_
        refine wp_var rfl ?_
        refine ⟨rfl, 1, _, _, _, rfl, rfl, ?_⟩
        refine wa_nil ?_
        refine wc_repr (o := o) (ho _) ?_
        refine wa_nil ?_
        refine ⟨by simp, fun p5 => ?_⟩
        refine ws_if ?_
        refine wt_test ?_
        refine wp_op ?_
        refine wp_var rfl ?_
        refine wp_lst ?_
        refine wa_cons ?_
        refine wp_c ?_
        refine wa_nil ?_
        refine ⟨by simp, fun p6 => ?_⟩
        refine wr_eqD (dp_lst (seen 2 rfl) (dps_cons dp_int dps_nil)) (dp_lst (seen 6 rfl) (dps_cons dp_int dps_nil)) rfl rfl ?_
        refine ⟨_, rfl, ?_⟩
        refine ifF (by first | rfl | (simp; done) | (simp [*]; done) | (simp [PyData.eqv, PyData.eqvAll]; done)) ?_
        refine ws_next ?_
        refine ws_nf (σ' := [_, _, _, _]) (L' := [_, _, _, _, _, _, _]) rfl rfl ?_
        refine ws_ret ?_
        refine wp_var rfl ?_
        exact ⟨_, 5, rfl, rfl⟩
    · have ho : ∀ (L : Led) (H1 : Hp), At ⟨H, fun _ => False⟩ L H1 → o.At H1 := fun L H1 z1 => ho0.same (fun b u e => z1.old b u e (fun q => q))
      refine ws_set ?_
      refine wp_tup ?_
      refine wa_cons ?_
      refine wp_c ?_
      refine wa_cons ?_
      refine wp_c ?_
      refine wa_nil ?_
      refine ⟨by simp, fun p7 => ?_⟩
      refine ws_seq ?_
      refine ws_tryD2 (o := (some (CS.xt, [("time", o.v)]))) rfl (fun H z => hdd.later z.since) ?_ ?_
      · intro hn
        cases hn
      · intro C_ fs_ e_
        cases e_
        refine ⟨T.xm_InvalidTime_SnapError, fun a_ d_ => ?_⟩
        refine ws_seq ?_
        refine ws_set ?_
        refine wp_callS ?_
        refine wa_cons ?_
        refine wp_var rfl ?_
        refine wa_nil ?_
        refine wc__law_classes__h 2 1 (by decide) rfl rfl ?_
        intro p8
        refine ws_seq ?_
        refine ws_if ?_
        refine wt_test ?_
        refine wp_op ?_
        refine wp_var rfl ?_
        refine wp_lst ?_
        refine wa_cons ?_
        refine wp_c ?_
        refine wa_nil ?_
        refine ⟨by simp, fun p9 => ?_⟩
        refine wr_eqD (dp_lst (seen 2 rfl) (dps_cons dp_int dps_nil)) (dp_lst (seen 3 rfl) (dps_cons dp_int dps_nil)) rfl rfl ?_
        refine ⟨_, rfl, ?_⟩
        refine ifF (by first | rfl | (simp; done) | (simp [*]; done) | (simp [PyData.eqv, PyData.eqvAll]; done)) ?_
        refine ws_next ?_
        refine ws_seq ?_
        refine ws_if ?_
        refine wt_test ?_
        refine wp_op ?_
        refine wp_var rfl ?_
        refine wp_lst ?_
        refine wa_cons ?_
        refine wp_c ?_
        refine wa_nil ?_
        refine ⟨by simp, fun p10 => ?_⟩
        refine wr_eqD (dp_lst (seen 2 rfl) (dps_cons dp_int dps_nil)) (dp_lst (seen 4 rfl) (dps_cons dp_int dps_nil)) rfl rfl ?_
        refine ⟨_, rfl, ?_⟩
        refine ifF (by first | rfl | (simp; done) | (simp [*]; done) | (simp [PyData.eqv, PyData.eqvAll]; done)) ?_
        refine ws_next ?_
        refine ws_if ?_
        refine wt_test ?_
        refine wp_op ?_
        refine wp_var rfl ?_
        refine wp_lst ?_
        refine wa_cons ?_
        refine wp_c ?_
        refine wa_nil ?_
        refine ⟨by simp, fun p11 => ?_⟩
        refine wr_eqD (dp_lst (seen 2 rfl) (dps_cons dp_int dps_nil)) (dp_lst (seen 5 rfl) (dps_cons dp_int dps_nil)) rfl rfl ?_
        refine ⟨_, rfl, ?_⟩
        refine ifT (by first | rfl | (simp; done) | (simp [*]; done) | (simp [PyData.eqv, PyData.eqvAll]; done)) ?_
        refine ws_set ?_
        refine wp_tup ?_
        refine wa_cons ?_
        refine wp_c ?_
        refine wa_cons ?_
        refine wp_cb ?_
        refine wa_cons ?_
        refine wp_xfG T.xf_InvalidTime T.xo_InvalidTime ?_
        refine wp_var rfl ?_
        refine ⟨rfl, 1, _, _, _, rfl, rfl, ?_⟩
        refine wa_nil ?_
        refine wc_repr (o := o) (ho _) ?_
        refine wa_nil ?_
        refine ⟨by simp, fun p12 => ?_⟩
        refine ws_nf (σ' := [_, _, _, _]) (L' := [_, _, _, _, _, _, _]) rfl rfl ?_
        refine ws_ret ?_
        refine wp_var rfl ?_
        exact ⟨_, 6, rfl, rfl⟩
    · refine ws_set ?_
      refine wp_tup ?_
      refine wa_cons ?_
      refine wp_c ?_
      refine wa_cons ?_
      refine wp_c ?_
      refine wa_nil ?_
      refine ⟨by simp, fun p13 => ?_⟩
      refine ws_seq ?_
      refine ws_tryD2 (o := (some (CS.xs, [("part", .str y)]))) rfl (fun H z => hdd.later z.since) ?_ ?_
      · intro hn
        cases hn
      · intro C_ fs_ e_
        cases e_
        refine ⟨T.xm_InvalidScheme_SnapError, fun a_ d_ => ?_⟩
        refine ws_seq ?_
        refine ws_set ?_
        refine wp_callS ?_
        refine wa_cons ?_
        refine wp_var rfl ?_
        refine wa_nil ?_
        refine wc__law_classes__h 0 1 (by decide) rfl rfl ?_
        intro p14
        refine ws_seq ?_
        refine ws_if ?_
        refine wt_test ?_
        refine wp_op ?_
        refine wp_var rfl ?_
        refine wp_lst ?_
        refine wa_cons ?_
        refine wp_c ?_
        refine wa_nil ?_
        refine ⟨by simp, fun p15 => ?_⟩
        refine wr_eqD (dp_lst (seen 2 rfl) (dps_cons dp_int dps_nil)) (dp_lst (seen 3 rfl) (dps_cons dp_int dps_nil)) rfl rfl ?_
        refine ⟨_, rfl, ?_⟩
        refine ifT (by first | rfl | (simp; done) | (simp [*]; done) | (simp [PyData.eqv, PyData.eqvAll]; done)) ?_
        refine ws_set ?_
        refine wp_tup ?_
        refine wa_cons ?_
        refine wp_c ?_
        refine wa_cons ?_
        refine wp_xfG T.xf_InvalidScheme T.xo_InvalidScheme ?_
        refine wp_var rfl ?_
        refine ⟨rfl, 1, _, _, _, rfl, rfl, ?_⟩
        refine wa_nil ?_
        refine ⟨by simp, fun p16 => ?_⟩
        refine ws_seq ?_
        refine ws_if ?_
        refine wt_test ?_
        refine wp_op ?_
        refine wp_var rfl ?_
        refine wp_lst ?_
        refine wa_cons ?_
        refine wp_c ?_
        refine wa_nil ?_
        refine ⟨by simp, fun p17 => ?_⟩
        refine wr_eqD (dp_lst (seen 2 rfl) (dps_cons dp_int dps_nil)) (dp_lst (seen 5 rfl) (dps_cons dp_int dps_nil)) rfl rfl ?_
        refine ⟨_, rfl, ?_⟩
        refine ifF (by first | rfl | (simp; done) | (simp [*]; done) | (simp [PyData.eqv, PyData.eqvAll]; done)) ?_
        refine ws_next ?_
        refine ws_if ?_
        refine wt_test ?_
        refine wp_op ?_
        refine wp_var rfl ?_
        refine wp_lst ?_
        refine wa_cons ?_
        refine wp_c ?_
        refine wa_nil ?_
        refine ⟨by simp, fun p18 => ?_⟩
        refine wr_eqD (dp_lst (seen 2 rfl) (dps_cons dp_int dps_nil)) (dp_lst (seen 6 rfl) (dps_cons dp_int dps_nil)) rfl rfl ?_
        refine ⟨_, rfl, ?_⟩
        refine ifF (by first | rfl | (simp; done) | (simp [*]; done) | (simp [PyData.eqv, PyData.eqvAll]; done)) ?_
        refine ws_next ?_
        refine ws_nf (σ' := [_, _, _, _]) (L' := [_, _, _, _, _, _, _]) rfl rfl ?_
        refine ws_ret ?_
        refine wp_var rfl ?_
        exact ⟨_, 4, rfl, rfl⟩
theorem sc_check_number : FnScope ["number"] ["number"] (defScope s_check_number) := ⟨rfl, rfl, rfl, by decide +kernel, rfl, by decide +kernel, by decide +kernel⟩
def sp_check_number (CS : Cs) : Sp := fun vs H Q _ => ∃ (n : Int), (vs = [.int n]) ∧ (0 ≤ n) ∧ ∀ (H' : Hp), Same H H' → Q .non H'
theorem wc_check_number {CS : Cs} {g : Gr} {L : Led} {C : V → Led → Prop} {E : XK} {n : Int} (hpre : 0 ≤ n) (c : C .non L) : Wp g L (fun H Q => sp_check_number CS [.int n] H Q E) C := fun H z Q q => ⟨n, rfl, hpre, fun H' s' => q _ _ _ (c) (z.same s')⟩
theorem ok_check_number (T : Top K mg CS) : Ok P w K mg base 3 "check_number" s_check_number ["number"] (sp_check_number CS) := by
  refine Ok.of T.f_check_number sc_check_number (fun _ _ _ _ _ _ us hl => match us, hl with | [_], _ => rfl) (fun vs H Q E h => ?_) (fun f cdv A outer s H vs Q E hr h => ?_)
  · obtain ⟨n, rfl, _⟩ := h
    rfl
  · obtain ⟨n, rfl, hpre, kk⟩ := h
    refine ⟨_, (pss_one (ps_if (PW.pt (pw_or (pt_not (pt_val (pe_own (ok_is_integer T) (hr.mono (by decide)) rfl (pa_cons (pv 0) pa_nil)))) (pw_or1 (pt_cmpR op_lt (pv 0) pe_int (nomark _))))) (pss_one ps_never) pss_nil)), ?_⟩
    refine run_ws (σ := [some (.int n)]) (K := kV (fun v => v = .non)) (L := []) ?_ at_nil (eo_V fun v H' e s' => e ▸ kk H' s')
    refine ws_if ?_
    refine wt_orP ?_
    refine wt_not ?_
    refine wt_B ?_
    refine wp_call ?_
    refine wa_cons ?_
    refine wp_var rfl ?_
    refine wa_nil ?_
    refine wc_is_integer ?_
    refine ⟨_, rfl, ?_⟩
    apply andK
    · intro hb1
      try simp only [decide_eq_true_eq, decide_eq_false_iff_not, Bool.and_eq_true, Bool.or_eq_true, Bool.not_eq_true', Bool.and_eq_false_iff, Bool.or_eq_false_iff, Bool.not_eq_false', Bool.not_true, Bool.not_false, Bool.false_or, Bool.true_and, Bool.true_or, Bool.false_and, Bool.and_true, Bool.or_false, reduceCtorEq, not_true_eq_false, not_false_eq_true, decide_true, decide_false] at hb1
      refine wt_test ?_
      refine wp_op ?_
      refine wp_var rfl ?_
      refine wp_c ?_
      refine wr0 ?_
      refine ⟨_, rfl, ?_⟩
      exact ⟨rfl, rfl⟩
    refine ifB (fun hc2 => ?_) (fun hc2 => ?_)
    · try simp only [decide_eq_true_eq, decide_eq_false_iff_not, Bool.and_eq_true, Bool.or_eq_true, Bool.not_eq_true', Bool.and_eq_false_iff, Bool.or_eq_false_iff, Bool.not_eq_false', Bool.not_true, Bool.not_false, Bool.false_or, Bool.true_and, Bool.true_or, Bool.false_and, Bool.and_true, Bool.or_false, reduceCtorEq, not_true_eq_false, not_false_eq_true, decide_true, decide_false] at hc2
      exact ws_never (by first | omega | (simp at *; done) | (exfalso; omega) | (simp at *; omega))
    · try simp only [decide_eq_true_eq, decide_eq_false_iff_not, Bool.and_eq_true, Bool.or_eq_true, Bool.not_eq_true', Bool.and_eq_false_iff, Bool.or_eq_false_iff, Bool.not_eq_false', Bool.not_true, Bool.not_false, Bool.false_or, Bool.true_and, Bool.true_or, Bool.false_and, Bool.and_true, Bool.or_false, reduceCtorEq, not_true_eq_false, not_false_eq_true, decide_true, decide_false] at hc2
      refine ws_next ?_
      exact rfl
theorem sc_Scheme_level : FnScope ["self", "number", "count"] ["self", "number"] (defScope s_Scheme_level) := ⟨rfl, rfl, rfl, by decide +kernel, rfl, by decide +kernel, by decide +kernel⟩
def sp_Scheme_level (CS : Cs) : Sp := fun vs H Q _ => ∃ (s dx : Addr) (b f : Int) (n0 : Int), (vs = [.ref s, .int n0]) ∧ (H s = some (.ins CS dx (scF b f))) ∧ (SchOk b f ∧ 0 ≤ n0 ∧ n0 ≤ 10 ^ 60) ∧ ((n0 = 0) → ∀ H' : Hp, Same H H' → Q .non H') ∧ ∀ n : Int, (1 ≤ n0 ∧ ∃ k : Nat, n = (k : Int) ∧ Ma.unitF b n0 = b ^ k) → ∀ H' : Hp, Same H H' → Q (.int n) H'
theorem wc_Scheme_level {CS : Cs} {g : Gr} {L : Led} {C : V → Led → Prop} {E : XK} {s dx : Addr} {b f : Int} {n0 : Int} {bo0 : Bool} (i0 : Nat) (h0 : L[i0]? = some (s, .ob (.ins CS dx (scF b f)), bo0)) (hpre : SchOk b f ∧ 0 ≤ n0 ∧ n0 ≤ 10 ^ 60) (c1 : (n0 = 0) → C .non L) (c2 : ∀ n : Int, (1 ≤ n0 ∧ ∃ k : Nat, n = (k : Int) ∧ Ma.unitF b n0 = b ^ k) → C (.int n) L) : Wp g L (fun H Q => sp_Scheme_level CS [.ref s, .int n0] H Q E) C := fun H z Q q => ⟨s, dx, b, f, n0, rfl, z.get h0, hpre, fun hn H' s' => q _ _ _ (c1 hn) (z.same s'), fun n hn H' s' => q _ _ _ (c2 n hn) (z.same s')⟩
theorem ok_Scheme_level (T : Top K mg CS) : OkM P w K mg base CS 4 "level" "Scheme.level" s_Scheme_level ["self", "number"] (sp_Scheme_level CS) := by
  refine OkM.of T.f_Scheme_level sc_Scheme_level (fun _ _ _ _ _ _ us hl => match us, hl with | [_, _], _ => rfl) (fun vs H Q E h => ?_) (fun f cdv A outer s H vs Q E hr h => ?_)
  · obtain ⟨s, dx, b, f, n0, rfl, _⟩ := h
    rfl
  · obtain ⟨s, dx, b, f, n0, rfl, hh0, hpre, kk1, kk2⟩ := h
    have hs := hpre.1
    unfold SchOk at hs
    refine ⟨_, (pss_cons (ps_expr (pe_own (ok_check_number T) (hr.mono (by decide)) rfl (pa_cons (pv 1) pa_nil)))
      (pss_cons (ps_if (pt_cmpR op_eq (pv 1) pe_int (nomark _)) (pss_one (ps_ret pe_non)) pss_nil)
      (pss_cons (ps_set (i := 2) sc_Scheme_level.nd rfl (Or.inl rfl) pe_int)
      (pss_cons (ps_while PassesOwn.never (pt_cmpR op_eq (pe_op op_mod (pv 1) (pe_fld (pv 0) rfl)) pe_int (nomark _)) (pss_cons (ps_set (i := 1) sc_Scheme_level.nd rfl (Or.inl rfl) (pe_op op_fdivW (pv 1) (pe_fld (pv 0) rfl)))
      (pss_one (ps_set (i := 2) sc_Scheme_level.nd rfl (Or.inl rfl) (pe_op op_add (pv 2) pe_int)))))
      (pss_one (ps_ret (pv 2))))))), ?_⟩
    refine run_ws (σ := [some (.ref s), some (.int n0), none]) (K := kO (n0 = 0) (fun n => 1 ≤ n0 ∧ ∃ k : Nat, n = (k : Int) ∧ Ma.unitF b n0 = b ^ k)) (L := [(s, .ob (.ins CS dx (scF b f)), false)]) ?_ (at_one hh0) (eo_O kk1 kk2)
    refine ws_seq ?_
    refine ws_drop ?_
    refine wp_call ?_
    refine wa_cons ?_
    refine wp_var rfl ?_
    refine wa_nil ?_
    refine wc_check_number (by omega) ?_
    refine ws_seq ?_
    refine ws_if ?_
    refine wt_test ?_
    refine wp_op ?_
    refine wp_var rfl ?_
    refine wp_c ?_
    refine wr_eqI ?_
    refine ⟨_, rfl, ?_⟩
    refine ifB (fun hc1 => ?_) (fun hc1 => ?_)
    · try simp only [decide_eq_true_eq, decide_eq_false_iff_not, Bool.and_eq_true, Bool.or_eq_true, Bool.not_eq_true', Bool.and_eq_false_iff, Bool.or_eq_false_iff, Bool.not_eq_false', Bool.not_true, Bool.not_false, Bool.false_or, Bool.true_and, Bool.true_or, Bool.false_and, Bool.and_true, Bool.or_false, reduceCtorEq, not_true_eq_false, not_false_eq_true, decide_true, decide_false] at hc1
      refine ws_ret ?_
      refine wp_c ?_
      exact .inl ⟨rfl, by omega⟩
    · try simp only [decide_eq_true_eq, decide_eq_false_iff_not, Bool.and_eq_true, Bool.or_eq_true, Bool.not_eq_true', Bool.and_eq_false_iff, Bool.or_eq_false_iff, Bool.not_eq_false', Bool.not_true, Bool.not_false, Bool.false_or, Bool.true_and, Bool.true_or, Bool.false_and, Bool.and_true, Bool.or_false, reduceCtorEq, not_true_eq_false, not_false_eq_true, decide_true, decide_false] at hc1
      refine ws_next ?_
      refine ws_seq ?_
      refine ws_set ?_
      refine wp_c ?_
      refine ws_seq ?_
      refine ws_whileN (fun j σ L => ∃ (m : Int) (k : Nat), σ = [some (.ref s), some (.int m), some (.int (k : Int))] ∧ L = [(s, .ob (.ins CS dx (scF b f)), false)] ∧ n0 = m * b ^ k ∧ 1 ≤ m ∧ m ≤ n0 ∧ j = m.toNat) ?_ ?_
      · exact ⟨_, n0, 0, rfl, rfl, by simp, by omega, by omega, rfl⟩
      rintro mm σ L ⟨m, k, rfl, rfl, hm, hm1, hm2, hj⟩
      refine wt_test ?_
      refine wp_op ?_
      refine wp_op ?_
      refine wp_var rfl ?_
      refine wp_fld 0 T.cl_Scheme T.n_Scheme_radix ?_
      refine wp_var rfl ?_
      refine ⟨_, _, _, _, _, rfl, rfl, scF_radix _ _, ?_⟩
      refine wr1 (by (show (0 : Int) < _; omega)) ?_
      refine wp_c ?_
      refine wr_eqI ?_
      refine ⟨_, rfl, ?_⟩
      refine ifB (fun hc => ?_) (fun hc => ?_)
      · try simp only [decide_eq_true_eq, decide_eq_false_iff_not, Bool.and_eq_true, Bool.or_eq_true, Bool.not_eq_true', Bool.and_eq_false_iff, Bool.or_eq_false_iff, Bool.not_eq_false', Bool.not_true, Bool.not_false, Bool.false_or, Bool.true_and, Bool.true_or, Bool.false_and, Bool.and_true, Bool.or_false, reduceCtorEq, not_true_eq_false, not_false_eq_true, decide_true, decide_false] at hc
        refine ws_seq ?_
        refine ws_set ?_
        refine wp_op ?_
        refine wp_var rfl ?_
        refine wp_fld 0 T.cl_Scheme T.n_Scheme_radix ?_
        refine wp_var rfl ?_
        refine ⟨_, _, _, _, _, rfl, rfl, scF_radix _ _, ?_⟩
        refine wr1 (by exact divOk (by omega)) ?_
        refine ws_set ?_
        refine wp_op ?_
        refine wp_var rfl ?_
        refine wp_c ?_
        refine wr0 ?_
        have hd := Ma.div_lt (b := b) (n := m) (by omega) hm1 hc
        have e : m = b * (m / b) := by
          have := Int.mul_ediv_add_emod m b
          omega
        refine ⟨_, _, ?_, ⟨m / b, k + 1, rfl, rfl, ?_, by omega, by omega, rfl⟩, List.prefix_refl _⟩
        · omega
        · rw [Int.pow_succ, hm]
          have e3 : m / b * (b ^ k * b) = b * (m / b) * b ^ k := by
            rw [Int.mul_comm b, Int.mul_assoc, Int.mul_comm b (b ^ k)]
          rw [e3, ← e]
      · try simp only [decide_eq_true_eq, decide_eq_false_iff_not, Bool.and_eq_true, Bool.or_eq_true, Bool.not_eq_true', Bool.and_eq_false_iff, Bool.or_eq_false_iff, Bool.not_eq_false', Bool.not_true, Bool.not_false, Bool.false_or, Bool.true_and, Bool.true_or, Bool.false_and, Bool.and_true, Bool.or_false, reduceCtorEq, not_true_eq_false, not_false_eq_true, decide_true, decide_false] at hc
        refine ws_ret ?_
        refine wp_var rfl ?_
        refine .inr ⟨_, rfl, by omega, k, rfl, ?_⟩
        refine ((Ma.IsUnit.eq (by omega) (by omega) ⟨⟨k, rfl⟩, ⟨m, by rw [hm, Int.mul_comm]⟩, ?_⟩)).symm
        rintro ⟨c, hq⟩
        apply hc
        have e : b ^ k * m = b ^ k * (b * c) := by rw [Int.mul_comm, ← hm, hq, Int.mul_assoc]
        have e2 : m = b * c := Int.eq_of_mul_eq_mul_left (by have := Ma.pow_pos (b := b) (by omega) k; omega) e
        rw [e2]
        exact Int.mul_emod_right b c
theorem sc_Scheme_unit : FnScope ["self", "number", "unit"] ["self", "number"] (defScope s_Scheme_unit) := ⟨rfl, rfl, rfl, by decide +kernel, rfl, by decide +kernel, by decide +kernel⟩
def sp_Scheme_unit (CS : Cs) : Sp := fun vs H Q _ => ∃ (s dx : Addr) (b f : Int) (n : Int), (vs = [.ref s, .int n]) ∧ (H s = some (.ins CS dx (scF b f))) ∧ (SchOk b f ∧ 1 ≤ n ∧ n ≤ 10 ^ 60) ∧ ∀ (H' : Hp), Same H H' → Q (.int (Ma.unitF b n)) H'
theorem wc_Scheme_unit {CS : Cs} {g : Gr} {L : Led} {C : V → Led → Prop} {E : XK} {s dx : Addr} {b f : Int} {n : Int} {bo0 : Bool} (i0 : Nat) (h0 : L[i0]? = some (s, .ob (.ins CS dx (scF b f)), bo0)) (hpre : SchOk b f ∧ 1 ≤ n ∧ n ≤ 10 ^ 60) (c : C (.int (Ma.unitF b n)) L) : Wp g L (fun H Q => sp_Scheme_unit CS [.ref s, .int n] H Q E) C := fun H z Q q => ⟨s, dx, b, f, n, rfl, z.get h0, hpre, fun H' s' => q _ _ _ (c) (z.same s')⟩
theorem ok_Scheme_unit (T : Top K mg CS) : OkM P w K mg base CS 1 "unit" "Scheme.unit" s_Scheme_unit ["self", "number"] (sp_Scheme_unit CS) := by
  refine OkM.of T.f_Scheme_unit sc_Scheme_unit (fun _ _ _ _ _ _ us hl => match us, hl with | [_, _], _ => rfl) (fun vs H Q E h => ?_) (fun f cdv A outer s H vs Q E hr h => ?_)
  · obtain ⟨s, dx, b, f, n, rfl, _⟩ := h
    rfl
  · obtain ⟨s, dx, b, f, n, rfl, hh0, hpre, kk⟩ := h
    have hs := hpre.1
    unfold SchOk at hs
    refine ⟨_, (pss_cons (ps_set (i := 2) sc_Scheme_unit.nd rfl (Or.inl rfl) pe_int)
      (pss_cons (ps_while PassesOwn.never (pt_cmpR op_eq (pe_op op_mod (pv 1) (pe_op op_mulW (pv 2) (pe_fld (pv 0) rfl))) pe_int (nomark _)) (pss_one (ps_set (i := 2) sc_Scheme_unit.nd rfl (Or.inl rfl) (pe_op op_mulW (pv 2) (pe_fld (pv 0) rfl)))))
      (pss_one (ps_ret (pv 2))))), ?_⟩
    refine run_ws (σ := [some (.ref s), some (.int n), none]) (K := kV (fun v => v = (.int (Ma.unitF b n)))) (L := [(s, .ob (.ins CS dx (scF b f)), false)]) ?_ (at_one hh0) (eo_V fun v H' e s' => e ▸ kk H' s')
    refine ws_seq ?_
    refine ws_set ?_
    refine wp_c ?_
    refine ws_seq ?_
    refine ws_whileN (fun k σ L => ∃ u : Int, σ = [some (.ref s), some (.int n), some (.int u)] ∧ L = [(s, .ob (.ins CS dx (scF b f)), false)] ∧ Ma.IsPow b u ∧ u ∣ n ∧ k = (n - u).toNat) ?_ ?_
    · exact ⟨_, 1, rfl, rfl, Ma.IsPow.one b, Int.one_dvd n, rfl⟩
    rintro mm σ L ⟨u, rfl, rfl, hp, hd, hk⟩
    have hu1 := hp.pos (b := b) (by omega)
    have hu2 := Int.le_of_dvd (by omega) hd
    refine wt_test ?_
    refine wp_op ?_
    refine wp_op ?_
    refine wp_var rfl ?_
    refine wp_op ?_
    refine wp_var rfl ?_
    refine wp_fld 0 T.cl_Scheme T.n_Scheme_radix ?_
    refine wp_var rfl ?_
    refine ⟨_, _, _, _, _, rfl, rfl, scF_radix _ _, ?_⟩
    refine wr1 (by exact mulOk (by omega) (by omega)) ?_
    refine wr1 (Int.mul_pos (by omega) (by omega)) ?_
    refine wp_c ?_
    refine wr_eqI ?_
    refine ⟨_, rfl, ?_⟩
    refine ifB (fun hc => ?_) (fun hc => ?_)
    · try simp only [decide_eq_true_eq, decide_eq_false_iff_not, Bool.and_eq_true, Bool.or_eq_true, Bool.not_eq_true', Bool.and_eq_false_iff, Bool.or_eq_false_iff, Bool.not_eq_false', Bool.not_true, Bool.not_false, Bool.false_or, Bool.true_and, Bool.true_or, Bool.false_and, Bool.and_true, Bool.or_false, reduceCtorEq, not_true_eq_false, not_false_eq_true, decide_true, decide_false] at hc
      refine ws_set ?_
      refine wp_op ?_
      refine wp_var rfl ?_
      refine wp_fld 0 T.cl_Scheme T.n_Scheme_radix ?_
      refine wp_var rfl ?_
      refine ⟨_, _, _, _, _, rfl, rfl, scF_radix _ _, ?_⟩
      refine wr1 (by exact mulOk (by omega) (by omega)) ?_
      have h2 : u * 2 ≤ u * b := Int.mul_le_mul_of_nonneg_left (by omega) (by omega)
      have hd2 : u * b ∣ n := Int.dvd_of_emod_eq_zero hc
      have hu3 := Int.le_of_dvd (by omega) hd2
      exact ⟨_, _, by omega, ⟨u * b, rfl, rfl, hp.mul, hd2, rfl⟩, List.prefix_refl _⟩
    · try simp only [decide_eq_true_eq, decide_eq_false_iff_not, Bool.and_eq_true, Bool.or_eq_true, Bool.not_eq_true', Bool.and_eq_false_iff, Bool.or_eq_false_iff, Bool.not_eq_false', Bool.not_true, Bool.not_false, Bool.false_or, Bool.true_and, Bool.true_or, Bool.false_and, Bool.and_true, Bool.or_false, reduceCtorEq, not_true_eq_false, not_false_eq_true, decide_true, decide_false] at hc
      refine ws_ret ?_
      refine wp_var rfl ?_
      refine congrArg V.int (Ma.IsUnit.eq (by omega) (by omega) ⟨hp, hd, fun q => hc (Int.emod_eq_zero_of_dvd q)⟩)
theorem sc_Scheme_parent_of : FnScope ["self", "number", "wide"] ["self", "number"] (defScope s_Scheme_parent_of) := ⟨rfl, rfl, rfl, by decide +kernel, rfl, by decide +kernel, by decide +kernel⟩
def sp_Scheme_parent_of (CS : Cs) : Sp := fun vs H Q _ => ∃ (s dx : Addr) (b f : Int) (n : Int), (vs = [.ref s, .int n]) ∧ (H s = some (.ins CS dx (scF b f))) ∧ (SchOk b f ∧ 0 ≤ n ∧ n ≤ 10 ^ 60) ∧ ∀ (H' : Hp), Same H H' → Q (if n = 0 then .non else (.int (Ma.parF b n))) H'
theorem wc_Scheme_parent_of {CS : Cs} {g : Gr} {L : Led} {C : V → Led → Prop} {E : XK} {s dx : Addr} {b f : Int} {n : Int} {bo0 : Bool} (i0 : Nat) (h0 : L[i0]? = some (s, .ob (.ins CS dx (scF b f)), bo0)) (hpre : SchOk b f ∧ 0 ≤ n ∧ n ≤ 10 ^ 60) (c : C (if n = 0 then .non else (.int (Ma.parF b n))) L) : Wp g L (fun H Q => sp_Scheme_parent_of CS [.ref s, .int n] H Q E) C := fun H z Q q => ⟨s, dx, b, f, n, rfl, z.get h0, hpre, fun H' s' => q _ _ _ (c) (z.same s')⟩
theorem wc_Scheme_parent_of_pos {CS : Cs} {g : Gr} {L : Led} {C : V → Led → Prop} {E : XK} {s dx : Addr} {b f : Int} {n : Int} {bo0 : Bool} (i0 : Nat) (h0 : L[i0]? = some (s, .ob (.ins CS dx (scF b f)), bo0)) (hpre : SchOk b f ∧ 0 ≤ n ∧ n ≤ 10 ^ 60) (hz : ¬ (n = 0)) (c : C (.int (Ma.parF b n)) L) : Wp g L (fun H Q => sp_Scheme_parent_of CS [.ref s, .int n] H Q E) C := wc_Scheme_parent_of i0 h0 hpre (by rw [if_neg hz]; exact c)
theorem wc_Scheme_parent_of_zero {CS : Cs} {g : Gr} {L : Led} {C : V → Led → Prop} {E : XK} {s dx : Addr} {b f : Int} {n : Int} {bo0 : Bool} (i0 : Nat) (h0 : L[i0]? = some (s, .ob (.ins CS dx (scF b f)), bo0)) (hpre : SchOk b f ∧ 0 ≤ n ∧ n ≤ 10 ^ 60) (hz : n = 0) (c : C .non L) : Wp g L (fun H Q => sp_Scheme_parent_of CS [.ref s, .int n] H Q E) C := wc_Scheme_parent_of i0 h0 hpre (by rw [if_pos hz]; exact c)
theorem ok_Scheme_parent_of (T : Top K mg CS) : OkM P w K mg base CS 2 "parent_of" "Scheme.parent_of" s_Scheme_parent_of ["self", "number"] (sp_Scheme_parent_of CS) := by
  refine OkM.of T.f_Scheme_parent_of sc_Scheme_parent_of (fun _ _ _ _ _ _ us hl => match us, hl with | [_, _], _ => rfl) (fun vs H Q E h => ?_) (fun f cdv A outer s H vs Q E hr h => ?_)
  · obtain ⟨s, dx, b, f, n, rfl, _⟩ := h
    rfl
  · obtain ⟨s, dx, b, f, n, rfl, hh0, hpre, kk⟩ := h
    have hs := hpre.1
    unfold SchOk at hs
    refine ⟨_, (pss_cons (ps_if (pt_cmpR op_eq (pv 1) pe_int (nomark _)) (pss_one (ps_ret pe_non)) pss_nil)
      (pss_cons (ps_set (i := 2) sc_Scheme_parent_of.nd rfl (Or.inl rfl) (pe_op op_mulW (pe_om T.cl_Scheme (ok_Scheme_unit T) (hr.mono (by decide)) (pv 0) (pa_cons (pv 1) pa_nil)) (pe_fld (pv 0) rfl)))
      (pss_one (ps_ret (pe_op op_mulW (pe_op op_fdivW (pv 1) (pv 2)) (pv 2)))))), ?_⟩
    refine run_ws (σ := [some (.ref s), some (.int n), none]) (K := kV (fun v => v = (if n = 0 then .non else (.int (Ma.parF b n))))) (L := [(s, .ob (.ins CS dx (scF b f)), false)]) ?_ (at_one hh0) (eo_V fun v H' e s' => e ▸ kk H' s')
    refine ws_seq ?_
    refine ws_if ?_
    refine wt_test ?_
    refine wp_op ?_
    refine wp_var rfl ?_
    refine wp_c ?_
    refine wr_eqI ?_
    refine ⟨_, rfl, ?_⟩
    refine ifB (fun hc1 => ?_) (fun hc1 => ?_)
    · try simp only [decide_eq_true_eq, decide_eq_false_iff_not, Bool.and_eq_true, Bool.or_eq_true, Bool.not_eq_true', Bool.and_eq_false_iff, Bool.or_eq_false_iff, Bool.not_eq_false', Bool.not_true, Bool.not_false, Bool.false_or, Bool.true_and, Bool.true_or, Bool.false_and, Bool.and_true, Bool.or_false, reduceCtorEq, not_true_eq_false, not_false_eq_true, decide_true, decide_false] at hc1
      refine ws_ret ?_
      refine wp_c ?_
      exact (if_pos (by omega)).symm
    · try simp only [decide_eq_true_eq, decide_eq_false_iff_not, Bool.and_eq_true, Bool.or_eq_true, Bool.not_eq_true', Bool.and_eq_false_iff, Bool.or_eq_false_iff, Bool.not_eq_false', Bool.not_true, Bool.not_false, Bool.false_or, Bool.true_and, Bool.true_or, Bool.false_and, Bool.and_true, Bool.or_false, reduceCtorEq, not_true_eq_false, not_false_eq_true, decide_true, decide_false] at hc1
      refine ws_next ?_
      refine ws_seq ?_
      refine ws_set ?_
      refine wp_op ?_
      refine wp_meth 0 ?_
      refine wp_var rfl ?_
      refine ⟨_, _, _, _, rfl, rfl, scF_no _ _ (by decide +kernel) (by decide +kernel), ?_⟩
      refine wa_cons ?_
      refine wp_var rfl ?_
      refine wa_nil ?_
      refine wc_Scheme_unit 0 rfl ⟨by (unfold SchOk; omega), by omega⟩ ?_
      refine wp_fld 0 T.cl_Scheme T.n_Scheme_radix ?_
      refine wp_var rfl ?_
      refine ⟨_, _, _, _, _, rfl, rfl, scF_radix _ _, ?_⟩
      have hu1 := Ma.unitF_pos (b := b) (n := n) (by omega)
      have hu2 := Ma.unitF_le (b := b) (n := n) (by omega)
      refine wr1 (mulOk (by omega) (by omega)) ?_
      refine ws_ret ?_
      refine wp_op ?_
      refine wp_op ?_
      refine wp_var rfl ?_
      refine wp_var rfl ?_
      have hw := Ma.ub_pos (b := b) (n := n) (by omega)
      have hu1 := Ma.unitF_pos (b := b) (n := n) (by omega)
      have hu2 := Ma.unitF_le (b := b) (n := n) (by omega)
      have hw2 : Ma.unitF b n * b ≤ Ma.unitF b n * 1000 := Int.mul_le_mul_of_nonneg_left (by omega) (by omega)
      refine wr1 (divOk (by omega)) ?_
      refine wp_var rfl ?_
      have hq : n / (Ma.unitF b n * b) ≤ n := Int.ediv_le_self _ (by omega)
      have hq0 : 0 ≤ n / (Ma.unitF b n * b) := Int.ediv_nonneg (by omega) (by omega)
      refine wr1 (mulOk (by omega) (by omega)) ?_
      exact (if_neg (by omega)).symm
theorem sc_Scheme_parent : FnScope ["self", "number"] ["self", "number"] (defScope s_Scheme_parent) := ⟨rfl, rfl, rfl, by decide +kernel, rfl, by decide +kernel, by decide +kernel⟩
def sp_Scheme_parent (CS : Cs) : Sp := fun vs H Q _ => ∃ (s dx : Addr) (b f : Int) (n : Int), (vs = [.ref s, .int n]) ∧ (H s = some (.ins CS dx (scF b f))) ∧ (SchOk b f ∧ 0 ≤ n ∧ n ≤ 10 ^ 60) ∧ ∀ (H' : Hp), Same H H' → Q (if n = 0 then .non else (.int (Ma.parF b n))) H'
theorem wc_Scheme_parent {CS : Cs} {g : Gr} {L : Led} {C : V → Led → Prop} {E : XK} {s dx : Addr} {b f : Int} {n : Int} {bo0 : Bool} (i0 : Nat) (h0 : L[i0]? = some (s, .ob (.ins CS dx (scF b f)), bo0)) (hpre : SchOk b f ∧ 0 ≤ n ∧ n ≤ 10 ^ 60) (c : C (if n = 0 then .non else (.int (Ma.parF b n))) L) : Wp g L (fun H Q => sp_Scheme_parent CS [.ref s, .int n] H Q E) C := fun H z Q q => ⟨s, dx, b, f, n, rfl, z.get h0, hpre, fun H' s' => q _ _ _ (c) (z.same s')⟩
theorem wc_Scheme_parent_pos {CS : Cs} {g : Gr} {L : Led} {C : V → Led → Prop} {E : XK} {s dx : Addr} {b f : Int} {n : Int} {bo0 : Bool} (i0 : Nat) (h0 : L[i0]? = some (s, .ob (.ins CS dx (scF b f)), bo0)) (hpre : SchOk b f ∧ 0 ≤ n ∧ n ≤ 10 ^ 60) (hz : ¬ (n = 0)) (c : C (.int (Ma.parF b n)) L) : Wp g L (fun H Q => sp_Scheme_parent CS [.ref s, .int n] H Q E) C := wc_Scheme_parent i0 h0 hpre (by rw [if_neg hz]; exact c)
theorem wc_Scheme_parent_zero {CS : Cs} {g : Gr} {L : Led} {C : V → Led → Prop} {E : XK} {s dx : Addr} {b f : Int} {n : Int} {bo0 : Bool} (i0 : Nat) (h0 : L[i0]? = some (s, .ob (.ins CS dx (scF b f)), bo0)) (hpre : SchOk b f ∧ 0 ≤ n ∧ n ≤ 10 ^ 60) (hz : n = 0) (c : C .non L) : Wp g L (fun H Q => sp_Scheme_parent CS [.ref s, .int n] H Q E) C := wc_Scheme_parent i0 h0 hpre (by rw [if_pos hz]; exact c)
theorem ok_Scheme_parent (T : Top K mg CS) : OkM P w K mg base CS 4 "parent" "Scheme.parent" s_Scheme_parent ["self", "number"] (sp_Scheme_parent CS) := by
  refine OkM.of T.f_Scheme_parent sc_Scheme_parent (fun _ _ _ _ _ _ us hl => match us, hl with | [_, _], _ => rfl) (fun vs H Q E h => ?_) (fun f cdv A outer s H vs Q E hr h => ?_)
  · obtain ⟨s, dx, b, f, n, rfl, _⟩ := h
    rfl
  · obtain ⟨s, dx, b, f, n, rfl, hh0, hpre, kk⟩ := h
    have hs := hpre.1
    unfold SchOk at hs
    refine ⟨_, (pss_cons (ps_expr (pe_own (ok_check_number T) (hr.mono (by decide)) rfl (pa_cons (pv 1) pa_nil)))
      (pss_one (ps_ret (pe_om T.cl_Scheme (ok_Scheme_parent_of T) (hr.mono (by decide)) (pv 0) (pa_cons (pv 1) pa_nil))))), ?_⟩
    refine run_ws (σ := [some (.ref s), some (.int n)]) (K := kV (fun v => v = (if n = 0 then .non else (.int (Ma.parF b n))))) (L := [(s, .ob (.ins CS dx (scF b f)), false)]) ?_ (at_one hh0) (eo_V fun v H' e s' => e ▸ kk H' s')
    refine ws_seq ?_
    refine ws_drop ?_
    refine wp_call ?_
    refine wa_cons ?_
    refine wp_var rfl ?_
    refine wa_nil ?_
    refine wc_check_number (by omega) ?_
    refine ws_ret ?_
    refine wp_meth 0 ?_
    refine wp_var rfl ?_
    refine ⟨_, _, _, _, rfl, rfl, scF_no _ _ (by decide +kernel) (by decide +kernel), ?_⟩
    refine wa_cons ?_
    refine wp_var rfl ?_
    refine wa_nil ?_
    refine wc_Scheme_parent_of 0 rfl hpre ?_
    exact rfl
theorem sc_Scheme_chain : FnScope ["self", "number", "found"] ["self", "number"] (defScope s_Scheme_chain) := ⟨rfl, rfl, rfl, by decide +kernel, rfl, by decide +kernel, by decide +kernel⟩
def sp_Scheme_chain (CS : Cs) : Sp := fun vs H Q _ => ∃ (s dx : Addr) (b f : Int) (n : Int), (vs = [.ref s, .int n]) ∧ (H s = some (.ins CS dx (scF b f))) ∧ (SchOk b f ∧ 0 ≤ n ∧ n ≤ 10 ^ 60) ∧ ∀ (p : Addr) (H' : Hp), H p = none → Same H H' → H' p = some (.lst ((Ma.chainF b n).map V.int)) → Q (.ref p) H'
theorem wc_Scheme_chain {CS : Cs} {g : Gr} {L : Led} {C : V → Led → Prop} {E : XK} {s dx : Addr} {b f : Int} {n : Int} {bo0 : Bool} (i0 : Nat) (h0 : L[i0]? = some (s, .ob (.ins CS dx (scF b f)), bo0)) (hpre : SchOk b f ∧ 0 ≤ n ∧ n ≤ 10 ^ 60) (c : ∀ p : Addr, C (.ref p) (L ++ [(p, .ob (.lst ((Ma.chainF b n).map V.int)), true)])) : Wp g L (fun H Q => sp_Scheme_chain CS [.ref s, .int n] H Q E) C := fun H z Q q => ⟨s, dx, b, f, n, rfl, z.get h0, hpre, fun p H' n s' hp => q _ _ _ (c p) (z.new s' n hp)⟩
theorem ok_Scheme_chain (T : Top K mg CS) : OkM P w K mg base CS 4 "chain" "Scheme.chain" s_Scheme_chain ["self", "number"] (sp_Scheme_chain CS) := by
  refine OkM.of T.f_Scheme_chain sc_Scheme_chain (fun _ _ _ _ _ _ us hl => match us, hl with | [_, _], _ => rfl) (fun vs H Q E h => ?_) (fun f cdv A outer s H vs Q E hr h => ?_)
  · obtain ⟨s, dx, b, f, n, rfl, _⟩ := h
    rfl
  · obtain ⟨s, dx, b, f, n, rfl, hh0, hpre, kk⟩ := h
    have hs := hpre.1
    unfold SchOk at hs
    refine ⟨_, (pss_cons (ps_expr (pe_own (ok_check_number T) (hr.mono (by decide)) rfl (pa_cons (pv 1) pa_nil)))
      (pss_cons (ps_set (i := 2) sc_Scheme_chain.nd rfl (Or.inl rfl) (pe_lst (pa_cons (pv 1) pa_nil)))
      (pss_cons (ps_while PassesOwn.never (pt_cmpR op_gt (pe_ix ix_list (pv 2) (pe_un un_neg pe_int) (fun _ _ => rfl)) pe_int (nomark _)) (pss_one (ps_expr (pe_bm PySem.F.plainAttrs_list PySem.F.slot_list_append PySem.F.type_list_append mt_append (pv 2) (pa_cons (pe_om T.cl_Scheme (ok_Scheme_parent_of T) (hr.mono (by decide)) (pv 0) (pa_cons (pe_ix ix_list (pv 2) (pe_un un_neg pe_int) (fun _ _ => rfl)) pa_nil)) pa_nil)))))
      (pss_one (ps_ret (pv 2)))))), ?_⟩
    refine run_ws (σ := [some (.ref s), some (.int n), none]) (K := kN (.lst ((Ma.chainF b n).map V.int))) (L := [(s, .ob (.ins CS dx (scF b f)), false)]) ?_ (at_one hh0) (eo_N fun p H' n s' hp => kk p H' n s' hp)
    refine ws_seq ?_
    refine ws_drop ?_
    refine wp_call ?_
    refine wa_cons ?_
    refine wp_var rfl ?_
    refine wa_nil ?_
    refine wc_check_number (by omega) ?_
    refine ws_seq ?_
    refine ws_set ?_
    refine wp_lst ?_
    refine wa_cons ?_
    refine wp_var rfl ?_
    refine wa_nil ?_
    refine ⟨by simp, fun p1 => ?_⟩
    refine ws_seq ?_
    refine ws_whileN (fun j σ L => ∃ (p : Addr) (pre : List Int) (m : Int), σ = [some (.ref s), some (.int n), some (.ref p)] ∧ L = [(s, .ob (.ins CS dx (scF b f)), false), (p, .ob (.lst ((pre ++ [m]).map V.int)), true)] ∧ Ma.chainF b n = pre ++ Ma.chainF b m ∧ 0 ≤ m ∧ m ≤ n ∧ j = m.toNat) ?_ ?_
    · exact ⟨_, _, [], n, rfl, rfl, rfl, by omega, by omega, rfl⟩
    rintro mm σ L ⟨p, pre, m, rfl, rfl, hch, hm0, hm1, hj⟩
    refine wt_test ?_
    refine wp_op ?_
    refine wp_op ?_
    refine wp_var rfl ?_
    refine wp_un ?_
    refine wp_c ?_
    refine wu0 ?_
    refine wr_ixL (seen 1 rfl) (last_map) ?_
    refine wp_c ?_
    refine wr0 ?_
    refine ⟨_, rfl, ?_⟩
    refine ifB (fun hc => ?_) (fun hc => ?_)
    · try simp only [decide_eq_true_eq, decide_eq_false_iff_not, Bool.and_eq_true, Bool.or_eq_true, Bool.not_eq_true', Bool.and_eq_false_iff, Bool.or_eq_false_iff, Bool.not_eq_false', Bool.not_true, Bool.not_false, Bool.false_or, Bool.true_and, Bool.true_or, Bool.false_and, Bool.and_true, Bool.or_false, reduceCtorEq, not_true_eq_false, not_false_eq_true, decide_true, decide_false] at hc
      refine ws_drop ?_
      refine wp_bm ?_
      refine wp_var rfl ?_
      refine ⟨ty_list 1 rfl, ?_⟩
      refine wa_cons ?_
      refine wp_meth 0 ?_
      refine wp_var rfl ?_
      refine ⟨_, _, _, _, rfl, rfl, scF_no _ _ (by decide +kernel) (by decide +kernel), ?_⟩
      refine wa_cons ?_
      refine wp_op ?_
      refine wp_var rfl ?_
      refine wp_un ?_
      refine wp_c ?_
      refine wu0 ?_
      refine wr_ixL (seen 1 rfl) (last_map) ?_
      refine wa_nil ?_
      refine wc_Scheme_parent_of_pos 0 rfl ⟨by (unfold SchOk; omega), by omega⟩ (by omega) ?_
      refine wa_nil ?_
      refine wr_app (e := .src 0) 1 rfl (by (have := Ma.chainF_small (b := b) (n := n) (by omega) (by omega) (by omega); rw [hch] at this; simp at this; simp; omega)) ?_
      have hpl := Ma.parF_lt (b := b) (n := m) (by omega) (by omega)
      have hp0 := Ma.parF_nonneg (b := b) (n := m) (by omega) (by omega)
      refine ⟨_, _, ?_, ⟨p, pre ++ [m], Ma.parF b m, rfl, ?_, ?_, hp0, by omega, rfl⟩, List.prefix_refl _⟩
      · omega
      · simp
      · rw [hch, Ma.chainF_pos (b := b) (n := m) (by omega) (by omega)]
        simp
    · try simp only [decide_eq_true_eq, decide_eq_false_iff_not, Bool.and_eq_true, Bool.or_eq_true, Bool.not_eq_true', Bool.and_eq_false_iff, Bool.or_eq_false_iff, Bool.not_eq_false', Bool.not_true, Bool.not_false, Bool.false_or, Bool.true_and, Bool.true_or, Bool.false_and, Bool.and_true, Bool.or_false, reduceCtorEq, not_true_eq_false, not_false_eq_true, decide_true, decide_false] at hc
      refine ws_ret ?_
      refine wp_var rfl ?_
      refine ⟨_, 1, rfl, ?_⟩
      have e : m = 0 := by omega
      subst e
      rw [hch, Ma.chainF_zero]
      rfl
theorem sc_Scheme_block : FnScope ["self", "number"] ["self", "number"] (defScope s_Scheme_block) := ⟨rfl, rfl, rfl, by decide +kernel, rfl, by decide +kernel, by decide +kernel⟩
def sp_Scheme_block (CS : Cs) : Sp := fun vs H Q _ => ∃ (s dx : Addr) (b f : Int) (n : Int), (vs = [.ref s, .int n]) ∧ (H s = some (.ins CS dx (scF b f))) ∧ (SchOk b f ∧ 0 ≤ n ∧ n ≤ 10 ^ 60) ∧ ∀ (p : Addr) (H' : Hp), H p = none → Same H H' → H' p = some (.tup [.int n, if n = 0 then .non else .int (n + Ma.unitF b n)]) → Q (.ref p) H'
theorem wc_Scheme_block {CS : Cs} {g : Gr} {L : Led} {C : V → Led → Prop} {E : XK} {s dx : Addr} {b f : Int} {n : Int} {bo0 : Bool} (i0 : Nat) (h0 : L[i0]? = some (s, .ob (.ins CS dx (scF b f)), bo0)) (hpre : SchOk b f ∧ 0 ≤ n ∧ n ≤ 10 ^ 60) (c : ∀ p : Addr, C (.ref p) (L ++ [(p, .ob (.tup [.int n, if n = 0 then .non else .int (n + Ma.unitF b n)]), true)])) : Wp g L (fun H Q => sp_Scheme_block CS [.ref s, .int n] H Q E) C := fun H z Q q => ⟨s, dx, b, f, n, rfl, z.get h0, hpre, fun p H' n s' hp => q _ _ _ (c p) (z.new s' n hp)⟩
theorem wc_Scheme_block_pos {CS : Cs} {g : Gr} {L : Led} {C : V → Led → Prop} {E : XK} {s dx : Addr} {b f n : Int} {bo0 : Bool} (i0 : Nat) (h0 : L[i0]? = some (s, .ob (.ins CS dx (scF b f)), bo0)) (hpre : SchOk b f ∧ 0 ≤ n ∧ n ≤ 10 ^ 60) (hz : ¬ n = 0)
    (c : ∀ p : Addr, C (.ref p) (L ++ [(p, .ob (.tup [.int n, .int (n + Ma.unitF b n)]), true)])) : Wp g L (fun H Q => sp_Scheme_block CS [.ref s, .int n] H Q E) C := wc_Scheme_block i0 h0 hpre (by rw [if_neg hz]; exact c)
theorem wc_Scheme_block_zero {CS : Cs} {g : Gr} {L : Led} {C : V → Led → Prop} {E : XK} {s dx : Addr} {b f n : Int} {bo0 : Bool} (i0 : Nat) (h0 : L[i0]? = some (s, .ob (.ins CS dx (scF b f)), bo0)) (hpre : SchOk b f ∧ 0 ≤ n ∧ n ≤ 10 ^ 60) (hz : n = 0)
    (c : ∀ p : Addr, C (.ref p) (L ++ [(p, .ob (.tup [.int n, .non]), true)])) : Wp g L (fun H Q => sp_Scheme_block CS [.ref s, .int n] H Q E) C := wc_Scheme_block i0 h0 hpre (by rw [if_pos hz]; exact c)
theorem ok_Scheme_block (T : Top K mg CS) : OkM P w K mg base CS 4 "block" "Scheme.block" s_Scheme_block ["self", "number"] (sp_Scheme_block CS) := by
  refine OkM.of T.f_Scheme_block sc_Scheme_block (fun _ _ _ _ _ _ us hl => match us, hl with | [_, _], _ => rfl) (fun vs H Q E h => ?_) (fun f cdv A outer s H vs Q E hr h => ?_)
  · obtain ⟨s, dx, b, f, n, rfl, _⟩ := h
    rfl
  · obtain ⟨s, dx, b, f, n, rfl, hh0, hpre, kk⟩ := h
    have hs := hpre.1
    unfold SchOk at hs
    refine ⟨_, (pss_cons (ps_expr (pe_own (ok_check_number T) (hr.mono (by decide)) rfl (pa_cons (pv 1) pa_nil)))
      (pss_one (ps_ret (pe_tup (pa_cons (pv 1) (pa_cons (pe_ifExp (pt_cmpR op_eq (pv 1) pe_int (nomark _)) pe_non (pe_op op_add (pv 1) (pe_om T.cl_Scheme (ok_Scheme_unit T) (hr.mono (by decide)) (pv 0) (pa_cons (pv 1) pa_nil)))) pa_nil)))))), ?_⟩
    refine run_ws (σ := [some (.ref s), some (.int n)]) (K := kN (.tup [.int n, if n = 0 then .non else .int (n + Ma.unitF b n)])) (L := [(s, .ob (.ins CS dx (scF b f)), false)]) ?_ (at_one hh0) (eo_N fun p H' n s' hp => kk p H' n s' hp)
    refine ws_seq ?_
    refine ws_drop ?_
    refine wp_call ?_
    refine wa_cons ?_
    refine wp_var rfl ?_
    refine wa_nil ?_
    refine wc_check_number (by omega) ?_
    refine ws_ret ?_
    refine wp_tup ?_
    refine wa_cons ?_
    refine wp_var rfl ?_
    refine wa_cons ?_
    refine wp_if ?_
    refine wt_test ?_
    refine wp_op ?_
    refine wp_var rfl ?_
    refine wp_c ?_
    refine wr_eqI ?_
    refine ⟨_, rfl, ?_⟩
    refine ifB (fun hc1 => ?_) (fun hc1 => ?_)
    · try simp only [decide_eq_true_eq, decide_eq_false_iff_not, Bool.and_eq_true, Bool.or_eq_true, Bool.not_eq_true', Bool.and_eq_false_iff, Bool.or_eq_false_iff, Bool.not_eq_false', Bool.not_true, Bool.not_false, Bool.false_or, Bool.true_and, Bool.true_or, Bool.false_and, Bool.and_true, Bool.or_false, reduceCtorEq, not_true_eq_false, not_false_eq_true, decide_true, decide_false] at hc1
      refine wp_c ?_
      refine wa_nil ?_
      refine ⟨by simp, fun p2 => ?_⟩
      exact ⟨_, 1, rfl, by first | (rw [if_pos (show n = 0 by omega)]; rfl) | (rw [if_neg (show ¬ n = 0 by omega)]; rfl)⟩
    · try simp only [decide_eq_true_eq, decide_eq_false_iff_not, Bool.and_eq_true, Bool.or_eq_true, Bool.not_eq_true', Bool.and_eq_false_iff, Bool.or_eq_false_iff, Bool.not_eq_false', Bool.not_true, Bool.not_false, Bool.false_or, Bool.true_and, Bool.true_or, Bool.false_and, Bool.and_true, Bool.or_false, reduceCtorEq, not_true_eq_false, not_false_eq_true, decide_true, decide_false] at hc1
      refine wp_op ?_
      refine wp_var rfl ?_
      refine wp_meth 0 ?_
      refine wp_var rfl ?_
      refine ⟨_, _, _, _, rfl, rfl, scF_no _ _ (by decide +kernel) (by decide +kernel), ?_⟩
      refine wa_cons ?_
      refine wp_var rfl ?_
      refine wa_nil ?_
      refine wc_Scheme_unit 0 rfl ⟨by (unfold SchOk; omega), by omega⟩ ?_
      refine wr0 ?_
      refine wa_nil ?_
      refine ⟨by simp, fun p3 => ?_⟩
      exact ⟨_, 1, rfl, by first | (rw [if_pos (show n = 0 by omega)]; rfl) | (rw [if_neg (show ¬ n = 0 by omega)]; rfl)⟩
theorem sc_Scheme_last_time : FnScope ["self", "number"] ["self", "number"] (defScope s_Scheme_last_time) := ⟨rfl, rfl, rfl, by decide +kernel, rfl, by decide +kernel, by decide +kernel⟩
def sp_Scheme_last_time (CS : Cs) : Sp := fun vs H Q _ => ∃ (s dx : Addr) (b f : Int) (n : Int), (vs = [.ref s, .int n]) ∧ (H s = some (.ins CS dx (scF b f))) ∧ (SchOk b f ∧ 0 ≤ n ∧ n ≤ 10 ^ 60) ∧ ∀ (H' : Hp), Same H H' → Q (if n = 0 then .non else (.int (n + f * Ma.unitF b n))) H'
theorem wc_Scheme_last_time {CS : Cs} {g : Gr} {L : Led} {C : V → Led → Prop} {E : XK} {s dx : Addr} {b f : Int} {n : Int} {bo0 : Bool} (i0 : Nat) (h0 : L[i0]? = some (s, .ob (.ins CS dx (scF b f)), bo0)) (hpre : SchOk b f ∧ 0 ≤ n ∧ n ≤ 10 ^ 60) (c : C (if n = 0 then .non else (.int (n + f * Ma.unitF b n))) L) : Wp g L (fun H Q => sp_Scheme_last_time CS [.ref s, .int n] H Q E) C := fun H z Q q => ⟨s, dx, b, f, n, rfl, z.get h0, hpre, fun H' s' => q _ _ _ (c) (z.same s')⟩
theorem wc_Scheme_last_time_pos {CS : Cs} {g : Gr} {L : Led} {C : V → Led → Prop} {E : XK} {s dx : Addr} {b f : Int} {n : Int} {bo0 : Bool} (i0 : Nat) (h0 : L[i0]? = some (s, .ob (.ins CS dx (scF b f)), bo0)) (hpre : SchOk b f ∧ 0 ≤ n ∧ n ≤ 10 ^ 60) (hz : ¬ (n = 0)) (c : C (.int (n + f * Ma.unitF b n)) L) : Wp g L (fun H Q => sp_Scheme_last_time CS [.ref s, .int n] H Q E) C := wc_Scheme_last_time i0 h0 hpre (by rw [if_neg hz]; exact c)
theorem wc_Scheme_last_time_zero {CS : Cs} {g : Gr} {L : Led} {C : V → Led → Prop} {E : XK} {s dx : Addr} {b f : Int} {n : Int} {bo0 : Bool} (i0 : Nat) (h0 : L[i0]? = some (s, .ob (.ins CS dx (scF b f)), bo0)) (hpre : SchOk b f ∧ 0 ≤ n ∧ n ≤ 10 ^ 60) (hz : n = 0) (c : C .non L) : Wp g L (fun H Q => sp_Scheme_last_time CS [.ref s, .int n] H Q E) C := wc_Scheme_last_time i0 h0 hpre (by rw [if_pos hz]; exact c)
theorem ok_Scheme_last_time (T : Top K mg CS) : OkM P w K mg base CS 4 "last_time" "Scheme.last_time" s_Scheme_last_time ["self", "number"] (sp_Scheme_last_time CS) := by
  refine OkM.of T.f_Scheme_last_time sc_Scheme_last_time (fun _ _ _ _ _ _ us hl => match us, hl with | [_, _], _ => rfl) (fun vs H Q E h => ?_) (fun f cdv A outer s H vs Q E hr h => ?_)
  · obtain ⟨s, dx, b, f, n, rfl, _⟩ := h
    rfl
  · obtain ⟨s, dx, b, f, n, rfl, hh0, hpre, kk⟩ := h
    have hs := hpre.1
    unfold SchOk at hs
    refine ⟨_, (pss_cons (ps_expr (pe_own (ok_check_number T) (hr.mono (by decide)) rfl (pa_cons (pv 1) pa_nil)))
      (pss_one (ps_ret (pe_ifExp (pt_cmpR op_eq (pv 1) pe_int (nomark _)) pe_non (pe_op op_add (pv 1) (pe_op op_mulW (pe_fld (pv 0) rfl) (pe_om T.cl_Scheme (ok_Scheme_unit T) (hr.mono (by decide)) (pv 0) (pa_cons (pv 1) pa_nil)))))))), ?_⟩
    refine run_ws (σ := [some (.ref s), some (.int n)]) (K := kV (fun v => v = (if n = 0 then .non else (.int (n + f * Ma.unitF b n))))) (L := [(s, .ob (.ins CS dx (scF b f)), false)]) ?_ (at_one hh0) (eo_V fun v H' e s' => e ▸ kk H' s')
    refine ws_seq ?_
    refine ws_drop ?_
    refine wp_call ?_
    refine wa_cons ?_
    refine wp_var rfl ?_
    refine wa_nil ?_
    refine wc_check_number (by omega) ?_
    refine ws_ret ?_
    refine wp_if ?_
    refine wt_test ?_
    refine wp_op ?_
    refine wp_var rfl ?_
    refine wp_c ?_
    refine wr_eqI ?_
    refine ⟨_, rfl, ?_⟩
    refine ifB (fun hc1 => ?_) (fun hc1 => ?_)
    · try simp only [decide_eq_true_eq, decide_eq_false_iff_not, Bool.and_eq_true, Bool.or_eq_true, Bool.not_eq_true', Bool.and_eq_false_iff, Bool.or_eq_false_iff, Bool.not_eq_false', Bool.not_true, Bool.not_false, Bool.false_or, Bool.true_and, Bool.true_or, Bool.false_and, Bool.and_true, Bool.or_false, reduceCtorEq, not_true_eq_false, not_false_eq_true, decide_true, decide_false] at hc1
      refine wp_c ?_
      exact (if_pos (by omega)).symm
    · try simp only [decide_eq_true_eq, decide_eq_false_iff_not, Bool.and_eq_true, Bool.or_eq_true, Bool.not_eq_true', Bool.and_eq_false_iff, Bool.or_eq_false_iff, Bool.not_eq_false', Bool.not_true, Bool.not_false, Bool.false_or, Bool.true_and, Bool.true_or, Bool.false_and, Bool.and_true, Bool.or_false, reduceCtorEq, not_true_eq_false, not_false_eq_true, decide_true, decide_false] at hc1
      refine wp_op ?_
      refine wp_var rfl ?_
      refine wp_op ?_
      refine wp_fld 0 T.cl_Scheme T.n_Scheme_multiple ?_
      refine wp_var rfl ?_
      refine ⟨_, _, _, _, _, rfl, rfl, scF_multiple _ _, ?_⟩
      refine wp_meth 0 ?_
      refine wp_var rfl ?_
      refine ⟨_, _, _, _, rfl, rfl, scF_no _ _ (by decide +kernel) (by decide +kernel), ?_⟩
      refine wa_cons ?_
      refine wp_var rfl ?_
      refine wa_nil ?_
      refine wc_Scheme_unit 0 rfl ⟨by (unfold SchOk; omega), by omega⟩ ?_
      have hu1 := Ma.unitF_pos (b := b) (n := n) (by omega)
      have hu2 := Ma.unitF_le (b := b) (n := n) (by omega)
      refine wr1 (mulOk (by omega) (by omega)) ?_
      refine wr0 ?_
      exact (if_neg (by omega)).symm
theorem sc_check_time : FnScope ["time"] ["time"] (defScope s_check_time) := ⟨rfl, rfl, rfl, by decide +kernel, rfl, by decide +kernel, by decide +kernel⟩
def sp_check_time (CS : Cs) : Sp := fun vs H Q _ => ∃ (n : Int), (vs = [.int n]) ∧ (0 ≤ n) ∧ ∀ (H' : Hp), Same H H' → Q .non H'
theorem wc_check_time {CS : Cs} {g : Gr} {L : Led} {C : V → Led → Prop} {E : XK} {n : Int} (hpre : 0 ≤ n) (c : C .non L) : Wp g L (fun H Q => sp_check_time CS [.int n] H Q E) C := fun H z Q q => ⟨n, rfl, hpre, fun H' s' => q _ _ _ (c) (z.same s')⟩
theorem ok_check_time (T : Top K mg CS) : Ok P w K mg base 3 "check_time" s_check_time ["time"] (sp_check_time CS) := by
  refine Ok.of T.f_check_time sc_check_time (fun _ _ _ _ _ _ us hl => match us, hl with | [_], _ => rfl) (fun vs H Q E h => ?_) (fun f cdv A outer s H vs Q E hr h => ?_)
  · obtain ⟨n, rfl, _⟩ := h
    rfl
  · obtain ⟨n, rfl, hpre, kk⟩ := h
    refine ⟨_, (pss_one (ps_if (PW.pt (pw_or (pt_not (pt_val (pe_own (ok_is_integer T) (hr.mono (by decide)) rfl (pa_cons (pv 0) pa_nil)))) (pw_or1 (pt_cmpR op_lt (pv 0) pe_int (nomark _))))) (pss_one ps_never) pss_nil)), ?_⟩
    refine run_ws (σ := [some (.int n)]) (K := kV (fun v => v = .non)) (L := []) ?_ at_nil (eo_V fun v H' e s' => e ▸ kk H' s')
    refine ws_if ?_
    refine wt_orP ?_
    refine wt_not ?_
    refine wt_B ?_
    refine wp_call ?_
    refine wa_cons ?_
    refine wp_var rfl ?_
    refine wa_nil ?_
    refine wc_is_integer ?_
    refine ⟨_, rfl, ?_⟩
    apply andK
    · intro hb1
      try simp only [decide_eq_true_eq, decide_eq_false_iff_not, Bool.and_eq_true, Bool.or_eq_true, Bool.not_eq_true', Bool.and_eq_false_iff, Bool.or_eq_false_iff, Bool.not_eq_false', Bool.not_true, Bool.not_false, Bool.false_or, Bool.true_and, Bool.true_or, Bool.false_and, Bool.and_true, Bool.or_false, reduceCtorEq, not_true_eq_false, not_false_eq_true, decide_true, decide_false] at hb1
      refine wt_test ?_
      refine wp_op ?_
      refine wp_var rfl ?_
      refine wp_c ?_
      refine wr0 ?_
      refine ⟨_, rfl, ?_⟩
      exact ⟨rfl, rfl⟩
    refine ifB (fun hc2 => ?_) (fun hc2 => ?_)
    · try simp only [decide_eq_true_eq, decide_eq_false_iff_not, Bool.and_eq_true, Bool.or_eq_true, Bool.not_eq_true', Bool.and_eq_false_iff, Bool.or_eq_false_iff, Bool.not_eq_false', Bool.not_true, Bool.not_false, Bool.false_or, Bool.true_and, Bool.true_or, Bool.false_and, Bool.and_true, Bool.or_false, reduceCtorEq, not_true_eq_false, not_false_eq_true, decide_true, decide_false] at hc2
      exact ws_never (by first | omega | (simp at *; done) | (exfalso; omega) | (simp at *; omega))
    · try simp only [decide_eq_true_eq, decide_eq_false_iff_not, Bool.and_eq_true, Bool.or_eq_true, Bool.not_eq_true', Bool.and_eq_false_iff, Bool.or_eq_false_iff, Bool.not_eq_false', Bool.not_true, Bool.not_false, Bool.false_or, Bool.true_and, Bool.true_or, Bool.false_and, Bool.and_true, Bool.or_false, reduceCtorEq, not_true_eq_false, not_false_eq_true, decide_true, decide_false] at hc2
      refine ws_next ?_
      exact rfl
theorem sc_Scheme_is_kept : FnScope ["self", "number", "time"] ["self", "number", "time"] (defScope s_Scheme_is_kept) := ⟨rfl, rfl, rfl, by decide +kernel, rfl, by decide +kernel, by decide +kernel⟩
def sp_Scheme_is_kept (CS : Cs) : Sp := fun vs H Q _ => ∃ (s dx : Addr) (b f : Int) (n t : Int), (vs = [.ref s, .int n, .int t]) ∧ (H s = some (.ins CS dx (scF b f))) ∧ (SchOk b f ∧ 0 ≤ n ∧ n ≤ 10 ^ 60 ∧ 0 ≤ t) ∧ ∀ (H' : Hp), Same H H' → Q (.bl (Ma.keptB b f n t)) H'
theorem wc_Scheme_is_kept {CS : Cs} {g : Gr} {L : Led} {C : V → Led → Prop} {E : XK} {s dx : Addr} {b f : Int} {n t : Int} {bo0 : Bool} (i0 : Nat) (h0 : L[i0]? = some (s, .ob (.ins CS dx (scF b f)), bo0)) (hpre : SchOk b f ∧ 0 ≤ n ∧ n ≤ 10 ^ 60 ∧ 0 ≤ t) (c : C (.bl (Ma.keptB b f n t)) L) : Wp g L (fun H Q => sp_Scheme_is_kept CS [.ref s, .int n, .int t] H Q E) C := fun H z Q q => ⟨s, dx, b, f, n, t, rfl, z.get h0, hpre, fun H' s' => q _ _ _ (c) (z.same s')⟩
theorem ok_Scheme_is_kept (T : Top K mg CS) : OkM P w K mg base CS 5 "is_kept" "Scheme.is_kept" s_Scheme_is_kept ["self", "number", "time"] (sp_Scheme_is_kept CS) := by
  refine OkM.of T.f_Scheme_is_kept sc_Scheme_is_kept (fun _ _ _ _ _ _ us hl => match us, hl with | [_, _, _], _ => rfl) (fun vs H Q E h => ?_) (fun f cdv A outer s H vs Q E hr h => ?_)
  · obtain ⟨s, dx, b, f, n, t, rfl, _⟩ := h
    rfl
  · obtain ⟨s, dx, b, f, n, t, rfl, hh0, hpre, kk⟩ := h
    have hs := hpre.1
    unfold SchOk at hs
    refine ⟨_, (pss_cons (ps_expr (pe_own (ok_check_number T) (hr.mono (by decide)) rfl (pa_cons (pv 1) pa_nil)))
      (pss_cons (ps_expr (pe_own (ok_check_time T) (hr.mono (by decide)) rfl (pa_cons (pv 2) pa_nil)))
      (pss_one (ps_ret (pe_and (pe_cmpR op_le (pv 1) (pv 2) (nomark _)) (pe_one (pe_or (pe_cmpR op_eq (pv 1) pe_int (nomark _)) (pe_one (pe_cmpR op_le (pv 2) (pe_om T.cl_Scheme (ok_Scheme_last_time T) (hr.mono (by decide)) (pv 0) (pa_cons (pv 1) pa_nil)) (nomark _)))))))))), ?_⟩
    refine run_ws (σ := [some (.ref s), some (.int n), some (.int t)]) (K := kV (fun v => v = (.bl (Ma.keptB b f n t)))) (L := [(s, .ob (.ins CS dx (scF b f)), false)]) ?_ (at_one hh0) (eo_V fun v H' e s' => e ▸ kk H' s')
    refine ws_seq ?_
    refine ws_drop ?_
    refine wp_call ?_
    refine wa_cons ?_
    refine wp_var rfl ?_
    refine wa_nil ?_
    refine wc_check_number (by omega) ?_
    refine ws_seq ?_
    refine ws_drop ?_
    refine wp_call ?_
    refine wa_cons ?_
    refine wp_var rfl ?_
    refine wa_nil ?_
    refine wc_check_time (by omega) ?_
    refine ws_ret ?_
    refine wp_andVP ?_
    refine wp_op ?_
    refine wp_var rfl ?_
    refine wp_var rfl ?_
    refine wr0 ?_
    refine ⟨_, rfl, ?_⟩
    apply andK
    · intro hb1
      try simp only [decide_eq_true_eq, decide_eq_false_iff_not, Bool.and_eq_true, Bool.or_eq_true, Bool.not_eq_true', Bool.and_eq_false_iff, Bool.or_eq_false_iff, Bool.not_eq_false', Bool.not_true, Bool.not_false, Bool.false_or, Bool.true_and, Bool.true_or, Bool.false_and, Bool.and_true, Bool.or_false, reduceCtorEq, not_true_eq_false, not_false_eq_true, decide_true, decide_false] at hb1
      refine wp_orVP ?_
      refine wp_op ?_
      refine wp_var rfl ?_
      refine wp_c ?_
      refine wr_eqI ?_
      refine ⟨_, rfl, ?_⟩
      apply andK
      · intro hb2
        try simp only [decide_eq_true_eq, decide_eq_false_iff_not, Bool.and_eq_true, Bool.or_eq_true, Bool.not_eq_true', Bool.and_eq_false_iff, Bool.or_eq_false_iff, Bool.not_eq_false', Bool.not_true, Bool.not_false, Bool.false_or, Bool.true_and, Bool.true_or, Bool.false_and, Bool.and_true, Bool.or_false, reduceCtorEq, not_true_eq_false, not_false_eq_true, decide_true, decide_false] at hb2
        refine wp_op ?_
        refine wp_var rfl ?_
        refine wp_meth 0 ?_
        refine wp_var rfl ?_
        refine ⟨_, _, _, _, rfl, rfl, scF_no _ _ (by decide +kernel) (by decide +kernel), ?_⟩
        refine wa_cons ?_
        refine wp_var rfl ?_
        refine wa_nil ?_
        refine wc_Scheme_last_time_pos 0 rfl ⟨by (unfold SchOk; omega), by omega⟩ (by omega) ?_
        refine wr0 ?_
        exact ⟨rfl, rfl⟩
      exact ⟨rfl, rfl⟩
    exact rfl
theorem sc_Scheme_has_in_chain : FnScope ["self", "number", "ancestor"] ["self", "number", "ancestor"] (defScope s_Scheme_has_in_chain) := ⟨rfl, rfl, rfl, by decide +kernel, rfl, by decide +kernel, by decide +kernel⟩
def sp_Scheme_has_in_chain (CS : Cs) : Sp := fun vs H Q _ => ∃ (s dx : Addr) (b f : Int) (n m : Int), (vs = [.ref s, .int n, .int m]) ∧ (H s = some (.ins CS dx (scF b f))) ∧ (SchOk b f ∧ 0 ≤ n ∧ 0 ≤ m ∧ m ≤ 10 ^ 60) ∧ ∀ (H' : Hp), Same H H' → Q (.bl (Ma.inCh b n m)) H'
theorem wc_Scheme_has_in_chain {CS : Cs} {g : Gr} {L : Led} {C : V → Led → Prop} {E : XK} {s dx : Addr} {b f : Int} {n m : Int} {bo0 : Bool} (i0 : Nat) (h0 : L[i0]? = some (s, .ob (.ins CS dx (scF b f)), bo0)) (hpre : SchOk b f ∧ 0 ≤ n ∧ 0 ≤ m ∧ m ≤ 10 ^ 60) (c : C (.bl (Ma.inCh b n m)) L) : Wp g L (fun H Q => sp_Scheme_has_in_chain CS [.ref s, .int n, .int m] H Q E) C := fun H z Q q => ⟨s, dx, b, f, n, m, rfl, z.get h0, hpre, fun H' s' => q _ _ _ (c) (z.same s')⟩
theorem ok_Scheme_has_in_chain (T : Top K mg CS) : OkM P w K mg base CS 4 "has_in_chain" "Scheme.has_in_chain" s_Scheme_has_in_chain ["self", "number", "ancestor"] (sp_Scheme_has_in_chain CS) := by
  refine OkM.of T.f_Scheme_has_in_chain sc_Scheme_has_in_chain (fun _ _ _ _ _ _ us hl => match us, hl with | [_, _, _], _ => rfl) (fun vs H Q E h => ?_) (fun f cdv A outer s H vs Q E hr h => ?_)
  · obtain ⟨s, dx, b, f, n, m, rfl, _⟩ := h
    rfl
  · obtain ⟨s, dx, b, f, n, m, rfl, hh0, hpre, kk⟩ := h
    have hs := hpre.1
    unfold SchOk at hs
    refine ⟨_, (pss_cons (ps_expr (pe_own (ok_check_number T) (hr.mono (by decide)) rfl (pa_cons (pv 1) pa_nil)))
      (pss_cons (ps_expr (pe_own (ok_check_number T) (hr.mono (by decide)) rfl (pa_cons (pv 2) pa_nil)))
      (pss_one (ps_ret (pe_or (pe_cmpR op_eq (pv 2) pe_int (nomark _)) (pe_one (pe_chain op_le op_lt (pv 2) (pv 1) (pe_op op_add (pv 2) (pe_om T.cl_Scheme (ok_Scheme_unit T) (hr.mono (by decide)) (pv 0) (pa_cons (pv 2) pa_nil)))))))))), ?_⟩
    refine run_ws (σ := [some (.ref s), some (.int n), some (.int m)]) (K := kV (fun v => v = (.bl (Ma.inCh b n m)))) (L := [(s, .ob (.ins CS dx (scF b f)), false)]) ?_ (at_one hh0) (eo_V fun v H' e s' => e ▸ kk H' s')
    refine ws_seq ?_
    refine ws_drop ?_
    refine wp_call ?_
    refine wa_cons ?_
    refine wp_var rfl ?_
    refine wa_nil ?_
    refine wc_check_number (by omega) ?_
    refine ws_seq ?_
    refine ws_drop ?_
    refine wp_call ?_
    refine wa_cons ?_
    refine wp_var rfl ?_
    refine wa_nil ?_
    refine wc_check_number (by omega) ?_
    refine ws_ret ?_
    refine wp_orVP ?_
    refine wp_op ?_
    refine wp_var rfl ?_
    refine wp_c ?_
    refine wr_eqI ?_
    refine ⟨_, rfl, ?_⟩
    apply andK
    · intro hb1
      try simp only [decide_eq_true_eq, decide_eq_false_iff_not, Bool.and_eq_true, Bool.or_eq_true, Bool.not_eq_true', Bool.and_eq_false_iff, Bool.or_eq_false_iff, Bool.not_eq_false', Bool.not_true, Bool.not_false, Bool.false_or, Bool.true_and, Bool.true_or, Bool.false_and, Bool.and_true, Bool.or_false, reduceCtorEq, not_true_eq_false, not_false_eq_true, decide_true, decide_false] at hb1
      refine wp_chainP ?_
      refine wp_var rfl ?_
      refine wp_var rfl ?_
      refine wr0 ?_
      refine ⟨_, rfl, ?_⟩
      apply andK
      · intro _
        refine wp_op ?_
        refine wp_var rfl ?_
        refine wp_meth 0 ?_
        refine wp_var rfl ?_
        refine ⟨_, _, _, _, rfl, rfl, scF_no _ _ (by decide +kernel) (by decide +kernel), ?_⟩
        refine wa_cons ?_
        refine wp_var rfl ?_
        refine wa_nil ?_
        refine wc_Scheme_unit 0 rfl ⟨by (unfold SchOk; omega), by omega⟩ ?_
        refine wr0 ?_
        refine wr0 ?_
        exact ⟨rfl, rfl⟩
      exact ⟨rfl, rfl⟩
    exact rfl
def sp_is_integer__v (CS : Cs) : Sp := fun vs H Q _ => ∃ (o : OV), (vs = [o.v]) ∧ (o.At H) ∧ ∀ (H' : Hp), Same H H' → Q (.bl (isIv o.v)) H'
theorem wc_is_integer__v {CS : Cs} {g : Gr} {L : Led} {C : V → Led → Prop} {E : XK} {o : OV} (ho : ∀ H, At g L H → o.At H) (c : C (.bl (isIv o.v)) L) : Wp g L (fun H Q => sp_is_integer__v CS [o.v] H Q E) C := fun H z Q q => ⟨o, rfl, ho H z, fun H' s' => q _ _ _ (c) (z.same s')⟩
theorem ok_is_integer__v (T : Top K mg CS) : Ok P w K mg base 2 "is_integer" s_is_integer ["value"] (sp_is_integer__v CS) := by
  refine Ok.of T.f_is_integer sc_is_integer (fun _ _ _ _ _ _ us hl => match us, hl with | [_], _ => rfl) (fun vs H Q E h => ?_) (fun f cdv A outer s H vs Q E hr h => ?_)
  · obtain ⟨o, rfl, _⟩ := h
    rfl
  · obtain ⟨o, rfl, ho0, kk⟩ := h
    have ho : ∀ (L : Led) (H1 : Hp), At ⟨H, fun _ => False⟩ L H1 → o.At H1 := fun L H1 z1 => ho0.same (fun b o e => z1.old b o e (fun q => q))
    refine ⟨_, (pss_one (ps_ret (pe_and (pe_callB call_isi (by rfl) T.b_isinstance (by decide +kernel) (pa_cons (pv 0) (pa_cons (pe_tyint rfl T.b_int) pa_nil))) (pe_one (pe_not (pe_callB call_isi (by rfl) T.b_isinstance (by decide +kernel) (pa_cons (pv 0) (pa_cons (pe_tybool rfl T.b_bool) pa_nil)))))))), ?_⟩
    refine run_ws (σ := [some (o.v)]) (K := kV (fun v => v = (.bl (isIv o.v)))) (L := []) ?_ at_nil (eo_V fun v H' e s' => e ▸ kk H' s')
    refine ws_ret ?_
    refine wp_andVP ?_
    refine wp_cb ?_
    refine wa_cons ?_
    refine wp_var rfl ?_
    refine wa_cons ?_
    refine wp_c ?_
    refine wa_nil ?_
    refine wc_isi_intV (ho _) ?_
    refine ⟨_, rfl, ?_⟩
    apply andK
    · intro hb1
      try simp only [decide_eq_true_eq, decide_eq_false_iff_not, Bool.and_eq_true, Bool.or_eq_true, Bool.not_eq_true', Bool.and_eq_false_iff, Bool.or_eq_false_iff, Bool.not_eq_false', Bool.not_true, Bool.not_false, Bool.false_or, Bool.true_and, Bool.true_or, Bool.false_and, Bool.and_true, Bool.or_false, reduceCtorEq, not_true_eq_false, not_false_eq_true, decide_true, decide_false] at hb1
      refine wp_notV ?_
      refine wp_cb ?_
      refine wa_cons ?_
      refine wp_var rfl ?_
      refine wa_cons ?_
      refine wp_c ?_
      refine wa_nil ?_
      refine wc_isi_boolV (ho _) ?_
      refine ⟨_, rfl, ?_⟩
      exact ⟨rfl, rfl⟩
    exact rfl
def sp_check_number__o (CS : Cs) : Sp := fun vs H Q E => ∃ (o : OV), (vs = [o.v]) ∧ (o.At H) ∧ (o.atl 0 = false) ∧ ∀ (d : Addr) (H' : Hp), H d = none → Same H H' → H' d = some (.xd [("number", o.v)]) → E (.ref CS.xn) (some d) H'
theorem wc_check_number__o {CS : Cs} {g : Gr} {L : Led} {C : V → Led → Prop} {E : XK} {o : OV} (ho : ∀ H, At g L H → o.At H) (hpre : o.atl 0 = false) (cx : EX g L E CS.xn [("number", o.v)]) : Wp g L (fun H Q => sp_check_number__o CS [o.v] H Q E) C := fun H z Q q => ⟨o, rfl, ho H z, hpre, fun d H' n s' hd => cx _ _ (z.new s' n hd)⟩
theorem ok_check_number__o (T : Top K mg CS) : OkX P w K mg base 4 "check_number" s_check_number ["number"] (sp_check_number__o CS) := by
  refine OkX.of T.f_check_number sc_check_number (fun _ _ _ _ _ _ us hl => match us, hl with | [_], _ => rfl) (fun vs H Q E h => ?_) (fun f cdv A outer s H vs Q E hr h => ?_)
  · obtain ⟨o, rfl, _⟩ := h
    rfl
  · obtain ⟨o, rfl, ho0, hpre, kkx⟩ := h
    have ho : ∀ (L : Led) (H1 : Hp), At ⟨H, fun _ => False⟩ L H1 → o.At H1 := fun L H1 z1 => ho0.same (fun b o e => z1.old b o e (fun q => q))
    refine ⟨_, (pss_one (ps_if (PW.pt (pw_or (pt_not (pt_val (pe_own (ok_is_integer__v T) (hr.mono (by decide)) rfl (pa_cons (pv 0) pa_nil)))) (pw_or1 (pt_cmpR op_lt (pv 0) pe_int (nomark _))))) (pss_one (ps_raiseO rfl takesE (ok_InvalidNumber_init T) (hr.mono (by decide)) rfl (pa_cons (pv 0) pa_nil))) pss_nil)), ?_⟩
    refine run_ws (σ := [some (o.v)]) (g := ⟨H, fun _ => False⟩) (K := kRx) (L := []) ?_ at_nil eo_Rx
    rcases OV.bad hpre with ⟨n, rfl, hn⟩ | hi
    · refine ws_if ?_
      refine wt_or ?_
      refine wt_not ?_
      refine wt_B ?_
      refine wp_call ?_
      refine wa_cons ?_
      refine wp_var rfl ?_
      refine wa_nil ?_
      refine wc_is_integer__v (o := (.num n)) (ho _) ?_
      refine ⟨_, rfl, ?_⟩
      refine ifF (by first | rfl | (simp; done) | (simp [*]; done)) ?_
      refine wt_test ?_
      refine wp_op ?_
      refine wp_var rfl ?_
      refine wp_c ?_
      refine wr0 ?_
      refine ⟨_, rfl, ?_⟩
      refine ifB (fun hc1 => ?_) (fun hc1 => ?_)
      · try simp only [decide_eq_true_eq, decide_eq_false_iff_not, Bool.and_eq_true, Bool.or_eq_true, Bool.not_eq_true', Bool.and_eq_false_iff, Bool.or_eq_false_iff, Bool.not_eq_false', Bool.not_true, Bool.not_false, Bool.false_or, Bool.true_and, Bool.true_or, Bool.false_and, Bool.and_true, Bool.or_false, reduceCtorEq, not_true_eq_false, not_false_eq_true, decide_true, decide_false] at hc1
        refine ws_raiseO T.xo_InvalidNumber T.f_InvalidNumber_init.cls ?_
        refine wa_cons ?_
        refine wp_var rfl ?_
        refine wa_nil ?_
        exact ⟨_, rfl, ho _, ex_of kkx⟩
      · try simp only [decide_eq_true_eq, decide_eq_false_iff_not, Bool.and_eq_true, Bool.or_eq_true, Bool.not_eq_true', Bool.and_eq_false_iff, Bool.or_eq_false_iff, Bool.not_eq_false', Bool.not_true, Bool.not_false, Bool.false_or, Bool.true_and, Bool.true_or, Bool.false_and, Bool.and_true, Bool.or_false, reduceCtorEq, not_true_eq_false, not_false_eq_true, decide_true, decide_false] at hc1
        exfalso
        omega
    · refine ws_if ?_
      refine wt_or ?_
      refine wt_not ?_
      refine wt_B ?_
      refine wp_call ?_
      refine wa_cons ?_
      refine wp_var rfl ?_
      refine wa_nil ?_
      refine wc_is_integer__v (o := o) (ho _) ?_
      refine ⟨_, rfl, ?_⟩
      refine ifT (by first | rfl | (simp; done) | (simp [*]; done)) ?_
      refine ifT (by first | rfl | (simp; done) | (simp [*]; done) | (simp [PyData.eqv, PyData.eqvAll]; done)) ?_
      refine ws_raiseO T.xo_InvalidNumber T.f_InvalidNumber_init.cls ?_
      refine wa_cons ?_
      refine wp_var rfl ?_
      refine wa_nil ?_
      exact ⟨_, rfl, ho _, ex_of kkx⟩
def sp_Scheme_level__n (CS : Cs) : Sp := fun vs H Q E => ∃ (s dx : Addr) (b f : Int) (o : OV), (vs = [.ref s, o.v]) ∧ (H s = some (.ins CS dx (scF b f))) ∧ (o.At H) ∧ (o.atl 0 = false) ∧ ∀ (d : Addr) (H' : Hp), H d = none → Same H H' → H' d = some (.xd [("number", o.v)]) → E (.ref CS.xn) (some d) H'
theorem wc_Scheme_level__n {CS : Cs} {g : Gr} {L : Led} {C : V → Led → Prop} {E : XK} {s dx : Addr} {b f : Int} {o : OV} {bo0 : Bool} (i0 : Nat) (h0 : L[i0]? = some (s, .ob (.ins CS dx (scF b f)), bo0)) (ho : ∀ H, At g L H → o.At H) (hpre : o.atl 0 = false) (cx : EX g L E CS.xn [("number", o.v)]) : Wp g L (fun H Q => sp_Scheme_level__n CS [.ref s, o.v] H Q E) C := fun H z Q q => ⟨s, dx, b, f, o, rfl, z.get h0, ho H z, hpre, fun d H' n s' hd => cx _ _ (z.new s' n hd)⟩
theorem ok_Scheme_level__n (T : Top K mg CS) : OkMX P w K mg base CS 5 "level" "Scheme.level" s_Scheme_level ["self", "number"] (sp_Scheme_level__n CS) := by
  refine OkMX.of T.f_Scheme_level sc_Scheme_level (fun _ _ _ _ _ _ us hl => match us, hl with | [_, _], _ => rfl) (fun vs H Q E h => ?_) (fun f cdv A outer s H vs Q E hr h => ?_)
  · obtain ⟨s, dx, b, f, o, rfl, _⟩ := h
    rfl
  · obtain ⟨s, dx, b, f, o, rfl, hh0, ho0, hpre, kkx⟩ := h
    have ho : ∀ (L : Led) (H1 : Hp), At ⟨H, fun _ => False⟩ L H1 → o.At H1 := fun L H1 z1 => ho0.same (fun b o e => z1.old b o e (fun q => q))
    have hbad := hpre
    refine ⟨_, (pss_cons (ps_expr (pe_ownE (ok_check_number__o T) passE (hr.mono (by decide)) rfl (pa_cons (pv 1) pa_nil)))
      pss_never), ?_⟩
    refine run_ws (σ := [some (.ref s), some (o.v), none]) (g := ⟨H, fun _ => False⟩) (K := kRx) (L := [(s, .ob (.ins CS dx (scF b f)), false)]) ?_ (at_one hh0) eo_Rx
    refine ws_seq ?_
    refine ws_drop ?_
    refine wp_call ?_
    refine wa_cons ?_
    refine wp_var rfl ?_
    refine wa_nil ?_
    exact wc_check_number__o (o := o) (ho _) hbad (ex_of kkx)
def sp_Scheme_parent__n (CS : Cs) : Sp := fun vs H Q E => ∃ (s dx : Addr) (b f : Int) (o : OV), (vs = [.ref s, o.v]) ∧ (H s = some (.ins CS dx (scF b f))) ∧ (o.At H) ∧ (o.atl 0 = false) ∧ ∀ (d : Addr) (H' : Hp), H d = none → Same H H' → H' d = some (.xd [("number", o.v)]) → E (.ref CS.xn) (some d) H'
theorem wc_Scheme_parent__n {CS : Cs} {g : Gr} {L : Led} {C : V → Led → Prop} {E : XK} {s dx : Addr} {b f : Int} {o : OV} {bo0 : Bool} (i0 : Nat) (h0 : L[i0]? = some (s, .ob (.ins CS dx (scF b f)), bo0)) (ho : ∀ H, At g L H → o.At H) (hpre : o.atl 0 = false) (cx : EX g L E CS.xn [("number", o.v)]) : Wp g L (fun H Q => sp_Scheme_parent__n CS [.ref s, o.v] H Q E) C := fun H z Q q => ⟨s, dx, b, f, o, rfl, z.get h0, ho H z, hpre, fun d H' n s' hd => cx _ _ (z.new s' n hd)⟩
theorem ok_Scheme_parent__n (T : Top K mg CS) : OkMX P w K mg base CS 5 "parent" "Scheme.parent" s_Scheme_parent ["self", "number"] (sp_Scheme_parent__n CS) := by
  refine OkMX.of T.f_Scheme_parent sc_Scheme_parent (fun _ _ _ _ _ _ us hl => match us, hl with | [_, _], _ => rfl) (fun vs H Q E h => ?_) (fun f cdv A outer s H vs Q E hr h => ?_)
  · obtain ⟨s, dx, b, f, o, rfl, _⟩ := h
    rfl
  · obtain ⟨s, dx, b, f, o, rfl, hh0, ho0, hpre, kkx⟩ := h
    have ho : ∀ (L : Led) (H1 : Hp), At ⟨H, fun _ => False⟩ L H1 → o.At H1 := fun L H1 z1 => ho0.same (fun b o e => z1.old b o e (fun q => q))
    have hbad := hpre
    refine ⟨_, (pss_cons (ps_expr (pe_ownE (ok_check_number__o T) passE (hr.mono (by decide)) rfl (pa_cons (pv 1) pa_nil)))
      pss_never), ?_⟩
    refine run_ws (σ := [some (.ref s), some (o.v)]) (g := ⟨H, fun _ => False⟩) (K := kRx) (L := [(s, .ob (.ins CS dx (scF b f)), false)]) ?_ (at_one hh0) eo_Rx
    refine ws_seq ?_
    refine ws_drop ?_
    refine wp_call ?_
    refine wa_cons ?_
    refine wp_var rfl ?_
    refine wa_nil ?_
    exact wc_check_number__o (o := o) (ho _) hbad (ex_of kkx)
def sp_Scheme_chain__n (CS : Cs) : Sp := fun vs H Q E => ∃ (s dx : Addr) (b f : Int) (o : OV), (vs = [.ref s, o.v]) ∧ (H s = some (.ins CS dx (scF b f))) ∧ (o.At H) ∧ (o.atl 0 = false) ∧ ∀ (d : Addr) (H' : Hp), H d = none → Same H H' → H' d = some (.xd [("number", o.v)]) → E (.ref CS.xn) (some d) H'
theorem wc_Scheme_chain__n {CS : Cs} {g : Gr} {L : Led} {C : V → Led → Prop} {E : XK} {s dx : Addr} {b f : Int} {o : OV} {bo0 : Bool} (i0 : Nat) (h0 : L[i0]? = some (s, .ob (.ins CS dx (scF b f)), bo0)) (ho : ∀ H, At g L H → o.At H) (hpre : o.atl 0 = false) (cx : EX g L E CS.xn [("number", o.v)]) : Wp g L (fun H Q => sp_Scheme_chain__n CS [.ref s, o.v] H Q E) C := fun H z Q q => ⟨s, dx, b, f, o, rfl, z.get h0, ho H z, hpre, fun d H' n s' hd => cx _ _ (z.new s' n hd)⟩
theorem ok_Scheme_chain__n (T : Top K mg CS) : OkMX P w K mg base CS 5 "chain" "Scheme.chain" s_Scheme_chain ["self", "number"] (sp_Scheme_chain__n CS) := by
  refine OkMX.of T.f_Scheme_chain sc_Scheme_chain (fun _ _ _ _ _ _ us hl => match us, hl with | [_, _], _ => rfl) (fun vs H Q E h => ?_) (fun f cdv A outer s H vs Q E hr h => ?_)
  · obtain ⟨s, dx, b, f, o, rfl, _⟩ := h
    rfl
  · obtain ⟨s, dx, b, f, o, rfl, hh0, ho0, hpre, kkx⟩ := h
    have ho : ∀ (L : Led) (H1 : Hp), At ⟨H, fun _ => False⟩ L H1 → o.At H1 := fun L H1 z1 => ho0.same (fun b o e => z1.old b o e (fun q => q))
    have hbad := hpre
    refine ⟨_, (pss_cons (ps_expr (pe_ownE (ok_check_number__o T) passE (hr.mono (by decide)) rfl (pa_cons (pv 1) pa_nil)))
      pss_never), ?_⟩
    refine run_ws (σ := [some (.ref s), some (o.v), none]) (g := ⟨H, fun _ => False⟩) (K := kRx) (L := [(s, .ob (.ins CS dx (scF b f)), false)]) ?_ (at_one hh0) eo_Rx
    refine ws_seq ?_
    refine ws_drop ?_
    refine wp_call ?_
    refine wa_cons ?_
    refine wp_var rfl ?_
    refine wa_nil ?_
    exact wc_check_number__o (o := o) (ho _) hbad (ex_of kkx)
def sp_Scheme_block__n (CS : Cs) : Sp := fun vs H Q E => ∃ (s dx : Addr) (b f : Int) (o : OV), (vs = [.ref s, o.v]) ∧ (H s = some (.ins CS dx (scF b f))) ∧ (o.At H) ∧ (o.atl 0 = false) ∧ ∀ (d : Addr) (H' : Hp), H d = none → Same H H' → H' d = some (.xd [("number", o.v)]) → E (.ref CS.xn) (some d) H'
theorem wc_Scheme_block__n {CS : Cs} {g : Gr} {L : Led} {C : V → Led → Prop} {E : XK} {s dx : Addr} {b f : Int} {o : OV} {bo0 : Bool} (i0 : Nat) (h0 : L[i0]? = some (s, .ob (.ins CS dx (scF b f)), bo0)) (ho : ∀ H, At g L H → o.At H) (hpre : o.atl 0 = false) (cx : EX g L E CS.xn [("number", o.v)]) : Wp g L (fun H Q => sp_Scheme_block__n CS [.ref s, o.v] H Q E) C := fun H z Q q => ⟨s, dx, b, f, o, rfl, z.get h0, ho H z, hpre, fun d H' n s' hd => cx _ _ (z.new s' n hd)⟩
theorem ok_Scheme_block__n (T : Top K mg CS) : OkMX P w K mg base CS 5 "block" "Scheme.block" s_Scheme_block ["self", "number"] (sp_Scheme_block__n CS) := by
  refine OkMX.of T.f_Scheme_block sc_Scheme_block (fun _ _ _ _ _ _ us hl => match us, hl with | [_, _], _ => rfl) (fun vs H Q E h => ?_) (fun f cdv A outer s H vs Q E hr h => ?_)
  · obtain ⟨s, dx, b, f, o, rfl, _⟩ := h
    rfl
  · obtain ⟨s, dx, b, f, o, rfl, hh0, ho0, hpre, kkx⟩ := h
    have ho : ∀ (L : Led) (H1 : Hp), At ⟨H, fun _ => False⟩ L H1 → o.At H1 := fun L H1 z1 => ho0.same (fun b o e => z1.old b o e (fun q => q))
    have hbad := hpre
    refine ⟨_, (pss_cons (ps_expr (pe_ownE (ok_check_number__o T) passE (hr.mono (by decide)) rfl (pa_cons (pv 1) pa_nil)))
      pss_never), ?_⟩
    refine run_ws (σ := [some (.ref s), some (o.v)]) (g := ⟨H, fun _ => False⟩) (K := kRx) (L := [(s, .ob (.ins CS dx (scF b f)), false)]) ?_ (at_one hh0) eo_Rx
    refine ws_seq ?_
    refine ws_drop ?_
    refine wp_call ?_
    refine wa_cons ?_
    refine wp_var rfl ?_
    refine wa_nil ?_
    exact wc_check_number__o (o := o) (ho _) hbad (ex_of kkx)
def sp_Scheme_last_time__n (CS : Cs) : Sp := fun vs H Q E => ∃ (s dx : Addr) (b f : Int) (o : OV), (vs = [.ref s, o.v]) ∧ (H s = some (.ins CS dx (scF b f))) ∧ (o.At H) ∧ (o.atl 0 = false) ∧ ∀ (d : Addr) (H' : Hp), H d = none → Same H H' → H' d = some (.xd [("number", o.v)]) → E (.ref CS.xn) (some d) H'
theorem wc_Scheme_last_time__n {CS : Cs} {g : Gr} {L : Led} {C : V → Led → Prop} {E : XK} {s dx : Addr} {b f : Int} {o : OV} {bo0 : Bool} (i0 : Nat) (h0 : L[i0]? = some (s, .ob (.ins CS dx (scF b f)), bo0)) (ho : ∀ H, At g L H → o.At H) (hpre : o.atl 0 = false) (cx : EX g L E CS.xn [("number", o.v)]) : Wp g L (fun H Q => sp_Scheme_last_time__n CS [.ref s, o.v] H Q E) C := fun H z Q q => ⟨s, dx, b, f, o, rfl, z.get h0, ho H z, hpre, fun d H' n s' hd => cx _ _ (z.new s' n hd)⟩
theorem ok_Scheme_last_time__n (T : Top K mg CS) : OkMX P w K mg base CS 5 "last_time" "Scheme.last_time" s_Scheme_last_time ["self", "number"] (sp_Scheme_last_time__n CS) := by
  refine OkMX.of T.f_Scheme_last_time sc_Scheme_last_time (fun _ _ _ _ _ _ us hl => match us, hl with | [_, _], _ => rfl) (fun vs H Q E h => ?_) (fun f cdv A outer s H vs Q E hr h => ?_)
  · obtain ⟨s, dx, b, f, o, rfl, _⟩ := h
    rfl
  · obtain ⟨s, dx, b, f, o, rfl, hh0, ho0, hpre, kkx⟩ := h
    have ho : ∀ (L : Led) (H1 : Hp), At ⟨H, fun _ => False⟩ L H1 → o.At H1 := fun L H1 z1 => ho0.same (fun b o e => z1.old b o e (fun q => q))
    have hbad := hpre
    refine ⟨_, (pss_cons (ps_expr (pe_ownE (ok_check_number__o T) passE (hr.mono (by decide)) rfl (pa_cons (pv 1) pa_nil)))
      pss_never), ?_⟩
    refine run_ws (σ := [some (.ref s), some (o.v)]) (g := ⟨H, fun _ => False⟩) (K := kRx) (L := [(s, .ob (.ins CS dx (scF b f)), false)]) ?_ (at_one hh0) eo_Rx
    refine ws_seq ?_
    refine ws_drop ?_
    refine wp_call ?_
    refine wa_cons ?_
    refine wp_var rfl ?_
    refine wa_nil ?_
    exact wc_check_number__o (o := o) (ho _) hbad (ex_of kkx)
def sp_Scheme_is_kept__n (CS : Cs) : Sp := fun vs H Q E => ∃ (s dx : Addr) (b f : Int) (o : OV) (y2 : V), (vs = [.ref s, o.v, y2]) ∧ (H s = some (.ins CS dx (scF b f))) ∧ (o.At H) ∧ (o.atl 0 = false) ∧ ∀ (d : Addr) (H' : Hp), H d = none → Same H H' → H' d = some (.xd [("number", o.v)]) → E (.ref CS.xn) (some d) H'
theorem wc_Scheme_is_kept__n {CS : Cs} {g : Gr} {L : Led} {C : V → Led → Prop} {E : XK} {s dx : Addr} {b f : Int} {o : OV} {y2 : V} {bo0 : Bool} (i0 : Nat) (h0 : L[i0]? = some (s, .ob (.ins CS dx (scF b f)), bo0)) (ho : ∀ H, At g L H → o.At H) (hpre : o.atl 0 = false) (cx : EX g L E CS.xn [("number", o.v)]) : Wp g L (fun H Q => sp_Scheme_is_kept__n CS [.ref s, o.v, y2] H Q E) C := fun H z Q q => ⟨s, dx, b, f, o, y2, rfl, z.get h0, ho H z, hpre, fun d H' n s' hd => cx _ _ (z.new s' n hd)⟩
theorem ok_Scheme_is_kept__n (T : Top K mg CS) : OkMX P w K mg base CS 6 "is_kept" "Scheme.is_kept" s_Scheme_is_kept ["self", "number", "time"] (sp_Scheme_is_kept__n CS) := by
  refine OkMX.of T.f_Scheme_is_kept sc_Scheme_is_kept (fun _ _ _ _ _ _ us hl => match us, hl with | [_, _, _], _ => rfl) (fun vs H Q E h => ?_) (fun f cdv A outer s H vs Q E hr h => ?_)
  · obtain ⟨s, dx, b, f, o, y2, rfl, _⟩ := h
    rfl
  · obtain ⟨s, dx, b, f, o, y2, rfl, hh0, ho0, hpre, kkx⟩ := h
    have ho : ∀ (L : Led) (H1 : Hp), At ⟨H, fun _ => False⟩ L H1 → o.At H1 := fun L H1 z1 => ho0.same (fun b o e => z1.old b o e (fun q => q))
    have hbad := hpre
    refine ⟨_, (pss_cons (ps_expr (pe_ownE (ok_check_number__o T) passE (hr.mono (by decide)) rfl (pa_cons (pv 1) pa_nil)))
      pss_never), ?_⟩
    refine run_ws (σ := [some (.ref s), some (o.v), some (y2)]) (g := ⟨H, fun _ => False⟩) (K := kRx) (L := [(s, .ob (.ins CS dx (scF b f)), false)]) ?_ (at_one hh0) eo_Rx
    refine ws_seq ?_
    refine ws_drop ?_
    refine wp_call ?_
    refine wa_cons ?_
    refine wp_var rfl ?_
    refine wa_nil ?_
    exact wc_check_number__o (o := o) (ho _) hbad (ex_of kkx)
def sp_Scheme_has_in_chain__n (CS : Cs) : Sp := fun vs H Q E => ∃ (s dx : Addr) (b f : Int) (o : OV) (y2 : V), (vs = [.ref s, o.v, y2]) ∧ (H s = some (.ins CS dx (scF b f))) ∧ (o.At H) ∧ (o.atl 0 = false) ∧ ∀ (d : Addr) (H' : Hp), H d = none → Same H H' → H' d = some (.xd [("number", o.v)]) → E (.ref CS.xn) (some d) H'
theorem wc_Scheme_has_in_chain__n {CS : Cs} {g : Gr} {L : Led} {C : V → Led → Prop} {E : XK} {s dx : Addr} {b f : Int} {o : OV} {y2 : V} {bo0 : Bool} (i0 : Nat) (h0 : L[i0]? = some (s, .ob (.ins CS dx (scF b f)), bo0)) (ho : ∀ H, At g L H → o.At H) (hpre : o.atl 0 = false) (cx : EX g L E CS.xn [("number", o.v)]) : Wp g L (fun H Q => sp_Scheme_has_in_chain__n CS [.ref s, o.v, y2] H Q E) C := fun H z Q q => ⟨s, dx, b, f, o, y2, rfl, z.get h0, ho H z, hpre, fun d H' n s' hd => cx _ _ (z.new s' n hd)⟩
theorem ok_Scheme_has_in_chain__n (T : Top K mg CS) : OkMX P w K mg base CS 5 "has_in_chain" "Scheme.has_in_chain" s_Scheme_has_in_chain ["self", "number", "ancestor"] (sp_Scheme_has_in_chain__n CS) := by
  refine OkMX.of T.f_Scheme_has_in_chain sc_Scheme_has_in_chain (fun _ _ _ _ _ _ us hl => match us, hl with | [_, _, _], _ => rfl) (fun vs H Q E h => ?_) (fun f cdv A outer s H vs Q E hr h => ?_)
  · obtain ⟨s, dx, b, f, o, y2, rfl, _⟩ := h
    rfl
  · obtain ⟨s, dx, b, f, o, y2, rfl, hh0, ho0, hpre, kkx⟩ := h
    have ho : ∀ (L : Led) (H1 : Hp), At ⟨H, fun _ => False⟩ L H1 → o.At H1 := fun L H1 z1 => ho0.same (fun b o e => z1.old b o e (fun q => q))
    have hbad := hpre
    refine ⟨_, (pss_cons (ps_expr (pe_ownE (ok_check_number__o T) passE (hr.mono (by decide)) rfl (pa_cons (pv 1) pa_nil)))
      pss_never), ?_⟩
    refine run_ws (σ := [some (.ref s), some (o.v), some (y2)]) (g := ⟨H, fun _ => False⟩) (K := kRx) (L := [(s, .ob (.ins CS dx (scF b f)), false)]) ?_ (at_one hh0) eo_Rx
    refine ws_seq ?_
    refine ws_drop ?_
    refine wp_call ?_
    refine wa_cons ?_
    refine wp_var rfl ?_
    refine wa_nil ?_
    exact wc_check_number__o (o := o) (ho _) hbad (ex_of kkx)
def sp_Scheme_has_in_chain__a (CS : Cs) : Sp := fun vs H Q E => ∃ (s dx : Addr) (b f : Int) (ni0 : Int) (o : OV), (vs = [.ref s, .int ni0, o.v]) ∧ (H s = some (.ins CS dx (scF b f))) ∧ (o.At H) ∧ (0 ≤ ni0 ∧ o.atl 0 = false) ∧ ∀ (d : Addr) (H' : Hp), H d = none → Same H H' → H' d = some (.xd [("number", o.v)]) → E (.ref CS.xn) (some d) H'
theorem wc_Scheme_has_in_chain__a {CS : Cs} {g : Gr} {L : Led} {C : V → Led → Prop} {E : XK} {s dx : Addr} {b f : Int} {ni0 : Int} {o : OV} {bo0 : Bool} (i0 : Nat) (h0 : L[i0]? = some (s, .ob (.ins CS dx (scF b f)), bo0)) (ho : ∀ H, At g L H → o.At H) (hpre : 0 ≤ ni0 ∧ o.atl 0 = false) (cx : EX g L E CS.xn [("number", o.v)]) : Wp g L (fun H Q => sp_Scheme_has_in_chain__a CS [.ref s, .int ni0, o.v] H Q E) C := fun H z Q q => ⟨s, dx, b, f, ni0, o, rfl, z.get h0, ho H z, hpre, fun d H' n s' hd => cx _ _ (z.new s' n hd)⟩
theorem ok_Scheme_has_in_chain__a (T : Top K mg CS) : OkMX P w K mg base CS 5 "has_in_chain" "Scheme.has_in_chain" s_Scheme_has_in_chain ["self", "number", "ancestor"] (sp_Scheme_has_in_chain__a CS) := by
  refine OkMX.of T.f_Scheme_has_in_chain sc_Scheme_has_in_chain (fun _ _ _ _ _ _ us hl => match us, hl with | [_, _, _], _ => rfl) (fun vs H Q E h => ?_) (fun f cdv A outer s H vs Q E hr h => ?_)
  · obtain ⟨s, dx, b, f, ni0, o, rfl, _⟩ := h
    rfl
  · obtain ⟨s, dx, b, f, ni0, o, rfl, hh0, ho0, hpre, kkx⟩ := h
    have ho : ∀ (L : Led) (H1 : Hp), At ⟨H, fun _ => False⟩ L H1 → o.At H1 := fun L H1 z1 => ho0.same (fun b o e => z1.old b o e (fun q => q))
    have hbad := hpre.2
    refine ⟨_, (pss_cons (ps_expr (pe_own (ok_check_number T) (hr.mono (by decide)) rfl (pa_cons (pv 1) pa_nil)))
      (pss_cons (ps_expr (pe_ownE (ok_check_number__o T) passE (hr.mono (by decide)) rfl (pa_cons (pv 2) pa_nil)))
      pss_never)), ?_⟩
    refine run_ws (σ := [some (.ref s), some (.int ni0), some (o.v)]) (g := ⟨H, fun _ => False⟩) (K := kRx) (L := [(s, .ob (.ins CS dx (scF b f)), false)]) ?_ (at_one hh0) eo_Rx
    refine ws_seq ?_
    refine ws_drop ?_
    refine wp_call ?_
    refine wa_cons ?_
    refine wp_var rfl ?_
    refine wa_nil ?_
    refine wc_check_number (by omega) ?_
    refine ws_seq ?_
    refine ws_drop ?_
    refine wp_call ?_
    refine wa_cons ?_
    refine wp_var rfl ?_
    refine wa_nil ?_
    exact wc_check_number__o (o := o) (ho _) hbad (ex_of kkx)
def sp_check_time__o (CS : Cs) : Sp := fun vs H Q E => ∃ (o : OV), (vs = [o.v]) ∧ (o.At H) ∧ (o.atl 0 = false) ∧ ∀ (d : Addr) (H' : Hp), H d = none → Same H H' → H' d = some (.xd [("time", o.v)]) → E (.ref CS.xt) (some d) H'
theorem wc_check_time__o {CS : Cs} {g : Gr} {L : Led} {C : V → Led → Prop} {E : XK} {o : OV} (ho : ∀ H, At g L H → o.At H) (hpre : o.atl 0 = false) (cx : EX g L E CS.xt [("time", o.v)]) : Wp g L (fun H Q => sp_check_time__o CS [o.v] H Q E) C := fun H z Q q => ⟨o, rfl, ho H z, hpre, fun d H' n s' hd => cx _ _ (z.new s' n hd)⟩
theorem ok_check_time__o (T : Top K mg CS) : OkX P w K mg base 4 "check_time" s_check_time ["time"] (sp_check_time__o CS) := by
  refine OkX.of T.f_check_time sc_check_time (fun _ _ _ _ _ _ us hl => match us, hl with | [_], _ => rfl) (fun vs H Q E h => ?_) (fun f cdv A outer s H vs Q E hr h => ?_)
  · obtain ⟨o, rfl, _⟩ := h
    rfl
  · obtain ⟨o, rfl, ho0, hpre, kkx⟩ := h
    have ho : ∀ (L : Led) (H1 : Hp), At ⟨H, fun _ => False⟩ L H1 → o.At H1 := fun L H1 z1 => ho0.same (fun b o e => z1.old b o e (fun q => q))
    refine ⟨_, (pss_one (ps_if (PW.pt (pw_or (pt_not (pt_val (pe_own (ok_is_integer__v T) (hr.mono (by decide)) rfl (pa_cons (pv 0) pa_nil)))) (pw_or1 (pt_cmpR op_lt (pv 0) pe_int (nomark _))))) (pss_one (ps_raiseO rfl takesE (ok_InvalidTime_init T) (hr.mono (by decide)) rfl (pa_cons (pv 0) pa_nil))) pss_nil)), ?_⟩
    refine run_ws (σ := [some (o.v)]) (g := ⟨H, fun _ => False⟩) (K := kRx) (L := []) ?_ at_nil eo_Rx
    rcases OV.bad hpre with ⟨n, rfl, hn⟩ | hi
    · refine ws_if ?_
      refine wt_or ?_
      refine wt_not ?_
      refine wt_B ?_
      refine wp_call ?_
      refine wa_cons ?_
      refine wp_var rfl ?_
      refine wa_nil ?_
      refine wc_is_integer__v (o := (.num n)) (ho _) ?_
      refine ⟨_, rfl, ?_⟩
      refine ifF (by first | rfl | (simp; done) | (simp [*]; done)) ?_
      refine wt_test ?_
      refine wp_op ?_
      refine wp_var rfl ?_
      refine wp_c ?_
      refine wr0 ?_
      refine ⟨_, rfl, ?_⟩
      refine ifB (fun hc1 => ?_) (fun hc1 => ?_)
      · try simp only [decide_eq_true_eq, decide_eq_false_iff_not, Bool.and_eq_true, Bool.or_eq_true, Bool.not_eq_true', Bool.and_eq_false_iff, Bool.or_eq_false_iff, Bool.not_eq_false', Bool.not_true, Bool.not_false, Bool.false_or, Bool.true_and, Bool.true_or, Bool.false_and, Bool.and_true, Bool.or_false, reduceCtorEq, not_true_eq_false, not_false_eq_true, decide_true, decide_false] at hc1
        refine ws_raiseO T.xo_InvalidTime T.f_InvalidTime_init.cls ?_
        refine wa_cons ?_
        refine wp_var rfl ?_
        refine wa_nil ?_
        exact ⟨_, rfl, ho _, ex_of kkx⟩
      · try simp only [decide_eq_true_eq, decide_eq_false_iff_not, Bool.and_eq_true, Bool.or_eq_true, Bool.not_eq_true', Bool.and_eq_false_iff, Bool.or_eq_false_iff, Bool.not_eq_false', Bool.not_true, Bool.not_false, Bool.false_or, Bool.true_and, Bool.true_or, Bool.false_and, Bool.and_true, Bool.or_false, reduceCtorEq, not_true_eq_false, not_false_eq_true, decide_true, decide_false] at hc1
        exfalso
        omega
    · refine ws_if ?_
      refine wt_or ?_
      refine wt_not ?_
      refine wt_B ?_
      refine wp_call ?_
      refine wa_cons ?_
      refine wp_var rfl ?_
      refine wa_nil ?_
      refine wc_is_integer__v (o := o) (ho _) ?_
      refine ⟨_, rfl, ?_⟩
      refine ifT (by first | rfl | (simp; done) | (simp [*]; done)) ?_
      refine ifT (by first | rfl | (simp; done) | (simp [*]; done) | (simp [PyData.eqv, PyData.eqvAll]; done)) ?_
      refine ws_raiseO T.xo_InvalidTime T.f_InvalidTime_init.cls ?_
      refine wa_cons ?_
      refine wp_var rfl ?_
      refine wa_nil ?_
      exact ⟨_, rfl, ho _, ex_of kkx⟩
def sp_Scheme_is_kept__t (CS : Cs) : Sp := fun vs H Q E => ∃ (s dx : Addr) (b f : Int) (ni0 : Int) (o : OV), (vs = [.ref s, .int ni0, o.v]) ∧ (H s = some (.ins CS dx (scF b f))) ∧ (o.At H) ∧ (0 ≤ ni0 ∧ o.atl 0 = false) ∧ ∀ (d : Addr) (H' : Hp), H d = none → Same H H' → H' d = some (.xd [("time", o.v)]) → E (.ref CS.xt) (some d) H'
theorem wc_Scheme_is_kept__t {CS : Cs} {g : Gr} {L : Led} {C : V → Led → Prop} {E : XK} {s dx : Addr} {b f : Int} {ni0 : Int} {o : OV} {bo0 : Bool} (i0 : Nat) (h0 : L[i0]? = some (s, .ob (.ins CS dx (scF b f)), bo0)) (ho : ∀ H, At g L H → o.At H) (hpre : 0 ≤ ni0 ∧ o.atl 0 = false) (cx : EX g L E CS.xt [("time", o.v)]) : Wp g L (fun H Q => sp_Scheme_is_kept__t CS [.ref s, .int ni0, o.v] H Q E) C := fun H z Q q => ⟨s, dx, b, f, ni0, o, rfl, z.get h0, ho H z, hpre, fun d H' n s' hd => cx _ _ (z.new s' n hd)⟩
theorem ok_Scheme_is_kept__t (T : Top K mg CS) : OkMX P w K mg base CS 6 "is_kept" "Scheme.is_kept" s_Scheme_is_kept ["self", "number", "time"] (sp_Scheme_is_kept__t CS) := by
  refine OkMX.of T.f_Scheme_is_kept sc_Scheme_is_kept (fun _ _ _ _ _ _ us hl => match us, hl with | [_, _, _], _ => rfl) (fun vs H Q E h => ?_) (fun f cdv A outer s H vs Q E hr h => ?_)
  · obtain ⟨s, dx, b, f, ni0, o, rfl, _⟩ := h
    rfl
  · obtain ⟨s, dx, b, f, ni0, o, rfl, hh0, ho0, hpre, kkx⟩ := h
    have ho : ∀ (L : Led) (H1 : Hp), At ⟨H, fun _ => False⟩ L H1 → o.At H1 := fun L H1 z1 => ho0.same (fun b o e => z1.old b o e (fun q => q))
    have hbad := hpre.2
    refine ⟨_, (pss_cons (ps_expr (pe_own (ok_check_number T) (hr.mono (by decide)) rfl (pa_cons (pv 1) pa_nil)))
      (pss_cons (ps_expr (pe_ownE (ok_check_time__o T) passE (hr.mono (by decide)) rfl (pa_cons (pv 2) pa_nil)))
      pss_never)), ?_⟩
    refine run_ws (σ := [some (.ref s), some (.int ni0), some (o.v)]) (g := ⟨H, fun _ => False⟩) (K := kRx) (L := [(s, .ob (.ins CS dx (scF b f)), false)]) ?_ (at_one hh0) eo_Rx
    refine ws_seq ?_
    refine ws_drop ?_
    refine wp_call ?_
    refine wa_cons ?_
    refine wp_var rfl ?_
    refine wa_nil ?_
    refine wc_check_number (by omega) ?_
    refine ws_seq ?_
    refine ws_drop ?_
    refine wp_call ?_
    refine wa_cons ?_
    refine wp_var rfl ?_
    refine wa_nil ?_
    exact wc_check_time__o (o := o) (ho _) hbad (ex_of kkx)
def sp_is_between__g (CS : Cs) : Sp := fun vs H Q _ => ∃ (o : OV) (lo hi : Int), (vs = [o.v, .int lo, .int hi]) ∧ (o.At H) ∧ ∀ (H' : Hp), Same H H' → Q (.bl (o.bw lo hi)) H'
theorem wc_is_between__g {CS : Cs} {g : Gr} {L : Led} {C : V → Led → Prop} {E : XK} {o : OV} {lo hi : Int} (ho : ∀ H, At g L H → o.At H) (c : C (.bl (o.bw lo hi)) L) : Wp g L (fun H Q => sp_is_between__g CS [o.v, .int lo, .int hi] H Q E) C := fun H z Q q => ⟨o, lo, hi, rfl, ho H z, fun H' s' => q _ _ _ (c) (z.same s')⟩
theorem ok_is_between__g (T : Top K mg CS) : Ok P w K mg base 3 "is_between" s_is_between ["value", "low", "high"] (sp_is_between__g CS) := by
  refine Ok.of T.f_is_between sc_is_between (fun _ _ _ _ _ _ us hl => match us, hl with | [_, _, _], _ => rfl) (fun vs H Q E h => ?_) (fun f cdv A outer s H vs Q E hr h => ?_)
  · obtain ⟨o, lo, hi, rfl, _⟩ := h
    rfl
  · obtain ⟨o, lo, hi, rfl, ho0, kk⟩ := h
    have ho : ∀ (L : Led) (H1 : Hp), At ⟨H, fun _ => False⟩ L H1 → o.At H1 := fun L H1 z1 => ho0.same (fun b o e => z1.old b o e (fun q => q))
    refine ⟨_, (pss_one (ps_ret (pe_and (pe_own (ok_is_integer__v T) (hr.mono (by decide)) rfl (pa_cons (pv 0) pa_nil)) (pe_one (pe_chain op_le op_le (pv 1) (pv 0) (pv 2)))))), ?_⟩
    refine run_ws (σ := [some (o.v), some (.int lo), some (.int hi)]) (K := kV (fun v => v = (.bl (o.bw lo hi)))) (L := []) ?_ at_nil (eo_V fun v H' e s' => e ▸ kk H' s')
    rcases o.kinds with ⟨n, rfl⟩ | hi9
    · refine ws_ret ?_
      refine wp_andV ?_
      refine wp_call ?_
      refine wa_cons ?_
      refine wp_var rfl ?_
      refine wa_nil ?_
      refine wc_is_integer__v (o := (.num n)) (ho _) ?_
      refine ⟨_, rfl, ?_⟩
      refine ifT (by first | rfl | (simp; done) | (simp [*]; done)) ?_
      refine wp_chainP ?_
      refine wp_var rfl ?_
      refine wp_var rfl ?_
      refine wr0 ?_
      refine ⟨_, rfl, ?_⟩
      apply andK
      · intro _
        refine wp_var rfl ?_
        refine wr0 ?_
        exact ⟨rfl, rfl⟩
      first | exact congrArg V.bl (hi9.1.trans (hi9.2 _ _).symm) | exact congrArg V.bl (hi9.2 _ _).symm | exact congrArg V.bl (by simp [OV.bw]; done) | exact congrArg V.bl (by simp only [OV.bw]; first | (simp; done) | (simp; omega))
    · refine ws_ret ?_
      refine wp_andV ?_
      refine wp_call ?_
      refine wa_cons ?_
      refine wp_var rfl ?_
      refine wa_nil ?_
      refine wc_is_integer__v (o := o) (ho _) ?_
      refine ⟨_, rfl, ?_⟩
      refine ifF (by first | rfl | (simp; done) | (simp [*]; done)) ?_
      first | exact congrArg V.bl (hi9.1.trans (hi9.2 _ _).symm) | exact congrArg V.bl (hi9.2 _ _).symm | exact congrArg V.bl (by simp [OV.bw]; done) | exact congrArg V.bl (by simp only [OV.bw]; first | (simp; done) | (simp; omega))
def sp_Scheme_init__b (CS : Cs) : Sp := fun vs H Q E => ∃ (p dx : Addr) (o : OV) (y : V), (vs = [.ref p, o.v, y]) ∧ (H p = some (.ins CS.sc dx [])) ∧ (o.At H) ∧ (o.bw 2 1000 = false) ∧ ∀ (d : Addr) (H' : Hp), H d = none → Same H H' → H' d = some (.xd [("part", .str "base")]) → E (.ref CS.xs) (some d) H'
theorem wc_Scheme_init__b {CS : Cs} {g : Gr} {L : Led} {C : V → Led → Prop} {E : XK} {p dx : Addr} {o : OV} {y : V} {bo0 : Bool} (i0 : Nat) (h0 : L[i0]? = some (p, .ob (.ins CS.sc dx []), bo0)) (ho : ∀ H, At g L H → o.At H) (hpre : o.bw 2 1000 = false) (cx : EX g L E CS.xs [("part", .str "base")]) : Wp g L (fun H Q => sp_Scheme_init__b CS [.ref p, o.v, y] H Q E) C := fun H z Q q => ⟨p, dx, o, y, rfl, z.get h0, ho H z, hpre, fun d H' n s' hd => cx _ _ (z.new s' n hd)⟩
theorem wm_Scheme__b {CS : Cs} {g : Gr} {L : Led} {C : V → Led → Prop} {σ : St} {E : XK} {tr : TA}
    (h : Wp g L (tr σ) fun vs L1 => ∃ (o : OV) (y : V), vs = [o.v, y] ∧ (∀ H, At g L1 H → o.At H) ∧ (o.bw 2 1000 = false) ∧ EX g L1 E CS.xs [("part", .str "base")]) :
    Wp g L (tMake CS.sc (sp_Scheme_init__b CS) [] E tr σ) C :=
  fun H z Q q => h H z _ fun vs L1 H1 ⟨o, y, e, ho, hs, k⟩ z1 => fun x dx hx hdx hne => by
    subst e
    have s1 := made_same (C := CS.sc) hx hdx
    exact ⟨x, dx, o, y, rfl, upd_same, (ho H1 z1).same s1, hs, fun d H' hd s hx' => k _ _ (z1.new (fun c w hw => s c w (s1 c w hw)) (none_same s1 hd) hx')⟩

theorem ok_Scheme_init__b (T : Top K mg CS) : OkCX P w K mg base "Scheme" CS 4 "Scheme.__init__" s_Scheme_init ["self", "base", "factor"] (sp_Scheme_init__b CS) := by
  refine OkCX.of T.f_Scheme_init sc_Scheme_init (fun _ _ _ _ _ _ us hl => match us, hl with | [_, _, _], _ => rfl) (fun vs H Q E h => ?_) (fun f cdv A outer s H vs Q E hr h => ?_)
  · obtain ⟨p, dx, o, y, rfl, _⟩ := h
    rfl
  · obtain ⟨p, dx, o, y, rfl, hh0, ho0, hpre, kkx⟩ := h
    have ho : ∀ (L : Led) (H1 : Hp), At ⟨H, fun _ => False⟩ L H1 → o.At H1 := fun L H1 z1 => ho0.same (fun b o e => z1.old b o e (fun q => q))
    refine ⟨_, (pss_cons (ps_if (pt_not (pt_val (pe_own (ok_is_between__g T) (hr.mono (by decide)) rfl (pa_cons (pv 1) (pa_cons pe_int (pa_cons (pe_const rfl T.c_MOST_BASE) pa_nil)))))) (pss_one (ps_raiseO rfl takesE (ok_InvalidScheme_init T) (hr.mono (by decide)) rfl (pa_cons pe_str pa_nil))) pss_nil)
      pss_never), ?_⟩
    refine run_ws (σ := [some (.ref p), some (o.v), some (y)]) (g := ⟨H, fun _ => False⟩) (K := kRx) (L := [(p, .ob (.ins CS.sc dx []), false)]) ?_ (at_one hh0) eo_Rx
    refine ws_seq ?_
    refine ws_if ?_
    refine wt_not ?_
    refine wt_B ?_
    refine wp_call ?_
    refine wa_cons ?_
    refine wp_var rfl ?_
    refine wa_cons ?_
    refine wp_c ?_
    refine wa_cons ?_
    refine wp_c ?_
    refine wa_nil ?_
    refine wc_is_between__g (o := o) (ho _) ?_
    refine ⟨_, rfl, ?_⟩
    refine ifT (by first | rfl | (simp; done) | (simp [*]; done) | (simp [PyData.eqv, PyData.eqvAll]; done)) ?_
    refine ws_raiseO T.xo_InvalidScheme T.f_InvalidScheme_init.cls ?_
    refine wa_cons ?_
    refine wp_c ?_
    refine wa_nil ?_
    exact ⟨.lit "base", rfl, fun _ _ => trivial, ex_of kkx⟩
def sp_Scheme_init__f (CS : Cs) : Sp := fun vs H Q E => ∃ (p dx : Addr) (b : Int) (o : OV), (vs = [.ref p, .int b, o.v]) ∧ (H p = some (.ins CS.sc dx [])) ∧ (o.At H) ∧ (2 ≤ b ∧ b ≤ 1000 ∧ o.bw 1 1000000 = false) ∧ ∀ (d : Addr) (H' : Hp), H d = none → Same H H' → H' d = some (.xd [("part", .str "factor")]) → E (.ref CS.xs) (some d) H'
theorem wc_Scheme_init__f {CS : Cs} {g : Gr} {L : Led} {C : V → Led → Prop} {E : XK} {p dx : Addr} {b : Int} {o : OV} {bo0 : Bool} (i0 : Nat) (h0 : L[i0]? = some (p, .ob (.ins CS.sc dx []), bo0)) (ho : ∀ H, At g L H → o.At H) (hpre : 2 ≤ b ∧ b ≤ 1000 ∧ o.bw 1 1000000 = false) (cx : EX g L E CS.xs [("part", .str "factor")]) : Wp g L (fun H Q => sp_Scheme_init__f CS [.ref p, .int b, o.v] H Q E) C := fun H z Q q => ⟨p, dx, b, o, rfl, z.get h0, ho H z, hpre, fun d H' n s' hd => cx _ _ (z.new s' n hd)⟩
theorem wm_Scheme__f {CS : Cs} {g : Gr} {L : Led} {C : V → Led → Prop} {σ : St} {E : XK} {tr : TA}
    (h : Wp g L (tr σ) fun vs L1 => ∃ (b : Int) (o : OV), vs = [.int b, o.v] ∧ (∀ H, At g L1 H → o.At H) ∧ (2 ≤ b ∧ b ≤ 1000 ∧ o.bw 1 1000000 = false) ∧ EX g L1 E CS.xs [("part", .str "factor")]) :
    Wp g L (tMake CS.sc (sp_Scheme_init__f CS) [] E tr σ) C :=
  fun H z Q q => h H z _ fun vs L1 H1 ⟨b, o, e, ho, hs, k⟩ z1 => fun x dx hx hdx hne => by
    subst e
    have s1 := made_same (C := CS.sc) hx hdx
    exact ⟨x, dx, b, o, rfl, upd_same, (ho H1 z1).same s1, hs, fun d H' hd s hx' => k _ _ (z1.new (fun c w hw => s c w (s1 c w hw)) (none_same s1 hd) hx')⟩

theorem ok_Scheme_init__f (T : Top K mg CS) : OkCX P w K mg base "Scheme" CS 4 "Scheme.__init__" s_Scheme_init ["self", "base", "factor"] (sp_Scheme_init__f CS) := by
  refine OkCX.of T.f_Scheme_init sc_Scheme_init (fun _ _ _ _ _ _ us hl => match us, hl with | [_, _, _], _ => rfl) (fun vs H Q E h => ?_) (fun f cdv A outer s H vs Q E hr h => ?_)
  · obtain ⟨p, dx, b, o, rfl, _⟩ := h
    rfl
  · obtain ⟨p, dx, b, o, rfl, hh0, ho0, hpre, kkx⟩ := h
    have ho : ∀ (L : Led) (H1 : Hp), At ⟨H, fun _ => False⟩ L H1 → o.At H1 := fun L H1 z1 => ho0.same (fun b o e => z1.old b o e (fun q => q))
    refine ⟨_, (pss_cons (ps_if (pt_not (pt_val (pe_own (ok_is_between T) (hr.mono (by decide)) rfl (pa_cons (pv 1) (pa_cons pe_int (pa_cons (pe_const rfl T.c_MOST_BASE) pa_nil)))))) (pss_one (ps_raiseO rfl takesE (ok_InvalidScheme_init T) (hr.mono (by decide)) rfl (pa_cons pe_str pa_nil))) pss_nil)
      (pss_cons (ps_if (pt_not (pt_val (pe_own (ok_is_between__g T) (hr.mono (by decide)) rfl (pa_cons (pv 2) (pa_cons pe_int (pa_cons (pe_const rfl T.c_MOST_FACTOR) pa_nil)))))) (pss_one (ps_raiseO rfl takesE (ok_InvalidScheme_init T) (hr.mono (by decide)) rfl (pa_cons pe_str pa_nil))) pss_nil)
      pss_never)), ?_⟩
    refine run_ws (σ := [some (.ref p), some (.int b), some (o.v)]) (g := ⟨H, fun _ => False⟩) (K := kRx) (L := [(p, .ob (.ins CS.sc dx []), false)]) ?_ (at_one hh0) eo_Rx
    refine ws_seq ?_
    refine ws_if ?_
    refine wt_not ?_
    refine wt_B ?_
    refine wp_call ?_
    refine wa_cons ?_
    refine wp_var rfl ?_
    refine wa_cons ?_
    refine wp_c ?_
    refine wa_cons ?_
    refine wp_c ?_
    refine wa_nil ?_
    refine wc_is_between ?_
    refine ⟨_, rfl, ?_⟩
    refine ifF (by first | rfl | (simp; done) | (simp [*]; done) | (simp [PyData.eqv, PyData.eqvAll]; done)) ?_
    refine ws_next ?_
    refine ws_seq ?_
    refine ws_if ?_
    refine wt_not ?_
    refine wt_B ?_
    refine wp_call ?_
    refine wa_cons ?_
    refine wp_var rfl ?_
    refine wa_cons ?_
    refine wp_c ?_
    refine wa_cons ?_
    refine wp_c ?_
    refine wa_nil ?_
    refine wc_is_between__g (o := o) (ho _) ?_
    refine ⟨_, rfl, ?_⟩
    refine ifT (by first | rfl | (simp; done) | (simp [*]; done) | (simp [PyData.eqv, PyData.eqvAll]; done)) ?_
    refine ws_raiseO T.xo_InvalidScheme T.f_InvalidScheme_init.cls ?_
    refine wa_cons ?_
    refine wp_c ?_
    refine wa_nil ?_
    exact ⟨.lit "factor", rfl, fun _ _ => trivial, ex_of kkx⟩
def sp__law_raised__z (P : Program) (w : World) (K : PySem.W.Frag) (mg : Str → Option Value) (base : Heap) (gg : List Code) (CS : Cs) : Sp := fun vs H Q _ => ∃ (f : Addr), vs = [.ref f] ∧ Deed P w K mg base 30 H f none ∧ ∀ H' : Hp, Same H H' → Q .non H'
theorem wc__law_raised__z {CS : Cs} {g : Gr} {L : Led} {C : V → Led → Prop} {E : XK} {f : Addr} (hd : ∀ H, At g L H → Deed P w K mg base 30 H f none) (c : C .non L) : Wp g L (fun H Q => sp__law_raised__z P w K mg base gg CS [.ref f] H Q E) C := fun H z Q q => ⟨f, rfl, hd H z, fun H' s' => q _ _ _ c (z.same s')⟩

theorem ok__law_raised__z (T : Top K mg CS) (gg : List Code) : OkG P w K mg base gg 64 "_law_raised" s__law_raised ["_law_call"] (sp__law_raised__z P w K mg base gg CS) := by
  refine OkG.of T.f__law_raised sc__law_raised (fun _ _ _ _ _ _ us hl => match us, hl with | [_], _ => rfl) (fun vs H Q E h => ?_) (fun f cdv A outer s H vs Q E hgg hr h => ?_)
  · obtain ⟨f0, rfl, _⟩ := h
    rfl
  · obtain ⟨f0, rfl, hdd, kk⟩ := h
    refine ⟨_, (pss_cons (ps_set (i := 1) sc__law_raised.nd rfl (Or.inl rfl) (pe_tup (pa_cons pe_str (pa_cons pe_non pa_nil))))
      (pss_cons (L2N.ps_try_as (i := 2) (Wout := fun _ _ _ _ => False) rfl rfl sc__law_raised.nd rfl rfl ⟨rfl, by decide, Or.inl T.m_SnapError⟩ L2N.takes0 (fun W pn xe tk _ => (pss_cons (ps_expr (pe_deed (P := P) (w := w) (K := K) (mg := mg) (base := base) (k := 30) (i := 0) tk (hr.mono (by decide)) rfl (Or.inl rfl))) (pss_one (ps_set (i := 1) sc__law_raised.nd rfl (Or.inl rfl) pe_non)))) (fun a oe cls d pn hz hf => (pss_cons (ps_set (i := 3) sc__law_raised.nd rfl (Or.inl rfl) (pe_ownH (ok__law_classes__h T) (hr.mono (by decide)) hz hf (by rfl) (pa_cons (pv 2) pa_nil)))
      (pss_cons (ps_if (pt_cmpR (op_eqDK (Kf := K) rfl (room_eqD hr rfl)) (pv 3) (pe_lst (pa_cons pe_int pa_nil)) (nomark _)) (pss_one (ps_set (i := 1) sc__law_raised.nd rfl (Or.inl rfl) (pe_tup (pa_cons pe_str (pa_cons (pe_xfG hz hf (pv 2)) pa_nil))))) pss_nil)
      (pss_cons (ps_if (pt_cmpR (op_eqDK (Kf := K) rfl (room_eqD hr rfl)) (pv 3) (pe_lst (pa_cons pe_int pa_nil)) (nomark _)) (pss_one (ps_set (i := 1) sc__law_raised.nd rfl (Or.inl rfl) (pe_tup (pa_cons pe_str (pa_cons (pe_callB (call_reprO hgg (room_suite hr rfl)) (by rfl) T.b_repr (by decide +kernel) (pa_cons (pe_xfG hz hf (pv 2)) pa_nil)) pa_nil))))) pss_nil)
      (pss_one (ps_if (pt_cmpR (op_eqDK (Kf := K) rfl (room_eqD hr rfl)) (pv 3) (pe_lst (pa_cons pe_int pa_nil)) (nomark _)) (pss_one (ps_set (i := 1) sc__law_raised.nd rfl (Or.inl rfl) (pe_tup (pa_cons pe_str (pa_cons (pe_callB (call_reprO hgg (room_suite hr rfl)) (by rfl) T.b_repr (by decide +kernel) (pa_cons (pe_xfG hz hf (pv 2)) pa_nil)) pa_nil))))) pss_nil)))))))
      (pss_one (ps_ret (pv 1))))), ?_⟩
    refine run_ws (σ := [some (.ref f0), none, none, none]) (g := ⟨H, fun _ => False⟩) (K := kV (fun v => v = .non)) (L := []) ?_ at_nil (eo_V fun v H' e s' => e ▸ kk H' s')
    refine ws_seq ?_
    refine ws_set ?_
    refine wp_tup ?_
    refine wa_cons ?_
    refine wp_c ?_
    refine wa_cons ?_
    refine wp_c ?_
    refine wa_nil ?_
    refine ⟨by simp, fun p1 => ?_⟩
    refine ws_seq ?_
    refine ws_tryD2 (o := none) rfl (fun H z => hdd.later z.since) ?_ ?_
    · intro hn
      refine ws_set ?_
      refine wp_c ?_
      refine ws_ret ?_
      refine wp_var rfl ?_
      exact rfl
    · intro C_ fs_ e_
      cases e_
theorem sc_Scheme_eq : FnScope ["self", "other"] ["self", "other"] (defScope s_Scheme_eq) := ⟨rfl, rfl, rfl, by decide +kernel, rfl, by decide +kernel, by decide +kernel⟩
def sp_Scheme_eq (CS : Cs) : Sp := fun vs H Q _ => ∃ (s dx : Addr) (b f : Int) (s2 dx2 : Addr) (b2 f2 : Int), (vs = [.ref s, .ref s2]) ∧ (H s = some (.ins CS dx (scF b f))) ∧ (H s2 = some (.ins CS dx2 (scF b2 f2))) ∧ ∀ (H' : Hp), Same H H' → Q (.bl (decide (b = b2) && decide (f = f2))) H'
theorem wc_Scheme_eq {CS : Cs} {g : Gr} {L : Led} {C : V → Led → Prop} {E : XK} {s dx : Addr} {b f : Int} {s2 dx2 : Addr} {b2 f2 : Int} {bo0 bo1 : Bool} (i0 : Nat) (h0 : L[i0]? = some (s, .ob (.ins CS dx (scF b f)), bo0)) (i1 : Nat) (h1 : L[i1]? = some (s2, .ob (.ins CS dx2 (scF b2 f2)), bo1)) (c : C (.bl (decide (b = b2) && decide (f = f2))) L) : Wp g L (fun H Q => sp_Scheme_eq CS [.ref s, .ref s2] H Q E) C := fun H z Q q => ⟨s, dx, b, f, s2, dx2, b2, f2, rfl, z.get h0, z.get h1, fun H' s' => q _ _ _ (c) (z.same s')⟩
def PScheme (fs : List (Str × V)) : Prop := ∃ b f : Int, SchOk b f ∧ fs = scF b f
theorem sp_same_Scheme {CS : Cs} : ∀ (a b dx dy : Addr) (fs : List (Str × V)) (H : Hp) (Q : VK) (E : XK), PScheme fs → H a = some (.ins CS dx fs) → H b = some (.ins CS dy fs) → (∀ H', Ext H H' → Q (.bl true) H') → sp_Scheme_eq CS [.ref a, .ref b] H Q E :=
  fun a b dx dy fs H Q E ⟨b', f', hs, e⟩ h1 h2 q => ⟨a, dx, b', f', b, dy, b', f', rfl, e ▸ h1, e ▸ h2, fun H' s => by simpa using q H' s⟩

theorem ok_Scheme_eq (T : Top K mg CS) : OkM P w K mg base CS 1 "__eq__" "Scheme.__eq__" s_Scheme_eq ["self", "other"] (sp_Scheme_eq CS) := by
  refine OkM.of T.f_Scheme_eq sc_Scheme_eq (fun _ _ _ _ _ _ us hl => match us, hl with | [_, _], _ => rfl) (fun vs H Q E h => ?_) (fun f cdv A outer s H vs Q E hr h => ?_)
  · obtain ⟨s, dx, b, f, s2, dx2, b2, f2, rfl, _⟩ := h
    rfl
  · obtain ⟨s, dx, b, f, s2, dx2, b2, f2, rfl, hh0, hh1, kk⟩ := h
    refine ⟨_, (pss_one (ps_ret (pe_and (pe_callB (c_isC T.is_Scheme) (by rfl) T.b_isinstance (by decide +kernel) (pa_cons (pv 1) (pa_cons (pe_cls rfl T.m_Scheme) pa_nil))) (pe_one (pe_cmpR (op_eqD hr.units) (pe_tup (pa_cons (pe_fld (pv 0) rfl) (pa_cons (pe_fld (pv 0) rfl) pa_nil))) (pe_tup (pa_cons (pe_fld (pv 1) rfl) (pa_cons (pe_fld (pv 1) rfl) pa_nil))) (nomark _)))))), ?_⟩
    refine run_ws (σ := [some (.ref s), some (.ref s2)]) (K := kV (fun v => v = (.bl (decide (b = b2) && decide (f = f2))))) (L := [(s, .ob (.ins CS dx (scF b f)), false), (s2, .ob (.ins CS dx2 (scF b2 f2)), false)]) ?_ (at_consF (at_one hh1) hh0 rfl (by simp)) (eo_V fun v H' e s' => e ▸ kk H' s')
    refine ws_ret ?_
    refine wp_andV ?_
    refine wp_cb ?_
    refine wa_cons ?_
    refine wp_var rfl ?_
    refine wa_cons ?_
    refine wp_c ?_
    refine wa_nil ?_
    refine wc_isC 1 rfl ?_
    refine ⟨_, rfl, ?_⟩
    refine ifT (by first | rfl | (simp; done) | (simp [*]; done)) ?_
    refine wp_op ?_
    refine wp_tup ?_
    refine wa_cons ?_
    refine wp_fld 0 T.cl_Scheme T.n_Scheme_radix ?_
    refine wp_var rfl ?_
    refine ⟨_, _, _, _, _, rfl, rfl, scF_radix _ _, ?_⟩
    refine wa_cons ?_
    refine wp_fld 0 T.cl_Scheme T.n_Scheme_multiple ?_
    refine wp_var rfl ?_
    refine ⟨_, _, _, _, _, rfl, rfl, scF_multiple _ _, ?_⟩
    refine wa_nil ?_
    refine ⟨by simp, fun p2 => ?_⟩
    refine wp_tup ?_
    refine wa_cons ?_
    refine wp_fld 1 T.cl_Scheme T.n_Scheme_radix ?_
    refine wp_var rfl ?_
    refine ⟨_, _, _, _, _, rfl, rfl, scF_radix _ _, ?_⟩
    refine wa_cons ?_
    refine wp_fld 1 T.cl_Scheme T.n_Scheme_multiple ?_
    refine wp_var rfl ?_
    refine ⟨_, _, _, _, _, rfl, rfl, scF_multiple _ _, ?_⟩
    refine wa_nil ?_
    refine ⟨by simp, fun p3 => ?_⟩
    refine wr_eqD (dp_tup (seenT 2 rfl) (dps_cons dp_int (dps_cons dp_int dps_nil))) (dp_tup (seenT 3 rfl) (dps_cons dp_int (dps_cons dp_int dps_nil))) rfl rfl ?_
    exact congrArg V.bl (by rw [Bool.eq_iff_iff]; simp [PyData.eqv, PyData.eqvAll])
def sp_Scheme_eq__x (CS : Cs) : Sp := fun vs H Q _ => ∃ (s dx : Addr) (b f : Int) (y : V), (vs = [.ref s, y]) ∧ (H s = some (.ins CS dx (scF b f))) ∧ (Od H y) ∧ ∀ (H' : Hp), Same H H' → Q (.bl false) H'
theorem wc_Scheme_eq__x {CS : Cs} {g : Gr} {L : Led} {C : V → Led → Prop} {E : XK} {s dx : Addr} {b f : Int} {y : V} {bo0 : Bool} (i0 : Nat) (h0 : L[i0]? = some (s, .ob (.ins CS dx (scF b f)), bo0)) (hy : ∀ H, At g L H → Od H y) (c : C (.bl false) L) : Wp g L (fun H Q => sp_Scheme_eq__x CS [.ref s, y] H Q E) C := fun H z Q q => ⟨s, dx, b, f, y, rfl, z.get h0, hy H z, fun H' s' => q _ _ _ (c) (z.same s')⟩
theorem ok_Scheme_eq__x (T : Top K mg CS) : OkM P w K mg base CS 2 "__eq__" "Scheme.__eq__" s_Scheme_eq ["self", "other"] (sp_Scheme_eq__x CS) := by
  refine OkM.of T.f_Scheme_eq sc_Scheme_eq (fun _ _ _ _ _ _ us hl => match us, hl with | [_, _], _ => rfl) (fun vs H Q E h => ?_) (fun f cdv A outer s H vs Q E hr h => ?_)
  · obtain ⟨s, dx, b, f, y, rfl, _⟩ := h
    rfl
  · obtain ⟨s, dx, b, f, y, rfl, hh0, hy0, kk⟩ := h
    have hy : ∀ (L : Led) (H1 : Hp), At ⟨H, fun _ => False⟩ L H1 → Od H1 y := fun L H1 z1 => hy0.same (fun b o e => z1.old b o e (fun q => q))
    refine ⟨_, (pss_one (ps_ret (pe_and (pe_callB call_isi (by rfl) T.b_isinstance (by decide +kernel) (pa_cons (pv 1) (pa_cons (pe_cls rfl T.m_Scheme) pa_nil))) (pe_one (pe_cmpR op_eq (pe_tup (pa_cons (pe_fld (pv 0) rfl) (pa_cons (pe_fld (pv 0) rfl) pa_nil))) (pe_tup (pa_cons (pe_fld (pv 1) rfl) (pa_cons (pe_fld (pv 1) rfl) pa_nil))) (nomark _)))))), ?_⟩
    refine run_ws (σ := [some (.ref s), some (y)]) (K := kV (fun v => v = (.bl false))) (L := [(s, .ob (.ins CS dx (scF b f)), false)]) ?_ (at_one hh0) (eo_V fun v H' e s' => e ▸ kk H' s')
    refine ws_ret ?_
    refine wp_andV ?_
    refine wp_cb ?_
    refine wa_cons ?_
    refine wp_var rfl ?_
    refine wa_cons ?_
    refine wp_c ?_
    refine wa_nil ?_
    refine wc_isi_ownO T.ko_Scheme (hy _) ?_
    refine ⟨_, rfl, ?_⟩
    refine ifF (by first | rfl | (simp; done) | (simp [*]; done)) ?_
    exact rfl
def sp_is_integer__d (CS : Cs) : Sp := fun vs H Q _ => ∃ (y : V), (vs = [y]) ∧ (Od H y) ∧ ∀ (H' : Hp), Same H H' → Q (.bl (isIv y)) H'
theorem wc_is_integer__d {CS : Cs} {g : Gr} {L : Led} {C : V → Led → Prop} {E : XK} {y : V} (hod : ∀ H, At g L H → Od H y) (c : C (.bl (isIv y)) L) : Wp g L (fun H Q => sp_is_integer__d CS [y] H Q E) C := fun H z Q q => ⟨y, rfl, hod H z, fun H' s' => q _ _ _ (c) (z.same s')⟩
theorem ok_is_integer__d (T : Top K mg CS) : Ok P w K mg base 2 "is_integer" s_is_integer ["value"] (sp_is_integer__d CS) := by
  refine Ok.of T.f_is_integer sc_is_integer (fun _ _ _ _ _ _ us hl => match us, hl with | [_], _ => rfl) (fun vs H Q E h => ?_) (fun f cdv A outer s H vs Q E hr h => ?_)
  · obtain ⟨y, rfl, _⟩ := h
    rfl
  · obtain ⟨y, rfl, hod0, kk⟩ := h
    have hod : ∀ (L : Led) (H1 : Hp), At ⟨H, fun _ => False⟩ L H1 → Od H1 y := fun L H1 z1 => hod0.same (fun b o e => z1.old b o e (fun q => q))
    refine ⟨_, (pss_one (ps_ret (pe_and (pe_callB call_isi (by rfl) T.b_isinstance (by decide +kernel) (pa_cons (pv 0) (pa_cons (pe_tyint rfl T.b_int) pa_nil))) (pe_one (pe_not (pe_callB call_isi (by rfl) T.b_isinstance (by decide +kernel) (pa_cons (pv 0) (pa_cons (pe_tybool rfl T.b_bool) pa_nil)))))))), ?_⟩
    refine run_ws (σ := [some (y)]) (K := kV (fun v => v = (.bl (isIv y)))) (L := []) ?_ at_nil (eo_V fun v H' e s' => e ▸ kk H' s')
    refine ws_ret ?_
    refine wp_andVP ?_
    refine wp_cb ?_
    refine wa_cons ?_
    refine wp_var rfl ?_
    refine wa_cons ?_
    refine wp_c ?_
    refine wa_nil ?_
    refine wc_isi_intO (hod _) ?_
    refine ⟨_, rfl, ?_⟩
    apply andK
    · intro hb1
      try simp only [decide_eq_true_eq, decide_eq_false_iff_not, Bool.and_eq_true, Bool.or_eq_true, Bool.not_eq_true', Bool.and_eq_false_iff, Bool.or_eq_false_iff, Bool.not_eq_false', Bool.not_true, Bool.not_false, Bool.false_or, Bool.true_and, Bool.true_or, Bool.false_and, Bool.and_true, Bool.or_false, reduceCtorEq, not_true_eq_false, not_false_eq_true, decide_true, decide_false] at hb1
      refine wp_notV ?_
      refine wp_cb ?_
      refine wa_cons ?_
      refine wp_var rfl ?_
      refine wa_cons ?_
      refine wp_c ?_
      refine wa_nil ?_
      refine wc_isi_boolO (hod _) ?_
      refine ⟨_, rfl, ?_⟩
      exact ⟨rfl, rfl⟩
    exact rfl
theorem sc_law : FnScope ["_law_script", "_law_cell", "_law_source", "_law_odd", "_law_radix", "_law_times", "_law_scheme", "_law_calls", "_law_call", "_law_value_here"] ["_law_script"] (defScope s_law) := ⟨rfl, rfl, rfl, by decide +kernel, rfl, by decide +kernel, by decide +kernel⟩
def sp_law (K : PySem.W.Frag) (CS : Cs) : Sp := fun vs H Q _ => ∃ (a : Addr) (ns : List Int), vs = [.ref a] ∧ H CS.t0 = some (.tbl #[]) ∧ a ≠ CS.t0 ∧ SqL K H a (ns.map V.int) ∧ ns.length ≤ 63 ∧ ∀ H', Q (.bl true) H'

theorem ok_law {f : Addr} {fd : FuncData} (F : Fun K "law" "law" s_law f fd) (hcode : fd.code = .ref CS.k0) (T : Top K mg CS) (TB : Tb base mg CS) : FnOk P w K mg base CX0 66 f fd ["_law_script"] (sp_law K CS) := by
  refine fnOk_wlog fun gg => Fun.okG F sc_law (fun vs H Q E h => ?_) (fun cdv hcdv A outer s H vs Q E hgg hr h => ?_)
  · obtain ⟨a, ns, rfl, _⟩ := h
    rfl
  · obtain rfl : cdv = .ref CS.k0 := hcdv.symm.trans hcode
    obtain ⟨a, ns, rfl, hq0, ha0, hS0', hlen, kk⟩ := h
    have hS : ∀ {L : Led}, Seen K ⟨H, fun c => c ∈ ([CS.t0] : List Addr)⟩ L a (ns.map V.int) := seen0 hS0' (by simp only [List.mem_cons, List.not_mem_nil, or_false, not_or]; exact ha0)
    have zt0 : At ⟨H, fun c => c ∈ ([CS.t0] : List Addr)⟩ ((CS.t0, .tab "law.<locals>.<lambda>", true) :: []) H := at_tab (at_nil (mu := fun c => c ∈ ([CS.t0] : List Addr))) (ent_tab0 hq0) (by simp) rfl
    have hS0 : ∀ {L : Led}, Seen K ⟨H, fun c => c ∈ ([CS.t0] : List Addr)⟩ L a (ns.map V.int) := hS
    refine ⟨_, (pss_cons (ps_for PassesOwn.never rfl (pi_list (pe_op op_cat (pe_lst (pa_cons (pe_own (ok__law_cell_at T) (hr.mono (by decide)) rfl (pa_cons (pv 0) (pa_cons pe_int pa_nil))) pa_nil)) (pe_slice sl_list (pv 0) (po_some pe_int) (po_some pe_int)))) (pg_name (i := 1) sc_law.nd rfl (Or.inl rfl)) (pss_cons (ps_set (i := 2) sc_law.nd rfl (Or.inl rfl) (pe_own (ok__law_source_of T) (hr.mono (by decide)) rfl (pa_cons (pv 1) pa_nil)))
      (pss_cons (ps_if (pt_not (pt_val (pe_own (ok__law_made_by_hand T) (hr.mono (by decide)) rfl (pa_cons (pe_own (ok__law_next T) (hr.mono (by decide)) rfl (pa_cons (pv 2) (pa_cons pe_int pa_nil))) pa_nil)))) (pss_one (ps_ret pe_bl)) pss_nil)
      (pss_cons (ps_set (i := 3) sc_law.nd rfl (Or.inr rfl) (pe_own (ok__law_one T) (hr.mono (by decide)) rfl (pa_cons (pv 2) (pa_cons (pe_lst (pa_cons pe_bl (pa_cons pe_bl (pa_cons pe_non (pa_cons pe_str (pa_cons (pe_tup (pa_cons pe_int pa_nil)) (pa_cons (pe_lst (pa_cons pe_int pa_nil)) (pa_cons pe_dnewK (pa_cons (pe_un un_neg pe_int) (pa_cons (pe_op op_sub pe_int (pe_op op_pow pe_int pe_int)) pa_nil)))))))))) pa_nil))))
      (pss_cons (ps_for PassesOwn.never rfl (pi_list (pe_lst (pa_cons (pv 3) (pa_cons pe_int (pa_cons pe_int (pa_cons pe_int pa_nil)))))) (pg_name (i := 4) sc_law.nd rfl (Or.inr rfl)) (pss_one (ps_if (pt_cmpR (op_neD hr.units) (pe_callDG (fun base => ok__law_raised (P := P) (w := w) (base := base) T gg) hgg (tells_def (frA := ["_law_odd", "_law_radix", "_law_times", "_law_scheme"]) [3, 4, 5, 6] (by decide +kernel) rfl) (hr.mono (by decide)) rfl (pa_cons (pe_lmbG (Pr := P) (w := w) (K := K) (mg := mg) (k := 29) (N := ["_law_radix", "_law_odd"]) (fr := ["_law_radix", "_law_odd"]) (sc := defScope s_law) TB.t0 rfl rfl rfl (by decide +kernel) rfl (fun cl c_ => good_mk (by decide +kernel) (fun _ => ⟨rfl, fun _ _ _ _ => BindsTo.of_eq rfl⟩) (fun u h => (by cases h)) (fun base f A outer s H E hr => (pe_ocE (ok_Scheme_init__b T) passLm (hr.mono (by decide)) rfl (pa_cons (pv 0) (pa_cons (pv 1) pa_nil)))))) pa_nil)) (pe_tup (pa_cons pe_str (pa_cons pe_str pa_nil))) (nomark _)) (pss_one (ps_ret pe_bl)) pss_nil)))
      (pss_cons (ps_for PassesOwn.never rfl (pi_list (pe_lst (pa_cons (pv 3) (pa_cons pe_int (pa_cons (pe_op op_add (pe_op op_pow pe_int pe_int) pe_int) pa_nil))))) (pg_name (i := 5) sc_law.nd rfl (Or.inr rfl)) (pss_one (ps_if (pt_cmpR (op_neD hr.units) (pe_callDG (fun base => ok__law_raised (P := P) (w := w) (base := base) T gg) hgg (tells_def (frA := ["_law_odd", "_law_radix", "_law_times", "_law_scheme"]) [3, 4, 5, 6] (by decide +kernel) rfl) (hr.mono (by decide)) rfl (pa_cons (pe_lmbG (Pr := P) (w := w) (K := K) (mg := mg) (k := 29) (N := ["_law_times"]) (fr := ["_law_times"]) (sc := defScope s_law) TB.t0 rfl rfl rfl (by decide +kernel) rfl (fun cl c_ => good_mk (by decide +kernel) (fun _ => ⟨rfl, fun _ _ _ _ => BindsTo.of_eq rfl⟩) (fun u h => (by cases h)) (fun base f A outer s H E hr => (pe_ocE (ok_Scheme_init__f T) passLm (hr.mono (by decide)) rfl (pa_cons pe_int (pa_cons (pv 0) pa_nil)))))) pa_nil)) (pe_tup (pa_cons pe_str (pa_cons pe_str pa_nil))) (nomark _)) (pss_one (ps_ret pe_bl)) pss_nil)))
      (pss_cons (ps_if (pt_cmpR op_notN' (pe_callDG (fun base => ok__law_raised__z (P := P) (w := w) (base := base) T gg) hgg (tells_def (frA := ["_law_odd", "_law_radix", "_law_times", "_law_scheme"]) [3, 4, 5, 6] (by decide +kernel) rfl) (hr.mono (by decide)) rfl (pa_cons (pe_lmbG (Pr := P) (w := w) (K := K) (mg := mg) (k := 29) (N := []) (fr := []) (sc := defScope s_law) TB.t0 rfl rfl rfl (by decide +kernel) rfl (fun cl c_ => good_mk (by decide +kernel) (fun _ => ⟨rfl, fun _ _ _ _ => BindsTo.of_eq rfl⟩) (fun u h => (by cases h)) (fun base f A outer s H E hr => (pe_oc (ok_Scheme_init T) (hr.mono (by decide)) rfl (pa_cons pe_int (pa_cons (pe_op op_pow pe_int pe_int) pa_nil)))))) pa_nil)) pe_non (nomark _)) (pss_one (ps_ret pe_bl)) pss_nil)
      (pss_cons (ps_set (i := 6) sc_law.nd rfl (Or.inr rfl) (pe_oc (ok_Scheme_init T) (hr.mono (by decide)) rfl (pa_cons pe_int (pa_cons pe_int pa_nil))))
      (pss_cons (ps_set (i := 7) sc_law.nd rfl (Or.inl rfl) (pe_lst (pa_cons (pe_lmbG (Pr := P) (w := w) (K := K) (mg := mg) (k := 29) (N := ["_law_scheme", "_law_odd"]) (fr := ["_law_scheme", "_law_odd"]) (sc := defScope s_law) TB.t0 rfl rfl rfl (by decide +kernel) rfl (fun cl c_ => good_mk (by decide +kernel) (fun _ => ⟨rfl, fun _ _ _ _ => BindsTo.of_eq rfl⟩) (fun u h => (by cases h)) (fun base f A outer s H E hr => (pe_omE T.cl_Scheme (ok_Scheme_level__n T) passLm (hr.mono (by decide)) (pv 0) (pa_cons (pv 1) pa_nil))))) (pa_cons (pe_lmbDG (ps := ["_law_of"]) (Pr := P) (w := w) (K := K) (mg := mg) (k := 29) (N := ["_law_of", "_law_scheme", "_law_odd"]) (fr := ["_law_scheme", "_law_odd"]) (sc := defScope s_law) TB.t0 rfl rfl rfl (by decide +kernel) rfl rfl pe_int (fun cl u c_ => good_mk (by decide +kernel) (fun h => (by cases h)) (fun u2 h s doc pm ctv us o n hl ho hd => b1_one hl fun x_ ex => BindsTo.of_defaults (T := u2) (items := #[x_]) (n := n) h ho (by rw [hd, ex]) rfl rfl) (fun base f A outer s H E hr => (pe_omE T.cl_Scheme (ok_Scheme_parent__n T) passLm (hr.mono (by decide)) (pv 1) (pa_cons (pv 2) pa_nil))))) pa_nil))))
      (pss_cons (ps_set (i := 7) sc_law.nd rfl (Or.inl rfl) (pe_op op_cat (pv 7) (pe_lst (pa_cons (pe_lmbG (Pr := P) (w := w) (K := K) (mg := mg) (k := 29) (N := ["_law_scheme", "_law_odd"]) (fr := ["_law_scheme", "_law_odd"]) (sc := defScope s_law) TB.t0 rfl rfl rfl (by decide +kernel) rfl (fun cl c_ => good_mk (by decide +kernel) (fun _ => ⟨rfl, fun _ _ _ _ => BindsTo.of_eq rfl⟩) (fun u h => (by cases h)) (fun base f A outer s H E hr => (pe_omE T.cl_Scheme (ok_Scheme_chain__n T) passLm (hr.mono (by decide)) (pv 0) (pa_cons (pv 1) pa_nil))))) (pa_cons (pe_lmbDG (ps := ["_law_of"]) (Pr := P) (w := w) (K := K) (mg := mg) (k := 29) (N := ["_law_of", "_law_scheme", "_law_odd"]) (fr := ["_law_scheme", "_law_odd"]) (sc := defScope s_law) TB.t0 rfl rfl rfl (by decide +kernel) rfl rfl pe_int (fun cl u c_ => good_mk (by decide +kernel) (fun h => (by cases h)) (fun u2 h s doc pm ctv us o n hl ho hd => b1_one hl fun x_ ex => BindsTo.of_defaults (T := u2) (items := #[x_]) (n := n) h ho (by rw [hd, ex]) rfl rfl) (fun base f A outer s H E hr => (pe_omE T.cl_Scheme (ok_Scheme_block__n T) passLm (hr.mono (by decide)) (pv 1) (pa_cons (pv 2) pa_nil))))) pa_nil)))))
      (pss_cons (ps_set (i := 7) sc_law.nd rfl (Or.inl rfl) (pe_op op_cat (pv 7) (pe_lst (pa_cons (pe_lmbG (Pr := P) (w := w) (K := K) (mg := mg) (k := 29) (N := ["_law_scheme", "_law_odd"]) (fr := ["_law_scheme", "_law_odd"]) (sc := defScope s_law) TB.t0 rfl rfl rfl (by decide +kernel) rfl (fun cl c_ => good_mk (by decide +kernel) (fun _ => ⟨rfl, fun _ _ _ _ => BindsTo.of_eq rfl⟩) (fun u h => (by cases h)) (fun base f A outer s H E hr => (pe_omE T.cl_Scheme (ok_Scheme_last_time__n T) passLm (hr.mono (by decide)) (pv 0) (pa_cons (pv 1) pa_nil))))) (pa_cons (pe_lmbDG (ps := ["_law_of"]) (Pr := P) (w := w) (K := K) (mg := mg) (k := 29) (N := ["_law_of", "_law_scheme", "_law_odd"]) (fr := ["_law_scheme", "_law_odd"]) (sc := defScope s_law) TB.t0 rfl rfl rfl (by decide +kernel) rfl rfl pe_int (fun cl u c_ => good_mk (by decide +kernel) (fun h => (by cases h)) (fun u2 h s doc pm ctv us o n hl ho hd => b1_one hl fun x_ ex => BindsTo.of_defaults (T := u2) (items := #[x_]) (n := n) h ho (by rw [hd, ex]) rfl rfl) (fun base f A outer s H E hr => (pe_omE T.cl_Scheme (ok_Scheme_is_kept__n T) passLm (hr.mono (by decide)) (pv 1) (pa_cons (pv 2) (pa_cons (pv 2) pa_nil)))))) pa_nil)))))
      (pss_cons (ps_set (i := 7) sc_law.nd rfl (Or.inl rfl) (pe_op op_cat (pv 7) (pe_lst (pa_cons (pe_lmbG (Pr := P) (w := w) (K := K) (mg := mg) (k := 29) (N := ["_law_scheme", "_law_odd"]) (fr := ["_law_scheme", "_law_odd"]) (sc := defScope s_law) TB.t0 rfl rfl rfl (by decide +kernel) rfl (fun cl c_ => good_mk (by decide +kernel) (fun _ => ⟨rfl, fun _ _ _ _ => BindsTo.of_eq rfl⟩) (fun u h => (by cases h)) (fun base f A outer s H E hr => (pe_omE T.cl_Scheme (ok_Scheme_has_in_chain__n T) passLm (hr.mono (by decide)) (pv 0) (pa_cons (pv 1) (pa_cons pe_int pa_nil)))))) (pa_cons (pe_lmbDG (ps := ["_law_of"]) (Pr := P) (w := w) (K := K) (mg := mg) (k := 29) (N := ["_law_of", "_law_scheme", "_law_odd"]) (fr := ["_law_scheme", "_law_odd"]) (sc := defScope s_law) TB.t0 rfl rfl rfl (by decide +kernel) rfl rfl pe_int (fun cl u c_ => good_mk (by decide +kernel) (fun h => (by cases h)) (fun u2 h s doc pm ctv us o n hl ho hd => b1_one hl fun x_ ex => BindsTo.of_defaults (T := u2) (items := #[x_]) (n := n) h ho (by rw [hd, ex]) rfl rfl) (fun base f A outer s H E hr => (pe_omE T.cl_Scheme (ok_Scheme_has_in_chain__a T) passLm (hr.mono (by decide)) (pv 1) (pa_cons pe_int (pa_cons (pv 2) pa_nil)))))) pa_nil)))))
      (pss_cons (ps_if (pt_cmpR (op_neD hr.units) (pe_lcK (own := [("_law_call", 8)]) (tells_def (frA := ["_law_odd", "_law_radix", "_law_times", "_law_scheme"]) [3, 4, 5, 6] (by decide +kernel) rfl) rfl sc_law.nd (pi_list (pv 7)) (blkOk_by (N := ["_law_script", "_law_cell", "_law_source", "_law_odd", "_law_radix", "_law_times", "_law_scheme", "_law_calls", "_law_call", "_law_value_here"]) (sc := defScope s_law) (by decide +kernel)) (fun _ _ _ _ _ => (pg_name (i := 8) sc_law.nd rfl (Or.inl rfl))) (fun _ _ _ _ _ _ kn => (pts_one (pt_cmpR (op_neDK (Kf := K) rfl (room_eqD hr rfl)) (pe_callDG (fun base => ok__law_raised (P := P) (w := w) (base := base) T gg) hgg (tells_blk kn) (hr.mono (by decide)) rfl (pa_cons (pv 8) pa_nil)) (pe_tup (pa_cons pe_str (pa_cons (pe_callB (call_reprO hgg (room_suite hr rfl)) (by rfl) T.b_repr (by decide +kernel) (pa_cons (pv 3) pa_nil)) pa_nil))) (nomark _)))) (fun _ _ _ _ _ _ kn => pe_int)) (pe_lst pa_nil) (nomark _)) (pss_one (ps_ret pe_bl)) pss_nil)
      (pss_cons (ps_if (pt_cmpR (op_neD hr.units) (pe_callDG (fun base => ok__law_raised (P := P) (w := w) (base := base) T gg) hgg (tells_def (frA := ["_law_odd", "_law_radix", "_law_times", "_law_scheme"]) [3, 4, 5, 6] (by decide +kernel) rfl) (hr.mono (by decide)) rfl (pa_cons (pe_lmbG (Pr := P) (w := w) (K := K) (mg := mg) (k := 29) (N := ["_law_scheme", "_law_odd"]) (fr := ["_law_scheme", "_law_odd"]) (sc := defScope s_law) TB.t0 rfl rfl rfl (by decide +kernel) rfl (fun cl c_ => good_mk (by decide +kernel) (fun _ => ⟨rfl, fun _ _ _ _ => BindsTo.of_eq rfl⟩) (fun u h => (by cases h)) (fun base f A outer s H E hr => (pe_omE T.cl_Scheme (ok_Scheme_is_kept__t T) passLm (hr.mono (by decide)) (pv 0) (pa_cons pe_int (pa_cons (pv 1) pa_nil)))))) pa_nil)) (pe_tup (pa_cons pe_str (pa_cons (pe_callB (call_reprO hgg (room_suite hr rfl)) (by rfl) T.b_repr (by decide +kernel) (pa_cons (pv 3) pa_nil)) pa_nil))) (nomark _)) (pss_one (ps_ret pe_bl)) pss_nil)
      (pss_cons (ps_if (PW.pt (pw_or (pt_cmpR (op_eqXK (Kf := K) rfl (ok_Scheme_eq__x T) (hr.mono (by decide))) (pv 6) (pe_tup (pa_cons pe_int (pa_cons pe_int pa_nil))) (nomark _)) (pw_or (pt_cmpR (op_eqO (ok_Scheme_eq T) (hr.mono (by decide))) (pv 6) (pe_oc (ok_Scheme_init T) (hr.mono (by decide)) rfl (pa_cons pe_int (pa_cons pe_int pa_nil))) (nomark _)) (pw_or (pt_cmpR (op_eqO (ok_Scheme_eq T) (hr.mono (by decide))) (pv 6) (pe_oc (ok_Scheme_init T) (hr.mono (by decide)) rfl (pa_cons pe_int (pa_cons pe_int pa_nil))) (nomark _)) (pw_or1 (pt_cmpR (op_neO (ok_Scheme_eq T) T.ne_Scheme (hr.mono (by decide))) (pv 6) (pe_oc (ok_Scheme_init T) (hr.mono (by decide)) rfl (pa_cons pe_int (pa_cons pe_int pa_nil))) (nomark _))))))) (pss_one (ps_ret pe_bl)) pss_nil)
      (pss_cons (ps_if (pt_cmpR (op_neD hr.units) (pe_lc (own := [("_law_value_here", 9)]) rfl sc_law.nd (pi_list (pe_lst (pa_cons pe_int (pa_cons (pe_un un_neg pe_int) (pa_cons pe_bl (pa_cons pe_non (pa_cons pe_str (pa_cons (pe_lst pa_nil) (pa_cons pe_dnewK pa_nil))))))))) (blkOk_by (N := ["_law_script", "_law_cell", "_law_source", "_law_odd", "_law_radix", "_law_times", "_law_scheme", "_law_calls", "_law_call", "_law_value_here"]) (sc := defScope s_law) (by decide +kernel)) (fun _ _ _ _ _ => (pg_name (i := 9) sc_law.nd rfl (Or.inl rfl))) (fun _ _ _ _ _ => pts_nil) (fun _ _ _ _ _ => (pe_own (ok_is_integer__d T) (hr.mono (by decide)) rfl (pa_cons (pv 9) pa_nil)))) (pe_op op_cat (pe_lst (pa_cons pe_bl (pa_cons pe_bl pa_nil))) (pe_op op_rep (pe_lst (pa_cons pe_bl pa_nil)) pe_int)) (nomark _)) (pss_one (ps_ret pe_bl)) pss_nil)
      (pss_one (ps_if (pt_cmpR op_notBl (pe_kw (ks := ["value"]) [0] (ok_is_integer T) (hr.mono (by decide)) rfl (pk_cons (pe_op op_pow pe_int pe_int) pk_nil) (fun _ _ _ _ _ _ ws hl => match ws, hl with | [_], _ => rfl)) pe_bl (nomark _)) (pss_one (ps_ret pe_bl)) pss_nil))))))))))))))))))
      (pss_one (ps_ret pe_bl))), ?_⟩
    refine run_ws (σ := [some (.ref a), none, none, none, none, none, none, none, none, none]) (g := ⟨H, fun c => c ∈ ([CS.t0] : List Addr)⟩) (K := kV (fun v => v = .bl true)) (L := [(CS.t0, .tab "law.<locals>.<lambda>", true)]) ?_ zt0 (eo_VL fun v H' e => e ▸ kk H')
    refine ws_seq ?_
    refine ws_for ?_
    refine wi_list ?_
    refine wp_op ?_
    refine wp_lst ?_
    refine wa_cons ?_
    refine wp_call ?_
    refine wa_cons ?_
    refine wp_var rfl ?_
    refine wa_cons ?_
    refine wp_c ?_
    refine wa_nil ?_
    refine wc__law_cell_at hS0 (by decide) ?_
    intro n0
    refine wa_nil ?_
    refine ⟨by simp, fun p1 => ?_⟩
    refine wp_sl ?_
    refine wp_var rfl ?_
    refine wo_some ?_
    refine wp_c ?_
    refine ⟨_, rfl, ?_⟩
    refine wo_some ?_
    refine wp_c ?_
    refine ⟨_, rfl, ?_⟩
    refine wr_slL hS ?_
    intro p2
    refine wr_cat 1 2 rfl rfl (by (first | (simp; done) | (simp; have := cutV_length (ns.map V.int) (some 1) (some 6); simp at this; omega))) ?_
    intro p3
    refine ⟨_, _, rfl, (seen 3 rfl), ?_⟩
    refine wf_listS (seen 3 rfl) (fun i vs => ∃ w1 : Option V, ∃ w2 : Option V, ∃ w3 : Option V, ∃ w4 : Option V, ∃ w5 : Option V, ∃ w6 : Option V, ∃ w7 : Option V, vs = [none, some w1, some w2, some w3, some w4, some w5, some w6, some w7, none, none]) ?_ ?_ ?_
    · exact ⟨[none, some _, some _, some _, some _, some _, some _, some _, none, none], rfl, _, _, _, _, _, _, _, rfl⟩
    · rintro i x vs hx ⟨w1, w2, w3, w4, w5, w6, w7, rfl⟩
      obtain ⟨c, rfl⟩ : ∃ c : Int, x = .int c := by
        rcases List.mem_append.mp (List.mem_of_getElem? hx) with h | h
        · exact ⟨n0, by simpa using h⟩
        · exact ints_all x (cut_mem h)
      refine wg_name ?_
      refine ws_eq (σ' := [_, _, _, _, _, _, _, _, _, _]) rfl ?_
      refine ws_seq ?_
      refine ws_set ?_
      refine wp_call ?_
      refine wa_cons ?_
      refine wp_var rfl ?_
      refine wa_nil ?_
      refine wc__law_source_of ?_
      intro p4
      refine ws_nf (σ' := [_, _, _, _, _, _, _, _, _, _]) (L' := [_, _, _, _, _]) rfl rfl ?_
      refine ws_seq ?_
      refine ws_if ?_
      refine wt_not ?_
      refine wt_B ?_
      refine wp_call ?_
      refine wa_cons ?_
      refine wp_call ?_
      refine wa_cons ?_
      refine wp_var rfl ?_
      refine wa_cons ?_
      refine wp_c ?_
      refine wa_nil ?_
      refine wc__law_next 4 rfl (by decide) (by decide) ?_
      intro nN hnN
      refine wa_nil ?_
      refine wc__law_made_by_hand (by omega) ?_
      refine ⟨_, rfl, ?_⟩
      refine ifF (by first | rfl | (simp; done) | (simp [*]; done) | (simp [PyData.eqv, PyData.eqvAll]; done)) ?_
      refine ws_next ?_
      refine ws_seq ?_
      refine ws_set ?_
      refine wp_call ?_
      refine wa_cons ?_
      refine wp_var rfl ?_
      refine wa_cons ?_
      refine wp_lst ?_
      refine wa_cons ?_
      refine wp_c ?_
      refine wa_cons ?_
      refine wp_c ?_
      refine wa_cons ?_
      refine wp_c ?_
      refine wa_cons ?_
      refine wp_c ?_
      refine wa_cons ?_
      refine wp_tup ?_
      refine wa_cons ?_
      refine wp_c ?_
      refine wa_nil ?_
      refine ⟨by simp, fun p5 => ?_⟩
      refine wa_cons ?_
      refine wp_lst ?_
      refine wa_cons ?_
      refine wp_c ?_
      refine wa_nil ?_
      refine ⟨by simp, fun p6 => ?_⟩
      refine wa_cons ?_
      refine wp_dict0 (fun p7 => ?_)
      refine wa_cons ?_
      refine wp_un ?_
      refine wp_c ?_
      refine wu0 ?_
      refine wa_cons ?_
      refine wp_op ?_
      refine wp_c ?_
      refine wp_op ?_
      refine wp_c ?_
      refine wp_c ?_
      refine wr_powc (r := 100000000000000000000) (powOk (by decide)) (by decide) ?_
      refine wr0 ?_
      refine wa_nil ?_
      refine ⟨by simp, fun p8 => ?_⟩
      refine wa_nil ?_
      refine wc__law_oneA 4 8 rfl rfl (by decide) (by omega) (by simp) ?_
      intro nO hnO
      obtain ⟨o, rfl, hoa, ho⟩ := ov_drawn5 hnO
      have hob : o.bw 2 1000 = false := OV.bw_of hoa (by decide)
      have hof : o.bw 1 1000000 = false := OV.bw_of hoa (by decide)
      refine ws_nf (σ' := [_, _, _, _, _, _, _, _, _, _]) (L' := [_, _, _, _, _, _, _, _, _]) rfl rfl ?_
      refine ws_seq ?_
      refine ws_for ?_
      refine wi_list ?_
      refine wp_lst ?_
      refine wa_cons ?_
      refine wp_var rfl ?_
      refine wa_cons ?_
      refine wp_c ?_
      refine wa_cons ?_
      refine wp_c ?_
      refine wa_cons ?_
      refine wp_c ?_
      refine wa_nil ?_
      refine ⟨by simp, fun p9 => ?_⟩
      refine ⟨_, _, rfl, (seen 9 rfl), ?_⟩
      refine wf_S (iter_listV (seen 9 rfl)) (fun i vs => ∃ w4 : Option V, vs = [none, none, none, none, some w4, none, none, none, none, none]) ?_ ?_ ?_
      · exact ⟨[none, none, none, none, some _, none, none, none, none, none], rfl, _, rfl⟩
      · rintro i x vs hx ⟨w4, rfl⟩
        refine ws_nf (σ' := [_, _, _, _, _, _, _, _, _, _]) (L' := [_, _, _, _, _, _, _, _, _, _]) rfl rfl ?_
        have hx9 := List.mem_of_getElem? hx
        simp only [List.mem_cons, List.not_mem_nil, or_false] at hx9
        rcases hx9 with rfl | rfl | rfl | rfl
        · refine ws_if ?_
          refine wt_test ?_
          refine wp_op ?_
          refine wp_callD ?_
          refine wa_cons ?_
          refine wp_lmbG 0 rfl ?_
          intro fl10 F10 hG10 hC10 hD10
          have hL10 : ∀ (base_ : Heap) (f_ : Addr), LOk P w K mg base_ 30 f_ F10 [] ["_law_radix", "_law_odd"] (lspP [some (o.v), some (o.v)] [] (fun H => o.At H) ((Rf.out CS.xn CS.xt CS.xs (.sch "base")))) := by
              intro base_ f_
              refine lok_goodP hG10 rfl (fun H_ E_ hPh hE => ?_) base_ f_
              have ho9 : ∀ (L : Led) (H1 : Hp), At ⟨H_, fun _ => False⟩ L H1 → o.At H1 := fun L H1 z1 => hPh.same (fun b u e => z1.old b u e (fun q => q))
              refine wm_Scheme__b ?_
              refine wa_cons ?_
              refine wp_var rfl ?_
              refine wa_cons ?_
              refine wp_var rfl ?_
              refine wa_nil ?_
              exact ⟨o, _, rfl, ho9 _, hob, hE _ _ rfl⟩
          refine wa_nil ?_
          intro base11 hb11
          refine wc__law_raised (.sch "base") (deed_mkP hL10 (hC10.cells hb11 [1, 0] rfl) 10 11 rfl rfl (.inl ⟨rfl, hD10⟩) (part_of [] rfl rfl) (fun H H_ z sm => ((ho _ _ 5 6 7 _ _ _ rfl rfl rfl) H z).same sm)) (fun _ _ => trivial) ?_
          intro p12
          refine wp_tup ?_
          refine wp_nf (L' := [_, _, _, _, _, _, _, _, _, _, _, _, _]) rfl ?_
          refine wa_cons ?_
          refine wp_c ?_
          refine wa_cons ?_
          refine wp_c ?_
          refine wa_nil ?_
          refine ⟨by simp, fun p13 => ?_⟩
          refine wr_neD (dp_tup (seenT 12 rfl) (dps_cons dp_str (dps_cons dp_str dps_nil))) (dp_tup (seenT 13 rfl) (dps_cons dp_str (dps_cons dp_str dps_nil))) (by first | exact sh_tx2 | exact sh_st2) (by first | exact sh_tx2 | exact sh_st2) ?_
          refine ⟨_, rfl, ?_⟩
          refine ifB (fun hc14 => ?_) (fun hc14 => ?_)
          · try simp only [decide_eq_true_eq, decide_eq_false_iff_not, Bool.and_eq_true, Bool.or_eq_true, Bool.not_eq_true', Bool.and_eq_false_iff, Bool.or_eq_false_iff, Bool.not_eq_false', Bool.not_true, Bool.not_false, Bool.false_or, Bool.true_and, Bool.true_or, Bool.false_and, Bool.and_true, Bool.or_false, reduceCtorEq, not_true_eq_false, not_false_eq_true, decide_true, decide_false] at hc14
            all_goals
              simp [PyData.eqv, PyData.eqvAll] at hc14
          · try simp only [decide_eq_true_eq, decide_eq_false_iff_not, Bool.and_eq_true, Bool.or_eq_true, Bool.not_eq_true', Bool.and_eq_false_iff, Bool.or_eq_false_iff, Bool.not_eq_false', Bool.not_true, Bool.not_false, Bool.false_or, Bool.true_and, Bool.true_or, Bool.false_and, Bool.and_true, Bool.or_false, reduceCtorEq, not_true_eq_false, not_false_eq_true, decide_true, decide_false] at hc14
            refine ws_next ?_
            exact ⟨[none, none, none, none, some _, none, none, none, none, none], ⟨rfl, _, rfl⟩, ⟨_, rfl⟩⟩
        · refine ws_if ?_
          refine wt_test ?_
          refine wp_op ?_
          refine wp_callD ?_
          refine wa_cons ?_
          refine wp_lmbG 0 rfl ?_
          intro fl15 F15 hG15 hC15 hD15
          have hL15 : ∀ (base_ : Heap) (f_ : Addr), LOk P w K mg base_ 30 f_ F15 [] ["_law_radix", "_law_odd"] (lsp [some (.int 0), some (o.v)] [] ((Rf.out CS.xn CS.xt CS.xs (.sch "base")))) := by
              intro base_ f_
              refine lok_good hG15 rfl (fun H_ E_ hE => ?_) base_ f_
              refine wm_Scheme__b ?_
              refine wa_cons ?_
              refine wp_var rfl ?_
              refine wa_cons ?_
              refine wp_var rfl ?_
              refine wa_nil ?_
              exact ⟨(.num 0), _, rfl, fun _ _ => log_small (by omega), rfl, hE _ _ rfl⟩
          refine wa_nil ?_
          intro base16 hb16
          refine wc__law_raised (.sch "base") (deed_mk hL15 (hC15.cells hb16 [1, 0] rfl) 10 11 rfl rfl (.inl ⟨rfl, hD15⟩) (part_of [] rfl rfl)) (fun _ _ => trivial) ?_
          intro p17
          refine wp_tup ?_
          refine wa_cons ?_
          refine wp_c ?_
          refine wa_cons ?_
          refine wp_c ?_
          refine wa_nil ?_
          refine ⟨by simp, fun p18 => ?_⟩
          refine wr_neD (dp_tup (seenT 12 rfl) (dps_cons dp_str (dps_cons dp_str dps_nil))) (dp_tup (seenT 13 rfl) (dps_cons dp_str (dps_cons dp_str dps_nil))) (by first | exact sh_tx2 | exact sh_st2) (by first | exact sh_tx2 | exact sh_st2) ?_
          refine ⟨_, rfl, ?_⟩
          refine ifB (fun hc19 => ?_) (fun hc19 => ?_)
          · try simp only [decide_eq_true_eq, decide_eq_false_iff_not, Bool.and_eq_true, Bool.or_eq_true, Bool.not_eq_true', Bool.and_eq_false_iff, Bool.or_eq_false_iff, Bool.not_eq_false', Bool.not_true, Bool.not_false, Bool.false_or, Bool.true_and, Bool.true_or, Bool.false_and, Bool.and_true, Bool.or_false, reduceCtorEq, not_true_eq_false, not_false_eq_true, decide_true, decide_false] at hc19
            all_goals
              simp [PyData.eqv, PyData.eqvAll] at hc19
          · try simp only [decide_eq_true_eq, decide_eq_false_iff_not, Bool.and_eq_true, Bool.or_eq_true, Bool.not_eq_true', Bool.and_eq_false_iff, Bool.or_eq_false_iff, Bool.not_eq_false', Bool.not_true, Bool.not_false, Bool.false_or, Bool.true_and, Bool.true_or, Bool.false_and, Bool.and_true, Bool.or_false, reduceCtorEq, not_true_eq_false, not_false_eq_true, decide_true, decide_false] at hc19
            refine ws_next ?_
            exact ⟨[none, none, none, none, some _, none, none, none, none, none], ⟨rfl, _, rfl⟩, ⟨_, rfl⟩⟩
        · refine ws_if ?_
          refine wt_test ?_
          refine wp_op ?_
          refine wp_callD ?_
          refine wa_cons ?_
          refine wp_lmbG 0 rfl ?_
          intro fl20 F20 hG20 hC20 hD20
          have hL20 : ∀ (base_ : Heap) (f_ : Addr), LOk P w K mg base_ 30 f_ F20 [] ["_law_radix", "_law_odd"] (lsp [some (.int 1), some (o.v)] [] ((Rf.out CS.xn CS.xt CS.xs (.sch "base")))) := by
              intro base_ f_
              refine lok_good hG20 rfl (fun H_ E_ hE => ?_) base_ f_
              refine wm_Scheme__b ?_
              refine wa_cons ?_
              refine wp_var rfl ?_
              refine wa_cons ?_
              refine wp_var rfl ?_
              refine wa_nil ?_
              exact ⟨(.num 1), _, rfl, fun _ _ => log_small (by omega), rfl, hE _ _ rfl⟩
          refine wa_nil ?_
          intro base21 hb21
          refine wc__law_raised (.sch "base") (deed_mk hL20 (hC20.cells hb21 [1, 0] rfl) 10 11 rfl rfl (.inl ⟨rfl, hD20⟩) (part_of [] rfl rfl)) (fun _ _ => trivial) ?_
          intro p22
          refine wp_tup ?_
          refine wa_cons ?_
          refine wp_c ?_
          refine wa_cons ?_
          refine wp_c ?_
          refine wa_nil ?_
          refine ⟨by simp, fun p23 => ?_⟩
          refine wr_neD (dp_tup (seenT 12 rfl) (dps_cons dp_str (dps_cons dp_str dps_nil))) (dp_tup (seenT 13 rfl) (dps_cons dp_str (dps_cons dp_str dps_nil))) (by first | exact sh_tx2 | exact sh_st2) (by first | exact sh_tx2 | exact sh_st2) ?_
          refine ⟨_, rfl, ?_⟩
          refine ifB (fun hc24 => ?_) (fun hc24 => ?_)
          · try simp only [decide_eq_true_eq, decide_eq_false_iff_not, Bool.and_eq_true, Bool.or_eq_true, Bool.not_eq_true', Bool.and_eq_false_iff, Bool.or_eq_false_iff, Bool.not_eq_false', Bool.not_true, Bool.not_false, Bool.false_or, Bool.true_and, Bool.true_or, Bool.false_and, Bool.and_true, Bool.or_false, reduceCtorEq, not_true_eq_false, not_false_eq_true, decide_true, decide_false] at hc24
            all_goals
              simp [PyData.eqv, PyData.eqvAll] at hc24
          · try simp only [decide_eq_true_eq, decide_eq_false_iff_not, Bool.and_eq_true, Bool.or_eq_true, Bool.not_eq_true', Bool.and_eq_false_iff, Bool.or_eq_false_iff, Bool.not_eq_false', Bool.not_true, Bool.not_false, Bool.false_or, Bool.true_and, Bool.true_or, Bool.false_and, Bool.and_true, Bool.or_false, reduceCtorEq, not_true_eq_false, not_false_eq_true, decide_true, decide_false] at hc24
            refine ws_next ?_
            exact ⟨[none, none, none, none, some _, none, none, none, none, none], ⟨rfl, _, rfl⟩, ⟨_, rfl⟩⟩
        · refine ws_if ?_
          refine wt_test ?_
          refine wp_op ?_
          refine wp_callD ?_
          refine wa_cons ?_
          refine wp_lmbG 0 rfl ?_
          intro fl25 F25 hG25 hC25 hD25
          have hL25 : ∀ (base_ : Heap) (f_ : Addr), LOk P w K mg base_ 30 f_ F25 [] ["_law_radix", "_law_odd"] (lsp [some (.int 1001), some (o.v)] [] ((Rf.out CS.xn CS.xt CS.xs (.sch "base")))) := by
              intro base_ f_
              refine lok_good hG25 rfl (fun H_ E_ hE => ?_) base_ f_
              refine wm_Scheme__b ?_
              refine wa_cons ?_
              refine wp_var rfl ?_
              refine wa_cons ?_
              refine wp_var rfl ?_
              refine wa_nil ?_
              exact ⟨(.num 1001), _, rfl, fun _ _ => log_small (by omega), rfl, hE _ _ rfl⟩
          refine wa_nil ?_
          intro base26 hb26
          refine wc__law_raised (.sch "base") (deed_mk hL25 (hC25.cells hb26 [1, 0] rfl) 10 11 rfl rfl (.inl ⟨rfl, hD25⟩) (part_of [] rfl rfl)) (fun _ _ => trivial) ?_
          intro p27
          refine wp_tup ?_
          refine wa_cons ?_
          refine wp_c ?_
          refine wa_cons ?_
          refine wp_c ?_
          refine wa_nil ?_
          refine ⟨by simp, fun p28 => ?_⟩
          refine wr_neD (dp_tup (seenT 12 rfl) (dps_cons dp_str (dps_cons dp_str dps_nil))) (dp_tup (seenT 13 rfl) (dps_cons dp_str (dps_cons dp_str dps_nil))) (by first | exact sh_tx2 | exact sh_st2) (by first | exact sh_tx2 | exact sh_st2) ?_
          refine ⟨_, rfl, ?_⟩
          refine ifB (fun hc29 => ?_) (fun hc29 => ?_)
          · try simp only [decide_eq_true_eq, decide_eq_false_iff_not, Bool.and_eq_true, Bool.or_eq_true, Bool.not_eq_true', Bool.and_eq_false_iff, Bool.or_eq_false_iff, Bool.not_eq_false', Bool.not_true, Bool.not_false, Bool.false_or, Bool.true_and, Bool.true_or, Bool.false_and, Bool.and_true, Bool.or_false, reduceCtorEq, not_true_eq_false, not_false_eq_true, decide_true, decide_false] at hc29
            all_goals
              simp [PyData.eqv, PyData.eqvAll] at hc29
          · try simp only [decide_eq_true_eq, decide_eq_false_iff_not, Bool.and_eq_true, Bool.or_eq_true, Bool.not_eq_true', Bool.and_eq_false_iff, Bool.or_eq_false_iff, Bool.not_eq_false', Bool.not_true, Bool.not_false, Bool.false_or, Bool.true_and, Bool.true_or, Bool.false_and, Bool.and_true, Bool.or_false, reduceCtorEq, not_true_eq_false, not_false_eq_true, decide_true, decide_false] at hc29
            refine ws_next ?_
            exact ⟨[none, none, none, none, some _, none, none, none, none, none], ⟨rfl, _, rfl⟩, ⟨_, rfl⟩⟩
      rintro vs ⟨w4, rfl⟩
      refine ws_nf (σ' := [_, _, _, _, _, _, _, _, _, _]) (L' := [_, _, _, _, _, _, _, _, _, _]) rfl rfl ?_
      refine ws_seq ?_
      refine ws_cut (L' := [_, _, _, _, _, _, _, _]) 8 rfl ?_
      refine ws_for ?_
      refine wi_list ?_
      refine wp_lst ?_
      refine wa_cons ?_
      refine wp_var rfl ?_
      refine wa_cons ?_
      refine wp_c ?_
      refine wa_cons ?_
      refine wp_op ?_
      refine wp_op ?_
      refine wp_c ?_
      refine wp_c ?_
      refine wr_powc (r := 1000000) (powOk (by decide)) (by decide) ?_
      refine wp_c ?_
      refine wr0 ?_
      refine wa_nil ?_
      refine ⟨by simp, fun p30 => ?_⟩
      refine ⟨_, _, rfl, (seen 8 rfl), ?_⟩
      refine wf_S (iter_listV (seen 8 rfl)) (fun i vs => ∃ w5 : Option V, vs = [none, none, none, none, none, some w5, none, none, none, none]) ?_ ?_ ?_
      · exact ⟨[none, none, none, none, none, some _, none, none, none, none], rfl, _, rfl⟩
      · rintro i x vs hx ⟨w5, rfl⟩
        refine ws_nf (σ' := [_, _, _, _, _, _, _, _, _, _]) (L' := [_, _, _, _, _, _, _, _, _]) rfl rfl ?_
        have hx9 := List.mem_of_getElem? hx
        simp only [List.mem_cons, List.not_mem_nil, or_false] at hx9
        rcases hx9 with rfl | rfl | rfl
        · refine ws_if ?_
          refine wt_test ?_
          refine wp_op ?_
          refine wp_callD ?_
          refine wa_cons ?_
          refine wp_lmbG 0 rfl ?_
          intro fl31 F31 hG31 hC31 hD31
          have hL31 : ∀ (base_ : Heap) (f_ : Addr), LOk P w K mg base_ 30 f_ F31 [] ["_law_times"] (lspP [some (o.v)] [] (fun H => o.At H) ((Rf.out CS.xn CS.xt CS.xs (.sch "factor")))) := by
              intro base_ f_
              refine lok_goodP hG31 rfl (fun H_ E_ hPh hE => ?_) base_ f_
              have ho9 : ∀ (L : Led) (H1 : Hp), At ⟨H_, fun _ => False⟩ L H1 → o.At H1 := fun L H1 z1 => hPh.same (fun b u e => z1.old b u e (fun q => q))
              refine wm_Scheme__f ?_
              refine wa_cons ?_
              refine wp_c ?_
              refine wa_cons ?_
              refine wp_var rfl ?_
              refine wa_nil ?_
              exact ⟨_, o, rfl, ho9 _, ⟨by omega, by omega, hof⟩, hE _ _ rfl⟩
          refine wa_nil ?_
          intro base32 hb32
          refine wc__law_raised (.sch "factor") (deed_mkP hL31 (hC31.cells hb32 [2] rfl) 9 10 rfl rfl (.inl ⟨rfl, hD31⟩) (part_of [] rfl rfl) (fun H H_ z sm => ((ho _ _ 5 6 7 _ _ _ rfl rfl rfl) H z).same sm)) (fun _ _ => trivial) ?_
          intro p33
          refine wp_tup ?_
          refine wp_nf (L' := [_, _, _, _, _, _, _, _, _, _, _, _]) rfl ?_
          refine wa_cons ?_
          refine wp_c ?_
          refine wa_cons ?_
          refine wp_c ?_
          refine wa_nil ?_
          refine ⟨by simp, fun p34 => ?_⟩
          refine wr_neD (dp_tup (seenT 11 rfl) (dps_cons dp_str (dps_cons dp_str dps_nil))) (dp_tup (seenT 12 rfl) (dps_cons dp_str (dps_cons dp_str dps_nil))) (by first | exact sh_tx2 | exact sh_st2) (by first | exact sh_tx2 | exact sh_st2) ?_
          refine ⟨_, rfl, ?_⟩
          refine ifB (fun hc35 => ?_) (fun hc35 => ?_)
          · try simp only [decide_eq_true_eq, decide_eq_false_iff_not, Bool.and_eq_true, Bool.or_eq_true, Bool.not_eq_true', Bool.and_eq_false_iff, Bool.or_eq_false_iff, Bool.not_eq_false', Bool.not_true, Bool.not_false, Bool.false_or, Bool.true_and, Bool.true_or, Bool.false_and, Bool.and_true, Bool.or_false, reduceCtorEq, not_true_eq_false, not_false_eq_true, decide_true, decide_false] at hc35
            all_goals
              simp [PyData.eqv, PyData.eqvAll] at hc35
          · try simp only [decide_eq_true_eq, decide_eq_false_iff_not, Bool.and_eq_true, Bool.or_eq_true, Bool.not_eq_true', Bool.and_eq_false_iff, Bool.or_eq_false_iff, Bool.not_eq_false', Bool.not_true, Bool.not_false, Bool.false_or, Bool.true_and, Bool.true_or, Bool.false_and, Bool.and_true, Bool.or_false, reduceCtorEq, not_true_eq_false, not_false_eq_true, decide_true, decide_false] at hc35
            refine ws_next ?_
            exact ⟨[none, none, none, none, none, some _, none, none, none, none], ⟨rfl, _, rfl⟩, ⟨_, rfl⟩⟩
        · refine ws_if ?_
          refine wt_test ?_
          refine wp_op ?_
          refine wp_callD ?_
          refine wa_cons ?_
          refine wp_lmbG 0 rfl ?_
          intro fl36 F36 hG36 hC36 hD36
          have hL36 : ∀ (base_ : Heap) (f_ : Addr), LOk P w K mg base_ 30 f_ F36 [] ["_law_times"] (lsp [some (.int 0)] [] ((Rf.out CS.xn CS.xt CS.xs (.sch "factor")))) := by
              intro base_ f_
              refine lok_good hG36 rfl (fun H_ E_ hE => ?_) base_ f_
              refine wm_Scheme__f ?_
              refine wa_cons ?_
              refine wp_c ?_
              refine wa_cons ?_
              refine wp_var rfl ?_
              refine wa_nil ?_
              exact ⟨_, (.num 0), rfl, fun _ _ => log_small (by omega), ⟨by omega, by omega, rfl⟩, hE _ _ rfl⟩
          refine wa_nil ?_
          intro base37 hb37
          refine wc__law_raised (.sch "factor") (deed_mk hL36 (hC36.cells hb37 [2] rfl) 9 10 rfl rfl (.inl ⟨rfl, hD36⟩) (part_of [] rfl rfl)) (fun _ _ => trivial) ?_
          intro p38
          refine wp_tup ?_
          refine wa_cons ?_
          refine wp_c ?_
          refine wa_cons ?_
          refine wp_c ?_
          refine wa_nil ?_
          refine ⟨by simp, fun p39 => ?_⟩
          refine wr_neD (dp_tup (seenT 11 rfl) (dps_cons dp_str (dps_cons dp_str dps_nil))) (dp_tup (seenT 12 rfl) (dps_cons dp_str (dps_cons dp_str dps_nil))) (by first | exact sh_tx2 | exact sh_st2) (by first | exact sh_tx2 | exact sh_st2) ?_
          refine ⟨_, rfl, ?_⟩
          refine ifB (fun hc40 => ?_) (fun hc40 => ?_)
          · try simp only [decide_eq_true_eq, decide_eq_false_iff_not, Bool.and_eq_true, Bool.or_eq_true, Bool.not_eq_true', Bool.and_eq_false_iff, Bool.or_eq_false_iff, Bool.not_eq_false', Bool.not_true, Bool.not_false, Bool.false_or, Bool.true_and, Bool.true_or, Bool.false_and, Bool.and_true, Bool.or_false, reduceCtorEq, not_true_eq_false, not_false_eq_true, decide_true, decide_false] at hc40
            all_goals
              simp [PyData.eqv, PyData.eqvAll] at hc40
          · try simp only [decide_eq_true_eq, decide_eq_false_iff_not, Bool.and_eq_true, Bool.or_eq_true, Bool.not_eq_true', Bool.and_eq_false_iff, Bool.or_eq_false_iff, Bool.not_eq_false', Bool.not_true, Bool.not_false, Bool.false_or, Bool.true_and, Bool.true_or, Bool.false_and, Bool.and_true, Bool.or_false, reduceCtorEq, not_true_eq_false, not_false_eq_true, decide_true, decide_false] at hc40
            refine ws_next ?_
            exact ⟨[none, none, none, none, none, some _, none, none, none, none], ⟨rfl, _, rfl⟩, ⟨_, rfl⟩⟩
        · refine ws_if ?_
          refine wt_test ?_
          refine wp_op ?_
          refine wp_callD ?_
          refine wa_cons ?_
          refine wp_lmbG 0 rfl ?_
          intro fl41 F41 hG41 hC41 hD41
          have hL41 : ∀ (base_ : Heap) (f_ : Addr), LOk P w K mg base_ 30 f_ F41 [] ["_law_times"] (lsp [some (.int 1000001)] [] ((Rf.out CS.xn CS.xt CS.xs (.sch "factor")))) := by
              intro base_ f_
              refine lok_good hG41 rfl (fun H_ E_ hE => ?_) base_ f_
              refine wm_Scheme__f ?_
              refine wa_cons ?_
              refine wp_c ?_
              refine wa_cons ?_
              refine wp_var rfl ?_
              refine wa_nil ?_
              exact ⟨_, (.num 1000001), rfl, fun _ _ => log_small (by omega), ⟨by omega, by omega, rfl⟩, hE _ _ rfl⟩
          refine wa_nil ?_
          intro base42 hb42
          refine wc__law_raised (.sch "factor") (deed_mk hL41 (hC41.cells hb42 [2] rfl) 9 10 rfl rfl (.inl ⟨rfl, hD41⟩) (part_of [] rfl rfl)) (fun _ _ => trivial) ?_
          intro p43
          refine wp_tup ?_
          refine wa_cons ?_
          refine wp_c ?_
          refine wa_cons ?_
          refine wp_c ?_
          refine wa_nil ?_
          refine ⟨by simp, fun p44 => ?_⟩
          refine wr_neD (dp_tup (seenT 11 rfl) (dps_cons dp_str (dps_cons dp_str dps_nil))) (dp_tup (seenT 12 rfl) (dps_cons dp_str (dps_cons dp_str dps_nil))) (by first | exact sh_tx2 | exact sh_st2) (by first | exact sh_tx2 | exact sh_st2) ?_
          refine ⟨_, rfl, ?_⟩
          refine ifB (fun hc45 => ?_) (fun hc45 => ?_)
          · try simp only [decide_eq_true_eq, decide_eq_false_iff_not, Bool.and_eq_true, Bool.or_eq_true, Bool.not_eq_true', Bool.and_eq_false_iff, Bool.or_eq_false_iff, Bool.not_eq_false', Bool.not_true, Bool.not_false, Bool.false_or, Bool.true_and, Bool.true_or, Bool.false_and, Bool.and_true, Bool.or_false, reduceCtorEq, not_true_eq_false, not_false_eq_true, decide_true, decide_false] at hc45
            all_goals
              simp [PyData.eqv, PyData.eqvAll] at hc45
          · try simp only [decide_eq_true_eq, decide_eq_false_iff_not, Bool.and_eq_true, Bool.or_eq_true, Bool.not_eq_true', Bool.and_eq_false_iff, Bool.or_eq_false_iff, Bool.not_eq_false', Bool.not_true, Bool.not_false, Bool.false_or, Bool.true_and, Bool.true_or, Bool.false_and, Bool.and_true, Bool.or_false, reduceCtorEq, not_true_eq_false, not_false_eq_true, decide_true, decide_false] at hc45
            refine ws_next ?_
            exact ⟨[none, none, none, none, none, some _, none, none, none, none], ⟨rfl, _, rfl⟩, ⟨_, rfl⟩⟩
      rintro vs ⟨w5, rfl⟩
      refine ws_nf (σ' := [_, _, _, _, _, _, _, _, _, _]) (L' := [_, _, _, _, _, _, _, _, _]) rfl rfl ?_
      refine ws_seq ?_
      refine ws_cut (L' := [_, _, _, _, _, _, _, _]) 8 rfl ?_
      refine ws_if ?_
      refine wt_test ?_
      refine wp_op ?_
      refine wp_callD ?_
      refine wa_cons ?_
      refine wp_lmbG 0 rfl ?_
      intro fl46 F46 hG46 hC46 hD46
      have hL46 : ∀ (base_ : Heap) (f_ : Addr), LOk P w K mg base_ 30 f_ F46 [] [] (lsp [] [] (none)) := by
          intro base_ f_
          refine lok_good hG46 rfl (fun H_ E_ hE => ?_) base_ f_
          refine wm_Scheme ?_
          refine wa_cons ?_
          refine wp_c ?_
          refine wa_cons ?_
          refine wp_op ?_
          refine wp_c ?_
          refine wp_c ?_
          refine wr_powc (r := 1000000) (powOk (by decide)) (by decide) ?_
          refine wa_nil ?_
          refine ⟨_, _, rfl, by (unfold SchOk; omega), fun p47 dp47 => ?_⟩
          exact rfl
      refine wa_nil ?_
      intro base48 hb48
      refine wc__law_raised__z (deed_mk hL46 (hC46.cells hb48 [] rfl) 8 9 rfl rfl (.inl ⟨rfl, hD46⟩) (part_of [] rfl rfl)) ?_
      refine wp_c ?_
      refine wr_notN ?_
      refine ⟨_, rfl, ?_⟩
      refine ifF (by first | rfl | (simp; done) | (simp [*]; done) | (simp [PyData.eqv, PyData.eqvAll]; done)) ?_
      refine ws_next ?_
      refine ws_seq ?_
      refine ws_cut (L' := [_, _, _, _, _, _, _, _]) 8 rfl ?_
      refine ws_set ?_
      refine wm_Scheme ?_
      refine wa_cons ?_
      refine wp_c ?_
      refine wa_cons ?_
      refine wp_c ?_
      refine wa_nil ?_
      refine ⟨_, _, rfl, by (unfold SchOk; omega), fun pH dH => ?_⟩
      refine ws_nf (σ' := [_, _, _, _, _, _, _, _, _, _]) (L' := [_, _, _, _, _, _, _, _, _]) rfl rfl ?_
      refine ws_seq ?_
      refine ws_set ?_
      refine wp_lst ?_
      refine wa_cons ?_
      refine wp_lmbG 0 rfl ?_
      intro fl50 F50 hG50 hC50 hD50
      have hL50 : ∀ (base_ : Heap) (f_ : Addr), LOk P w K mg base_ 30 f_ F50 [] ["_law_scheme", "_law_odd"] (lspP [some (.ref pH), some (o.v)] [(pH, .ob (.ins CS.sc dH (scF 3 2)), false)] (fun H => o.At H) ((Rf.out CS.xn CS.xt CS.xs (.num o)))) := by
          intro base_ f_
          refine lok_goodP hG50 rfl (fun H_ E_ hPh hE => ?_) base_ f_
          have ho9 : ∀ (L : Led) (H1 : Hp), At ⟨H_, fun _ => False⟩ L H1 → o.At H1 := fun L H1 z1 => hPh.same (fun b u e => z1.old b u e (fun q => q))
          refine wp_meth 0 ?_
          refine wp_var rfl ?_
          refine ⟨_, _, _, _, rfl, rfl, scF_no _ _ (by decide +kernel) (by decide +kernel), ?_⟩
          refine wa_cons ?_
          refine wp_var rfl ?_
          refine wa_nil ?_
          exact wc_Scheme_level__n 0 rfl (o := o) (ho9 _) (by (first | assumption | rfl | exact OV.atl_up (by assumption) (by decide) | (simp only [OV.atl, decide_eq_false_iff_not]; omega))) (hE _ _ rfl)
      refine wa_cons ?_
      refine wp_lmbDG 0 rfl ?_
      intro u51 fl51 F51 hG51 hC51 hD51
      have hL51 : ∀ (base_ : Heap) (f_ : Addr), LOk P w K mg base_ 30 f_ F51 [.int 0] ["_law_scheme", "_law_odd"] (lspP [some (.ref pH), some (o.v)] [(pH, .ob (.ins CS.sc dH (scF 3 2)), false)] (fun H => o.At H) ((Rf.out CS.xn CS.xt CS.xs (.num o)))) := by
          intro base_ f_
          refine lok_goodP hG51 rfl (fun H_ E_ hPh hE => ?_) base_ f_
          have ho9 : ∀ (L : Led) (H1 : Hp), At ⟨H_, fun _ => False⟩ L H1 → o.At H1 := fun L H1 z1 => hPh.same (fun b u e => z1.old b u e (fun q => q))
          refine wp_meth 0 ?_
          refine wp_var rfl ?_
          refine ⟨_, _, _, _, rfl, rfl, scF_no _ _ (by decide +kernel) (by decide +kernel), ?_⟩
          refine wa_cons ?_
          refine wp_var rfl ?_
          refine wa_nil ?_
          exact wc_Scheme_parent__n 0 rfl (o := o) (ho9 _) (by (first | assumption | rfl | exact OV.atl_up (by assumption) (by decide) | (simp only [OV.atl, decide_eq_false_iff_not]; omega))) (hE _ _ rfl)
      refine wa_nil ?_
      refine ⟨by simp, fun p52 => ?_⟩
      refine ws_nf (σ' := [_, _, _, _, _, _, _, _, _, _]) (L' := [_, _, _, _, _, _, _, _, _, _, _, _, _, _, (_, .ob (.lst [_, _]), _)]) rfl rfl ?_
      refine ws_seq ?_
      refine ws_set ?_
      refine wp_op ?_
      refine wp_var rfl ?_
      refine wp_lst ?_
      refine wp_nf (L' := [_, _, _, _, _, _, _, _, _, _, _, _, _, _, _]) rfl ?_
      refine wa_cons ?_
      refine wp_lmbG 0 rfl ?_
      intro fl53 F53 hG53 hC53 hD53
      have hL53 : ∀ (base_ : Heap) (f_ : Addr), LOk P w K mg base_ 30 f_ F53 [] ["_law_scheme", "_law_odd"] (lspP [some (.ref pH), some (o.v)] [(pH, .ob (.ins CS.sc dH (scF 3 2)), false)] (fun H => o.At H) ((Rf.out CS.xn CS.xt CS.xs (.num o)))) := by
          intro base_ f_
          refine lok_goodP hG53 rfl (fun H_ E_ hPh hE => ?_) base_ f_
          have ho9 : ∀ (L : Led) (H1 : Hp), At ⟨H_, fun _ => False⟩ L H1 → o.At H1 := fun L H1 z1 => hPh.same (fun b u e => z1.old b u e (fun q => q))
          refine wp_meth 0 ?_
          refine wp_var rfl ?_
          refine ⟨_, _, _, _, rfl, rfl, scF_no _ _ (by decide +kernel) (by decide +kernel), ?_⟩
          refine wa_cons ?_
          refine wp_var rfl ?_
          refine wa_nil ?_
          exact wc_Scheme_chain__n 0 rfl (o := o) (ho9 _) (by (first | assumption | rfl | exact OV.atl_up (by assumption) (by decide) | (simp only [OV.atl, decide_eq_false_iff_not]; omega))) (hE _ _ rfl)
      refine wp_nf (L' := [_, _, _, _, _, _, _, _, _, _, _, _, _, _, _, _, _]) rfl ?_
      refine wa_cons ?_
      refine wp_lmbDG 0 rfl ?_
      intro u54 fl54 F54 hG54 hC54 hD54
      have hL54 : ∀ (base_ : Heap) (f_ : Addr), LOk P w K mg base_ 30 f_ F54 [.int 0] ["_law_scheme", "_law_odd"] (lspP [some (.ref pH), some (o.v)] [(pH, .ob (.ins CS.sc dH (scF 3 2)), false)] (fun H => o.At H) ((Rf.out CS.xn CS.xt CS.xs (.num o)))) := by
          intro base_ f_
          refine lok_goodP hG54 rfl (fun H_ E_ hPh hE => ?_) base_ f_
          have ho9 : ∀ (L : Led) (H1 : Hp), At ⟨H_, fun _ => False⟩ L H1 → o.At H1 := fun L H1 z1 => hPh.same (fun b u e => z1.old b u e (fun q => q))
          refine wp_meth 0 ?_
          refine wp_var rfl ?_
          refine ⟨_, _, _, _, rfl, rfl, scF_no _ _ (by decide +kernel) (by decide +kernel), ?_⟩
          refine wa_cons ?_
          refine wp_var rfl ?_
          refine wa_nil ?_
          exact wc_Scheme_block__n 0 rfl (o := o) (ho9 _) (by (first | assumption | rfl | exact OV.atl_up (by assumption) (by decide) | (simp only [OV.atl, decide_eq_false_iff_not]; omega))) (hE _ _ rfl)
      refine wa_nil ?_
      refine ⟨by simp, fun p55 => ?_⟩
      refine wp_nf (L' := [_, _, _, _, _, _, _, _, _, _, _, _, _, _, _, _, _, _, _, _, _]) rfl ?_
      refine wr_catL (zs := [_, _, _, _]) 14 20 rfl rfl rfl (by simp) ?_
      intro p56
      refine ws_nf (σ' := [_, _, _, _, _, _, _, _, _, _]) (L' := [_, _, _, _, _, _, _, _, _, _, _, _, _, _, _, _, _, _, _, _, _, (_, .ob (.lst [_, _, _, _]), _)]) rfl rfl ?_
      refine ws_seq ?_
      refine ws_set ?_
      refine wp_op ?_
      refine wp_var rfl ?_
      refine wp_lst ?_
      refine wp_nf (L' := [_, _, _, _, _, _, _, _, _, _, _, _, _, _, _, _, _, _, _, _, _, _]) rfl ?_
      refine wa_cons ?_
      refine wp_lmbG 0 rfl ?_
      intro fl57 F57 hG57 hC57 hD57
      have hL57 : ∀ (base_ : Heap) (f_ : Addr), LOk P w K mg base_ 30 f_ F57 [] ["_law_scheme", "_law_odd"] (lspP [some (.ref pH), some (o.v)] [(pH, .ob (.ins CS.sc dH (scF 3 2)), false)] (fun H => o.At H) ((Rf.out CS.xn CS.xt CS.xs (.num o)))) := by
          intro base_ f_
          refine lok_goodP hG57 rfl (fun H_ E_ hPh hE => ?_) base_ f_
          have ho9 : ∀ (L : Led) (H1 : Hp), At ⟨H_, fun _ => False⟩ L H1 → o.At H1 := fun L H1 z1 => hPh.same (fun b u e => z1.old b u e (fun q => q))
          refine wp_meth 0 ?_
          refine wp_var rfl ?_
          refine ⟨_, _, _, _, rfl, rfl, scF_no _ _ (by decide +kernel) (by decide +kernel), ?_⟩
          refine wa_cons ?_
          refine wp_var rfl ?_
          refine wa_nil ?_
          exact wc_Scheme_last_time__n 0 rfl (o := o) (ho9 _) (by (first | assumption | rfl | exact OV.atl_up (by assumption) (by decide) | (simp only [OV.atl, decide_eq_false_iff_not]; omega))) (hE _ _ rfl)
      refine wp_nf (L' := [_, _, _, _, _, _, _, _, _, _, _, _, _, _, _, _, _, _, _, _, _, _, _, _]) rfl ?_
      refine wa_cons ?_
      refine wp_lmbDG 0 rfl ?_
      intro u58 fl58 F58 hG58 hC58 hD58
      have hL58 : ∀ (base_ : Heap) (f_ : Addr), LOk P w K mg base_ 30 f_ F58 [.int 0] ["_law_scheme", "_law_odd"] (lspP [some (.ref pH), some (o.v)] [(pH, .ob (.ins CS.sc dH (scF 3 2)), false)] (fun H => o.At H) ((Rf.out CS.xn CS.xt CS.xs (.num o)))) := by
          intro base_ f_
          refine lok_goodP hG58 rfl (fun H_ E_ hPh hE => ?_) base_ f_
          have ho9 : ∀ (L : Led) (H1 : Hp), At ⟨H_, fun _ => False⟩ L H1 → o.At H1 := fun L H1 z1 => hPh.same (fun b u e => z1.old b u e (fun q => q))
          refine wp_meth 0 ?_
          refine wp_var rfl ?_
          refine ⟨_, _, _, _, rfl, rfl, scF_no _ _ (by decide +kernel) (by decide +kernel), ?_⟩
          refine wa_cons ?_
          refine wp_var rfl ?_
          refine wa_cons ?_
          refine wp_var rfl ?_
          refine wa_nil ?_
          exact wc_Scheme_is_kept__n 0 rfl (o := o) (ho9 _) (by (first | assumption | rfl | exact OV.atl_up (by assumption) (by decide) | (simp only [OV.atl, decide_eq_false_iff_not]; omega))) (hE _ _ rfl)
      refine wa_nil ?_
      refine ⟨by simp, fun p59 => ?_⟩
      refine wp_nf (L' := [_, _, _, _, _, _, _, _, _, _, _, _, _, _, _, _, _, _, _, _, _, _, _, _, _, _, _, _]) rfl ?_
      refine wr_catL (zs := [_, _, _, _, _, _]) 21 27 rfl rfl rfl (by simp) ?_
      intro p60
      refine ws_nf (σ' := [_, _, _, _, _, _, _, _, _, _]) (L' := [_, _, _, _, _, _, _, _, _, _, _, _, _, _, _, _, _, _, _, _, _, _, _, _, _, _, _, _, (_, .ob (.lst [_, _, _, _, _, _]), _)]) rfl rfl ?_
      refine ws_seq ?_
      refine ws_set ?_
      refine wp_op ?_
      refine wp_var rfl ?_
      refine wp_lst ?_
      refine wp_nf (L' := [_, _, _, _, _, _, _, _, _, _, _, _, _, _, _, _, _, _, _, _, _, _, _, _, _, _, _, _, _]) rfl ?_
      refine wa_cons ?_
      refine wp_lmbG 0 rfl ?_
      intro fl61 F61 hG61 hC61 hD61
      have hL61 : ∀ (base_ : Heap) (f_ : Addr), LOk P w K mg base_ 30 f_ F61 [] ["_law_scheme", "_law_odd"] (lspP [some (.ref pH), some (o.v)] [(pH, .ob (.ins CS.sc dH (scF 3 2)), false)] (fun H => o.At H) ((Rf.out CS.xn CS.xt CS.xs (.num o)))) := by
          intro base_ f_
          refine lok_goodP hG61 rfl (fun H_ E_ hPh hE => ?_) base_ f_
          have ho9 : ∀ (L : Led) (H1 : Hp), At ⟨H_, fun _ => False⟩ L H1 → o.At H1 := fun L H1 z1 => hPh.same (fun b u e => z1.old b u e (fun q => q))
          refine wp_meth 0 ?_
          refine wp_var rfl ?_
          refine ⟨_, _, _, _, rfl, rfl, scF_no _ _ (by decide +kernel) (by decide +kernel), ?_⟩
          refine wa_cons ?_
          refine wp_var rfl ?_
          refine wa_cons ?_
          refine wp_c ?_
          refine wa_nil ?_
          exact wc_Scheme_has_in_chain__n 0 rfl (o := o) (ho9 _) (by (first | assumption | rfl | exact OV.atl_up (by assumption) (by decide) | (simp only [OV.atl, decide_eq_false_iff_not]; omega))) (hE _ _ rfl)
      refine wp_nf (L' := [_, _, _, _, _, _, _, _, _, _, _, _, _, _, _, _, _, _, _, _, _, _, _, _, _, _, _, _, _, _, _]) rfl ?_
      refine wa_cons ?_
      refine wp_lmbDG 0 rfl ?_
      intro u62 fl62 F62 hG62 hC62 hD62
      have hL62 : ∀ (base_ : Heap) (f_ : Addr), LOk P w K mg base_ 30 f_ F62 [.int 0] ["_law_scheme", "_law_odd"] (lspP [some (.ref pH), some (o.v)] [(pH, .ob (.ins CS.sc dH (scF 3 2)), false)] (fun H => o.At H) ((Rf.out CS.xn CS.xt CS.xs (.num o)))) := by
          intro base_ f_
          refine lok_goodP hG62 rfl (fun H_ E_ hPh hE => ?_) base_ f_
          have ho9 : ∀ (L : Led) (H1 : Hp), At ⟨H_, fun _ => False⟩ L H1 → o.At H1 := fun L H1 z1 => hPh.same (fun b u e => z1.old b u e (fun q => q))
          refine wp_meth 0 ?_
          refine wp_var rfl ?_
          refine ⟨_, _, _, _, rfl, rfl, scF_no _ _ (by decide +kernel) (by decide +kernel), ?_⟩
          refine wa_cons ?_
          refine wp_c ?_
          refine wa_cons ?_
          refine wp_var rfl ?_
          refine wa_nil ?_
          exact wc_Scheme_has_in_chain__a 0 rfl (o := o) (ho9 _) ⟨by omega, by (first | assumption | rfl | exact OV.atl_up (by assumption) (by decide) | (simp only [OV.atl, decide_eq_false_iff_not]; omega))⟩ (hE _ _ rfl)
      refine wa_nil ?_
      refine ⟨by simp, fun p63 => ?_⟩
      refine wp_nf (L' := _ :: _ :: _ :: _ :: _ :: _ :: _ :: _ :: _ :: _ :: _ :: _ :: _ :: _ :: _ :: _ :: _ :: _ :: _ :: _ :: _ :: _ :: _ :: _ :: _ :: _ :: _ :: _ :: _ :: _ :: _ :: _ :: _ :: _ :: _ :: []) rfl ?_
      refine wr_catL (zs := [_, _, _, _, _, _, _, _]) 28 34 rfl rfl rfl (by simp) ?_
      intro p64
      refine ws_nf (σ' := [_, _, _, _, _, _, _, _, _, _]) (L' := _ :: _ :: _ :: _ :: _ :: _ :: _ :: _ :: _ :: _ :: _ :: _ :: _ :: _ :: _ :: _ :: _ :: _ :: _ :: _ :: _ :: _ :: _ :: _ :: _ :: _ :: _ :: _ :: _ :: _ :: _ :: _ :: _ :: _ :: _ :: _ :: []) rfl rfl ?_
      refine ws_seq ?_
      refine ws_if ?_
      refine wt_test ?_
      refine wp_op ?_
      refine wp_lc ?_
      refine wi_list ?_
      refine wp_var rfl ?_
      refine ⟨_, _, rfl, (seen 35 rfl), ?_⟩
      refine lc_U (iter_listV (seen 35 rfl)) (fun _ => rfl) (fun D36 => ?_)
      refine un_cons (iter_listV (seen 35 rfl)) ?_
      refine wt_test ?_
      refine wp_op ?_
      refine wp_callD ?_
      refine wp_nf (L' := _ :: _ :: _ :: _ :: _ :: _ :: _ :: _ :: _ :: _ :: _ :: _ :: _ :: _ :: _ :: _ :: _ :: _ :: _ :: _ :: _ :: _ :: _ :: _ :: _ :: _ :: _ :: _ :: _ :: _ :: _ :: _ :: _ :: _ :: _ :: _ :: _ :: []) rfl ?_
      refine wa_cons ?_
      refine wp_var rfl ?_
      refine wa_nil ?_
      intro base65 hb65
      refine wc__law_raised (.num o) (deed_mkP hL50 (hC50.cells hb65 [3, 0] rfl) 9 10 rfl rfl (.inl ⟨rfl, hD50⟩) (part_of [8] rfl rfl) (fun H H_ z sm => ((ho _ _ 5 6 7 _ _ _ rfl rfl rfl) H z).same sm)) ((ho _ _ 5 6 7 _ _ _ rfl rfl rfl)) ?_
      intro p66
      refine wp_tup ?_
      refine wp_nf (L' := _ :: _ :: _ :: _ :: _ :: _ :: _ :: _ :: _ :: _ :: _ :: _ :: _ :: _ :: _ :: _ :: _ :: _ :: _ :: _ :: _ :: _ :: _ :: _ :: _ :: _ :: _ :: _ :: _ :: _ :: _ :: _ :: _ :: _ :: _ :: _ :: _ :: _ :: []) rfl ?_
      refine wa_cons ?_
      refine wp_c ?_
      refine wa_cons ?_
      refine wp_cb ?_
      refine wa_cons ?_
      refine wp_var rfl ?_
      refine wa_nil ?_
      refine wc_repr (o := o) ((ho _ _ 5 6 7 _ _ _ rfl rfl rfl)) ?_
      refine wa_nil ?_
      refine ⟨by simp, fun p67 => ?_⟩
      refine wr_neD (dp_tup (seenT 37 rfl) (dps_cons dp_str (dps_cons dp_str dps_nil))) (dp_tup (seenT 38 rfl) (dps_cons dp_str (dps_cons dp_str dps_nil))) (by first | exact sh_tx2 | exact sh_st2) (by first | exact sh_tx2 | exact sh_st2) ?_
      refine ⟨_, rfl, ?_⟩
      refine ifF (by first | rfl | (simp; done) | (simp [PyData.eqv, PyData.eqvAll]; done)) ?_
      refine ⟨rfl, ?_⟩
      refine un_nf (acc' := []) (L' := _ :: _ :: _ :: _ :: _ :: _ :: _ :: _ :: _ :: _ :: _ :: _ :: _ :: _ :: _ :: _ :: _ :: _ :: _ :: _ :: _ :: _ :: _ :: _ :: _ :: _ :: _ :: _ :: _ :: _ :: _ :: _ :: _ :: _ :: _ :: _ :: _ :: _ :: _ :: []) rfl rfl ?_
      refine un_cons (iter_listV (seen 35 rfl)) ?_
      refine wt_test ?_
      refine wp_op ?_
      refine wp_callD ?_
      refine wp_nf (L' := _ :: _ :: _ :: _ :: _ :: _ :: _ :: _ :: _ :: _ :: _ :: _ :: _ :: _ :: _ :: _ :: _ :: _ :: _ :: _ :: _ :: _ :: _ :: _ :: _ :: _ :: _ :: _ :: _ :: _ :: _ :: _ :: _ :: _ :: _ :: _ :: _ :: _ :: _ :: []) rfl ?_
      refine wa_cons ?_
      refine wp_var rfl ?_
      refine wa_nil ?_
      intro base68 hb68
      refine wc__law_raised (.num o) (deed_mkP hL51 (hC51.cells hb68 [3, 0] rfl) 12 13 rfl rfl (.inr ⟨_, 11, _, hD51, rfl⟩) (part_of [8] rfl rfl) (fun H H_ z sm => ((ho _ _ 5 6 7 _ _ _ rfl rfl rfl) H z).same sm)) ((ho _ _ 5 6 7 _ _ _ rfl rfl rfl)) ?_
      intro p69
      refine wp_tup ?_
      refine wp_nf (L' := _ :: _ :: _ :: _ :: _ :: _ :: _ :: _ :: _ :: _ :: _ :: _ :: _ :: _ :: _ :: _ :: _ :: _ :: _ :: _ :: _ :: _ :: _ :: _ :: _ :: _ :: _ :: _ :: _ :: _ :: _ :: _ :: _ :: _ :: _ :: _ :: _ :: _ :: _ :: _ :: []) rfl ?_
      refine wa_cons ?_
      refine wp_c ?_
      refine wa_cons ?_
      refine wp_cb ?_
      refine wa_cons ?_
      refine wp_var rfl ?_
      refine wa_nil ?_
      refine wc_repr (o := o) ((ho _ _ 5 6 7 _ _ _ rfl rfl rfl)) ?_
      refine wa_nil ?_
      refine ⟨by simp, fun p70 => ?_⟩
      refine wr_neD (dp_tup (seenT 39 rfl) (dps_cons dp_str (dps_cons dp_str dps_nil))) (dp_tup (seenT 40 rfl) (dps_cons dp_str (dps_cons dp_str dps_nil))) (by first | exact sh_tx2 | exact sh_st2) (by first | exact sh_tx2 | exact sh_st2) ?_
      refine ⟨_, rfl, ?_⟩
      refine ifF (by first | rfl | (simp; done) | (simp [PyData.eqv, PyData.eqvAll]; done)) ?_
      refine ⟨rfl, ?_⟩
      refine un_nf (acc' := []) (L' := _ :: _ :: _ :: _ :: _ :: _ :: _ :: _ :: _ :: _ :: _ :: _ :: _ :: _ :: _ :: _ :: _ :: _ :: _ :: _ :: _ :: _ :: _ :: _ :: _ :: _ :: _ :: _ :: _ :: _ :: _ :: _ :: _ :: _ :: _ :: _ :: _ :: _ :: _ :: _ :: _ :: []) rfl rfl ?_
      refine un_cons (iter_listV (seen 35 rfl)) ?_
      refine wt_test ?_
      refine wp_op ?_
      refine wp_callD ?_
      refine wp_nf (L' := _ :: _ :: _ :: _ :: _ :: _ :: _ :: _ :: _ :: _ :: _ :: _ :: _ :: _ :: _ :: _ :: _ :: _ :: _ :: _ :: _ :: _ :: _ :: _ :: _ :: _ :: _ :: _ :: _ :: _ :: _ :: _ :: _ :: _ :: _ :: _ :: _ :: _ :: _ :: _ :: _ :: []) rfl ?_
      refine wa_cons ?_
      refine wp_var rfl ?_
      refine wa_nil ?_
      intro base71 hb71
      refine wc__law_raised (.num o) (deed_mkP hL53 (hC53.cells hb71 [3, 0] rfl) 15 16 rfl rfl (.inl ⟨rfl, hD53⟩) (part_of [8] rfl rfl) (fun H H_ z sm => ((ho _ _ 5 6 7 _ _ _ rfl rfl rfl) H z).same sm)) ((ho _ _ 5 6 7 _ _ _ rfl rfl rfl)) ?_
      intro p72
      refine wp_tup ?_
      refine wp_nf (L' := _ :: _ :: _ :: _ :: _ :: _ :: _ :: _ :: _ :: _ :: _ :: _ :: _ :: _ :: _ :: _ :: _ :: _ :: _ :: _ :: _ :: _ :: _ :: _ :: _ :: _ :: _ :: _ :: _ :: _ :: _ :: _ :: _ :: _ :: _ :: _ :: _ :: _ :: _ :: _ :: _ :: _ :: []) rfl ?_
      refine wa_cons ?_
      refine wp_c ?_
      refine wa_cons ?_
      refine wp_cb ?_
      refine wa_cons ?_
      refine wp_var rfl ?_
      refine wa_nil ?_
      refine wc_repr (o := o) ((ho _ _ 5 6 7 _ _ _ rfl rfl rfl)) ?_
      refine wa_nil ?_
      refine ⟨by simp, fun p73 => ?_⟩
      refine wr_neD (dp_tup (seenT 41 rfl) (dps_cons dp_str (dps_cons dp_str dps_nil))) (dp_tup (seenT 42 rfl) (dps_cons dp_str (dps_cons dp_str dps_nil))) (by first | exact sh_tx2 | exact sh_st2) (by first | exact sh_tx2 | exact sh_st2) ?_
      refine ⟨_, rfl, ?_⟩
      refine ifF (by first | rfl | (simp; done) | (simp [PyData.eqv, PyData.eqvAll]; done)) ?_
      refine ⟨rfl, ?_⟩
      refine un_nf (acc' := []) (L' := _ :: _ :: _ :: _ :: _ :: _ :: _ :: _ :: _ :: _ :: _ :: _ :: _ :: _ :: _ :: _ :: _ :: _ :: _ :: _ :: _ :: _ :: _ :: _ :: _ :: _ :: _ :: _ :: _ :: _ :: _ :: _ :: _ :: _ :: _ :: _ :: _ :: _ :: _ :: _ :: _ :: _ :: _ :: []) rfl rfl ?_
      refine un_cons (iter_listV (seen 35 rfl)) ?_
      refine wt_test ?_
      refine wp_op ?_
      refine wp_callD ?_
      refine wp_nf (L' := _ :: _ :: _ :: _ :: _ :: _ :: _ :: _ :: _ :: _ :: _ :: _ :: _ :: _ :: _ :: _ :: _ :: _ :: _ :: _ :: _ :: _ :: _ :: _ :: _ :: _ :: _ :: _ :: _ :: _ :: _ :: _ :: _ :: _ :: _ :: _ :: _ :: _ :: _ :: _ :: _ :: _ :: _ :: []) rfl ?_
      refine wa_cons ?_
      refine wp_var rfl ?_
      refine wa_nil ?_
      intro base74 hb74
      refine wc__law_raised (.num o) (deed_mkP hL54 (hC54.cells hb74 [3, 0] rfl) 18 19 rfl rfl (.inr ⟨_, 17, _, hD54, rfl⟩) (part_of [8] rfl rfl) (fun H H_ z sm => ((ho _ _ 5 6 7 _ _ _ rfl rfl rfl) H z).same sm)) ((ho _ _ 5 6 7 _ _ _ rfl rfl rfl)) ?_
      intro p75
      refine wp_tup ?_
      refine wp_nf (L' := _ :: _ :: _ :: _ :: _ :: _ :: _ :: _ :: _ :: _ :: _ :: _ :: _ :: _ :: _ :: _ :: _ :: _ :: _ :: _ :: _ :: _ :: _ :: _ :: _ :: _ :: _ :: _ :: _ :: _ :: _ :: _ :: _ :: _ :: _ :: _ :: _ :: _ :: _ :: _ :: _ :: _ :: _ :: _ :: []) rfl ?_
      refine wa_cons ?_
      refine wp_c ?_
      refine wa_cons ?_
      refine wp_cb ?_
      refine wa_cons ?_
      refine wp_var rfl ?_
      refine wa_nil ?_
      refine wc_repr (o := o) ((ho _ _ 5 6 7 _ _ _ rfl rfl rfl)) ?_
      refine wa_nil ?_
      refine ⟨by simp, fun p76 => ?_⟩
      refine wr_neD (dp_tup (seenT 43 rfl) (dps_cons dp_str (dps_cons dp_str dps_nil))) (dp_tup (seenT 44 rfl) (dps_cons dp_str (dps_cons dp_str dps_nil))) (by first | exact sh_tx2 | exact sh_st2) (by first | exact sh_tx2 | exact sh_st2) ?_
      refine ⟨_, rfl, ?_⟩
      refine ifF (by first | rfl | (simp; done) | (simp [PyData.eqv, PyData.eqvAll]; done)) ?_
      refine ⟨rfl, ?_⟩
      refine un_nf (acc' := []) (L' := _ :: _ :: _ :: _ :: _ :: _ :: _ :: _ :: _ :: _ :: _ :: _ :: _ :: _ :: _ :: _ :: _ :: _ :: _ :: _ :: _ :: _ :: _ :: _ :: _ :: _ :: _ :: _ :: _ :: _ :: _ :: _ :: _ :: _ :: _ :: _ :: _ :: _ :: _ :: _ :: _ :: _ :: _ :: _ :: _ :: []) rfl rfl ?_
      refine un_cons (iter_listV (seen 35 rfl)) ?_
      refine wt_test ?_
      refine wp_op ?_
      refine wp_callD ?_
      refine wp_nf (L' := _ :: _ :: _ :: _ :: _ :: _ :: _ :: _ :: _ :: _ :: _ :: _ :: _ :: _ :: _ :: _ :: _ :: _ :: _ :: _ :: _ :: _ :: _ :: _ :: _ :: _ :: _ :: _ :: _ :: _ :: _ :: _ :: _ :: _ :: _ :: _ :: _ :: _ :: _ :: _ :: _ :: _ :: _ :: _ :: _ :: []) rfl ?_
      refine wa_cons ?_
      refine wp_var rfl ?_
      refine wa_nil ?_
      intro base77 hb77
      refine wc__law_raised (.num o) (deed_mkP hL57 (hC57.cells hb77 [3, 0] rfl) 22 23 rfl rfl (.inl ⟨rfl, hD57⟩) (part_of [8] rfl rfl) (fun H H_ z sm => ((ho _ _ 5 6 7 _ _ _ rfl rfl rfl) H z).same sm)) ((ho _ _ 5 6 7 _ _ _ rfl rfl rfl)) ?_
      intro p78
      refine wp_tup ?_
      refine wp_nf (L' := _ :: _ :: _ :: _ :: _ :: _ :: _ :: _ :: _ :: _ :: _ :: _ :: _ :: _ :: _ :: _ :: _ :: _ :: _ :: _ :: _ :: _ :: _ :: _ :: _ :: _ :: _ :: _ :: _ :: _ :: _ :: _ :: _ :: _ :: _ :: _ :: _ :: _ :: _ :: _ :: _ :: _ :: _ :: _ :: _ :: _ :: []) rfl ?_
      refine wa_cons ?_
      refine wp_c ?_
      refine wa_cons ?_
      refine wp_cb ?_
      refine wa_cons ?_
      refine wp_var rfl ?_
      refine wa_nil ?_
      refine wc_repr (o := o) ((ho _ _ 5 6 7 _ _ _ rfl rfl rfl)) ?_
      refine wa_nil ?_
      refine ⟨by simp, fun p79 => ?_⟩
      refine wr_neD (dp_tup (seenT 45 rfl) (dps_cons dp_str (dps_cons dp_str dps_nil))) (dp_tup (seenT 46 rfl) (dps_cons dp_str (dps_cons dp_str dps_nil))) (by first | exact sh_tx2 | exact sh_st2) (by first | exact sh_tx2 | exact sh_st2) ?_
      refine ⟨_, rfl, ?_⟩
      refine ifF (by first | rfl | (simp; done) | (simp [PyData.eqv, PyData.eqvAll]; done)) ?_
      refine ⟨rfl, ?_⟩
      refine un_nf (acc' := []) (L' := _ :: _ :: _ :: _ :: _ :: _ :: _ :: _ :: _ :: _ :: _ :: _ :: _ :: _ :: _ :: _ :: _ :: _ :: _ :: _ :: _ :: _ :: _ :: _ :: _ :: _ :: _ :: _ :: _ :: _ :: _ :: _ :: _ :: _ :: _ :: _ :: _ :: _ :: _ :: _ :: _ :: _ :: _ :: _ :: _ :: _ :: _ :: []) rfl rfl ?_
      refine un_cons (iter_listV (seen 35 rfl)) ?_
      refine wt_test ?_
      refine wp_op ?_
      refine wp_callD ?_
      refine wp_nf (L' := _ :: _ :: _ :: _ :: _ :: _ :: _ :: _ :: _ :: _ :: _ :: _ :: _ :: _ :: _ :: _ :: _ :: _ :: _ :: _ :: _ :: _ :: _ :: _ :: _ :: _ :: _ :: _ :: _ :: _ :: _ :: _ :: _ :: _ :: _ :: _ :: _ :: _ :: _ :: _ :: _ :: _ :: _ :: _ :: _ :: _ :: _ :: []) rfl ?_
      refine wa_cons ?_
      refine wp_var rfl ?_
      refine wa_nil ?_
      intro base80 hb80
      refine wc__law_raised (.num o) (deed_mkP hL58 (hC58.cells hb80 [3, 0] rfl) 25 26 rfl rfl (.inr ⟨_, 24, _, hD58, rfl⟩) (part_of [8] rfl rfl) (fun H H_ z sm => ((ho _ _ 5 6 7 _ _ _ rfl rfl rfl) H z).same sm)) ((ho _ _ 5 6 7 _ _ _ rfl rfl rfl)) ?_
      intro p81
      refine wp_tup ?_
      refine wp_nf (L' := _ :: _ :: _ :: _ :: _ :: _ :: _ :: _ :: _ :: _ :: _ :: _ :: _ :: _ :: _ :: _ :: _ :: _ :: _ :: _ :: _ :: _ :: _ :: _ :: _ :: _ :: _ :: _ :: _ :: _ :: _ :: _ :: _ :: _ :: _ :: _ :: _ :: _ :: _ :: _ :: _ :: _ :: _ :: _ :: _ :: _ :: _ :: _ :: []) rfl ?_
      refine wa_cons ?_
      refine wp_c ?_
      refine wa_cons ?_
      refine wp_cb ?_
      refine wa_cons ?_
      refine wp_var rfl ?_
      refine wa_nil ?_
      refine wc_repr (o := o) ((ho _ _ 5 6 7 _ _ _ rfl rfl rfl)) ?_
      refine wa_nil ?_
      refine ⟨by simp, fun p82 => ?_⟩
      refine wr_neD (dp_tup (seenT 47 rfl) (dps_cons dp_str (dps_cons dp_str dps_nil))) (dp_tup (seenT 48 rfl) (dps_cons dp_str (dps_cons dp_str dps_nil))) (by first | exact sh_tx2 | exact sh_st2) (by first | exact sh_tx2 | exact sh_st2) ?_
      refine ⟨_, rfl, ?_⟩
      refine ifF (by first | rfl | (simp; done) | (simp [PyData.eqv, PyData.eqvAll]; done)) ?_
      refine ⟨rfl, ?_⟩
      refine un_nf (acc' := []) (L' := _ :: _ :: _ :: _ :: _ :: _ :: _ :: _ :: _ :: _ :: _ :: _ :: _ :: _ :: _ :: _ :: _ :: _ :: _ :: _ :: _ :: _ :: _ :: _ :: _ :: _ :: _ :: _ :: _ :: _ :: _ :: _ :: _ :: _ :: _ :: _ :: _ :: _ :: _ :: _ :: _ :: _ :: _ :: _ :: _ :: _ :: _ :: _ :: _ :: []) rfl rfl ?_
      refine un_cons (iter_listV (seen 35 rfl)) ?_
      refine wt_test ?_
      refine wp_op ?_
      refine wp_callD ?_
      refine wp_nf (L' := _ :: _ :: _ :: _ :: _ :: _ :: _ :: _ :: _ :: _ :: _ :: _ :: _ :: _ :: _ :: _ :: _ :: _ :: _ :: _ :: _ :: _ :: _ :: _ :: _ :: _ :: _ :: _ :: _ :: _ :: _ :: _ :: _ :: _ :: _ :: _ :: _ :: _ :: _ :: _ :: _ :: _ :: _ :: _ :: _ :: _ :: _ :: _ :: _ :: []) rfl ?_
      refine wa_cons ?_
      refine wp_var rfl ?_
      refine wa_nil ?_
      intro base83 hb83
      refine wc__law_raised (.num o) (deed_mkP hL61 (hC61.cells hb83 [3, 0] rfl) 29 30 rfl rfl (.inl ⟨rfl, hD61⟩) (part_of [8] rfl rfl) (fun H H_ z sm => ((ho _ _ 5 6 7 _ _ _ rfl rfl rfl) H z).same sm)) ((ho _ _ 5 6 7 _ _ _ rfl rfl rfl)) ?_
      intro p84
      refine wp_tup ?_
      refine wp_nf (L' := _ :: _ :: _ :: _ :: _ :: _ :: _ :: _ :: _ :: _ :: _ :: _ :: _ :: _ :: _ :: _ :: _ :: _ :: _ :: _ :: _ :: _ :: _ :: _ :: _ :: _ :: _ :: _ :: _ :: _ :: _ :: _ :: _ :: _ :: _ :: _ :: _ :: _ :: _ :: _ :: _ :: _ :: _ :: _ :: _ :: _ :: _ :: _ :: _ :: _ :: []) rfl ?_
      refine wa_cons ?_
      refine wp_c ?_
      refine wa_cons ?_
      refine wp_cb ?_
      refine wa_cons ?_
      refine wp_var rfl ?_
      refine wa_nil ?_
      refine wc_repr (o := o) ((ho _ _ 5 6 7 _ _ _ rfl rfl rfl)) ?_
      refine wa_nil ?_
      refine ⟨by simp, fun p85 => ?_⟩
      refine wr_neD (dp_tup (seenT 49 rfl) (dps_cons dp_str (dps_cons dp_str dps_nil))) (dp_tup (seenT 50 rfl) (dps_cons dp_str (dps_cons dp_str dps_nil))) (by first | exact sh_tx2 | exact sh_st2) (by first | exact sh_tx2 | exact sh_st2) ?_
      refine ⟨_, rfl, ?_⟩
      refine ifF (by first | rfl | (simp; done) | (simp [PyData.eqv, PyData.eqvAll]; done)) ?_
      refine ⟨rfl, ?_⟩
      refine un_nf (acc' := []) (L' := _ :: _ :: _ :: _ :: _ :: _ :: _ :: _ :: _ :: _ :: _ :: _ :: _ :: _ :: _ :: _ :: _ :: _ :: _ :: _ :: _ :: _ :: _ :: _ :: _ :: _ :: _ :: _ :: _ :: _ :: _ :: _ :: _ :: _ :: _ :: _ :: _ :: _ :: _ :: _ :: _ :: _ :: _ :: _ :: _ :: _ :: _ :: _ :: _ :: _ :: _ :: []) rfl rfl ?_
      refine un_cons (iter_listV (seen 35 rfl)) ?_
      refine wt_test ?_
      refine wp_op ?_
      refine wp_callD ?_
      refine wp_nf (L' := _ :: _ :: _ :: _ :: _ :: _ :: _ :: _ :: _ :: _ :: _ :: _ :: _ :: _ :: _ :: _ :: _ :: _ :: _ :: _ :: _ :: _ :: _ :: _ :: _ :: _ :: _ :: _ :: _ :: _ :: _ :: _ :: _ :: _ :: _ :: _ :: _ :: _ :: _ :: _ :: _ :: _ :: _ :: _ :: _ :: _ :: _ :: _ :: _ :: _ :: _ :: []) rfl ?_
      refine wa_cons ?_
      refine wp_var rfl ?_
      refine wa_nil ?_
      intro base86 hb86
      refine wc__law_raised (.num o) (deed_mkP hL62 (hC62.cells hb86 [3, 0] rfl) 32 33 rfl rfl (.inr ⟨_, 31, _, hD62, rfl⟩) (part_of [8] rfl rfl) (fun H H_ z sm => ((ho _ _ 5 6 7 _ _ _ rfl rfl rfl) H z).same sm)) ((ho _ _ 5 6 7 _ _ _ rfl rfl rfl)) ?_
      intro p87
      refine wp_tup ?_
      refine wp_nf (L' := _ :: _ :: _ :: _ :: _ :: _ :: _ :: _ :: _ :: _ :: _ :: _ :: _ :: _ :: _ :: _ :: _ :: _ :: _ :: _ :: _ :: _ :: _ :: _ :: _ :: _ :: _ :: _ :: _ :: _ :: _ :: _ :: _ :: _ :: _ :: _ :: _ :: _ :: _ :: _ :: _ :: _ :: _ :: _ :: _ :: _ :: _ :: _ :: _ :: _ :: _ :: _ :: []) rfl ?_
      refine wa_cons ?_
      refine wp_c ?_
      refine wa_cons ?_
      refine wp_cb ?_
      refine wa_cons ?_
      refine wp_var rfl ?_
      refine wa_nil ?_
      refine wc_repr (o := o) ((ho _ _ 5 6 7 _ _ _ rfl rfl rfl)) ?_
      refine wa_nil ?_
      refine ⟨by simp, fun p88 => ?_⟩
      refine wr_neD (dp_tup (seenT 51 rfl) (dps_cons dp_str (dps_cons dp_str dps_nil))) (dp_tup (seenT 52 rfl) (dps_cons dp_str (dps_cons dp_str dps_nil))) (by first | exact sh_tx2 | exact sh_st2) (by first | exact sh_tx2 | exact sh_st2) ?_
      refine ⟨_, rfl, ?_⟩
      refine ifF (by first | rfl | (simp; done) | (simp [PyData.eqv, PyData.eqvAll]; done)) ?_
      refine ⟨rfl, ?_⟩
      refine un_nil (iter_listV (seen 35 rfl)) ?_
      refine wp_lst ?_
      refine wa_nil ?_
      refine ⟨by simp, fun p89 => ?_⟩
      refine wr_neLI (ms := []) (ns := []) (seen 36 rfl) (seen 53 rfl) ?_
      refine ⟨_, rfl, ?_⟩
      refine ifB (fun hc90 => ?_) (fun hc90 => ?_)
      · try simp only [decide_eq_true_eq, decide_eq_false_iff_not, Bool.and_eq_true, Bool.or_eq_true, Bool.not_eq_true', Bool.and_eq_false_iff, Bool.or_eq_false_iff, Bool.not_eq_false', Bool.not_true, Bool.not_false, Bool.false_or, Bool.true_and, Bool.true_or, Bool.false_and, Bool.and_true, Bool.or_false, reduceCtorEq, not_true_eq_false, not_false_eq_true, decide_true, decide_false] at hc90
        all_goals
          simp at hc90
      · try simp only [decide_eq_true_eq, decide_eq_false_iff_not, Bool.and_eq_true, Bool.or_eq_true, Bool.not_eq_true', Bool.and_eq_false_iff, Bool.or_eq_false_iff, Bool.not_eq_false', Bool.not_true, Bool.not_false, Bool.false_or, Bool.true_and, Bool.true_or, Bool.false_and, Bool.and_true, Bool.or_false, reduceCtorEq, not_true_eq_false, not_false_eq_true, decide_true, decide_false] at hc90
        refine ws_next ?_
        refine ws_seq ?_
        refine ws_cut (L' := [_, _, _, _, _, _, _, _, _]) 9 rfl ?_
        refine ws_if ?_
        refine wt_test ?_
        refine wp_op ?_
        refine wp_callD ?_
        refine wa_cons ?_
        refine wp_lmbG 0 rfl ?_
        intro fl91 F91 hG91 hC91 hD91
        have hL91 : ∀ (base_ : Heap) (f_ : Addr), LOk P w K mg base_ 30 f_ F91 [] ["_law_scheme", "_law_odd"] (lspP [some (.ref pH), some (o.v)] [(pH, .ob (.ins CS.sc dH (scF 3 2)), false)] (fun H => o.At H) ((Rf.out CS.xn CS.xt CS.xs (.tim o)))) := by
            intro base_ f_
            refine lok_goodP hG91 rfl (fun H_ E_ hPh hE => ?_) base_ f_
            have ho9 : ∀ (L : Led) (H1 : Hp), At ⟨H_, fun _ => False⟩ L H1 → o.At H1 := fun L H1 z1 => hPh.same (fun b u e => z1.old b u e (fun q => q))
            refine wp_meth 0 ?_
            refine wp_var rfl ?_
            refine ⟨_, _, _, _, rfl, rfl, scF_no _ _ (by decide +kernel) (by decide +kernel), ?_⟩
            refine wa_cons ?_
            refine wp_c ?_
            refine wa_cons ?_
            refine wp_var rfl ?_
            refine wa_nil ?_
            exact wc_Scheme_is_kept__t 0 rfl (o := o) (ho9 _) ⟨by omega, by (first | assumption | rfl | exact OV.atl_up (by assumption) (by decide) | (simp only [OV.atl, decide_eq_false_iff_not]; omega))⟩ (hE _ _ rfl)
        refine wa_nil ?_
        intro base92 hb92
        refine wc__law_raised (.tim o) (deed_mkP hL91 (hC91.cells hb92 [3, 0] rfl) 9 10 rfl rfl (.inl ⟨rfl, hD91⟩) (part_of [8] rfl rfl) (fun H H_ z sm => ((ho _ _ 5 6 7 _ _ _ rfl rfl rfl) H z).same sm)) ((ho _ _ 5 6 7 _ _ _ rfl rfl rfl)) ?_
        intro p93
        refine wp_tup ?_
        refine wp_nf (L' := [_, _, _, _, _, _, _, _, _, _, _, _]) rfl ?_
        refine wa_cons ?_
        refine wp_c ?_
        refine wa_cons ?_
        refine wp_cb ?_
        refine wa_cons ?_
        refine wp_var rfl ?_
        refine wa_nil ?_
        refine wc_repr (o := o) ((ho _ _ 5 6 7 _ _ _ rfl rfl rfl)) ?_
        refine wa_nil ?_
        refine ⟨by simp, fun p94 => ?_⟩
        refine wr_neD (dp_tup (seenT 11 rfl) (dps_cons dp_str (dps_cons dp_str dps_nil))) (dp_tup (seenT 12 rfl) (dps_cons dp_str (dps_cons dp_str dps_nil))) (by first | exact sh_tx2 | exact sh_st2) (by first | exact sh_tx2 | exact sh_st2) ?_
        refine ⟨_, rfl, ?_⟩
        refine ifB (fun hc95 => ?_) (fun hc95 => ?_)
        · try simp only [decide_eq_true_eq, decide_eq_false_iff_not, Bool.and_eq_true, Bool.or_eq_true, Bool.not_eq_true', Bool.and_eq_false_iff, Bool.or_eq_false_iff, Bool.not_eq_false', Bool.not_true, Bool.not_false, Bool.false_or, Bool.true_and, Bool.true_or, Bool.false_and, Bool.and_true, Bool.or_false, reduceCtorEq, not_true_eq_false, not_false_eq_true, decide_true, decide_false] at hc95
          all_goals
            simp [PyData.eqv, PyData.eqvAll] at hc95
        · try simp only [decide_eq_true_eq, decide_eq_false_iff_not, Bool.and_eq_true, Bool.or_eq_true, Bool.not_eq_true', Bool.and_eq_false_iff, Bool.or_eq_false_iff, Bool.not_eq_false', Bool.not_true, Bool.not_false, Bool.false_or, Bool.true_and, Bool.true_or, Bool.false_and, Bool.and_true, Bool.or_false, reduceCtorEq, not_true_eq_false, not_false_eq_true, decide_true, decide_false] at hc95
          refine ws_next ?_
          refine ws_seq ?_
          refine ws_cut (L' := [_, _, _, _, _, _, _, _, _]) 9 rfl ?_
          refine ws_if ?_
          refine wt_or ?_
          refine wt_test ?_
          refine wp_op ?_
          refine wp_var rfl ?_
          refine wp_tup ?_
          refine wa_cons ?_
          refine wp_c ?_
          refine wa_cons ?_
          refine wp_c ?_
          refine wa_nil ?_
          refine ⟨by simp, fun p96 => ?_⟩
          refine wr_ownX 8 rfl (fun H_ z_ => .base (.tup (z_.get (i := 9) rfl))) nf_tup ?_
          refine wc_Scheme_eq__x 8 rfl (fun H_ z_ => .inr (.inr (.inr (.inr (.inr (.inl ⟨_, _, rfl, z_.get (i := 9) rfl⟩)))))) ?_
          refine ⟨_, rfl, ?_⟩
          refine ⟨_, rfl, ?_⟩
          refine ifF (by first | rfl | (simp; done) | (simp [*]; done)) ?_
          refine wt_or ?_
          refine wt_test ?_
          refine wp_op ?_
          refine wp_var rfl ?_
          refine wm_Scheme ?_
          refine wa_cons ?_
          refine wp_c ?_
          refine wa_cons ?_
          refine wp_c ?_
          refine wa_nil ?_
          refine ⟨_, _, rfl, by (unfold SchOk; omega), fun p97 dp97 => ?_⟩
          refine wr_ownO 8 10 rfl rfl ?_
          refine wc_Scheme_eq 8 rfl 10 rfl ?_
          refine ⟨_, rfl, ?_⟩
          refine ⟨_, rfl, ?_⟩
          refine ifF (by first | rfl | (simp; done) | (simp [*]; done)) ?_
          refine wt_or ?_
          refine wt_test ?_
          refine wp_op ?_
          refine wp_var rfl ?_
          refine wm_Scheme ?_
          refine wa_cons ?_
          refine wp_c ?_
          refine wa_cons ?_
          refine wp_c ?_
          refine wa_nil ?_
          refine ⟨_, _, rfl, by (unfold SchOk; omega), fun p98 dp98 => ?_⟩
          refine wr_ownO 8 11 rfl rfl ?_
          refine wc_Scheme_eq 8 rfl 11 rfl ?_
          refine ⟨_, rfl, ?_⟩
          refine ⟨_, rfl, ?_⟩
          refine ifF (by first | rfl | (simp; done) | (simp [*]; done)) ?_
          refine wt_test ?_
          refine wp_op ?_
          refine wp_var rfl ?_
          refine wm_Scheme ?_
          refine wa_cons ?_
          refine wp_c ?_
          refine wa_cons ?_
          refine wp_c ?_
          refine wa_nil ?_
          refine ⟨_, _, rfl, by (unfold SchOk; omega), fun pH dH => ?_⟩
          refine wr_ownO 8 12 rfl rfl ?_
          refine wc_Scheme_eq 8 rfl 12 rfl ?_
          refine ⟨_, rfl, ?_⟩
          refine ⟨_, rfl, ?_⟩
          refine ifF (by first | rfl | (simp; done) | (simp [*]; done) | (simp [PyData.eqv, PyData.eqvAll]; done)) ?_
          refine ws_next ?_
          refine ws_seq ?_
          refine ws_cut (L' := [_, _, _, _, _, _, _, _]) 8 rfl ?_
          refine ws_if ?_
          refine wt_test ?_
          refine wp_op ?_
          refine wp_lc ?_
          refine wi_list ?_
          refine wp_lst ?_
          refine wa_cons ?_
          refine wp_c ?_
          refine wa_cons ?_
          refine wp_un ?_
          refine wp_c ?_
          refine wu0 ?_
          refine wa_cons ?_
          refine wp_c ?_
          refine wa_cons ?_
          refine wp_c ?_
          refine wa_cons ?_
          refine wp_c ?_
          refine wa_cons ?_
          refine wp_lst ?_
          refine wa_nil ?_
          refine ⟨by simp, fun p100 => ?_⟩
          refine wa_cons ?_
          refine wp_dict0 (fun p101 => ?_)
          refine wa_nil ?_
          refine ⟨by simp, fun p102 => ?_⟩
          refine ⟨_, _, rfl, (seen 10 rfl), ?_⟩
          refine lc_U (iter_listV (seen 10 rfl)) (fun _ => rfl) (fun D11 => ?_)
          refine un_cons (iter_listV (seen 10 rfl)) ?_
          refine wt_yes ?_
          refine ifT rfl ?_
          refine wp_call ?_
          refine wa_cons ?_
          refine wp_var rfl ?_
          refine wa_nil ?_
          refine wc_is_integer__d (fun H_ z_ => .inl ⟨_, rfl⟩) ?_
          refine ⟨rfl, by simp, ?_⟩
          refine un_nf (acc' := [_]) (L' := [_, _, _, _, _, _, _, _, _, _, _, _]) rfl rfl ?_
          refine un_cons (iter_listV (seen 10 rfl)) ?_
          refine wt_yes ?_
          refine ifT rfl ?_
          refine wp_call ?_
          refine wa_cons ?_
          refine wp_var rfl ?_
          refine wa_nil ?_
          refine wc_is_integer__d (fun H_ z_ => .inl ⟨_, rfl⟩) ?_
          refine ⟨rfl, by simp, ?_⟩
          refine un_nf (acc' := [_, _]) (L' := [_, _, _, _, _, _, _, _, _, _, _, _]) rfl rfl ?_
          refine un_cons (iter_listV (seen 10 rfl)) ?_
          refine wt_yes ?_
          refine ifT rfl ?_
          refine wp_call ?_
          refine wa_cons ?_
          refine wp_var rfl ?_
          refine wa_nil ?_
          refine wc_is_integer__d (fun H_ z_ => .inr (.inr (.inl ⟨_, rfl⟩))) ?_
          refine ⟨rfl, by simp, ?_⟩
          refine un_nf (acc' := [_, _, _]) (L' := [_, _, _, _, _, _, _, _, _, _, _, _]) rfl rfl ?_
          refine un_cons (iter_listV (seen 10 rfl)) ?_
          refine wt_yes ?_
          refine ifT rfl ?_
          refine wp_call ?_
          refine wa_cons ?_
          refine wp_var rfl ?_
          refine wa_nil ?_
          refine wc_is_integer__d (fun H_ z_ => .inr (.inl rfl)) ?_
          refine ⟨rfl, by simp, ?_⟩
          refine un_nf (acc' := [_, _, _, _]) (L' := [_, _, _, _, _, _, _, _, _, _, _, _]) rfl rfl ?_
          refine un_cons (iter_listV (seen 10 rfl)) ?_
          refine wt_yes ?_
          refine ifT rfl ?_
          refine wp_call ?_
          refine wa_cons ?_
          refine wp_var rfl ?_
          refine wa_nil ?_
          refine wc_is_integer__d (fun H_ z_ => .inr (.inr (.inr (.inl ⟨_, rfl⟩)))) ?_
          refine ⟨rfl, by simp, ?_⟩
          refine un_nf (acc' := [_, _, _, _, _]) (L' := [_, _, _, _, _, _, _, _, _, _, _, _]) rfl rfl ?_
          refine un_cons (iter_listV (seen 10 rfl)) ?_
          refine wt_yes ?_
          refine ifT rfl ?_
          refine wp_call ?_
          refine wa_cons ?_
          refine wp_var rfl ?_
          refine wa_nil ?_
          refine wc_is_integer__d (fun H_ z_ => .inr (.inr (.inr (.inr (.inl ⟨_, _, rfl, z_.get (i := 8) rfl⟩))))) ?_
          refine ⟨rfl, by simp, ?_⟩
          refine un_nf (acc' := [_, _, _, _, _, _]) (L' := [_, _, _, _, _, _, _, _, _, _, _, _]) rfl rfl ?_
          refine un_cons (iter_listV (seen 10 rfl)) ?_
          refine wt_yes ?_
          refine ifT rfl ?_
          refine wp_call ?_
          refine wa_cons ?_
          refine wp_var rfl ?_
          refine wa_nil ?_
          refine wc_is_integer__d (fun H_ z_ => .inr (.inr (.inr (.inr (.inr (.inr ⟨_, rfl, z_.get (i := 9) rfl⟩)))))) ?_
          refine ⟨rfl, by simp, ?_⟩
          refine un_nil (iter_listV (seen 10 rfl)) ?_
          refine wp_op ?_
          refine wp_lst ?_
          refine wa_cons ?_
          refine wp_c ?_
          refine wa_cons ?_
          refine wp_c ?_
          refine wa_nil ?_
          refine ⟨by simp, fun p103 => ?_⟩
          refine wp_op ?_
          refine wp_lst ?_
          refine wp_nf (L' := [_, _, _, _, _, _, _, _, _, _, _, _, _]) rfl ?_
          refine wa_cons ?_
          refine wp_c ?_
          refine wa_nil ?_
          refine ⟨by simp, fun p104 => ?_⟩
          refine wp_c ?_
          refine wr_repT (zs := [_, _, _, _, _]) 13 rfl (by decide) (by simp) rfl ?_
          intro p105
          refine wp_nf (L' := [_, _, _, _, _, _, _, _, _, _, _, _, _, _, _]) rfl ?_
          refine wr_catL (zs := [_, _, _, _, _, _, _]) 12 14 rfl rfl rfl (by simp) ?_
          intro p106
          refine wr_neD (dp_lst (seen 11 rfl) (dps_cons dp_bl (dps_cons dp_bl (dps_cons dp_bl (dps_cons dp_bl (dps_cons dp_bl (dps_cons dp_bl (dps_cons dp_bl dps_nil)))))))) (dp_lst (seen 15 rfl) (dps_cons dp_bl (dps_cons dp_bl (dps_cons dp_bl (dps_cons dp_bl (dps_cons dp_bl (dps_cons dp_bl (dps_cons dp_bl dps_nil)))))))) rfl rfl ?_
          refine ⟨_, rfl, ?_⟩
          refine ifF (by first | rfl | (simp; done) | (simp [*]; done) | (simp [PyData.eqv, PyData.eqvAll]; done)) ?_
          refine ws_next ?_
          refine ws_cut (L' := [_, _, _, _, _, _, _, _]) 8 rfl ?_
          refine ws_if ?_
          refine wt_test ?_
          refine wp_op ?_
          refine wp_kw ?_
          refine wa_cons ?_
          refine wp_op ?_
          refine wp_c ?_
          refine wp_c ?_
          refine wr_powc (r := 100000000000000000000000000000) (powOk (by decide)) (by decide) ?_
          refine wa_nil ?_
          refine ⟨rfl, ?_⟩
          refine wc_is_integer ?_
          refine wp_c ?_
          refine wr_isnot_True ?_
          refine ⟨_, rfl, ?_⟩
          refine ifF (by first | rfl | (simp; done) | (simp [*]; done) | (simp [PyData.eqv, PyData.eqvAll]; done)) ?_
          refine ws_next ?_
          exact ⟨[none, some _, some _, some _, some _, some _, some _, some _, none, none], ⟨rfl, _, _, _, _, _, _, _, rfl⟩, ⟨_, rfl⟩⟩
    rintro vs ⟨w1, w2, w3, w4, w5, w6, w7, rfl⟩
    refine ws_nf (σ' := [_, _, _, _, _, _, _, _, _, _]) (L' := [_, _, _, _]) rfl rfl ?_
    refine ws_ret ?_
    refine wp_c ?_
    exact rfl
end
theorem top_mk {K : PySem.W.Frag} {h : Heap} {mg : Str → Option Value} {c_sc c_xs c_xn c_xt c_xa c_xb c_xl c_xe c_k0 c_t0 : Addr} (X : K.In h) (G : h.Ns mainGlobals mg)
    (aScheme : PySem.W.nsIn K mainGlobals "Scheme" = some (some (.ref c_sc)))
    (b_ArithmeticError : PySem.W.nsIn K mainGlobals "ArithmeticError" = some none)
    (b_all : PySem.W.nsIn K mainGlobals "all" = some none)
    (b_bool : PySem.W.nsIn K mainGlobals "bool" = some none)
    (b_enumerate : PySem.W.nsIn K mainGlobals "enumerate" = some none)
    (b_int : PySem.W.nsIn K mainGlobals "int" = some none)
    (b_isinstance : PySem.W.nsIn K mainGlobals "isinstance" = some none)
    (b_len : PySem.W.nsIn K mainGlobals "len" = some none)
    (b_range : PySem.W.nsIn K mainGlobals "range" = some none)
    (b_repr : PySem.W.nsIn K mainGlobals "repr" = some none)
    (c_MOST_BASE : ∃ t, PySem.W.nsIn K mainGlobals "MOST_BASE" = some (some (.int 1000 t)))
    (c_MOST_FACTOR : ∃ t, PySem.W.nsIn K mainGlobals "MOST_FACTOR" = some (some (.int 1000000 t)))
    (pgScheme : PySem.W.plainGet K c_sc Str.empty = true) (hdScheme : PySem.W.hasDictIn K c_sc = true) (poScheme : PySem.W.plainOver K c_sc = true) (saScheme : PySem.W.findIn K (.ref c_sc) "__setattr__" = some (some (.builtin "object.__setattr__")))
    (n_Scheme_radix : PySem.W.findIn K (.ref c_sc) "radix" = some none)
    (n_Scheme_multiple : PySem.W.findIn K (.ref c_sc) "multiple" = some none)
    (neaScheme : PySem.W.findIn K (.ref c_sc) "__ne__" = some (some (.builtin "object.__ne__"))) (nebScheme : PySem.W.mroIn K c_sc (.type "object") = some true)
    (koaScheme : PySem.W.isClsIn K c_sc = true) (kobScheme : PySem.W.typeIn K (.ref c_sc) = some (.type "type"))
    (isaScheme : PySem.W.findIn K (.ref c_sc) "__class__" = some (some (.builtin "object.__class__"))) (isbScheme : PySem.W.specialIn K (.builtin "object.__class__") "__get__" = some (some (.builtin "getset_descriptor.__get__"))) (iscScheme : PySem.W.takesIn K (.builtin "object.__class__") = some true) (isdScheme : PySem.W.mroIn K c_sc (.type "object") = some true)
    (xaInvalidScheme : PySem.W.nsIn K mainGlobals "InvalidScheme" = some (some (.ref c_xs)))
    (xgaInvalidScheme : PySem.W.findIn K (.ref c_xs) "__getattribute__" = some (some (.builtin "BaseException.__getattribute__"))) (xggInvalidScheme : PySem.W.findIn K (.ref c_xs) "__getattr__" = some none) (xecInvalidScheme : PySem.W.subIn K (.ref c_xs) (.type "BaseException") = some true) (xhdInvalidScheme : PySem.W.hasDictIn K c_xs = true)
    (xo_InvalidScheme : PySem.W.findIn K (.ref c_xs) "part" = some none)
    (xicInvalidScheme : PySem.W.isClsIn K c_xs = true) (xtyInvalidScheme : PySem.W.typeIn K (.ref c_xs) = some (.type "type")) (xseInvalidScheme : PySem.W.subIn K (.ref c_xs) (.ref c_xs) = some true)
    (xaInvalidNumber : PySem.W.nsIn K mainGlobals "InvalidNumber" = some (some (.ref c_xn)))
    (xgaInvalidNumber : PySem.W.findIn K (.ref c_xn) "__getattribute__" = some (some (.builtin "BaseException.__getattribute__"))) (xggInvalidNumber : PySem.W.findIn K (.ref c_xn) "__getattr__" = some none) (xecInvalidNumber : PySem.W.subIn K (.ref c_xn) (.type "BaseException") = some true) (xhdInvalidNumber : PySem.W.hasDictIn K c_xn = true)
    (xo_InvalidNumber : PySem.W.findIn K (.ref c_xn) "number" = some none)
    (xicInvalidNumber : PySem.W.isClsIn K c_xn = true) (xtyInvalidNumber : PySem.W.typeIn K (.ref c_xn) = some (.type "type")) (xseInvalidNumber : PySem.W.subIn K (.ref c_xn) (.ref c_xn) = some true)
    (xaInvalidTime : PySem.W.nsIn K mainGlobals "InvalidTime" = some (some (.ref c_xt)))
    (xgaInvalidTime : PySem.W.findIn K (.ref c_xt) "__getattribute__" = some (some (.builtin "BaseException.__getattribute__"))) (xggInvalidTime : PySem.W.findIn K (.ref c_xt) "__getattr__" = some none) (xecInvalidTime : PySem.W.subIn K (.ref c_xt) (.type "BaseException") = some true) (xhdInvalidTime : PySem.W.hasDictIn K c_xt = true)
    (xo_InvalidTime : PySem.W.findIn K (.ref c_xt) "time" = some none)
    (xicInvalidTime : PySem.W.isClsIn K c_xt = true) (xtyInvalidTime : PySem.W.typeIn K (.ref c_xt) = some (.type "type")) (xseInvalidTime : PySem.W.subIn K (.ref c_xt) (.ref c_xt) = some true)
    (xaInvalidArchive : PySem.W.nsIn K mainGlobals "InvalidArchive" = some (some (.ref c_xa)))
    (xgaInvalidArchive : PySem.W.findIn K (.ref c_xa) "__getattribute__" = some (some (.builtin "BaseException.__getattribute__"))) (xggInvalidArchive : PySem.W.findIn K (.ref c_xa) "__getattr__" = some none) (xecInvalidArchive : PySem.W.subIn K (.ref c_xa) (.type "BaseException") = some true) (xhdInvalidArchive : PySem.W.hasDictIn K c_xa = true)
    (xo_InvalidArchive : PySem.W.findIn K (.ref c_xa) "part" = some none)
    (xo2_InvalidArchive : PySem.W.findIn K (.ref c_xa) "at" = some none)
    (xicInvalidArchive : PySem.W.isClsIn K c_xa = true) (xtyInvalidArchive : PySem.W.typeIn K (.ref c_xa) = some (.type "type")) (xseInvalidArchive : PySem.W.subIn K (.ref c_xa) (.ref c_xa) = some true)
    (xaInvalidBound : PySem.W.nsIn K mainGlobals "InvalidBound" = some (some (.ref c_xb)))
    (xgaInvalidBound : PySem.W.findIn K (.ref c_xb) "__getattribute__" = some (some (.builtin "BaseException.__getattribute__"))) (xggInvalidBound : PySem.W.findIn K (.ref c_xb) "__getattr__" = some none) (xecInvalidBound : PySem.W.subIn K (.ref c_xb) (.type "BaseException") = some true) (xhdInvalidBound : PySem.W.hasDictIn K c_xb = true)
    (xo_InvalidBound : PySem.W.findIn K (.ref c_xb) "part" = some none)
    (xicInvalidBound : PySem.W.isClsIn K c_xb = true) (xtyInvalidBound : PySem.W.typeIn K (.ref c_xb) = some (.type "type")) (xseInvalidBound : PySem.W.subIn K (.ref c_xb) (.ref c_xb) = some true)
    (xaLimitExceeded : PySem.W.nsIn K mainGlobals "LimitExceeded" = some (some (.ref c_xl)))
    (xgaLimitExceeded : PySem.W.findIn K (.ref c_xl) "__getattribute__" = some (some (.builtin "BaseException.__getattribute__"))) (xggLimitExceeded : PySem.W.findIn K (.ref c_xl) "__getattr__" = some none) (xecLimitExceeded : PySem.W.subIn K (.ref c_xl) (.type "BaseException") = some true) (xhdLimitExceeded : PySem.W.hasDictIn K c_xl = true)
    (xo_LimitExceeded : PySem.W.findIn K (.ref c_xl) "limit" = some none)
    (xicLimitExceeded : PySem.W.isClsIn K c_xl = true) (xtyLimitExceeded : PySem.W.typeIn K (.ref c_xl) = some (.type "type")) (xseLimitExceeded : PySem.W.subIn K (.ref c_xl) (.ref c_xl) = some true)
    (xbs : ∃ S, PySem.W.nsIn K mainGlobals "SnapError" = some (some (.ref S)) ∧ PySem.W.readsIn K S (.type "type") = true ∧ PySem.W.specialIn K (.ref S) "__getattribute__" = some (some (.builtin "type.__getattribute__")) ∧ PySem.W.findCls K (.ref S) (.type "type") "__init__" = some (.val (.builtin "ArithmeticError.__init__")))
    (xaSnapError : PySem.W.nsIn K mainGlobals "SnapError" = some (some (.ref c_xe))) (xicSnapError : PySem.W.isClsIn K c_xe = true) (xtySnapError : PySem.W.typeIn K (.ref c_xe) = some (.type "type"))
    (xecSnapError : PySem.W.subIn K (.ref c_xe) (.type "BaseException") = some true) (xhdSnapError : PySem.W.hasDictIn K c_xe = true)
    (xcn : PySem.W.specialIn K (.builtin "object.__class__") "__get__" = some (some (.builtin "getset_descriptor.__get__"))) (xct : PySem.W.takesIn K (.builtin "object.__class__") = some true)
    (xcaInvalidScheme : PySem.W.findIn K (.ref c_xs) "__class__" = some (some (.builtin "object.__class__"))) (xcmInvalidScheme : PySem.W.mroIn K c_xs (.type "object") = some true)
    (su_InvalidScheme_InvalidNumber : PySem.W.subIn K (.ref c_xs) (.ref c_xn) = some false)
    (su_InvalidScheme_InvalidTime : PySem.W.subIn K (.ref c_xs) (.ref c_xt) = some false)
    (su_InvalidScheme_InvalidArchive : PySem.W.subIn K (.ref c_xs) (.ref c_xa) = some false)
    (su_InvalidScheme_InvalidBound : PySem.W.subIn K (.ref c_xs) (.ref c_xb) = some false)
    (su_InvalidScheme_LimitExceeded : PySem.W.subIn K (.ref c_xs) (.ref c_xl) = some false)
    (su_InvalidScheme_A : PySem.W.subIn K (.ref c_xs) (.type "ArithmeticError") = some true)
    (su_InvalidScheme_SnapError : PySem.W.subIn K (.ref c_xs) (.ref c_xe) = some true)
    (xcaInvalidNumber : PySem.W.findIn K (.ref c_xn) "__class__" = some (some (.builtin "object.__class__"))) (xcmInvalidNumber : PySem.W.mroIn K c_xn (.type "object") = some true)
    (su_InvalidNumber_InvalidScheme : PySem.W.subIn K (.ref c_xn) (.ref c_xs) = some false)
    (su_InvalidNumber_InvalidTime : PySem.W.subIn K (.ref c_xn) (.ref c_xt) = some false)
    (su_InvalidNumber_InvalidArchive : PySem.W.subIn K (.ref c_xn) (.ref c_xa) = some false)
    (su_InvalidNumber_InvalidBound : PySem.W.subIn K (.ref c_xn) (.ref c_xb) = some false)
    (su_InvalidNumber_LimitExceeded : PySem.W.subIn K (.ref c_xn) (.ref c_xl) = some false)
    (su_InvalidNumber_A : PySem.W.subIn K (.ref c_xn) (.type "ArithmeticError") = some true)
    (su_InvalidNumber_SnapError : PySem.W.subIn K (.ref c_xn) (.ref c_xe) = some true)
    (xcaInvalidTime : PySem.W.findIn K (.ref c_xt) "__class__" = some (some (.builtin "object.__class__"))) (xcmInvalidTime : PySem.W.mroIn K c_xt (.type "object") = some true)
    (su_InvalidTime_InvalidScheme : PySem.W.subIn K (.ref c_xt) (.ref c_xs) = some false)
    (su_InvalidTime_InvalidNumber : PySem.W.subIn K (.ref c_xt) (.ref c_xn) = some false)
    (su_InvalidTime_InvalidArchive : PySem.W.subIn K (.ref c_xt) (.ref c_xa) = some false)
    (su_InvalidTime_InvalidBound : PySem.W.subIn K (.ref c_xt) (.ref c_xb) = some false)
    (su_InvalidTime_LimitExceeded : PySem.W.subIn K (.ref c_xt) (.ref c_xl) = some false)
    (su_InvalidTime_A : PySem.W.subIn K (.ref c_xt) (.type "ArithmeticError") = some true)
    (su_InvalidTime_SnapError : PySem.W.subIn K (.ref c_xt) (.ref c_xe) = some true)
    (xcaInvalidArchive : PySem.W.findIn K (.ref c_xa) "__class__" = some (some (.builtin "object.__class__"))) (xcmInvalidArchive : PySem.W.mroIn K c_xa (.type "object") = some true)
    (su_InvalidArchive_InvalidScheme : PySem.W.subIn K (.ref c_xa) (.ref c_xs) = some false)
    (su_InvalidArchive_InvalidNumber : PySem.W.subIn K (.ref c_xa) (.ref c_xn) = some false)
    (su_InvalidArchive_InvalidTime : PySem.W.subIn K (.ref c_xa) (.ref c_xt) = some false)
    (su_InvalidArchive_InvalidBound : PySem.W.subIn K (.ref c_xa) (.ref c_xb) = some false)
    (su_InvalidArchive_LimitExceeded : PySem.W.subIn K (.ref c_xa) (.ref c_xl) = some false)
    (su_InvalidArchive_A : PySem.W.subIn K (.ref c_xa) (.type "ArithmeticError") = some true)
    (su_InvalidArchive_SnapError : PySem.W.subIn K (.ref c_xa) (.ref c_xe) = some true)
    (xcaInvalidBound : PySem.W.findIn K (.ref c_xb) "__class__" = some (some (.builtin "object.__class__"))) (xcmInvalidBound : PySem.W.mroIn K c_xb (.type "object") = some true)
    (su_InvalidBound_InvalidScheme : PySem.W.subIn K (.ref c_xb) (.ref c_xs) = some false)
    (su_InvalidBound_InvalidNumber : PySem.W.subIn K (.ref c_xb) (.ref c_xn) = some false)
    (su_InvalidBound_InvalidTime : PySem.W.subIn K (.ref c_xb) (.ref c_xt) = some false)
    (su_InvalidBound_InvalidArchive : PySem.W.subIn K (.ref c_xb) (.ref c_xa) = some false)
    (su_InvalidBound_LimitExceeded : PySem.W.subIn K (.ref c_xb) (.ref c_xl) = some false)
    (su_InvalidBound_A : PySem.W.subIn K (.ref c_xb) (.type "ArithmeticError") = some true)
    (su_InvalidBound_SnapError : PySem.W.subIn K (.ref c_xb) (.ref c_xe) = some true)
    (xcaLimitExceeded : PySem.W.findIn K (.ref c_xl) "__class__" = some (some (.builtin "object.__class__"))) (xcmLimitExceeded : PySem.W.mroIn K c_xl (.type "object") = some true)
    (su_LimitExceeded_InvalidScheme : PySem.W.subIn K (.ref c_xl) (.ref c_xs) = some false)
    (su_LimitExceeded_InvalidNumber : PySem.W.subIn K (.ref c_xl) (.ref c_xn) = some false)
    (su_LimitExceeded_InvalidTime : PySem.W.subIn K (.ref c_xl) (.ref c_xt) = some false)
    (su_LimitExceeded_InvalidArchive : PySem.W.subIn K (.ref c_xl) (.ref c_xa) = some false)
    (su_LimitExceeded_InvalidBound : PySem.W.subIn K (.ref c_xl) (.ref c_xb) = some false)
    (su_LimitExceeded_A : PySem.W.subIn K (.ref c_xl) (.type "ArithmeticError") = some true)
    (su_LimitExceeded_SnapError : PySem.W.subIn K (.ref c_xl) (.ref c_xe) = some true)
    (f__law_source_of : TopFn K mg "_law_source_of" s__law_source_of)
    (f__law_next : TopFn K mg "_law_next" s__law_next)
    (f__law_one : TopFn K mg "_law_one" s__law_one)
    (f_is_integer : TopFn K mg "is_integer" s_is_integer)
    (f_is_between : TopFn K mg "is_between" s_is_between)
    (f_InvalidScheme_init : mg "InvalidScheme" = some (.ref c_xs) → ExcFn K mg "InvalidScheme" c_xs "InvalidScheme.__init__" s_InvalidScheme_init)
    (f_Scheme_init : mg "Scheme" = some (.ref c_sc) → InitFn K mg "Scheme" c_sc "Scheme.__init__" s_Scheme_init)
    (f__law_cell_at : TopFn K mg "_law_cell_at" s__law_cell_at)
    (f_InvalidNumber_init : mg "InvalidNumber" = some (.ref c_xn) → ExcFn K mg "InvalidNumber" c_xn "InvalidNumber.__init__" s_InvalidNumber_init)
    (f_InvalidTime_init : mg "InvalidTime" = some (.ref c_xt) → ExcFn K mg "InvalidTime" c_xt "InvalidTime.__init__" s_InvalidTime_init)
    (f_InvalidArchive_init : mg "InvalidArchive" = some (.ref c_xa) → ExcFn K mg "InvalidArchive" c_xa "InvalidArchive.__init__" s_InvalidArchive_init)
    (f_InvalidBound_init : mg "InvalidBound" = some (.ref c_xb) → ExcFn K mg "InvalidBound" c_xb "InvalidBound.__init__" s_InvalidBound_init)
    (f_LimitExceeded_init : mg "LimitExceeded" = some (.ref c_xl) → ExcFn K mg "LimitExceeded" c_xl "LimitExceeded.__init__" s_LimitExceeded_init)
    (f__law_classes : TopFn K mg "_law_classes" s__law_classes)
    (f__law_made_by_hand : TopFn K mg "_law_made_by_hand" s__law_made_by_hand)
    (f__law_raised : TopFn K mg "_law_raised" s__law_raised)
    (f_check_number : TopFn K mg "check_number" s_check_number)
    (f_Scheme_level : MethFn K c_sc "level" "Scheme.level" s_Scheme_level)
    (f_Scheme_unit : MethFn K c_sc "unit" "Scheme.unit" s_Scheme_unit)
    (f_Scheme_parent_of : MethFn K c_sc "parent_of" "Scheme.parent_of" s_Scheme_parent_of)
    (f_Scheme_parent : MethFn K c_sc "parent" "Scheme.parent" s_Scheme_parent)
    (f_Scheme_chain : MethFn K c_sc "chain" "Scheme.chain" s_Scheme_chain)
    (f_Scheme_block : MethFn K c_sc "block" "Scheme.block" s_Scheme_block)
    (f_Scheme_last_time : MethFn K c_sc "last_time" "Scheme.last_time" s_Scheme_last_time)
    (f_check_time : TopFn K mg "check_time" s_check_time)
    (f_Scheme_is_kept : MethFn K c_sc "is_kept" "Scheme.is_kept" s_Scheme_is_kept)
    (f_Scheme_has_in_chain : MethFn K c_sc "has_in_chain" "Scheme.has_in_chain" s_Scheme_has_in_chain)
    (f_Scheme_eq : MethFn K c_sc "__eq__" "Scheme.__eq__" s_Scheme_eq)
    (f_law : TopFnT K mg "law" s_law c_k0) : Top K mg ⟨c_sc, 0, 0, 0, 0, c_xs, c_xn, c_xt, c_xa, c_xb, c_xl, c_xe, c_k0, c_t0⟩ :=
  ⟨PySem.W.mg_none_of X G b_ArithmeticError, PySem.W.mg_none_of X G b_all, PySem.W.mg_none_of X G b_bool, PySem.W.mg_none_of X G b_enumerate, PySem.W.mg_none_of X G b_int, PySem.W.mg_none_of X G b_isinstance, PySem.W.mg_none_of X G b_len, PySem.W.mg_none_of X G b_range, PySem.W.mg_none_of X G b_repr, (by obtain ⟨t, h⟩ := c_MOST_BASE; exact ⟨t, PySem.W.mg_of X G h⟩), (by obtain ⟨t, h⟩ := c_MOST_FACTOR; exact ⟨t, PySem.W.mg_of X G h⟩), ⟨pgScheme, hdScheme, poScheme, saScheme⟩, n_Scheme_radix, n_Scheme_multiple, ⟨neaScheme, nebScheme⟩, ⟨koaScheme, kobScheme⟩, PySem.W.mg_of X G aScheme, ⟨⟨pgScheme, hdScheme, poScheme, saScheme⟩, isaScheme, isbScheme, iscScheme, isdScheme, if_pos (beq_self_eq_true _)⟩, ⟨xgaInvalidScheme, xggInvalidScheme, xecInvalidScheme, xhdInvalidScheme⟩, xo_InvalidScheme, (Kr.exm_self xecInvalidScheme xicInvalidScheme xtyInvalidScheme xseInvalidScheme), ⟨xgaInvalidNumber, xggInvalidNumber, xecInvalidNumber, xhdInvalidNumber⟩, xo_InvalidNumber, (Kr.exm_self xecInvalidNumber xicInvalidNumber xtyInvalidNumber xseInvalidNumber), ⟨xgaInvalidTime, xggInvalidTime, xecInvalidTime, xhdInvalidTime⟩, xo_InvalidTime, (Kr.exm_self xecInvalidTime xicInvalidTime xtyInvalidTime xseInvalidTime), ⟨xgaInvalidArchive, xggInvalidArchive, xecInvalidArchive, xhdInvalidArchive⟩, xo_InvalidArchive, xo2_InvalidArchive, (Kr.exm_self xecInvalidArchive xicInvalidArchive xtyInvalidArchive xseInvalidArchive), ⟨xgaInvalidBound, xggInvalidBound, xecInvalidBound, xhdInvalidBound⟩, xo_InvalidBound, (Kr.exm_self xecInvalidBound xicInvalidBound xtyInvalidBound xseInvalidBound), ⟨xgaLimitExceeded, xggLimitExceeded, xecLimitExceeded, xhdLimitExceeded⟩, xo_LimitExceeded, (Kr.exm_self xecLimitExceeded xicLimitExceeded xtyLimitExceeded xseLimitExceeded), (by obtain ⟨S, h1, h2, h3, h4⟩ := xbs; exact ⟨S, PySem.W.mg_of X G h1, ⟨h2, h3⟩, h4⟩), PySem.W.mg_of X G xaInvalidScheme, PySem.W.mg_of X G xaInvalidNumber, PySem.W.mg_of X G xaInvalidTime, PySem.W.mg_of X G xaInvalidArchive, PySem.W.mg_of X G xaInvalidBound, PySem.W.mg_of X G xaLimitExceeded, PySem.W.mg_of X G xaSnapError, ⟨xgaInvalidScheme, xggInvalidScheme, xecInvalidScheme, xhdInvalidScheme, xcaInvalidScheme, xcn, xct, xcmInvalidScheme⟩, (Kr.ki_ref xicInvalidScheme xtyInvalidScheme xseInvalidScheme xseInvalidScheme), (Kr.ki_ref xicInvalidNumber xtyInvalidNumber su_InvalidScheme_InvalidNumber xseInvalidScheme), (Kr.ki_ref xicInvalidTime xtyInvalidTime su_InvalidScheme_InvalidTime xseInvalidScheme), (Kr.ki_ref xicInvalidArchive xtyInvalidArchive su_InvalidScheme_InvalidArchive xseInvalidScheme), (Kr.ki_ref xicInvalidBound xtyInvalidBound su_InvalidScheme_InvalidBound xseInvalidScheme), (Kr.ki_ref xicLimitExceeded xtyLimitExceeded su_InvalidScheme_LimitExceeded xseInvalidScheme), (Kr.ki_ty (by decide +kernel) su_InvalidScheme_A), (Kr.ki_ref xicSnapError xtySnapError su_InvalidScheme_SnapError xseInvalidScheme), (PySem.W.exm_ref xecSnapError xhdSnapError xtySnapError su_InvalidScheme_SnapError), ⟨xgaInvalidNumber, xggInvalidNumber, xecInvalidNumber, xhdInvalidNumber, xcaInvalidNumber, xcn, xct, xcmInvalidNumber⟩, (Kr.ki_ref xicInvalidScheme xtyInvalidScheme su_InvalidNumber_InvalidScheme xseInvalidNumber), (Kr.ki_ref xicInvalidNumber xtyInvalidNumber xseInvalidNumber xseInvalidNumber), (Kr.ki_ref xicInvalidTime xtyInvalidTime su_InvalidNumber_InvalidTime xseInvalidNumber), (Kr.ki_ref xicInvalidArchive xtyInvalidArchive su_InvalidNumber_InvalidArchive xseInvalidNumber), (Kr.ki_ref xicInvalidBound xtyInvalidBound su_InvalidNumber_InvalidBound xseInvalidNumber), (Kr.ki_ref xicLimitExceeded xtyLimitExceeded su_InvalidNumber_LimitExceeded xseInvalidNumber), (Kr.ki_ty (by decide +kernel) su_InvalidNumber_A), (Kr.ki_ref xicSnapError xtySnapError su_InvalidNumber_SnapError xseInvalidNumber), (PySem.W.exm_ref xecSnapError xhdSnapError xtySnapError su_InvalidNumber_SnapError), ⟨xgaInvalidTime, xggInvalidTime, xecInvalidTime, xhdInvalidTime, xcaInvalidTime, xcn, xct, xcmInvalidTime⟩, (Kr.ki_ref xicInvalidScheme xtyInvalidScheme su_InvalidTime_InvalidScheme xseInvalidTime), (Kr.ki_ref xicInvalidNumber xtyInvalidNumber su_InvalidTime_InvalidNumber xseInvalidTime), (Kr.ki_ref xicInvalidTime xtyInvalidTime xseInvalidTime xseInvalidTime), (Kr.ki_ref xicInvalidArchive xtyInvalidArchive su_InvalidTime_InvalidArchive xseInvalidTime), (Kr.ki_ref xicInvalidBound xtyInvalidBound su_InvalidTime_InvalidBound xseInvalidTime), (Kr.ki_ref xicLimitExceeded xtyLimitExceeded su_InvalidTime_LimitExceeded xseInvalidTime), (Kr.ki_ty (by decide +kernel) su_InvalidTime_A), (Kr.ki_ref xicSnapError xtySnapError su_InvalidTime_SnapError xseInvalidTime), (PySem.W.exm_ref xecSnapError xhdSnapError xtySnapError su_InvalidTime_SnapError), ⟨xgaInvalidArchive, xggInvalidArchive, xecInvalidArchive, xhdInvalidArchive, xcaInvalidArchive, xcn, xct, xcmInvalidArchive⟩, (Kr.ki_ref xicInvalidScheme xtyInvalidScheme su_InvalidArchive_InvalidScheme xseInvalidArchive), (Kr.ki_ref xicInvalidNumber xtyInvalidNumber su_InvalidArchive_InvalidNumber xseInvalidArchive), (Kr.ki_ref xicInvalidTime xtyInvalidTime su_InvalidArchive_InvalidTime xseInvalidArchive), (Kr.ki_ref xicInvalidArchive xtyInvalidArchive xseInvalidArchive xseInvalidArchive), (Kr.ki_ref xicInvalidBound xtyInvalidBound su_InvalidArchive_InvalidBound xseInvalidArchive), (Kr.ki_ref xicLimitExceeded xtyLimitExceeded su_InvalidArchive_LimitExceeded xseInvalidArchive), (Kr.ki_ty (by decide +kernel) su_InvalidArchive_A), (Kr.ki_ref xicSnapError xtySnapError su_InvalidArchive_SnapError xseInvalidArchive), (PySem.W.exm_ref xecSnapError xhdSnapError xtySnapError su_InvalidArchive_SnapError), ⟨xgaInvalidBound, xggInvalidBound, xecInvalidBound, xhdInvalidBound, xcaInvalidBound, xcn, xct, xcmInvalidBound⟩, (Kr.ki_ref xicInvalidScheme xtyInvalidScheme su_InvalidBound_InvalidScheme xseInvalidBound), (Kr.ki_ref xicInvalidNumber xtyInvalidNumber su_InvalidBound_InvalidNumber xseInvalidBound), (Kr.ki_ref xicInvalidTime xtyInvalidTime su_InvalidBound_InvalidTime xseInvalidBound), (Kr.ki_ref xicInvalidArchive xtyInvalidArchive su_InvalidBound_InvalidArchive xseInvalidBound), (Kr.ki_ref xicInvalidBound xtyInvalidBound xseInvalidBound xseInvalidBound), (Kr.ki_ref xicLimitExceeded xtyLimitExceeded su_InvalidBound_LimitExceeded xseInvalidBound), (Kr.ki_ty (by decide +kernel) su_InvalidBound_A), (Kr.ki_ref xicSnapError xtySnapError su_InvalidBound_SnapError xseInvalidBound), (PySem.W.exm_ref xecSnapError xhdSnapError xtySnapError su_InvalidBound_SnapError), ⟨xgaLimitExceeded, xggLimitExceeded, xecLimitExceeded, xhdLimitExceeded, xcaLimitExceeded, xcn, xct, xcmLimitExceeded⟩, (Kr.ki_ref xicInvalidScheme xtyInvalidScheme su_LimitExceeded_InvalidScheme xseLimitExceeded), (Kr.ki_ref xicInvalidNumber xtyInvalidNumber su_LimitExceeded_InvalidNumber xseLimitExceeded), (Kr.ki_ref xicInvalidTime xtyInvalidTime su_LimitExceeded_InvalidTime xseLimitExceeded), (Kr.ki_ref xicInvalidArchive xtyInvalidArchive su_LimitExceeded_InvalidArchive xseLimitExceeded), (Kr.ki_ref xicInvalidBound xtyInvalidBound su_LimitExceeded_InvalidBound xseLimitExceeded), (Kr.ki_ref xicLimitExceeded xtyLimitExceeded xseLimitExceeded xseLimitExceeded), (Kr.ki_ty (by decide +kernel) su_LimitExceeded_A), (Kr.ki_ref xicSnapError xtySnapError su_LimitExceeded_SnapError xseLimitExceeded), (PySem.W.exm_ref xecSnapError xhdSnapError xtySnapError su_LimitExceeded_SnapError), f__law_source_of, f__law_next, f__law_one, f_is_integer, f_is_between, (f_InvalidScheme_init (PySem.W.mg_of X G xaInvalidScheme)), (f_Scheme_init (PySem.W.mg_of X G aScheme)), f__law_cell_at, (f_InvalidNumber_init (PySem.W.mg_of X G xaInvalidNumber)), (f_InvalidTime_init (PySem.W.mg_of X G xaInvalidTime)), (f_InvalidArchive_init (PySem.W.mg_of X G xaInvalidArchive)), (f_InvalidBound_init (PySem.W.mg_of X G xaInvalidBound)), (f_LimitExceeded_init (PySem.W.mg_of X G xaLimitExceeded)), f__law_classes, f__law_made_by_hand, f__law_raised, f_check_number, f_Scheme_level, f_Scheme_unit, f_Scheme_parent_of, f_Scheme_parent, f_Scheme_chain, f_Scheme_block, f_Scheme_last_time, f_check_time, f_Scheme_is_kept, f_Scheme_has_in_chain, f_Scheme_eq, f_law⟩
theorem law_at {l : PySem.W.OpenLaw} {w : World} {K : PySem.W.Frag} {mg : Str → Option Value} {h : Heap} {fa : Addr} {CS : Cs} (hfa : mg "law" = some (.ref fa)) (T : Top K mg CS) (nT0 : K.lookup CS.t0 = none) (hc0 : PySem.W.CodeHd h CS.k0 CS.t0 ∧ h.get? CS.t0 = some { cls := .none, data := .fields #[] }) : LamX.LawAtS l w K CX0 66 63 "_law_script" mg fa h := by
  obtain ⟨f, fd, h1, F, hcode⟩ := T.f_law.ex
  have e := hfa.symm.trans h1
  cases e
  have ok := fun (base : Heap) (TB : Tb base mg CS) => ok_law (P := l.prog) (w := w) (base := base) F hcode T TB
  obtain ⟨oc, od, kV, doc, pm, an, cdv, ct, osl, rfl, lk, hcd⟩ := F.ex
  refine ⟨_, [(CS.k0, CS.t0)], sp_law K CS, fun p hp => by
    simp only [List.mem_cons, List.not_mem_nil, or_false] at hp
    subst hp
    exact hc0.2, fun p hp => by
    simp only [List.mem_cons, List.not_mem_nil, or_false] at hp
    subst hp
    exact nT0, fun p hp => by
    simp only [List.mem_cons, List.not_mem_nil, or_false] at hp
    subst hp
    exact hc0.1, fun s v => .of_eq rfl, fun H a ns hl _ hH hS => ⟨a, ns, rfl, hH (CS.k0, CS.t0) (by simp), sq_ne hS (hH (CS.k0, CS.t0) (by simp)) nT0, hS, hl, fun _ => rfl⟩, fun base _ _ hb => ok base ⟨hb (CS.k0, CS.t0) (by simp)⟩⟩
end Sn
open PySem PySem.W PyProof.Rows
set_option maxRecDepth 100000 in
set_option maxHeartbeats 0 in
theorem PySem.Challenge.cw_snapdigits_k05_invalid_schemes_numbers_a_holds : PySem.Challenge.rw_snapdigits_k05_invalid_schemes_numbers_a.Holds := by
  w_on; o_law; k_head; (case hw => w_witness2)
  k_fill
  refine LamX.walk_tabs (l := PySem.Challenge.rw_snapdigits_k05_invalid_schemes_numbers_a) (n := 63) (k := 66) (x := "_law_script") ["law"] rfl (by decide) rfl ⟨rfl, by decide, by decide⟩ (by decide +kernel) (fun w h Y => by first | exact PySem.W.km_in_of Y | exact PySem.W.kIn_of Y) ?F
  case F =>
    intro w mg fa h KX G hmg own
    refine' Sn.law_at hmg (Sn.top_mk KX G ?aScheme ?b_ArithmeticError ?b_all ?b_bool ?b_enumerate ?b_int ?b_isinstance ?b_len ?b_range ?b_repr ?c_MOST_BASE ?c_MOST_FACTOR ?pgScheme ?hdScheme ?poScheme ?saScheme ?n_Scheme_radix ?n_Scheme_multiple ?neaScheme ?nebScheme ?koaScheme ?kobScheme ?isaScheme ?isbScheme ?iscScheme ?isdScheme ?xaInvalidScheme ?xgaInvalidScheme ?xggInvalidScheme ?xecInvalidScheme ?xhdInvalidScheme ?xo_InvalidScheme ?xicInvalidScheme ?xtyInvalidScheme ?xseInvalidScheme ?xaInvalidNumber ?xgaInvalidNumber ?xggInvalidNumber ?xecInvalidNumber ?xhdInvalidNumber ?xo_InvalidNumber ?xicInvalidNumber ?xtyInvalidNumber ?xseInvalidNumber ?xaInvalidTime ?xgaInvalidTime ?xggInvalidTime ?xecInvalidTime ?xhdInvalidTime ?xo_InvalidTime ?xicInvalidTime ?xtyInvalidTime ?xseInvalidTime ?xaInvalidArchive ?xgaInvalidArchive ?xggInvalidArchive ?xecInvalidArchive ?xhdInvalidArchive ?xo_InvalidArchive ?xo2_InvalidArchive ?xicInvalidArchive ?xtyInvalidArchive ?xseInvalidArchive ?xaInvalidBound ?xgaInvalidBound ?xggInvalidBound ?xecInvalidBound ?xhdInvalidBound ?xo_InvalidBound ?xicInvalidBound ?xtyInvalidBound ?xseInvalidBound ?xaLimitExceeded ?xgaLimitExceeded ?xggLimitExceeded ?xecLimitExceeded ?xhdLimitExceeded ?xo_LimitExceeded ?xicLimitExceeded ?xtyLimitExceeded ?xseLimitExceeded ?xbs ?xaSnapError ?xicSnapError ?xtySnapError ?xecSnapError ?xhdSnapError ?xcn ?xct ?xcaInvalidScheme ?xcmInvalidScheme ?su_InvalidScheme_InvalidNumber ?su_InvalidScheme_InvalidTime ?su_InvalidScheme_InvalidArchive ?su_InvalidScheme_InvalidBound ?su_InvalidScheme_LimitExceeded ?su_InvalidScheme_A ?su_InvalidScheme_SnapError ?xcaInvalidNumber ?xcmInvalidNumber ?su_InvalidNumber_InvalidScheme ?su_InvalidNumber_InvalidTime ?su_InvalidNumber_InvalidArchive ?su_InvalidNumber_InvalidBound ?su_InvalidNumber_LimitExceeded ?su_InvalidNumber_A ?su_InvalidNumber_SnapError ?xcaInvalidTime ?xcmInvalidTime ?su_InvalidTime_InvalidScheme ?su_InvalidTime_InvalidNumber ?su_InvalidTime_InvalidArchive ?su_InvalidTime_InvalidBound ?su_InvalidTime_LimitExceeded ?su_InvalidTime_A ?su_InvalidTime_SnapError ?xcaInvalidArchive ?xcmInvalidArchive ?su_InvalidArchive_InvalidScheme ?su_InvalidArchive_InvalidNumber ?su_InvalidArchive_InvalidTime ?su_InvalidArchive_InvalidBound ?su_InvalidArchive_LimitExceeded ?su_InvalidArchive_A ?su_InvalidArchive_SnapError ?xcaInvalidBound ?xcmInvalidBound ?su_InvalidBound_InvalidScheme ?su_InvalidBound_InvalidNumber ?su_InvalidBound_InvalidTime ?su_InvalidBound_InvalidArchive ?su_InvalidBound_LimitExceeded ?su_InvalidBound_A ?su_InvalidBound_SnapError ?xcaLimitExceeded ?xcmLimitExceeded ?su_LimitExceeded_InvalidScheme ?su_LimitExceeded_InvalidNumber ?su_LimitExceeded_InvalidTime ?su_LimitExceeded_InvalidArchive ?su_LimitExceeded_InvalidBound ?su_LimitExceeded_A ?su_LimitExceeded_SnapError ?f__law_source_of ?f__law_next ?f__law_one ?f_is_integer ?f_is_between ?f_InvalidScheme_init ?f_Scheme_init ?f__law_cell_at ?f_InvalidNumber_init ?f_InvalidTime_init ?f_InvalidArchive_init ?f_InvalidBound_init ?f_LimitExceeded_init ?f__law_classes ?f__law_made_by_hand ?f__law_raised ?f_check_number ?f_Scheme_level ?f_Scheme_unit ?f_Scheme_parent_of ?f_Scheme_parent ?f_Scheme_chain ?f_Scheme_block ?f_Scheme_last_time ?f_check_time ?f_Scheme_is_kept ?f_Scheme_has_in_chain ?f_Scheme_eq ?f_law) ?nT0 (own "law" (by simp) _ _ ?tq0)
    (case aScheme => (k_is))
    (case b_ArithmeticError => (k_is))
    (case b_all => (k_is))
    (case b_bool => (k_is))
    (case b_enumerate => (k_is))
    (case b_int => (k_is))
    (case b_isinstance => (k_is))
    (case b_len => (k_is))
    (case b_range => (k_is))
    (case b_repr => (k_is))
    (case c_MOST_BASE => (exact ⟨_, by k_is⟩))
    (case c_MOST_FACTOR => (exact ⟨_, by k_is⟩))
    (case pgScheme => (k_is))
    (case hdScheme => (k_is))
    (case poScheme => (k_is))
    (case saScheme => (k_is))
    (case n_Scheme_radix => (k_is))
    (case n_Scheme_multiple => (k_is))
    (case neaScheme => (k_is))
    (case nebScheme => (k_is))
    (case koaScheme => (k_is))
    (case kobScheme => (k_is))
    (case isaScheme => (k_is))
    (case isbScheme => (k_is))
    (case iscScheme => (k_is))
    (case isdScheme => (k_is))
    (case xaInvalidScheme => (k_is))
    (case xgaInvalidScheme => (k_is))
    (case xggInvalidScheme => (k_is))
    (case xecInvalidScheme => (k_is))
    (case xhdInvalidScheme => (k_is))
    (case xo_InvalidScheme => (k_is))
    (case xicInvalidScheme => (k_is))
    (case xtyInvalidScheme => (k_is))
    (case xseInvalidScheme => (first | rfl | k_is))
    (case xaInvalidNumber => (k_is))
    (case xgaInvalidNumber => (k_is))
    (case xggInvalidNumber => (k_is))
    (case xecInvalidNumber => (k_is))
    (case xhdInvalidNumber => (k_is))
    (case xo_InvalidNumber => (k_is))
    (case xicInvalidNumber => (k_is))
    (case xtyInvalidNumber => (k_is))
    (case xseInvalidNumber => (first | rfl | k_is))
    (case xaInvalidTime => (k_is))
    (case xgaInvalidTime => (k_is))
    (case xggInvalidTime => (k_is))
    (case xecInvalidTime => (k_is))
    (case xhdInvalidTime => (k_is))
    (case xo_InvalidTime => (k_is))
    (case xicInvalidTime => (k_is))
    (case xtyInvalidTime => (k_is))
    (case xseInvalidTime => (first | rfl | k_is))
    (case xaInvalidArchive => (k_is))
    (case xgaInvalidArchive => (k_is))
    (case xggInvalidArchive => (k_is))
    (case xecInvalidArchive => (k_is))
    (case xhdInvalidArchive => (k_is))
    (case xo_InvalidArchive => (k_is))
    (case xo2_InvalidArchive => (k_is))
    (case xicInvalidArchive => (k_is))
    (case xtyInvalidArchive => (k_is))
    (case xseInvalidArchive => (first | rfl | k_is))
    (case xaInvalidBound => (k_is))
    (case xgaInvalidBound => (k_is))
    (case xggInvalidBound => (k_is))
    (case xecInvalidBound => (k_is))
    (case xhdInvalidBound => (k_is))
    (case xo_InvalidBound => (k_is))
    (case xicInvalidBound => (k_is))
    (case xtyInvalidBound => (k_is))
    (case xseInvalidBound => (first | rfl | k_is))
    (case xaLimitExceeded => (k_is))
    (case xgaLimitExceeded => (k_is))
    (case xggLimitExceeded => (k_is))
    (case xecLimitExceeded => (k_is))
    (case xhdLimitExceeded => (k_is))
    (case xo_LimitExceeded => (k_is))
    (case xicLimitExceeded => (k_is))
    (case xtyLimitExceeded => (k_is))
    (case xseLimitExceeded => (first | rfl | k_is))
    (case xbs => (exact ⟨_, by k_is, by k_is, by k_is, by k_is⟩))
    (case xaSnapError => (k_is))
    (case xicSnapError => (k_is))
    (case xtySnapError => (k_is))
    (case xecSnapError => (k_is))
    (case xhdSnapError => (k_is))
    (case xcn => (k_is))
    (case xct => (k_is))
    (case xcaInvalidScheme => (k_is))
    (case xcmInvalidScheme => (k_is))
    (case su_InvalidScheme_InvalidNumber => (first | rfl | k_is))
    (case su_InvalidScheme_InvalidTime => (first | rfl | k_is))
    (case su_InvalidScheme_InvalidArchive => (first | rfl | k_is))
    (case su_InvalidScheme_InvalidBound => (first | rfl | k_is))
    (case su_InvalidScheme_LimitExceeded => (first | rfl | k_is))
    (case su_InvalidScheme_A => (first | rfl | k_is))
    (case su_InvalidScheme_SnapError => (first | rfl | k_is))
    (case xcaInvalidNumber => (k_is))
    (case xcmInvalidNumber => (k_is))
    (case su_InvalidNumber_InvalidScheme => (first | rfl | k_is))
    (case su_InvalidNumber_InvalidTime => (first | rfl | k_is))
    (case su_InvalidNumber_InvalidArchive => (first | rfl | k_is))
    (case su_InvalidNumber_InvalidBound => (first | rfl | k_is))
    (case su_InvalidNumber_LimitExceeded => (first | rfl | k_is))
    (case su_InvalidNumber_A => (first | rfl | k_is))
    (case su_InvalidNumber_SnapError => (first | rfl | k_is))
    (case xcaInvalidTime => (k_is))
    (case xcmInvalidTime => (k_is))
    (case su_InvalidTime_InvalidScheme => (first | rfl | k_is))
    (case su_InvalidTime_InvalidNumber => (first | rfl | k_is))
    (case su_InvalidTime_InvalidArchive => (first | rfl | k_is))
    (case su_InvalidTime_InvalidBound => (first | rfl | k_is))
    (case su_InvalidTime_LimitExceeded => (first | rfl | k_is))
    (case su_InvalidTime_A => (first | rfl | k_is))
    (case su_InvalidTime_SnapError => (first | rfl | k_is))
    (case xcaInvalidArchive => (k_is))
    (case xcmInvalidArchive => (k_is))
    (case su_InvalidArchive_InvalidScheme => (first | rfl | k_is))
    (case su_InvalidArchive_InvalidNumber => (first | rfl | k_is))
    (case su_InvalidArchive_InvalidTime => (first | rfl | k_is))
    (case su_InvalidArchive_InvalidBound => (first | rfl | k_is))
    (case su_InvalidArchive_LimitExceeded => (first | rfl | k_is))
    (case su_InvalidArchive_A => (first | rfl | k_is))
    (case su_InvalidArchive_SnapError => (first | rfl | k_is))
    (case xcaInvalidBound => (k_is))
    (case xcmInvalidBound => (k_is))
    (case su_InvalidBound_InvalidScheme => (first | rfl | k_is))
    (case su_InvalidBound_InvalidNumber => (first | rfl | k_is))
    (case su_InvalidBound_InvalidTime => (first | rfl | k_is))
    (case su_InvalidBound_InvalidArchive => (first | rfl | k_is))
    (case su_InvalidBound_LimitExceeded => (first | rfl | k_is))
    (case su_InvalidBound_A => (first | rfl | k_is))
    (case su_InvalidBound_SnapError => (first | rfl | k_is))
    (case xcaLimitExceeded => (k_is))
    (case xcmLimitExceeded => (k_is))
    (case su_LimitExceeded_InvalidScheme => (first | rfl | k_is))
    (case su_LimitExceeded_InvalidNumber => (first | rfl | k_is))
    (case su_LimitExceeded_InvalidTime => (first | rfl | k_is))
    (case su_LimitExceeded_InvalidArchive => (first | rfl | k_is))
    (case su_LimitExceeded_InvalidBound => (first | rfl | k_is))
    (case su_LimitExceeded_A => (first | rfl | k_is))
    (case su_LimitExceeded_SnapError => (first | rfl | k_is))
    (case f__law_source_of => (refine' Kr.topFn_mk KX G ?a ?l ?c ?k; (case a => k_is); (case l => k_is); (case c => k_is); (case k => k_is)))
    (case f__law_next => (refine' Kr.topFn_mk KX G ?a ?l ?c ?k; (case a => k_is); (case l => k_is); (case c => k_is); (case k => k_is)))
    (case f__law_one => (refine' Kr.topFn_mk KX G ?a ?l ?c ?k; (case a => k_is); (case l => k_is); (case c => k_is); (case k => k_is)))
    (case f_is_integer => (refine' Kr.topFn_mk KX G ?a ?l ?c ?k; (case a => k_is); (case l => k_is); (case c => k_is); (case k => k_is)))
    (case f_is_between => (refine' Kr.topFn_mk KX G ?a ?l ?c ?k; (case a => k_is); (case l => k_is); (case c => k_is); (case k => k_is)))
    (case f_InvalidScheme_init => (intro hC; refine' Kr.excFn_mk hC ?xl ?sa ?eC ?tC ?kC ?a ?t ?l ?c ?k; (case xl => k_is); (case sa => k_is); (case eC => k_is); (case tC => k_is); (case kC => k_is); (case a => k_is); (case t => k_is); (case l => k_is); (case c => k_is); (case k => k_is)))
    (case f_Scheme_init => (intro hC; refine' Kr.initFn_mk hC ?m ?kc ?a ?i ?l ?c ?k; (case m => k_is); (case kc => k_is); (case a => k_is); (case i => k_is); (case l => k_is); (case c => k_is); (case k => k_is)))
    (case f__law_cell_at => (refine' Kr.topFn_mk KX G ?a ?l ?c ?k; (case a => k_is); (case l => k_is); (case c => k_is); (case k => k_is)))
    (case f_InvalidNumber_init => (intro hC; refine' Kr.excFn_mk hC ?xl ?sa ?eC ?tC ?kC ?a ?t ?l ?c ?k; (case xl => k_is); (case sa => k_is); (case eC => k_is); (case tC => k_is); (case kC => k_is); (case a => k_is); (case t => k_is); (case l => k_is); (case c => k_is); (case k => k_is)))
    (case f_InvalidTime_init => (intro hC; refine' Kr.excFn_mk hC ?xl ?sa ?eC ?tC ?kC ?a ?t ?l ?c ?k; (case xl => k_is); (case sa => k_is); (case eC => k_is); (case tC => k_is); (case kC => k_is); (case a => k_is); (case t => k_is); (case l => k_is); (case c => k_is); (case k => k_is)))
    (case f_InvalidArchive_init => (intro hC; refine' Kr.excFn_mk hC ?xl ?sa ?eC ?tC ?kC ?a ?t ?l ?c ?k; (case xl => k_is); (case sa => k_is); (case eC => k_is); (case tC => k_is); (case kC => k_is); (case a => k_is); (case t => k_is); (case l => k_is); (case c => k_is); (case k => k_is)))
    (case f_InvalidBound_init => (intro hC; refine' Kr.excFn_mk hC ?xl ?sa ?eC ?tC ?kC ?a ?t ?l ?c ?k; (case xl => k_is); (case sa => k_is); (case eC => k_is); (case tC => k_is); (case kC => k_is); (case a => k_is); (case t => k_is); (case l => k_is); (case c => k_is); (case k => k_is)))
    (case f_LimitExceeded_init => (intro hC; refine' Kr.excFn_mk hC ?xl ?sa ?eC ?tC ?kC ?a ?t ?l ?c ?k; (case xl => k_is); (case sa => k_is); (case eC => k_is); (case tC => k_is); (case kC => k_is); (case a => k_is); (case t => k_is); (case l => k_is); (case c => k_is); (case k => k_is)))
    (case f__law_classes => (refine' Kr.topFn_mk KX G ?a ?l ?c ?k; (case a => k_is); (case l => k_is); (case c => k_is); (case k => k_is)))
    (case f__law_made_by_hand => (refine' Kr.topFn_mk KX G ?a ?l ?c ?k; (case a => k_is); (case l => k_is); (case c => k_is); (case k => k_is)))
    (case f__law_raised => (refine' Kr.topFn_mk KX G ?a ?l ?c ?k; (case a => k_is); (case l => k_is); (case c => k_is); (case k => k_is)))
    (case f_check_number => (refine' Kr.topFn_mk KX G ?a ?l ?c ?k; (case a => k_is); (case l => k_is); (case c => k_is); (case k => k_is)))
    (case f_Scheme_level => (refine' Kr.methFn_mk ?a ?i ?l ?c ?k; (case a => k_is); (case i => k_is); (case l => k_is); (case c => k_is); (case k => k_is)))
    (case f_Scheme_unit => (refine' Kr.methFn_mk ?a ?i ?l ?c ?k; (case a => k_is); (case i => k_is); (case l => k_is); (case c => k_is); (case k => k_is)))
    (case f_Scheme_parent_of => (refine' Kr.methFn_mk ?a ?i ?l ?c ?k; (case a => k_is); (case i => k_is); (case l => k_is); (case c => k_is); (case k => k_is)))
    (case f_Scheme_parent => (refine' Kr.methFn_mk ?a ?i ?l ?c ?k; (case a => k_is); (case i => k_is); (case l => k_is); (case c => k_is); (case k => k_is)))
    (case f_Scheme_chain => (refine' Kr.methFn_mk ?a ?i ?l ?c ?k; (case a => k_is); (case i => k_is); (case l => k_is); (case c => k_is); (case k => k_is)))
    (case f_Scheme_block => (refine' Kr.methFn_mk ?a ?i ?l ?c ?k; (case a => k_is); (case i => k_is); (case l => k_is); (case c => k_is); (case k => k_is)))
    (case f_Scheme_last_time => (refine' Kr.methFn_mk ?a ?i ?l ?c ?k; (case a => k_is); (case i => k_is); (case l => k_is); (case c => k_is); (case k => k_is)))
    (case f_check_time => (refine' Kr.topFn_mk KX G ?a ?l ?c ?k; (case a => k_is); (case l => k_is); (case c => k_is); (case k => k_is)))
    (case f_Scheme_is_kept => (refine' Kr.methFn_mk ?a ?i ?l ?c ?k; (case a => k_is); (case i => k_is); (case l => k_is); (case c => k_is); (case k => k_is)))
    (case f_Scheme_has_in_chain => (refine' Kr.methFn_mk ?a ?i ?l ?c ?k; (case a => k_is); (case i => k_is); (case l => k_is); (case c => k_is); (case k => k_is)))
    (case f_Scheme_eq => (refine' Kr.methFn_mk ?a ?i ?l ?c ?k; (case a => k_is); (case i => k_is); (case l => k_is); (case c => k_is); (case k => k_is)))
    (case f_law => (refine' Kr.topFnT_mk KX G ?a ?l ?c ?k; (case a => k_is); (case l => k_is); (case c => k_is); (case k => k_is)))
    (case tq0 => (refine' Kr.tabIn_mk ?a ?b ?cc ?dd ?ee; (case a => k_is); (case b => k_is); (case cc => rfl); (case dd => k_is); (case ee => rfl)))
    (case nT0 => (first | rfl | (with_unfolding_all rfl) | decide +kernel))
#print axioms PySem.Challenge.cw_snapdigits_k05_invalid_schemes_numbers_a_holds
