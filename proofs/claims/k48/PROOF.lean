import PyProof.Rows.All
import Wide.All
import OpenK.AllK
import Wide.FinOn
import PyProof.GenCompD
import PyProof.WalksMore
import PyProof.SumAny
import HandS.ForMost
import HandS.AnyAll
import HandS.IsInst
import HandS.Nested
import HandS.TupAny
import HandS.TupMul
import HandS.Gcd
import HandS.Wide
import HandS.Conv
import HandS.Sort
import HandS.EndOwn
import PySem.Challenge.RW_damworks_k48_across_yields_and_storages
set_option Elab.async false
set_option linter.all false
set_option maxRecDepth 100000
set_option maxHeartbeats 4000000
namespace K48
/-! ### ratios in lowest terms -/
structure RatOf (t bot a b : Int) : Prop where
  pos : 0 < b
  le : b ≤ bot
  eq : a * bot = t * b
  cop : Int.gcd a b = 1
theorem gcd_pos {t b : Int} (hb : 0 < b) : 0 < ((Nat.gcd t.natAbs b.natAbs : Nat) : Int) := by
  have h : 0 < Nat.gcd t.natAbs b.natAbs := Nat.gcd_pos_of_pos_right _ (by omega)
  omega
theorem gcd_le {t b : Int} (hb : 0 < b) : ((Nat.gcd t.natAbs b.natAbs : Nat) : Int) ≤ b := by
  have h : Nat.gcd t.natAbs b.natAbs ≤ b.natAbs := Nat.gcd_le_right _ (by omega)
  omega
theorem rat_of {t b : Int} (hb : 0 < b) : RatOf t b (t / ((Nat.gcd t.natAbs b.natAbs : Nat) : Int)) (b / ((Nat.gcd t.natAbs b.natAbs : Nat) : Int)) := by
  have hg := gcd_pos (t := t) hb
  generalize hG : ((Nat.gcd t.natAbs b.natAbs : Nat) : Int) = g at hg
  have d1 : g ∣ t := by
    rw [← hG]
    exact Int.gcd_dvd_left (a := t) (b := b)
  have d2 : g ∣ b := by
    rw [← hG]
    exact Int.gcd_dvd_right (a := t) (b := b)
  have e1 : t / g * g = t := Int.ediv_mul_cancel d1
  have e2 : b / g * g = b := Int.ediv_mul_cancel d2
  refine ⟨?_, ?_, ?_, ?_⟩
  · rcases Int.lt_or_le 0 (b / g) with h | h
    · exact h
    · have := Int.mul_le_mul_of_nonneg_right h (Int.le_of_lt hg)
      rw [e2] at this
      omega
  · exact Int.ediv_le_self _ (Int.le_of_lt hb)
  · calc t / g * b = t / g * (b / g * g) := by rw [e2]
      _ = t / g * g * (b / g) := by rw [Int.mul_comm (b / g) g, Int.mul_assoc]
      _ = t * (b / g) := by rw [e1]
  · have h0 : 0 < Int.gcd t b := by
      show 0 < Nat.gcd t.natAbs b.natAbs
      omega
    have hG2 : ((Int.gcd t b : Nat) : Int) = g := hG
    have := Int.gcd_ediv_gcd_ediv_gcd (i := t) (j := b) h0
    rw [hG2] at this
    exact this
theorem dvd_cop {k m n : Int} (h : k ∣ m * n) (hc : Int.gcd k m = 1) : k ∣ n := by
  rw [← Int.natAbs_dvd_natAbs, Int.natAbs_mul] at h
  rw [← Int.natAbs_dvd_natAbs]
  exact Nat.Coprime.dvd_of_dvd_mul_left hc h
/-- a fraction in lowest terms is one alone -/
theorem low_unique {a b c d : Int} (hb : 0 < b) (hd : 0 < d) (h1 : Int.gcd a b = 1) (h2 : Int.gcd c d = 1) (e : a * d = c * b) : a = c ∧ b = d := by
  have hbd : b ∣ d := by
    have h : b ∣ a * d := ⟨c, by rw [e, Int.mul_comm]⟩
    have hc : Int.gcd b a = 1 := by rw [Int.gcd_comm]; exact h1
    exact dvd_cop h hc
  have hdb : d ∣ b := by
    have h : d ∣ c * b := ⟨a, by rw [← e, Int.mul_comm]⟩
    have hc : Int.gcd d c = 1 := by rw [Int.gcd_comm]; exact h2
    rw [Int.mul_comm] at h
    exact dvd_cop (by rw [Int.mul_comm]; exact h) hc
  have hbe : b = d := Int.dvd_antisymm (Int.le_of_lt hb) (Int.le_of_lt hd) hbd hdb
  subst hbe
  exact ⟨Int.eq_of_mul_eq_mul_right (by omega) e, rfl⟩
/-- one ratio is smaller -/
def rless (x y : Int × Int) : Prop := x.1 * y.2 < y.1 * x.2
/-- the least of some fractions w / d -/
structure Least (W : Int → Int → Prop) (p q : Int) : Prop where
  pos : 0 < q
  cop : Int.gcd p q = 1
  all : ∀ w d, W w d → p * d ≤ w * q
  one : ∃ w d, W w d ∧ p * d = w * q
/-- D / 1 is not above the least exactly if it is above none -/
theorem Least.ge {W : Int → Int → Prop} {p q D : Int} (L : Least W p q) (hd : ∀ w d, W w d → 0 < d) : (D * q ≤ p) ↔ ∀ w d, W w d → D * d ≤ w := by
  have hq := L.pos
  constructor
  · intro h w d hx
    have h1 : D * q * d ≤ p * d := Int.mul_le_mul_of_nonneg_right h (Int.le_of_lt (hd w d hx))
    have h2 := L.all w d hx
    have h3 : (D * d) * q ≤ w * q := by
      have e : (D * d) * q = D * q * d := by rw [Int.mul_assoc, Int.mul_comm d q, ← Int.mul_assoc]
      rw [e]
      omega
    exact Int.le_of_mul_le_mul_right h3 hq
  · intro h
    obtain ⟨w, d, hx, e⟩ := L.one
    have hx2 := hd w d hx
    have h1 := h w d hx
    have h2 : D * d * q ≤ w * q := Int.mul_le_mul_of_nonneg_right h1 (Int.le_of_lt hq)
    rw [← e] at h2
    have e2 : D * d * q = D * q * d := by rw [Int.mul_assoc, Int.mul_comm d q, ← Int.mul_assoc]
    rw [e2] at h2
    exact Int.le_of_mul_le_mul_right h2 hx2
/-- all divisors times s: the least is s times smaller -/
theorem Least.scale {W W' : Int → Int → Prop} {p q p' q' s : Int} (hs : 0 < s) (hd : ∀ w d, W w d → 0 < d) (L : Least W p q) (L' : Least W' p' q') (h1 : ∀ w d, W w d → W' w (d * s)) (h2 : ∀ w d, W' w d → ∃ e, W w e ∧ d = e * s) : s * p' * q = p * q' := by
  have hq := L.pos
  have hq' := L'.pos
  obtain ⟨w, d, hx, e⟩ := L.one
  obtain ⟨w', d', hy', e'⟩ := L'.one
  obtain ⟨d'', hy, rfl⟩ := h2 w' d' hy'
  have ax := L'.all w (d * s) (h1 w d hx)
  have ay := L.all w' d'' hy
  have dx := hd w d hx
  have dy := hd w' d'' hy
  apply Int.le_antisymm
  · have h1 : p' * (d * s) * q ≤ w * q' * q := Int.mul_le_mul_of_nonneg_right ax (Int.le_of_lt hq)
    have e1 : p' * (d * s) * q = (s * p' * q) * d := by
      simp only [Int.mul_assoc, Int.mul_comm, Int.mul_left_comm]
    have e2 : w * q' * q = (p * q') * d := by
      have : w * q' * q = (w * q) * q' := by simp only [Int.mul_assoc, Int.mul_comm, Int.mul_left_comm]
      rw [this, ← e]
      simp only [Int.mul_assoc, Int.mul_comm, Int.mul_left_comm]
    rw [e1, e2] at h1
    exact Int.le_of_mul_le_mul_right h1 dx
  · have h1 : p * d'' * q' ≤ w' * q * q' := Int.mul_le_mul_of_nonneg_right ay (Int.le_of_lt hq')
    have e1 : w' * q * q' = (s * p' * q) * d'' := by
      have : w' * q * q' = (w' * q') * q := by simp only [Int.mul_assoc, Int.mul_comm, Int.mul_left_comm]
      rw [this, ← e']
      simp only [Int.mul_assoc, Int.mul_comm, Int.mul_left_comm]
    have e2 : p * d'' * q' = (p * q') * d'' := by simp only [Int.mul_assoc, Int.mul_comm, Int.mul_left_comm]
    rw [e1, e2] at h1
    exact Int.le_of_mul_le_mul_right h1 dy
/-- .. and the reduced product is the ratio itself -/
theorem Least.by_eq {W W' : Int → Int → Prop} {p q p' q' s a b : Int} (hs : 0 < s) (hd : ∀ w d, W w d → 0 < d) (L : Least W p q) (L' : Least W' p' q') (h1 : ∀ w d, W w d → W' w (d * s)) (h2 : ∀ w d, W' w d → ∃ e, W w e ∧ d = e * s)
    (R : RatOf (s * p') (1 * q') a b) : a = p ∧ b = q := by
  have e := Least.scale hs hd L L' h1 h2
  refine low_unique R.pos L.pos R.cop L.cop ?_
  have h1 : a * q' = s * p' * b := by
    have := R.eq
    rw [Int.one_mul] at this
    exact this
  have hq' := L'.pos
  have h2 : (a * q) * q' = (p * b) * q' := by
    calc (a * q) * q' = (a * q') * q := by simp only [Int.mul_assoc, Int.mul_comm, Int.mul_left_comm]
      _ = s * p' * b * q := by rw [h1]
      _ = (s * p' * q) * b := by simp only [Int.mul_assoc, Int.mul_comm, Int.mul_left_comm]
      _ = p * q' * b := by rw [e]
      _ = (p * b) * q' := by simp only [Int.mul_assoc, Int.mul_comm, Int.mul_left_comm]
  exact Int.eq_of_mul_eq_mul_right (by omega) h2
/-- the least of some ratios in lowest terms, each of a w / d, is the least of the w / d -/
theorem least_of_rats {α : Type} {W : Int → Int → Prop} {Z : List (α × Int × Int)} (hd : ∀ w d, W w d → 0 < d) (h1 : ∀ z ∈ Z, ∃ w d, W w d ∧ RatOf w d z.2.1 z.2.2) (h2 : ∀ w d, W w d → ∃ z ∈ Z, RatOf w d z.2.1 z.2.2)
    {r : α × Int × Int} (hr : r ∈ Z) (hm : ∀ y ∈ Z, r.2.1 * y.2.2 ≤ y.2.1 * r.2.2) : Least W r.2.1 r.2.2 := by
  obtain ⟨w, d, hW, R⟩ := h1 r hr
  refine ⟨R.pos, R.cop, fun w' d' hW' => ?_, ⟨w, d, hW, R.eq⟩⟩
  obtain ⟨y, hy, Ry⟩ := h2 w' d' hW'
  have h3 := hm y hy
  have h4 : r.2.1 * y.2.2 * d' ≤ y.2.1 * r.2.2 * d' := Int.mul_le_mul_of_nonneg_right h3 (Int.le_of_lt (hd _ _ hW'))
  have e1 : y.2.1 * r.2.2 * d' = (w' * r.2.2) * y.2.2 := by
    calc y.2.1 * r.2.2 * d' = (y.2.1 * d') * r.2.2 := by simp only [Int.mul_assoc, Int.mul_comm, Int.mul_left_comm]
      _ = w' * y.2.2 * r.2.2 := by rw [Ry.eq]
      _ = (w' * r.2.2) * y.2.2 := by simp only [Int.mul_assoc, Int.mul_comm, Int.mul_left_comm]
  have e2 : r.2.1 * y.2.2 * d' = (r.2.1 * d') * y.2.2 := by simp only [Int.mul_assoc, Int.mul_comm, Int.mul_left_comm]
  rw [e1, e2] at h4
  exact Int.le_of_mul_le_mul_right h4 Ry.pos
/-- one step of the search for the least -/
theorem le_trans_rat {a b c : Int × Int} (ha : 0 < a.2) (hb : 0 < b.2) (hc : 0 < c.2) (h1 : a.1 * b.2 ≤ b.1 * a.2) (h2 : b.1 * c.2 ≤ c.1 * b.2) : a.1 * c.2 ≤ c.1 * a.2 := by
  have h3 : a.1 * b.2 * c.2 ≤ b.1 * a.2 * c.2 := Int.mul_le_mul_of_nonneg_right h1 (Int.le_of_lt hc)
  have h4 : b.1 * c.2 * a.2 ≤ c.1 * b.2 * a.2 := Int.mul_le_mul_of_nonneg_right h2 (Int.le_of_lt ha)
  have e1 : b.1 * a.2 * c.2 = b.1 * c.2 * a.2 := by simp only [Int.mul_assoc, Int.mul_comm, Int.mul_left_comm]
  have h5 : (a.1 * c.2) * b.2 ≤ (c.1 * a.2) * b.2 := by
    have e2 : (a.1 * c.2) * b.2 = a.1 * b.2 * c.2 := by simp only [Int.mul_assoc, Int.mul_comm, Int.mul_left_comm]
    have e3 : (c.1 * a.2) * b.2 = c.1 * b.2 * a.2 := by simp only [Int.mul_assoc, Int.mul_comm, Int.mul_left_comm]
    rw [e2, e3]
    omega
  exact Int.le_of_mul_le_mul_right h5 hb
end K48

/-! K48: generator expressions over tuples, lists, ranges, as the argument of all, sum. -/
namespace K48
open PySem PySem.Spec PyProof.Rows L2
/-- what pyIter of a value does: one iterator, laid at the next address -/
structure Src (prog : Program) (w : World) (s1 : Shared) (xv : Value) (P : Addr) (n : Nat) (Pi : Nat → Value → Prop) : Prop where
  run : ∀ (A : Around) (E : Value → Shared → Prop) (Q : Value → Shared → Prop),
    (∀ (o : Obj) (fp : List Addr) (St : Nat → Heap → Prop), (∀ A' : Around, A'.handled = none → Walks prog w A' s1.heap.objs.size fp [s1.heap.objs.size] n Pi St) →
      (∀ b ∈ fp, b ≤ s1.heap.objs.size) → P ∉ fp → St 0 (s1.heap.push o) → Q (.ref s1.heap.objs.size) { s1 with heap := s1.heap.push o }) →
    wpAny (model prog w) A (pyIter xv) Q E s1
section
variable {prog : Program} {w : World} {s1 : Shared} {P : Addr}
theorem fields_ne_seq {h : Heap} {P a : Addr} {ps its : Array Value} {n : Nat} {o o' : Obj} (e : h.get? P = some o) (d : o.data = .fields ps) (e' : h.get? a = some o') (d' : o'.data = .seq its n) : a ≠ P := by
  intro z
  rw [z, e] at e'
  cases e'
  rw [d] at d'
  cases d'
theorem src_tuple {a : Addr} {items : Array Value} {oP : Obj} {ps : Array Value} (hP : s1.heap.get? P = some oP) (hd : oP.data = .fields ps) (ht : s1.heap.IsTuple a items) : Src prog w s1 (.ref a) P items.size (fun i v => items[i]? = some v) := by
  refine ⟨fun A E Q h => wpAny_pyIter_tuple ht ?_⟩
  obtain ⟨o', e', hc', n', hd'⟩ := id ht
  have hlt : a < s1.heap.objs.size := Heap.lt_size e'
  have hPlt : P < s1.heap.objs.size := Heap.lt_size hP
  refine h _ [s1.heap.objs.size, a] _ (fun A' hA => Walks.tuple hA _ _ (Nat.ne_of_lt hlt) items) (fun b hb => ?_) (fun hb => ?_) ⟨⟨_, Heap.get?_push_size _ rfl, rfl, rfl⟩, ht.push _⟩
  · rcases List.mem_cons.mp hb with z | z
    · exact Nat.le_of_eq z
    · rcases List.mem_cons.mp z with z | z
      · rw [z]
        exact Nat.le_of_lt hlt
      · cases z
  · rcases List.mem_cons.mp hb with z | z
    · rw [z] at hPlt
      exact Nat.lt_irrefl _ hPlt
    · rcases List.mem_cons.mp z with z | z
      · exact fields_ne_seq hP hd e' hd' z.symm
      · cases z
theorem src_list {a : Addr} {items : Array Value} {oP : Obj} {ps : Array Value} (hP : s1.heap.get? P = some oP) (hd : oP.data = .fields ps) (ht : s1.heap.IsList a items) : Src prog w s1 (.ref a) P items.size (fun i v => items[i]? = some v) := by
  refine ⟨fun A E Q h => wpAny_pyIter_list ht ?_⟩
  obtain ⟨o', e', hc', n', hd'⟩ := id ht
  have hlt : a < s1.heap.objs.size := Heap.lt_size e'
  have hPlt : P < s1.heap.objs.size := Heap.lt_size hP
  refine h _ [s1.heap.objs.size, a] _ (fun A' hA => Walks.list hA _ _ (Nat.ne_of_lt hlt) items) (fun b hb => ?_) (fun hb => ?_) ⟨⟨_, Heap.get?_push_size _ rfl, rfl, rfl⟩, ht.push _⟩
  · rcases List.mem_cons.mp hb with z | z
    · exact Nat.le_of_eq z
    · rcases List.mem_cons.mp z with z | z
      · rw [z]
        exact Nat.le_of_lt hlt
      · cases z
  · rcases List.mem_cons.mp hb with z | z
    · rw [z] at hPlt
      exact Nat.lt_irrefl _ hPlt
    · rcases List.mem_cons.mp z with z | z
      · exact fields_ne_seq hP hd e' hd' z.symm
      · cases z
theorem src_range {r : Addr} {a b c : Int} {t u v : Tok} {n : Nat} {oP : Obj} (hP : s1.heap.get? P = some oP) (hr : IsRange s1.heap r a b c t u v) (hsmall : Builtin.Range.small a b c = true) (hn : Builtin.Range.rangeSize a b c = n) :
    Src prog w s1 (.ref r) P n (fun i v => ∃ t, v = .int (a + i * c) t) := by
  refine ⟨fun A E Q h => wpAny_pyIter_range hr hsmall ?_⟩
  have hPlt : P < s1.heap.objs.size := Heap.lt_size hP
  refine h _ [s1.heap.objs.size] _ (fun A' hA => Walks.range hA _ a c n) (fun b hb => ?_) (fun hb => ?_) ?_
  · rcases List.mem_cons.mp hb with z | z
    · exact Nat.le_of_eq z
    · cases z
  · rcases List.mem_cons.mp hb with z | z
    · rw [z] at hPlt
      exact Nat.lt_irrefl _ hPlt
    · cases z
  · show IsRangeIter _ _ _ _ _
    have e1 : a + ((0 : Nat) : Int) * c = a := by simp
    have e2 : ((n : Nat) : Int) - ((0 : Nat) : Int) = Builtin.Range.rangeSize a b c := by rw [hn]; simp
    rw [e1, e2]
    exact Heap.get?_push_size _ rfl
end
/-- a generator expression's own scope within a def's -/
structure GScope (sc scope : Scope) (x : Str) : Prop where
  kind : scope.kind = .function
  co : scope.isCoroutine = false
  cell : ∀ y ∈ scope.names, y.2 ≠ .cell
  dot : scope.names.lookup (".0" : Str) = some NameKind.local
  loc : scope.names.lookup x = some .local
  free : ∀ y ∈ scope.names, y.2 = .free → sc.names.lookup y.1 = some .cell
/-- what an element sees -/
structure GView (X : Cx) (σ : L2.St) (H1 : Hp) (scope : Scope) (x : Str) (cenv : Env) (v : Value) (s₂ : Shared) : Prop where
  sc : cenv.scope = scope
  glob : cenv.globals = mainGlobals
  blt : cenv.builtins = builtinsNs
  here : ∃ m₂, s₂.heap.Ns cenv.locals m₂ ∧ m₂ x = some v
  base : ∀ b o, X.base.get? b = some o → s₂.heap.get? b = some o
  mod : Mod X.K X.mg X.base
  cap : ∀ (j : Nat) (y : Str) (u : V), X.N[j]? = some y → σ[j]? = some (some u) → (y, NameKind.free) ∈ scope.names → ∃ z c, RelV u z ∧ cenv.cells.lookup y = some c ∧ s₂.heap.IsCell c (some z)
  tup : ∀ a xs, H1 a = some (.tup xs) → ∃ its : List Value, Vals xs its ∧ IsTup s₂.heap a its.toArray ∧ xs.length ≤ sizeLine
theorem GView.keep {X : Cx} {σ : L2.St} {H1 : Hp} {scope : Scope} {x : Str} {cenv : Env} {v : Value} {s₂ : Shared} (g : GView X σ H1 scope x cenv v s₂) {h' : Heap} {tk : Nat} (k : ∀ b o, s₂.heap.get? b = some o → h'.get? b = some o) :
    GView X σ H1 scope x cenv v { s₂ with heap := h', toks := tk } where
  sc := g.sc
  glob := g.glob
  blt := g.blt
  here := let ⟨m, h1, h2⟩ := g.here; ⟨m, h1.keeps k, h2⟩
  base := fun b o e => k b o (g.base b o e)
  mod := g.mod
  cap := fun j y u h1 h2 h3 => let ⟨z, c, r, e, o, e2, d⟩ := g.cap j y u h1 h2 h3; ⟨z, c, r, e, o, k _ _ e2, d⟩
  tup := fun a xs e => let ⟨its, r, ⟨o, e2, d⟩, hz⟩ := g.tup a xs e; ⟨its, r, ⟨o, k _ _ e2, d⟩, hz⟩
/-- the generator g, ready to be walked, in the state s5; H1: what was held before -/
def ReadyG (X : Cx) (pins : List (Addr × Obj)) (σ : L2.St) (H1 : Hp) (P : Addr) (n : Nat) (F : Nat → Value → Prop) (g : Addr) (s5 : Shared) : Prop :=
  ∃ (fp wr : List Addr) (G : Array GenState → Array GenState → Prop) (F' : Nat → Value → Prop) (St : Nat → Shared → Prop),
    WalksS X.prog X.w X.A.in1 g fp wr G n F' St ∧ St 0 s5 ∧ (∀ b ∈ fp, b < s5.heap.objs.size) ∧ (∀ j v, F' j v → F j v) ∧
    ∀ s', Moved wr G s5 s' → ∃ H2, GxR.Tabbed P H1 H2 ∧ Inv X pins σ H2 s'
section
variable {X : Cx} {pins : List (Addr × Obj)} {σ : L2.St} {H : Hp} {s : Shared}
/-- what a generator's source and element must be -/
def GenOf (X : Cx) (σ : L2.St) (H1 : Hp) (scope : Scope) (x : Str) (elt : Expr) (P : Addr) (v : V) (n : Nat) (F : Nat → Value → Prop) : Prop :=
  ∃ Pi : Nat → Value → Prop, (∀ pins xv s1, Inv X pins σ H1 s1 → RelV v xv → Src X.prog X.w s1 xv P n Pi) ∧
    (∀ (cenv : Env) (A' : Around) (E' : Value → Shared → Prop) (i : Nat) (v : Value) (s₂ : Shared), GView X σ H1 scope x cenv v s₂ → A'.handled = none → A'.depth ≤ X.A.depth + 1 → A'.units ≤ X.A.units + 8 → Pi i v →
      wpAny (model X.prog X.w) A' (eval elt cenv) (fun y s₃ => F i y ∧ Keeps s₂ s₃) E' s₂)
theorem gen_core {c P : Addr} {elt iter : Expr} {x : Str} {px gpos : Pos} {scope : Scope} {te : TE} {k : Nat} {Q' : Value → Shared → Prop} {R : Nat → (Nat → Value → Prop) → Hp → Prop}
    (hr : Room k X.A) (TB : GxR.TabB X.base X.mg c P) (hcode : X.env.code = .ref c) (S : GScope X.env.scope scope x) (hi : PE X iter te)
    (hs : ∀ v, genFold iter X.env v = pure v) (I : Inv X pins σ H s)
    (h : te σ H fun v H1 => GxR.TabG H1 P ∧ ∃ n F, R n F H1 ∧ GenOf X σ H1 scope x elt P v n F)
    (hQ : ∀ n F H1 g s5, R n F H1 → ReadyG X pins σ H1 P n F g s5 → Q' (.ref g) s5) :
    wpAny (model X.prog X.w) X.A (eval (.GeneratorExp elt [⟨.Name x px, iter, [], 0⟩] scope gpos) X.env) Q' X.xe s := by
  have hfree : ∀ y ∈ scope.names, y.2 = .free → ∃ c, X.env.cells.lookup y.1 = some c := fun y hy e => I.ok.has y.1 (.inl (S.free y hy e))
  refine wpAny_GeneratorExp_walksQD hr.hd S.co (closure_ok hfree) S.cell S.dot S.loc S.kind (by have := hr.dp; omega) ?_ hs
  refine thn (hi.run pins s σ H _ I h) fun xv s1 ⟨v, H1, I1, r1, q1⟩ => ?_
  obtain ⟨⟨ps, hP, ht⟩, n, F, q1, Pi, hsrc, hel⟩ := q1
  refine (hsrc pins xv s1 I1 r1).run _ _ _ fun o fp St W hfp hPf hst => ?_
  have hPs : s1.heap.get? P = some { cls := .none, data := .fields ps } := I1.hok P _ hP
  have hPlt : P < s1.heap.objs.size := Heap.lt_size hPs
  have hP2 : (s1.heap.push o).get? P = some { cls := .none, data := .fields ps } := Heap.get?_push_of_some _ hPs
  have cd : PySem.W.CodeHd (s1.heap.push o) c P := TB.code.keeps fun b u e => Heap.get?_push_of_some _ (I1.bk b u e)
  have lim2 : (s1.heap.push o).NoLimit := I1.nolimit.push o
  have cont : ∀ (code : Value) (h3 : Heap) (tk : Nat) (ps' : Array Value), Heap.ExtBut P (s1.heap.push o) h3 → (s1.heap.push o).objs.size ≤ h3.objs.size → h3.get? P = some { cls := .none, data := .fields ps' } → (∃ more, ps' = ps ++ more) → TriplesOk ps'.toList →
      wpAny (model X.prog X.w) X.A (builtinsFor X.env.globals X.env.builtins) (fun bi s₄ =>
        ∃ Ia fp wr n₀ Pf St₀ pz F, Value.ref s1.heap.objs.size = .ref Ia ∧ (∀ A' : Around, A'.handled = none → Walks X.prog X.w A' Ia fp wr n₀ Pf St₀) ∧ St₀ 0 s₄.heap ∧ (∀ b ∈ fp, b < s₄.heap.objs.size) ∧ s₄.heap.NoLimit ∧ cStatics ∉ wr ∧
          (∀ href : Heap, (∀ b o, s₄.heap.get? b = some o → href.get? b = some o) →
            QuietGenD X.prog X.w (genEnv scope (cloFrom X.env.cells scope.names []) s₄.heap.objs.size code bi X.env) x [] elt (List.range s₄.heap.objs.size) wr Pf pz F href (X.A.depth + 1) (X.A.units + 8)) ∧
          (∀ a h₅ tk gs, gs.bare = true → s₄.heap.objs.size < a → h₅.objs.size = a + 1 → (∀ b o, s₄.heap.get? b = some o → h₅.get? b = some o) →
            WalksS X.prog X.w X.A.in4 a (a :: s₄.heap.objs.size :: List.range s₄.heap.objs.size) (s₄.heap.objs.size :: wr) (GenOnlyQ s₄.gens.size) (passing pz n₀ 0).length
              (fun j y => ∃ i, (passing pz n₀ 0)[j]? = some i ∧ F i y) (GenAt X.prog X.w X.A.in4 a s₄.gens.size s₄.heap.objs.size (List.range s₄.heap.objs.size) wr pz n₀ F) →
            GenAt X.prog X.w X.A.in4 a s₄.gens.size s₄.heap.objs.size (List.range s₄.heap.objs.size) wr pz n₀ F 0 { s₄ with gens := s₄.gens.push gs, toks := tk, heap := h₅ } →
            Q' (.ref a) { s₄ with gens := s₄.gens.push gs, toks := tk, heap := h₅ })) X.xe { s1 with heap := h3, toks := tk } := by
    intro code h3 tk ps' hx hsz hP3 hmore ht3
    obtain ⟨bm, ob, e1, e2, e3, e4, e5, e6, e7, e8⟩ := TB.bm
    have hcP : cStatics ≠ P := fun e => by
      obtain ⟨_, hns, _⟩ := I1.nolimit
      obtain ⟨o', es, ep, ho, hd, _⟩ := hns
      rw [e, hPs] at ho
      cases ho
      cases hd
    have hcl : cStatics < s1.heap.objs.size := let ⟨_, hns, _⟩ := I1.nolimit; hns.lt
    have sz2 : (s1.heap.push o).objs.size = s1.heap.objs.size + 1 := Heap.size_push ..
    have keep3 : ∀ b u, b ≠ P → s1.heap.get? b = some u → h3.get? b = some u := fun b u hb e => hx b u hb (Heap.get?_push_of_some _ e)
    refine wpAny_builtinsFor (m := X.mg) (by rw [I1.ok.glob]; exact ((I1.mod.glob.keeps I1.bk).push o).extBut hx TB.gP) e1 e2 (keep3 _ _ e4 (I1.bk _ _ e5)) e6 e7 e8 ?_
    refine ⟨s1.heap.objs.size, fp, [s1.heap.objs.size], n, Pi, St, (fun _ => true), F, rfl, W, ?_, ?_, lim2.extBut hx hcP, ?_, ?_, ?_⟩
    · exact (W X.A hr.hd).frame _ _ _ hst fun b hb u e => hx b u (fun z => hPf (z ▸ hb)) e
    · intro b hb
      exact Nat.lt_of_le_of_lt (hfp b hb) (Nat.lt_of_lt_of_le (by rw [sz2]; exact Nat.lt_succ_self _) hsz)
    · intro z
      rcases List.mem_cons.mp z with z | z
      · exact Nat.ne_of_lt hcl z
      · cases z
    · intro href hhref
      refine ⟨fun A' E' i v s₂ m₂ hA hD hU hPv hn hm hk => ?_, fun A' E' i v s₂ m₂ hA hD hU hPv hp hn hm hk => ?_⟩
      · simp only [List.forIn_nil]
        exact wpAny_pure ⟨rfl, GxR.keeps_refl _⟩
      · -- what the element sees
        have up : ∀ b u, b ≠ P → s1.heap.get? b = some u → s₂.heap.get? b = some u := fun b u hb e => by
          have hb2 : b < s1.heap.objs.size := Heap.lt_size e
          refine hk b (List.mem_range.mpr ?_) (fun z => ?_) u (hhref b u (keep3 b u hb e))
          · exact Nat.lt_of_lt_of_le hb2 (Nat.le_trans (by rw [sz2]; exact Nat.le_succ _) hsz)
          · rcases List.mem_cons.mp z with z | z
            · rw [z] at hb2
              exact Nat.lt_irrefl _ hb2
            · cases z
        have nP : ∀ {b : Addr} {u : Obj}, s1.heap.get? b = some u → (∀ vs, u.data ≠ .fields vs) → b ≠ P := fun e d z => by
          rw [z, hPs] at e
          cases e
          exact d _ rfl
        obtain ⟨m1, hn1, hl1⟩ := I1.loc
        refine hel _ A' E' i v s₂ ⟨rfl, I1.ok.glob, rfl, ⟨m₂, hn, hm⟩, fun b u e => ?_, I1.mod, fun j y u h1 h2 h3' => ?_, fun a xs e => ?_⟩ hA hD hU hPv
        · refine up b u (fun z => ?_) (I1.bk b u e)
          have q := (I1.bs b u e).2
          rw [z, hP] at q
          cases q
        · have hsc := S.free (y, .free) h3' rfl
          obtain ⟨z, r, l⟩ := hl1 j y u h1 h2 (.inr (.inl hsc))
          rcases l with ⟨kk, _⟩ | ⟨_, cc, hc, o2, ho2, hd2⟩
          · have kk' : X.env.scope.names.lookup y = some .local := kk
            rw [hsc] at kk'
            cases kk'
          · refine ⟨z, cc, r, ?_, o2, up cc o2 (nP ho2 fun vs q => ?_) ho2, hd2⟩
            · exact NdefX.clo_has hfree h3' hc
            · rw [hd2] at q
              cases q
        · obtain ⟨its, r, ⟨o2, ho2, hc2, n2, hd2⟩, hz⟩ := I1.tuple (.inl (.inl e))
          exact ⟨its, r, ⟨o2, up a o2 (nP ho2 fun vs q => by rw [hd2] at q; cases q) ho2, hc2, n2, hd2⟩, hz⟩
    · intro g h5 tk5 gs hgb hag hsz5 hk5 W5 hgat
      simp only [GxR.passing_true, List.length_range] at W5
      refine hQ n F H1 g _ q1 ⟨_, _, _, _, _, W5.in4_1, hgat, ?_, fun j v hv => ?_, fun s' hm => ?_⟩
      · intro b hb
        show b < h5.objs.size
        have e5 : h5.objs.size = g + 1 := hsz5
        have h8 : h3.objs.size < g := hag
        rw [e5]
        rcases List.mem_cons.mp hb with z | z
        · rw [z]
          exact Nat.lt_succ_self g
        · rcases List.mem_cons.mp z with z | z
          · rw [z]
            exact Nat.lt_succ_of_lt h8
          · have z2 := List.mem_range.mp z
            have h7 : b < h3.objs.size := z2
            exact Nat.lt_succ_of_lt (Nat.lt_trans h7 h8)
      · obtain ⟨i, hij, e⟩ := hv
        obtain ⟨hj, ej⟩ := List.getElem?_eq_some_iff.mp hij
        rw [List.getElem_range] at ej
        subst ej
        exact e
      · obtain ⟨more, em⟩ := hmore
        have nwr : ∀ b u, s1.heap.get? b = some u → b ∉ h3.objs.size :: [s1.heap.objs.size] := fun b u e hb => by
          have hl := Heap.lt_size e
          rcases List.mem_cons.mp hb with z | z
          · rw [z] at hl
            have h9 : (h3.objs.size : Nat) < s1.heap.objs.size := hl
            omega
          · rcases List.mem_cons.mp z with z | z
            · rw [z] at hl
              exact Nat.lt_irrefl _ hl
            · cases z
        have J := GxR.inv_tab (more := more) (h' := s'.heap) (g' := s'.gens) (d' := s'.drawn) (t' := s'.toks) I1 hP (fun b u hb e => hm.heap b u (nwr b u e) (hk5 b u (keep3 b u hb e)))
          (by rw [← em]; exact hm.heap P _ (nwr P _ hPs) (hk5 P _ hP3)) (AllBare.movedS (I1.bare.push hgb) hm)
        rw [GxR.sh_eta s1 s' hm.os] at J
        refine ⟨upd H1 P (.tbl (ps ++ more)), ⟨⟨ps ++ more, upd_same, by rw [← em]; exact ht3⟩, fun b hb => upd_ne hb⟩, J⟩
  refine ⟨lim2, ?_⟩
  cases hf : codeAmong gpos ps.toList with
  | none =>
    refine wpAny_genexprCodeX hcode (cd.code hP2 ht) (cd.tab hP2) hf fun c' h' tk hx hge hlt hco' _ htab' _ => ?_
    obtain ⟨o1, vs, f1, tf, fl, tg, inF, tx, tt, op, _, _, _, _, _, _, _, _, _, htr, _⟩ := hco'
    exact cont _ h' tk _ hx (Nat.le_trans hge (Nat.le_of_lt hlt)) htab'.2 ⟨_, rfl⟩ htr
  | some cv =>
    refine wpAny_genexprCode_hit hcode (cd.code hP2 ht) hf ?_
    exact cont cv (s1.heap.push o) s1.toks ps (Heap.ExtBut.refl _ _) (Nat.le_refl _) hP2 ⟨#[], by simp⟩ ht
end
end K48

namespace K48
open PySem PySem.Spec PyProof.Rows L2
section
variable {X : Cx}
/-- all(elt for x in e), every element True -/
def tAllG (X : Cx) (scope : Scope) (x : Str) (elt : Expr) (P : Addr) (te : TE) : TE := fun σ H Q => te σ H fun v H1 => GxR.TabG H1 P ∧ ∃ n F, ((∀ i y, F i y → y = .bool true) ∧ ∀ H2, GxR.Tabbed P H1 H2 → Q (.bl true) H2) ∧ GenOf X σ H1 scope x elt P v n F
theorem pe_allG {c P : Addr} {elt iter : Expr} {x : Str} {px p pos gpos : Pos} {scope : Scope} {te : TE} {k : Nat}
    (hr : Room k X.A) (hg : Gl X "all") (hm : X.mg "all" = none) (TB : GxR.TabB X.base X.mg c P) (hcode : X.env.code = .ref c) (S : GScope X.env.scope scope x) (hi : PE X iter te)
    (hs : ∀ v, genFold iter X.env v = pure v) (hb : bootBuiltins "all" = some (.builtin "all") := by decide +kernel)
    (he : starEach [.GeneratorExp elt [⟨.Name x px, iter, [], 0⟩] scope gpos] X.env = (false, eval (.GeneratorExp elt [⟨.Name x px, iter, [], 0⟩] scope gpos) X.env) :: starEach [] X.env := by rfl) :
    PE X (.Call (.Name "all" p) [.GeneratorExp elt [⟨.Name x px, iter, [], 0⟩] scope gpos] [] pos) (tAllG X scope x elt P te) := by
  refine ⟨fun pins s σ H Q I h => ?_⟩
  refine wpAny_Call_Name_kw (ld_blt I hg hm hb ?_)
  refine PyProof.Rows.callWith_builtin1 ?_ he (by rfl)
  rw [he]
  show wpAny _ _ (spliced ((false, eval (.GeneratorExp elt [⟨.Name x px, iter, [], 0⟩] scope gpos) X.env) :: backTo pos (starEach [] X.env))) _ _ s
  refine Calls.spliced_cons (gen_core (R := fun n F H1 => (∀ i y, F i y → y = .bool true) ∧ ∀ H2, GxR.Tabbed P H1 H2 → Q (.bl true) H2) hr TB hcode S hi hs I h fun n F H1 g s5 hR hG => ?_)
  obtain ⟨hF, hq⟩ := hR
  obtain ⟨fp, wr, G, F', St, W, hst, hfp, hF', hI⟩ := hG
  refine Calls.spliced_nil ?_
  refine call_all_walkS (W.self 0 _ _ _ hst ⟨g, fp, wr, G, n, F', St, (fun _ => true), rfl, W, hst, fun i v s' Q' E' hv hq' => ?_, fun s' hmv => ?_⟩)
  · have e := hF i v (hF' i v hv)
    subst e
    exact wpAny_truthy_bool hq'
  · obtain ⟨H2, hT, J⟩ := hI s' hmv
    refine ⟨.bl true, H2, J, ?_, hq H2 hT⟩
    show Value.bool ((List.range n).all fun _ => true) = .bool true
    rw [List.all_eq_true.mpr fun _ _ => rfl]
/-- sum(elt for x in e), ints -/
def tSumG (X : Cx) (scope : Scope) (x : Str) (elt : Expr) (P : Addr) (te : TE) : TE := fun σ H Q => te σ H fun v H1 => GxR.TabG H1 P ∧ ∃ n F, (∃ val : Nat → Int, (∀ i y, F i y → ∃ t, y = .int (val i) t) ∧ ∀ H2, GxR.Tabbed P H1 H2 → Q (.int (preSum val n)) H2) ∧ GenOf X σ H1 scope x elt P v n F
theorem pe_sumG {c P : Addr} {elt iter : Expr} {x : Str} {px p pos gpos : Pos} {scope : Scope} {te : TE} {k : Nat}
    (hr : Room k X.A) (hg : Gl X "sum") (hm : X.mg "sum" = none) (TB : GxR.TabB X.base X.mg c P) (hcode : X.env.code = .ref c) (S : GScope X.env.scope scope x) (hi : PE X iter te)
    (hs : ∀ v, genFold iter X.env v = pure v) (hb : bootBuiltins "sum" = some (.builtin "sum") := by decide +kernel)
    (he : starEach [.GeneratorExp elt [⟨.Name x px, iter, [], 0⟩] scope gpos] X.env = (false, eval (.GeneratorExp elt [⟨.Name x px, iter, [], 0⟩] scope gpos) X.env) :: starEach [] X.env := by rfl) :
    PE X (.Call (.Name "sum" p) [.GeneratorExp elt [⟨.Name x px, iter, [], 0⟩] scope gpos] [] pos) (tSumG X scope x elt P te) := by
  refine ⟨fun pins s σ H Q I h => ?_⟩
  refine wpAny_Call_Name_kw (ld_blt I hg hm hb ?_)
  refine PyProof.Rows.callWith_builtin1 ?_ he (by rfl)
  rw [he]
  show wpAny _ _ (spliced ((false, eval (.GeneratorExp elt [⟨.Name x px, iter, [], 0⟩] scope gpos) X.env) :: backTo pos (starEach [] X.env))) _ _ s
  refine Calls.spliced_cons (gen_core (R := fun n F H1 => ∃ val : Nat → Int, (∀ i y, F i y → ∃ t, y = .int (val i) t) ∧ ∀ H2, GxR.Tabbed P H1 H2 → Q (.int (preSum val n)) H2) hr TB hcode S hi hs I h fun n F H1 g s5 hR hG => ?_)
  obtain ⟨val, hF, hq⟩ := hR
  obtain ⟨fp, wr, G, F', St, W, hst, hfp, hF', hI⟩ := hG
  refine Calls.spliced_nil ?_
  refine call_sum_walkAnyS (W.self 0 _ _ _ hst ⟨g, fp, wr, G, n, F', St, val, rfl, W, hst, hfp, fun i v hv => hF i v (hF' i v hv), fun s' t' hmv => ?_⟩)
  obtain ⟨H2, hT, J⟩ := hI s' hmv
  exact ⟨.int _, H2, J, ⟨t', rfl⟩, hq H2 hT⟩

/-! ### sum, max of a tuple of ints; range(n) as a value -/
section
variable {prog : Program} {w : World} {A : Around} {E : Value → Shared → Prop} {s : Shared} {l : Addr} {its : List Value} {ns : List Int} {Q : Value → Shared → Prop}
theorem iter_tup (hl : s.heap.IsTuple l its.toArray)
    (h : ∀ s₂ : Shared, s₂ = { s with heap := s.heap.push { cls := .type "tuple_iterator", data := .fields #[.ref l, .int 0 0] } } →
      (s₂.heap.IsTupleIter s.heap.objs.size l 0 ∧ s₂.heap.IsTuple l its.toArray) → (∀ b ∈ [s.heap.objs.size, l], b < s₂.heap.objs.size) → l ≠ s.heap.objs.size → Q (.ref s.heap.objs.size) s₂) :
    wpAny (model prog w) A (pyIter (.ref l)) Q E s := by
  have hlt : l < s.heap.objs.size := by obtain ⟨_, e, _⟩ := hl; exact Heap.lt_size e
  refine wpAny_pyIter_tuple hl (h _ rfl ⟨⟨_, Heap.get?_push_size _ rfl, rfl, rfl⟩, hl.push _⟩ (fun b hb => ?_) (Nat.ne_of_lt hlt))
  show b < (s.heap.push _).objs.size
  rw [Heap.size_push]
  rcases List.mem_cons.mp hb with rfl | hb
  · exact Nat.lt_succ_self _
  · rcases List.mem_cons.mp hb with rfl | hb
    · exact Nat.lt_succ_of_lt hlt
    · cases hb
theorem old_kept' {o : Obj} {h' : Heap} (hk : ∀ b u, b ∉ [s.heap.objs.size] → (s.heap.push o).get? b = some u → h'.get? b = some u) :
    ∀ b u, s.heap.get? b = some u → h'.get? b = some u := fun b u e => by
  refine hk b u (fun hm => ?_) (Heap.get?_push_of_some _ e)
  rcases List.mem_cons.mp hm with e1 | hm
  · exact absurd (e1 ▸ Heap.lt_size e) (Nat.lt_irrefl _)
  · cases hm
theorem at_int (hi : IntsAre its ns) {i : Nat} {v : Value} (h : its.toArray[i]? = some v) : ∃ t, v = .int (ns.getD i 0) t := by
  have h2 : its[i]? = some v := by simpa using h
  clear h
  induction hi generalizing i with
  | nil => cases h2
  | cons n t _ ih =>
    cases i with
    | zero =>
      cases h2
      exact ⟨t, rfl⟩
    | succ i => exact ih (by simpa using h2)
theorem preSum_take (ns : List Int) : ∀ j, preSum (fun i => ns.getD i 0) j = (ns.take j).sum
  | 0 => by simp [preSum]
  | j + 1 => by
    rw [preSum, preSum_take ns j, PySem.sum_take_succ]
theorem sumT_raw (hh : A.handled = none) (hl : s.heap.IsTuple l its.toArray) (hi : IntsAre its ns)
    (h : ∀ h' tk t', (∀ b o, s.heap.get? b = some o → h'.get? b = some o) → Q (.int ns.sum t') { s with heap := h', toks := tk }) : wpAny (model prog w) A (call (.builtin "sum") [.ref l]) Q E s := by
  refine call_sum_walkG (iter_tup hl fun s₂ e st hfp hlI => ?_)
  subst e
  refine ⟨_, _, _, _, _, _, (fun i => ns.getD i 0), rfl, Walks.tuple (A := A.in1) hh _ l hlI its.toArray, st, hfp, (fun _ _ hv => at_int hi hv), fun h' tk t' hk => ?_⟩
  have q := h h' tk t' (old_kept' hk)
  have e : preSum (fun i => ns.getD i 0) its.toArray.size = ns.sum := by
    rw [preSum_take, List.size_toArray, hi.length, List.take_of_length_le (Nat.le_refl _)]
  rw [e]
  exact q
theorem maxT_raw (hh : A.handled = none) (hl : s.heap.IsTuple l its.toArray) (hi : IntsAre its ns) (hne : 0 < ns.length)
    (h : ∀ h' tk M t', (∀ b o, s.heap.get? b = some o → h'.get? b = some o) → M ∈ ns → (∀ a, a ∈ ns → a ≤ M) → Q (.int M t') { s with heap := h', toks := tk }) : wpAny (model prog w) A (call (.builtin "max") [.ref l]) Q E s := by
  have hlen := hi.length
  refine call_max_walk (iter_tup hl fun s₂ e st hfp hlI => ?_)
  subst e
  refine ⟨_, _, _, _, _, _, _, rfl, Walks.tuple (A := A.in1) hh _ l hlI its.toArray, st, hfp, by rw [List.size_toArray]; omega, CmpOf.ints_gt (fun i => ns.getD i 0) (fun _ _ hv => at_int hi hv), fun v h' tk hP hk => ?_⟩
  obtain ⟨t, rfl⟩ := at_int hi hP
  obtain ⟨h1, h2⟩ := argBest_gt (fun i => ns.getD i 0) (its.toArray.size - 1)
  refine h h' tk _ t (old_kept' hk) ?_ fun a ha => ?_
  · exact PySem.getD_mem (by rw [List.size_toArray] at h1 ⊢; omega)
  · obtain ⟨j, hj, rfl⟩ := mem_getD ha
    exact h2 j (by rw [List.size_toArray]; omega)
end
def rSumT (K : PySem.W.Frag) : List V → Hp → VK → Prop := fun vs H Q => ∃ (a : Addr) (ns : List Int), vs = [V.ref a] ∧ SqT K H a (ns.map V.int) ∧ Q (.int ns.sum) H
def rMaxT (K : PySem.W.Frag) : List V → Hp → VK → Prop := fun vs H Q => ∃ (a : Addr) (ns : List Int), vs = [V.ref a] ∧ SqT K H a (ns.map V.int) ∧ 0 < ns.length ∧ ∀ m, m ∈ ns → (∀ y, y ∈ ns → y ≤ m) → Q (.int m) H
theorem cr_sumT (hc : X.calm = true) : CallR X (.builtin "sum") (rSumT X.K) := by
  intro pins s σ H vs us Q I r h
  obtain ⟨a, ns, rfl, hs, q⟩ := h
  obtain ⟨its, rv, hl, _⟩ := I.tuple hs
  rw [Vals.ref1 r]
  exact sumT_raw (I.ok.hd hc) hl rv.ints fun h' tk t' hk => ⟨.int _, H, I.kept hk, ⟨_, rfl⟩, q⟩
theorem cr_maxT (hc : X.calm = true) : CallR X (.builtin "max") (rMaxT X.K) := by
  intro pins s σ H vs us Q I r h
  obtain ⟨a, ns, rfl, hs, hne, q⟩ := h
  obtain ⟨its, rv, hl, _⟩ := I.tuple hs
  rw [Vals.ref1 r]
  exact maxT_raw (I.ok.hd hc) hl rv.ints hne fun h' tk m t' hk h1 h2 => ⟨.int _, H, I.kept hk, ⟨_, rfl⟩, q m h1 h2⟩
theorem cr_range1 : CallR X (.type "range") (fun vs H Q => ∃ j, vs = [V.int j] ∧ ∀ p, H p = none → Q (.ref p) (upd H p (.rng 0 j))) := by
  intro pins s σ H vs us Q I r h
  obtain ⟨j, rfl, q⟩ := h
  obtain ⟨u1, rfl, rj⟩ := vals1 r
  obtain ⟨u, rfl⟩ := rj
  refine call_range_1 ⟨.ref s.heap.objs.size, upd H s.heap.objs.size (.rng 0 j), I.laid (t' := s.toks + 1 + 1) (fun b o e => Heap.get?_push_of_some _ e) (Nat.le_refl _) ?_, rfl, q _ (I.hok.fresh (Nat.le_refl _))⟩
  exact ⟨s.toks, u, s.toks + 1, Heap.get?_push_size _ rfl⟩
/-! ### sources -/
theorem walks_mono {prog : Program} {w : World} {A : Around} {I : Addr} {fp wr : List Addr} {n : Nat} {P P' : Nat → Value → Prop} {St : Nat → Heap → Prop} (W : Walks prog w A I fp wr n P St) (hP : ∀ i v, i < n → P i v → P' i v) : Walks prog w A I fp wr n P' St where
  sub := W.sub
  frame := W.frame
  item := fun i s Q E hi st hQ => W.item i s Q E hi st fun v h' tk hv => hQ v h' tk (hP i v hi hv)
  done := W.done
  self := W.self
theorem src_of_tup {pins : List (Addr × Obj)} {σ : L2.St} {H1 : Hp} {s1 : Shared} {P a : Addr} {xs : List V} {ps : Array Value} (I : Inv X pins σ H1 s1) (hP : H1 P = some (.tbl ps)) (ha : H1 a = some (.tup xs)) :
    Src X.prog X.w s1 (.ref a) P xs.length (fun i v => ∃ x, xs[i]? = some x ∧ RelV x v) := by
  obtain ⟨its, r, ht, _⟩ := I.tuple (.inl (.inl ha))
  have hlen := r.length
  have S := src_tuple (prog := X.prog) (w := X.w) (P := P) (I.hok P _ hP) rfl ht
  have e : its.toArray.size = xs.length := by rw [List.size_toArray, hlen]
  rw [e] at S
  refine ⟨fun A E Q h => S.run A E Q fun o fp St W => h o fp St fun A' hA => ?_⟩
  refine walks_mono (W A' hA) fun i v hi hv => ?_
  have h2 : its[i]? = some v := by simpa using hv
  have hx := List.getElem?_eq_getElem (l := xs) hi
  obtain ⟨u, h3, h4⟩ := r.get hx
  rw [h2] at h3
  cases h3
  exact ⟨_, hx, h4⟩
theorem src_of_lst {pins : List (Addr × Obj)} {σ : L2.St} {H1 : Hp} {s1 : Shared} {P a : Addr} {xs : List V} {ps : Array Value} (I : Inv X pins σ H1 s1) (hP : H1 P = some (.tbl ps)) (ha : H1 a = some (.lst xs)) :
    Src X.prog X.w s1 (.ref a) P xs.length (fun i v => ∃ x, xs[i]? = some x ∧ RelV x v) := by
  obtain ⟨its, r, ht, _⟩ := I.list (.inl (.inl ha))
  have hlen := r.length
  have S := src_list (prog := X.prog) (w := X.w) (P := P) (I.hok P _ hP) rfl ht.isList
  have e : its.toArray.size = xs.length := by rw [List.size_toArray, hlen]
  rw [e] at S
  refine ⟨fun A E Q h => S.run A E Q fun o fp St W => h o fp St fun A' hA => ?_⟩
  refine walks_mono (W A' hA) fun i v hi hv => ?_
  have h2 : its[i]? = some v := by simpa using hv
  have hx := List.getElem?_eq_getElem (l := xs) hi
  obtain ⟨u, h3, h4⟩ := r.get hx
  rw [h2] at h3
  cases h3
  exact ⟨_, hx, h4⟩
theorem src_of_rng {pins : List (Addr × Obj)} {σ : L2.St} {H1 : Hp} {s1 : Shared} {P a : Addr} {n : Nat} {ps : Array Value} (I : Inv X pins σ H1 s1) (hP : H1 P = some (.tbl ps)) (ha : H1 a = some (.rng 0 (n : Int))) (hn : n < 1000) :
    Src X.prog X.w s1 (.ref a) P n (fun i v => ∃ t, v = .int (i : Int) t) := by
  obtain ⟨t, u, v, hr⟩ := I.hok a _ ha
  have S := src_range (prog := X.prog) (w := X.w) (P := P) (n := n) (I.hok P _ hP) hr (small_one (by omega) (by omega) (by omega) (by omega)) (by rw [rangeSize_one]; split <;> omega)
  refine ⟨fun A E Q h => S.run A E Q fun o fp St W => h o fp St fun A' hA => ?_⟩
  refine walks_mono (W A' hA) fun i v hi hv => ?_
  obtain ⟨t, e⟩ := hv
  exact ⟨t, by rw [e]; simp⟩
end
end K48

namespace K48
open PySem PySem.Spec PyProof.Rows L2
def topS (i : Nat) : Stmt := PySem.Challenge.pw_damworks_k48_across_yields_and_storages.main.body.getD i (.Pass ⟨0, 0, 0, 0⟩)
-- slots 0 top 1 bottom 2 common; cells 
abbrev s_ratio : Stmt := topS 10
theorem sc_ratio : FnScope ["top", "bottom", "common"] ["top", "bottom"] (defScope s_ratio) := ⟨rfl, rfl, rfl, by decide +kernel, rfl, by decide +kernel, by decide +kernel⟩
-- slots 0 one 1 other; cells 
abbrev s_less : Stmt := topS 11
theorem sc_less : FnScope ["one", "other"] ["one", "other"] (defScope s_less) := ⟨rfl, rfl, rfl, by decide +kernel, rfl, by decide +kernel, by decide +kernel⟩
-- slots 0 value 1 least 2 most; cells 
abbrev s_is_in : Stmt := topS 16
theorem sc_is_in : FnScope ["value", "least", "most"] ["value", "least", "most"] (defScope s_is_in) := ⟨rfl, rfl, rfl, by decide +kernel, rfl, by decide +kernel, by decide +kernel⟩
-- slots 0 value 1 one; cells 
abbrev s_are_flows : Stmt := topS 17
theorem sc_are_flows : FnScope ["value", "one"] ["value"] (defScope s_are_flows) := ⟨rfl, rfl, rfl, by decide +kernel, rfl, by decide +kernel, by decide +kernel⟩
-- slots 0 dam 1 one; cells dam
abbrev s_need_dam : Stmt := topS 18
theorem sc_need_dam : FnScope ["dam", "one"] ["dam"] (defScope s_need_dam) := ⟨rfl, rfl, rfl, by decide +kernel, rfl, by decide +kernel, by decide +kernel⟩
-- slots 0 dam 1 held 2 inflow; cells 
abbrev s_most_held : Stmt := topS 19
theorem sc_most_held : FnScope ["dam", "held", "inflow"] ["dam"] (defScope s_most_held) := ⟨rfl, rfl, rfl, by decide +kernel, rfl, by decide +kernel, by decide +kernel⟩
-- slots 0 dam; cells 
abbrev s_need_plans : Stmt := topS 20
theorem sc_need_plans : FnScope ["dam"] ["dam"] (defScope s_need_plans) := ⟨rfl, rfl, rfl, by decide +kernel, rfl, by decide +kernel, by decide +kernel⟩
-- slots 0 months 1 demands; cells 
abbrev s_need_demands : Stmt := topS 21
theorem sc_need_demands : FnScope ["months", "demands"] ["months", "demands"] (defScope s_need_demands) := ⟨rfl, rfl, rfl, by decide +kernel, rfl, by decide +kernel, by decide +kernel⟩
-- slots 0 dam 1 first 2 last 3 held 4 end; cells 
abbrev s_water_of : Stmt := topS 23
theorem sc_water_of : FnScope ["dam", "first", "last", "held", "end"] ["dam", "first", "last"] (defScope s_water_of) := ⟨rfl, rfl, rfl, by decide +kernel, rfl, by decide +kernel, by decide +kernel⟩
-- slots 0 months 1 first 2 last; cells months
abbrev s_spans : Stmt := topS 24
theorem sc_spans : FnScope ["months", "first", "last"] ["months"] (defScope s_spans) := ⟨rfl, rfl, rfl, by decide +kernel, rfl, by decide +kernel, by decide +kernel⟩
-- slots 0 some 1 best 2 one; cells 
abbrev s_least_of : Stmt := topS 25
theorem sc_least_of : FnScope ["some", "best", "one"] ["some"] (defScope s_least_of) := ⟨rfl, rfl, rfl, by decide +kernel, rfl, by decide +kernel, by decide +kernel⟩
-- slots 0 dam 1 span; cells 
abbrev s_span_yield : Stmt := topS 26
theorem sc_span_yield : FnScope ["dam", "span"] ["dam", "span"] (defScope s_span_yield) := ⟨rfl, rfl, rfl, by decide +kernel, rfl, by decide +kernel, by decide +kernel⟩
-- slots 0 dam; cells 
abbrev s_need_yield : Stmt := topS 27
theorem sc_need_yield : FnScope ["dam"] ["dam"] (defScope s_need_yield) := ⟨rfl, rfl, rfl, by decide +kernel, rfl, by decide +kernel, by decide +kernel⟩
-- slots 0 dam 1 one; cells dam
abbrev s_yield_of : Stmt := topS 28
theorem sc_yield_of : FnScope ["dam", "one"] ["dam"] (defScope s_yield_of) := ⟨rfl, rfl, rfl, by decide +kernel, rfl, by decide +kernel, by decide +kernel⟩
-- slots 0 dam; cells 
abbrev s_firm_yield : Stmt := topS 29
theorem sc_firm_yield : FnScope ["dam"] ["dam"] (defScope s_firm_yield) := ⟨rfl, rfl, rfl, by decide +kernel, rfl, by decide +kernel, by decide +kernel⟩
-- slots 0 dam 1 demands 2 found 3 first 4 last 5 demand; cells 
abbrev s_firm_share : Stmt := topS 30
theorem sc_firm_share : FnScope ["dam", "demands", "found", "first", "last", "demand"] ["dam", "demands"] (defScope s_firm_share) := ⟨rfl, rfl, rfl, by decide +kernel, rfl, by decide +kernel, by decide +kernel⟩
-- slots 0 capacity 1 inflows 2 found 3 count 4 water 5 first 6 months 7 k; cells inflows first months
abbrev s_round_yield : Stmt := topS 31
theorem sc_round_yield : FnScope ["capacity", "inflows", "found", "count", "water", "first", "months", "k"] ["capacity", "inflows"] (defScope s_round_yield) := ⟨rfl, rfl, rfl, by decide +kernel, rfl, by decide +kernel, by decide +kernel⟩
-- slots 0 inflows 1 demands 2 is_round; cells 
abbrev s_need_flows : Stmt := topS 33
theorem sc_need_flows : FnScope ["inflows", "demands", "is_round"] ["inflows", "demands", "is_round"] (defScope s_need_flows) := ⟨rfl, rfl, rfl, by decide +kernel, rfl, by decide +kernel, by decide +kernel⟩
-- slots 0 months 1 is_round 2 found 3 first 4 most 5 count; cells first
abbrev s_windows : Stmt := topS 34
theorem sc_windows : FnScope ["months", "is_round", "found", "first", "most", "count"] ["months", "is_round"] (defScope s_windows) := ⟨rfl, rfl, rfl, by decide +kernel, rfl, by decide +kernel, by decide +kernel⟩
-- slots 0 inflows 1 demands 2 window 3 months 4 some 5 k 6 month; cells inflows demands window months
abbrev s_lack_of : Stmt := topS 35
theorem sc_lack_of : FnScope ["inflows", "demands", "window", "months", "some", "k", "month"] ["inflows", "demands", "window"] (defScope s_lack_of) := ⟨rfl, rfl, rfl, by decide +kernel, rfl, by decide +kernel, by decide +kernel⟩
-- slots 0 inflows 1 demands 2 is_round 3 one; cells inflows demands
abbrev s_storage_of : Stmt := topS 36
theorem sc_storage_of : FnScope ["inflows", "demands", "is_round", "one"] ["inflows", "demands", "is_round"] (defScope s_storage_of) := ⟨rfl, rfl, rfl, by decide +kernel, rfl, by decide +kernel, by decide +kernel⟩
-- slots 0 inflows 1 demands 2 is_round; cells 
abbrev s_least_storage : Stmt := topS 37
theorem sc_least_storage : FnScope ["inflows", "demands", "is_round"] ["inflows", "demands", "is_round"] (defScope s_least_storage) := ⟨rfl, rfl, rfl, by decide +kernel, rfl, by decide +kernel, by decide +kernel⟩
-- slots 0 _law_row 1 _law_many 2 _law_found 3 _law_cell; cells 
abbrev s_law_taken : Stmt := topS 39
theorem sc_law_taken : FnScope ["_law_row", "_law_many", "_law_found", "_law_cell"] ["_law_row", "_law_many"] (defScope s_law_taken) := ⟨rfl, rfl, rfl, by decide +kernel, rfl, by decide +kernel, by decide +kernel⟩
-- slots 0 _law_row 1 _law_things; cells 
abbrev s_law_pick : Stmt := topS 40
theorem sc_law_pick : FnScope ["_law_row", "_law_things"] ["_law_row", "_law_things"] (defScope s_law_pick) := ⟨rfl, rfl, rfl, by decide +kernel, rfl, by decide +kernel, by decide +kernel⟩
-- slots 0 _law_top 1 _law_bottom 2 _law_one 3 _law_other; cells 
abbrev s_law_ratio : Stmt := topS 42
theorem sc_law_ratio : FnScope ["_law_top", "_law_bottom", "_law_one", "_law_other"] ["_law_top", "_law_bottom"] (defScope s_law_ratio) := ⟨rfl, rfl, rfl, by decide +kernel, rfl, by decide +kernel, by decide +kernel⟩
-- slots 0 _law_one 1 _law_other; cells 
abbrev s_law_by : Stmt := topS 44
theorem sc_law_by : FnScope ["_law_one", "_law_other"] ["_law_one", "_law_other"] (defScope s_law_by) := ⟨rfl, rfl, rfl, by decide +kernel, rfl, by decide +kernel, by decide +kernel⟩
-- slots 0 _law_one 1 _law_other; cells 
abbrev s_law_less : Stmt := topS 46
theorem sc_law_less : FnScope ["_law_one", "_law_other"] ["_law_one", "_law_other"] (defScope s_law_less) := ⟨rfl, rfl, rfl, by decide +kernel, rfl, by decide +kernel, by decide +kernel⟩
-- slots 0 _law_row; cells 
abbrev s_law_flow : Stmt := topS 48
theorem sc_law_flow : FnScope ["_law_row"] ["_law_row"] (defScope s_law_flow) := ⟨rfl, rfl, rfl, by decide +kernel, rfl, by decide +kernel, by decide +kernel⟩
-- slots 0 _law_row 1 _law_many 2 _law_k; cells _law_row
abbrev s_law_demands : Stmt := topS 50
theorem sc_law_demands : FnScope ["_law_row", "_law_many", "_law_k"] ["_law_row", "_law_many"] (defScope s_law_demands) := ⟨rfl, rfl, rfl, by decide +kernel, rfl, by decide +kernel, by decide +kernel⟩
-- slots 0 _law_script 1 _law_row 2 _law_many 3 _law_capacity 4 _law_inflows 5 _law_demand 6 _law_dam_here 7 _law_equal 8 _law_gives 9 _law_round_least 10 _law_demands_here 11 _law_fits 12 _law_size 13 _law_one; cells _law_size
abbrev s_law : Stmt := topS 54
theorem sc_law : FnScope ["_law_script", "_law_row", "_law_many", "_law_capacity", "_law_inflows", "_law_demand", "_law_dam_here", "_law_equal", "_law_gives", "_law_round_least", "_law_demands_here", "_law_fits", "_law_size", "_law_one"] ["_law_script"] (defScope s_law) := ⟨rfl, rfl, rfl, by decide +kernel, rfl, by decide +kernel, by decide +kernel⟩
end K48

namespace K48
open PySem PySem.Spec PyProof.Rows L2
theorem ifT {c : Bool} {A B : Prop} (hc : c = true) (h : A) : if c = true then A else B := by
  rw [if_pos hc]
  exact h
theorem ifF {c : Bool} {A B : Prop} (hc : c = false) (h : B) : if c = true then A else B := by
  rw [hc]
  exact iteF h
section
variable {P : Program} {w : World} {K : PySem.W.Frag} {mg : Str → Option Value} {base : Heap}
/-! ### ratio -/
def spRatio : Sp := fun vs H Q _ => ∃ t b : Int, vs = [.int t, .int b] ∧ 0 < b ∧ b < 1073741824 ∧ ∀ p x y, H p = none → RatOf t b x y → Q (.ref p) (upd H p (.tup [.int x, .int y]))
theorem ok_ratio {f : Addr} {fd : FuncData} {k : Nat} (F : Fun K "ratio" "ratio" s_ratio f fd) (mgcd : mg "gcd" = some (.builtin "math.gcd")) : FnOk P w K mg base CX0 (k + 1) f fd ["top", "bottom"] spRatio := by
  refine F.ok sc_ratio (fun vs H Q E h => ?_) (fun cdv A outer s H vs Q E hr h => ?_)
  · obtain ⟨t, b, rfl, _⟩ := h
    rfl
  · obtain ⟨t, b, rfl, hb, hb2, q⟩ := h
    refine ⟨_, pss_cons (ps_set (i := 2) sc_ratio.nd rfl (.inl rfl) (pe_ifExp (pt_cmpR op_gt (pv 1) pe_int (nomark _)) (pe_callBfun cr_gcd (by rfl) mgcd (pa_cons (pv 0) (pa_cons (pv 1) pa_nil))) (pe_op op_sub pe_int (pe_callBfun cr_gcd (by rfl) mgcd (pa_cons (pv 0) (pa_cons (pv 1) pa_nil))))))
      (pss_one (ps_ret (pe_tup (pa_cons (pe_op op_fdiv (pv 0) (pv 2)) (pa_cons (pe_op op_fdiv (pv 1) (pv 2)) pa_nil))))), ?_⟩
    refine ⟨.int b, rfl, b, 0, rfl, rfl, _, rfl, ifT (decide_eq_true hb) ?_⟩
    refine ⟨.int t, rfl, .int b, rfl, t, b, rfl, ?_⟩
    have g0 := gcd_pos (t := t) hb
    have g1 := gcd_le (t := t) hb
    refine ⟨.int t, rfl, .int _, rfl, t, _, rfl, rfl, ⟨g0, by omega⟩, .int b, rfl, .int _, rfl, b, _, rfl, rfl, ⟨g0, by omega⟩, by show 2 ≤ sizeLine; decide, fun p hp => ?_⟩
    exact q p _ _ hp (rat_of hb)
/-! ### less -/
def spLess : Sp := fun vs H Q _ => ∃ (a c : Addr) (x y x' y' : Int), vs = [.ref a, .ref c] ∧ H a = some (.tup [.int x, .int y]) ∧ H c = some (.tup [.int x', .int y']) ∧ (0 < y ∧ y < 1073741824) ∧ (0 < y' ∧ y' < 1073741824) ∧
  Q (.bl (decide (x * y' < x' * y))) H
theorem small64' {y : Int} (h : 0 < y ∧ y < 1073741824) : -(2 ^ 64) < y ∧ y < 2 ^ 64 := by omega
theorem ok_less {f : Addr} {fd : FuncData} {k : Nat} (F : Fun K "less" "less" s_less f fd) : FnOk P w K mg base CX0 (k + 1) f fd ["one", "other"] spLess := by
  refine F.ok sc_less (fun vs H Q E h => ?_) (fun cdv A outer s H vs Q E hr h => ?_)
  · obtain ⟨a, c, x, y, x', y', rfl, _⟩ := h
    rfl
  · obtain ⟨a, c, x, y, x', y', rfl, ha, hc, hy, hy', q⟩ := h
    refine ⟨_, pss_one (ps_ret (pe_cmpR op_lt (pe_op op_mul (pe_ix ix_tup (pv 0) pe_int (fun _ _ => rfl)) (pe_ix ix_tup (pv 1) pe_int (fun _ _ => rfl))) (pe_op op_mul (pe_ix ix_tup (pv 1) pe_int (fun _ _ => rfl)) (pe_ix ix_tup (pv 0) pe_int (fun _ _ => rfl))) (nomark _))), ?_⟩
    refine ⟨.ref a, rfl, a, _, _, .int x, rfl, rfl, SqT.of ha, atI_nat (j := 0) rfl, .ref c, rfl, c, _, _, .int y', rfl, rfl, SqT.of hc, atI_nat (j := 1) rfl, x, y', rfl, rfl, .inr (small64' hy'), ?_⟩
    refine ⟨.ref c, rfl, c, _, _, .int x', rfl, rfl, SqT.of hc, atI_nat (j := 0) rfl, .ref a, rfl, a, _, _, .int y, rfl, rfl, SqT.of ha, atI_nat (j := 1) rfl, x', y, rfl, rfl, .inr (small64' hy), ?_⟩
    exact ⟨_, _, rfl, rfl, q⟩
end
end K48

namespace K48
open PySem PySem.Spec PyProof.Rows L2
section
variable {P : Program} {w : World} {K : PySem.W.Frag} {mg : Str → Option Value} {base : Heap}
/-- a builtin's name in a body or a generator, by the module's facts over base -/
theorem ld_bltR {A : Around} {E : Value → Shared → Prop} {env : Env} {s : Shared} {x : Str} {u : Value} {pos : Pos} {Q : Value → Shared → Prop} (M : Mod K mg base) (hb : ∀ b o, base.get? b = some o → s.heap.get? b = some o)
    (hk : env.scope.kind = .function) (hg : env.kindOf x = some .globalImplicit) (eg : env.globals = mainGlobals) (eb : env.builtins = builtinsNs) (hm : mg x = none) (hv : bootBuiltins x = some u) (h : Q u s)
    (hn : x ≠ "__name__" := by decide) (hd : (x == ("__debug__" : Str)) = false := by decide) : wpAny (model P w) A (eval (.Name x pos) env) Q E s := by
  obtain ⟨mb, h1, h2⟩ := M.blt
  exact Calls.Name_function_global hk hg (Calls.loadGlobal_builtin (by rw [eg]; exact M.glob.keeps hb) hm (by rw [eb]; exact h1.keeps hb) ((h2 x hn).trans hv) h) hd
theorem ld_globR {A : Around} {E : Value → Shared → Prop} {env : Env} {s : Shared} {x : Str} {u : Value} {pos : Pos} {Q : Value → Shared → Prop} (M : Mod K mg base) (hb : ∀ b o, base.get? b = some o → s.heap.get? b = some o)
    (hk : env.scope.kind = .function) (hg : env.kindOf x = some .globalImplicit) (eg : env.globals = mainGlobals) (hm : mg x = some u) (h : Q u s)
    (hd : (x == ("__debug__" : Str)) = false := by decide) : wpAny (model P w) A (eval (.Name x pos) env) Q E s :=
  Calls.Name_function_global hk hg (Calls.loadGlobal_global (by rw [eg]; exact M.glob.keeps hb) hm h) hd
/-! ### is_in -/
structure IsInT (K : PySem.W.Frag) (mg : Str → Option Value) (f : Addr) (fd : FuncData) : Prop where
  F : Fun K "is_in" "is_in" s_is_in f fd
  b : Binds K fd ["value", "least", "most"] []
  g : mg "is_in" = some (.ref f)
  mi : mg "isinstance" = none
  mint : mg "int" = none
  mbool : mg "bool" = none
def spIsIn : Sp := fun vs H Q _ => ∃ v lo hi : Int, vs = [.int v, .int lo, .int hi] ∧ lo ≤ v ∧ v ≤ hi ∧ Q (.bl true) H
theorem ok_is_in {f : Addr} {fd : FuncData} {k : Nat} (T : IsInT K mg f fd) : FnOk P w K mg base CX0 (k + 1) f fd ["value", "least", "most"] spIsIn := by
  refine T.F.ok sc_is_in (fun vs H Q E h => ?_) (fun cdv A outer s H vs Q E hr h => ?_)
  · obtain ⟨v, lo, hi, rfl, _⟩ := h
    rfl
  · obtain ⟨v, lo, hi, rfl, h1, h2, q⟩ := h
    refine ⟨_, pss_one (ps_ret (pe_and (pe_callB call_isi (by rfl) T.mi (by decide +kernel) (pa_cons (pv 0) (pa_cons (pe_bltn (v := .ty "int") (by rfl) T.mint boot_int rfl) pa_nil)))
      (pe_and (pe_not (pe_callB call_isi (by rfl) T.mi (by decide +kernel) (pa_cons (pv 0) (pa_cons (pe_bltn (v := .ty "bool") (by rfl) T.mbool (by decide +kernel) rfl) pa_nil))))
      (pe_one (pe_chain op_le op_le (pv 1) (pv 0) (pv 2)))))), ?_⟩
    refine ⟨.int v, rfl, .int v, .ty "int", .type "int", .type "int", true, rfl, .ty _, .base (.int v), kit_ty (by decide +kernel), true, rfl, iteT ?_⟩
    refine ⟨.int v, rfl, .int v, .ty "bool", .type "int", .type "bool", false, rfl, .ty _, .base (.int v), kit_ty (by decide +kernel), false, rfl, true, rfl, iteT ?_⟩
    refine ⟨.int lo, rfl, .int v, rfl, lo, v, rfl, rfl, true, (by show V.bl (decide (lo ≤ v)) = _; rw [decide_eq_true h1]), iteT ⟨.int hi, rfl, v, hi, rfl, rfl, ?_⟩⟩
    show Q (.bl (decide (v ≤ hi))) H
    rw [decide_eq_true h2]
    exact q
/-- .. called where nothing is known of the frames -/
theorem isin_raw {f : Addr} {fd : FuncData} (T : IsInT K mg f fd) (M : Mod K mg base) {A : Around} {E : Value → Shared → Prop} {s : Shared} {Q : Value → Shared → Prop} {v lo hi : Int} {t1 t2 t3 : Tok}
    (hd : A.depth < recursionLimit) (hb : ∀ b o, base.get? b = some o → s.heap.get? b = some o) (h1 : lo ≤ v) (h2 : v ≤ hi) (h : ∀ s', Keeps s s' → Q (.bool true) s') :
    wpAny (model P w) A (call (.ref f) [.int v t1, .int lo t2, .int hi t3]) Q E s := by
  obtain ⟨oc, od, kV, doc, pm, an, cdv, ct, osl, rfl, lk, hcd⟩ := T.F.ex
  have KX : K.In s.heap := M.kin.keeps hb
  refine wpAny_call (Att.call_fn KX (M.nolimit.keeps hb) lk hcd hd (T.b s [.int v t1, .int lo t2, .int hi t3] KX rfl) (by rfl) (fun s₁ x => ?_) rfl rfl rfl)
  obtain ⟨h', tk, rfl, kp⟩ := x.done
  have hn := x.toInCall.ns
  have hloc : (envOfC "is_in" (defScope s_is_in) s.heap.objs.size f cdv).locals = s.heap.objs.size := rfl
  generalize hE : (envOfC "is_in" (defScope s_is_in) s.heap.objs.size f cdv) = env at hn hloc ⊢
  rw [← hloc] at hn
  have hn : h'.Ns env.locals _ := hn
  have e1 : env.scope = defScope s_is_in := by rw [← hE]; rfl
  have e2 : env.globals = mainGlobals := by rw [← hE]; rfl
  have e3 : env.builtins = builtinsNs := by rw [← hE]; rfl
  have hk : env.scope.kind = .function := by rw [e1]; rfl
  have hb' : ∀ (h2 : Heap), (∀ b o, h'.get? b = some o → h2.get? b = some o) → ∀ b o, base.get? b = some o → h2.get? b = some o := fun h2 k b o e => k b o (kp b o (hb b o e))
  have kl : ∀ x : Str, (defScope s_is_in).names.lookup x = some .local → env.kindOf x = some .local := fun x hx => by
    show env.scope.names.lookup x = _
    rw [e1]
    exact hx
  have lv : ∀ {A' : Around} {E' : Value → Shared → Prop} {Q' : Value → Shared → Prop} {p : Pos} (tk' : Nat), Q' (.int v t1) { s with heap := h', toks := tk' } → wpAny (model P w) A' (eval (.Name "value" p) env) Q' E' { s with heap := h', toks := tk' } := fun tk' q => by
    exact wpAny_Name (wpAny_loadName_local hk (kl _ (by rfl)) hn (bindL_get (i := 0) (by decide +kernel) rfl rfl (kl _ (by rfl))) q)
  have ll : ∀ {A' : Around} {E' : Value → Shared → Prop} {Q' : Value → Shared → Prop} {p : Pos} (tk' : Nat), Q' (.int lo t2) { s with heap := h', toks := tk' } → wpAny (model P w) A' (eval (.Name "least" p) env) Q' E' { s with heap := h', toks := tk' } := fun tk' q => by
    exact wpAny_Name (wpAny_loadName_local hk (kl _ (by rfl)) hn (bindL_get (i := 1) (by decide +kernel) rfl rfl (kl _ (by rfl))) q)
  have lm : ∀ {A' : Around} {E' : Value → Shared → Prop} {Q' : Value → Shared → Prop} {p : Pos} (tk' : Nat), Q' (.int hi t3) { s with heap := h', toks := tk' } → wpAny (model P w) A' (eval (.Name "most" p) env) Q' E' { s with heap := h', toks := tk' } := fun tk' q => by
    exact wpAny_Name (wpAny_loadName_local hk (kl _ (by rfl)) hn (bindL_get (i := 2) (by decide +kernel) rfl rfl (kl _ (by rfl))) q)
  have gk : ∀ x : Str, (defScope s_is_in).names.lookup x = some .globalImplicit → env.kindOf x = some .globalImplicit := fun x hx => by
    show env.scope.names.lookup x = _
    rw [e1]
    exact hx
  have isi : ∀ {A' : Around} {E' : Value → Shared → Prop} {Q' : Value → Shared → Prop} {p1 p2 p3 p4 : Pos} (tn : Str) (ts : String) (b : Bool) (tk' : Nat), (defScope s_is_in).names.lookup tn = some .globalImplicit → mg tn = none → bootBuiltins tn = some (.type ts) → tn ≠ "__name__" → (tn == ("__debug__" : Str)) = false → kitB "int" ts = some b →
      (∀ tk2, Q' (.bool b) { s with heap := h', toks := tk2 }) → wpAny (model P w) A' (eval (.Call (.Name "isinstance" p1) [.Name "value" p2, .Name tn p3] [] p4) env) Q' E' { s with heap := h', toks := tk' } := fun tn ts b tk' hl hm hbt hne hdb hkb q => by
    refine wpAny_Call_Name_kw (ld_bltR (u := .builtin "isinstance") M (hb' h' fun _ _ e => e) hk (gk _ (by rfl)) e2 e3 T.mi (by decide +kernel) ?_)
    refine PyProof.Rows.callWith_builtin1 ?_ (by rfl) (by rfl)
    refine Calls.spliced_cons (lv tk' (Calls.spliced_cons (ld_bltR M (hb' h' fun _ _ e => e) hk (gk _ hl) e2 e3 hm hbt (Calls.spliced_nil ?_) hne hdb)))
    exact PySem.W.kia_one PySem.W.kitx_int (M.kin.keeps (hb' h' fun _ _ e => e)) True.intro (kit_ty hkb) (fun z => nomatch z) fun tk2 => q tk2
  show wpAny _ _ (execs [_] env) _ _ _
  refine wpAny_execs_cons (wpAny_Return_some (BoolOp_and (isi "int" "int" true tk (by rfl) T.mint boot_int (by decide) (by decide) (by decide +kernel) fun tk2 => wpAny_truthy_bool ?_)))
  refine ifT (by rfl) ?_
  refine BoolOp_and (UnaryOp_ (isi "bool" "bool" false tk2 (by rfl) T.mbool (by decide +kernel) (by decide) (by decide) (by decide +kernel) fun tk3 => not_of (wpAny_truthy_bool (wpAny_truthy_bool ?_))))
  refine ifT (by rfl) ?_
  refine BoolOp_one (Compare_chain (ll tk3 (chain_link (lv tk3 (le_int (wpAny_truthy_bool ?_))))))
  refine ifT (decide_eq_true h1) ?_
  refine chain_last (lm tk3 (le_int ?_))
  rw [decide_eq_true h2]
  exact h _ ⟨h', tk3, rfl, kp⟩
end
end K48

namespace K48
open PySem PySem.Spec PyProof.Rows L2
/-! ### heaps: all kept but tables, which stay tables -/
structure Ext (H H' : Hp) : Prop where
  keep : ∀ b o, H b = some o → (∀ ps, o ≠ .tbl ps) → H' b = some o
  tab : ∀ b, GxR.TabG H b → GxR.TabG H' b
  there : ∀ b o, H b = some o → ∃ o', H' b = some o'
theorem Ext.refl (H : Hp) : Ext H H := ⟨fun _ _ e _ => e, fun _ t => t, fun _ o e => ⟨o, e⟩⟩
theorem Ext.trans {H H1 H2 : Hp} (a : Ext H H1) (b : Ext H1 H2) : Ext H H2 :=
  ⟨fun c o e n => b.keep c o (a.keep c o e n) n, fun c t => b.tab c (a.tab c t), fun c o e => let ⟨o1, e1⟩ := a.there c o e; b.there c o1 e1⟩
theorem Ext.free {H H' : Hp} (a : Ext H H') {l : Addr} (h : H' l = none) : H l = none := by
  cases q : H l with
  | none => rfl
  | some o =>
    obtain ⟨o', e⟩ := a.there l o q
    rw [h] at e
    cases e
theorem Ext.tup {H H' : Hp} (a : Ext H H') {l : Addr} {xs : List V} (h : H l = some (.tup xs)) : H' l = some (.tup xs) := a.keep l _ h fun ps z => by cases z
theorem Ext.lst {H H' : Hp} (a : Ext H H') {l : Addr} {xs : List V} (h : H l = some (.lst xs)) : H' l = some (.lst xs) := a.keep l _ h fun ps z => by cases z
theorem Ext.new {H : Hp} {p : Addr} {o : HO} (h : H p = none) : Ext H (upd H p o) := by
  refine ⟨fun b u e _ => ?_, fun b ⟨ps, e, t⟩ => ⟨ps, ?_, t⟩, fun b u e => ⟨u, ?_⟩⟩
  · rw [upd_ne (ne_of_none e h)]
    exact e
  · rw [upd_ne (ne_of_none e h)]
    exact e
  · rw [upd_ne (ne_of_none e h)]
    exact e
theorem Ext.tabbed {H H' : Hp} {P : Addr} (hP : GxR.TabG H P) (h : GxR.Tabbed P H H') : Ext H H' := by
  obtain ⟨hT, hk⟩ := h
  obtain ⟨ps, e0, t0⟩ := hP
  obtain ⟨ps', e1, t1⟩ := id hT
  refine ⟨fun b o e n => ?_, fun b t => ?_, fun b o e => ?_⟩
  · by_cases hb : b = P
    · rw [hb, e0] at e
      exact absurd (Option.some.inj e).symm (n ps)
    · rw [hk b hb]
      exact e
  · by_cases hb : b = P
    · rw [hb]
      exact hT
    · obtain ⟨qs, e, t⟩ := t
      exact ⟨qs, by rw [hk b hb]; exact e, t⟩
  · by_cases hb : b = P
    · rw [hb]
      exact ⟨_, e1⟩
    · exact ⟨o, by rw [hk b hb]; exact e⟩
/-! ### a def whose code object is known -/
structure FunC (K : PySem.W.Frag) (x qual : Str) (st : Stmt) (f : Addr) (fd : FuncData) (c : Addr) : Prop where
  ex : ∃ (oc : Value) (od : Option Addr) (kV doc pm : Value) (an : Option Addr) (ct : Value) (osl : Array (Option Value)),
    fd = PySem.W.fnOf x qual (defArgs st) (defBody st) (defScope st) .none kV doc pm an (.ref c) ct ∧ K.lookup f = some ⟨oc, od, .func fd, osl⟩ ∧ PySem.W.codeIn K (.ref c) qual = true
  kp : PySem.W.keepIn K (.ref f) = true
theorem FunC.fun_ {K : PySem.W.Frag} {x qual : Str} {st : Stmt} {f : Addr} {fd : FuncData} {c : Addr} (F : FunC K x qual st f fd c) : Fun K x qual st f fd := by
  obtain ⟨oc, od, kV, doc, pm, an, ct, osl, h⟩ := F.ex
  exact ⟨⟨oc, od, kV, doc, pm, an, _, ct, osl, h⟩, F.kp⟩
section
variable {P : Program} {w : World} {K : PySem.W.Frag} {mg : Str → Option Value} {base : Heap}
theorem FunC.ok {x qual : Str} {st : Stmt} {f : Addr} {fd : FuncData} {c : Addr} {N ps : List Str} {k : Nat} {sp : Sp} (F : FunC K x qual st f fd c) (S : FnScope N ps (defScope st)) (len : ∀ vs H Q E, sp vs H Q E → vs.length = ps.length)
    (hbody : ∀ (A : Around) (outer : List Env) (s : Shared) (H : Hp) (vs : List V) (Q : VK) (E : XK), Room k (A.deeper (envOfC qual (defScope st) s.heap.objs.size f (.ref c))) → sp vs H Q E →
      ∃ t, PSs (cxOf CX0 P w K mg base N qual (defScope st) f (.ref c) A outer s H E).nox (defBody st) t ∧ t { nx := fun _ H' => Q .non H', rt := Q } (start N vs) H) : FnOk P w K mg base CX0 (k + 1) f fd ps sp := by
  obtain ⟨oc, od, kV, doc, pm, an, ct, osl, rfl, lk, hcd⟩ := F.ex
  refine fn_of lk hcd S len fun A outer s H vs Q E hr hsp => ?_
  obtain ⟨t, h, q⟩ := hbody A outer s H vs Q E hr hsp
  exact ⟨t, h.nox, q⟩
end
/-! ### raw rules for elements -/
section
variable {prog : Program} {w : World} {A : Around} {E : Value → Shared → Prop} {s : Shared} {env : Env}
theorem at_raw {value slice : Expr} {pos : Pos} {Q : Value → Shared → Prop} (hs : PlainIx slice)
    (h : wpAny (model prog w) A (eval value env) (fun v s1 => wpAny (model prog w) A (eval slice env) (fun u s2 => ∃ (a : Addr) (i : Int) (t : Tok) (its : List Value) (xs : List V) (x : V), v = .ref a ∧ u = .int i t ∧ IsTup s2.heap a its.toArray ∧ Vals xs its ∧
      atI xs i = some x ∧ xs.length ≤ sizeLine ∧ ∀ z, RelV x z → Q z s2) E s1) E s) : wpAny (model prog w) A (eval (.Subscript value slice pos) env) Q E s := by
  refine Subscript_ (thn h fun v s1 h1 => thn h1 fun u s2 h2 => ?_)
  obtain ⟨a, i, t, its, xs, x, rfl, rfl, ht, r, he, hz, q⟩ := h2
  obtain ⟨j, g1, g2, g3, g4, g5⟩ := atI_get he
  obtain ⟨z, ez, rz⟩ := r.get g2
  have hl := r.length
  have hn := line63
  exact subscriptTail_builtinR (x := z) ht.typeIs slot_tuple_getitem.lookup
    (getItem_tuple (j := j) (Q := fun r' s' => r' = z ∧ Q r' s') ht (by omega) (by omega) (by rw [List.size_toArray, ← hl]; exact g1) (by simpa using ez) ⟨rfl, q z rz⟩) (hs _ _)
end
section
variable {X : Cx} {σ : L2.St} {H1 : Hp} {scope sc : Scope} {x : Str} {cenv : Env} {v : Value} {s₂ : Shared} {A : Around} {E : Value → Shared → Prop} {Q : Value → Shared → Prop}
/-- the element's own name -/
theorem GView.own (g : GView X σ H1 scope x cenv v s₂) (S : GScope sc scope x) {p : Pos} (h : Q v s₂) (hd : (x == ("__debug__" : Str)) = false := by decide) : wpAny (model X.prog X.w) A (eval (.Name x p) cenv) Q E s₂ := by
  obtain ⟨m, hn, hm⟩ := g.here
  have hk : cenv.scope.kind = .function := by rw [g.sc]; exact S.kind
  have hl : cenv.kindOf x = some .local := by
    show cenv.scope.names.lookup x = _
    rw [g.sc]
    exact S.loc
  exact wpAny_Name (wpAny_loadName_local hk hl hn hm h) hd
/-- a captured name -/
theorem GView.cap_ (g : GView X σ H1 scope x cenv v s₂) (S : GScope sc scope x) (j : Nat) {y : Str} {u : V} {p : Pos} (hN : X.N[j]? = some y) (hσ : σ[j]? = some (some u)) (hm : (y, NameKind.free) ∈ scope.names) (hl : scope.names.lookup y = some .free) (h : ∀ z, RelV u z → Q z s₂)
    (hd : (y == ("__debug__" : Str)) = false := by decide) (hcd : (y == ("__classdict__" : Str)) = false := by decide) : wpAny (model X.prog X.w) A (eval (.Name y p) cenv) Q E s₂ := by
  obtain ⟨z, c, r, hc, hcell⟩ := g.cap j y u hN hσ hm
  have hk : cenv.scope.kind = .function := by rw [g.sc]; exact S.kind
  have hl2 : cenv.kindOf y = some .free := by
    show cenv.scope.names.lookup y = _
    rw [g.sc]
    exact hl
  exact wpAny_Name (wpAny_loadName_free hk hl2 hc hcell (h z r) hcd) hd
theorem GView.glb (g : GView X σ H1 scope x cenv v s₂) (S : GScope sc scope x) {y : Str} {u : Value} {p : Pos} (hl : scope.names.lookup y = some .globalImplicit) (hm : X.mg y = some u) (h : Q u s₂) (hd : (y == ("__debug__" : Str)) = false := by decide) :
    wpAny (model X.prog X.w) A (eval (.Name y p) cenv) Q E s₂ := by
  refine ld_globR g.mod g.base (by rw [g.sc]; exact S.kind) ?_ g.glob hm h hd
  show cenv.scope.names.lookup y = _
  rw [g.sc]
  exact hl
/-- is_in(x, 0, e) -/
theorem elt_isin {f : Addr} {fd : FuncData} (T : IsInT X.K X.mg f fd) (S : GScope sc scope x) (hg : scope.names.lookup ("is_in" : Str) = some NameKind.globalImplicit) {e3 : Expr} {p1 p2 p4 p5 : Pos} {j : Nat} {n hi : Int} {i : Nat}
    (g : GView X σ H1 scope x cenv v s₂) (hv : RelV (.int n) v) (hA : A.depth < recursionLimit) (h0 : 0 ≤ n) (h1 : n ≤ hi) (hd : (x == ("__debug__" : Str)) = false)
    (h3 : ∀ (s3 : Shared) (Q' : Value → Shared → Prop), GView X σ H1 scope x cenv v s3 → (∀ t tk, Q' (.int hi t) { s3 with toks := tk }) → wpAny (model X.prog X.w) A (eval e3 cenv) Q' E s3)
    (he : starEach [.Name x p2, .Constant (.int 0) j p4, e3] cenv = (false, eval (.Name x p2) cenv) :: (false, eval (.Constant (.int 0) j p4) cenv) :: (false, eval e3 cenv) :: starEach [] cenv) :
    wpAny (model X.prog X.w) A (eval (.Call (.Name "is_in" p1) [.Name x p2, .Constant (.int 0) j p4, e3] [] p5) cenv) (fun y s₃ => y = .bool true ∧ Keeps s₂ s₃) E s₂ := by
  obtain ⟨t1, rfl⟩ := hv
  refine wpAny_Call_Name_kw (g.glb S hg T.g ?_)
  have he2 : starEach [.Constant (.int 0) j p4, e3] cenv = (false, eval (.Constant (.int 0) j p4) cenv) :: (false, eval e3 cenv) :: starEach [] cenv := by
    have z : (false, eval (.Name x p2) cenv) :: starEach [.Constant (.int 0) j p4, e3] cenv = _ := he
    exact (List.cons.inj z).2
  refine PySem.W.callWith_K (K := X.K) (h₀ := X.base) g.mod.kin T.F.kp ?_ (by rfl) (by rw [he2]; rfl)
  rw [he]
  show wpAny _ _ (spliced ((false, eval (.Name x p2) cenv) :: (false, eval (.Constant (.int 0) j p4) cenv) :: (false, eval e3 cenv) :: backTo p5 (starEach [] cenv))) _ _ _
  refine Calls.spliced_cons (g.own S ?_ hd)
  refine Calls.spliced_cons (wpAny_Constant_int ?_)
  refine Calls.spliced_cons (h3 _ _ (g.keep (h' := s₂.heap) fun _ _ e => e) fun t3 tk => ?_)
  refine Calls.spliced_nil ⟨g.mod.kin.keeps g.base, ?_⟩
  exact isin_raw T g.mod hA g.base h0 h1 fun s' ⟨h', tk', e, kp⟩ => ⟨rfl, h', tk', e, kp⟩
end
end K48

namespace K48
open PySem PySem.Spec PyProof.Rows L2
/-- a def, its parameters, where it stands -/
structure Df (K : PySem.W.Frag) (mg : Str → Option Value) (x : Str) (st : Stmt) (ps : List Str) (f : Addr) (fd : FuncData) : Prop where
  F : Fun K x x st f fd
  b : Binds K fd ps []
  g : mg x = some (.ref f)
/-- .. with its code object and that one's table -/
structure Dc (K : PySem.W.Frag) (mg : Str → Option Value) (base : Heap) (x : Str) (st : Stmt) (ps : List Str) (f : Addr) (fd : FuncData) (c T : Addr) : Prop where
  F : FunC K x x st f fd c
  b : Binds K fd ps []
  g : mg x = some (.ref f)
  T : GxR.TabB base mg c T
theorem room_elt {k : Nat} {A A' : Around} (hr : Room k A) (h : A'.depth ≤ A.depth + 1) : A'.depth < recursionLimit := by
  have := hr.dp
  omega
/-- the i-th item of xs -/
def ItemOf (xs : List V) (i : Nat) (v : Value) : Prop := ∃ x, xs[i]? = some x ∧ RelV x v
def Flows (ns : List Int) : Prop := 1 ≤ ns.length ∧ ns.length ≤ 12 ∧ ∀ v ∈ ns, 0 ≤ v ∧ v ≤ 1000
/-- a module's constant -/
def CI (mg : Str → Option Value) (x : Str) (n : Int) : Prop := ∃ t, mg x = some (.int n t)
section
variable {P : Program} {w : World} {K : PySem.W.Frag} {mg : Str → Option Value} {base : Heap}
theorem pe_ci {X : Cx} {x : Str} {n : Int} {pos : Pos} (hg : Gl X x) (h : CI X.mg x n) (hd : (x == ("__debug__" : Str)) = false := by decide) : PE X (.Name x pos) (tC (.int n)) := by
  obtain ⟨t, e⟩ := h
  exact pe_glob hg e ⟨t, rfl⟩ hd
theorem get_map_int {ns : List Int} {i : Nat} {x : V} (h : (ns.map V.int)[i]? = some x) : ∃ n, n ∈ ns ∧ x = .int n := by
  rw [List.getElem?_map] at h
  cases e : ns[i]? with
  | none =>
    rw [e] at h
    cases h
  | some n =>
    rw [e] at h
    cases h
    exact ⟨n, List.mem_of_getElem? e, rfl⟩
/-! ### are_flows -/
def spFlows (T : Addr) : Sp := fun vs H Q _ => ∃ (a : Addr) (ns : List Int), vs = [.ref a] ∧ H a = some (.tup (ns.map V.int)) ∧ Flows ns ∧ GxR.TabG H T ∧ ∀ H', Ext H H' → Q (.bl true) H'
theorem ok_are_flows {f fi : Addr} {fd fdi : FuncData} {c T : Addr} {k : Nat} (D : Dc K mg base "are_flows" s_are_flows ["value"] f fd c T) (I : IsInT K mg fi fdi) (mtuple : mg "tuple" = none) (mlen : mg "len" = none) (mall : mg "all" = none)
    (mm : CI mg "MOST_MONTHS" 12) (mf : CI mg "MOST_FLOW" 1000) : FnOk P w K mg base CX0 (k + 1) f fd ["value"] (spFlows T) := by
  refine D.F.ok sc_are_flows (fun vs H Q E h => ?_) (fun A outer s H vs Q E hr h => ?_)
  · obtain ⟨a, ns, rfl, _⟩ := h
    rfl
  · obtain ⟨a, ns, rfl, ha, ⟨l1, l2, hv⟩, hT, q⟩ := h
    refine ⟨_, pss_cons (ps_if (PW.pt (pw_or (pt_not (pt_val (pe_callB call_isi (by rfl) I.mi (by decide +kernel) (pa_cons (pv 0) (pa_cons (pe_bltn (v := .ty "tuple") (by rfl) mtuple (by decide +kernel) rfl) pa_nil)))))
        (pw_or1 (pt_not (pt_chain op_le op_le pe_int (pe_callB call_len_seq (by rfl) mlen PySem.boot_len (pa_cons (pv 0) pa_nil)) (pe_ci (by rfl) mm))))))
        (pss_one (ps_ret pe_bl)) pss_nil)
      (pss_one (ps_ret (pe_allG hr (by rfl) mall D.T rfl (by exact (show GScope (defScope s_are_flows) _ _ from ⟨rfl, rfl, by decide +kernel, rfl, rfl, by decide +kernel⟩)) (pv 0) (fun _ => rfl)))), ?_⟩
    refine ⟨.ref a, rfl, .ref a, .ty "tuple", .type "tuple", .type "tuple", true, rfl, .ty _, .base (.tup ha), kit_ty (by decide +kernel), true, rfl, iteF ?_⟩
    refine ⟨.ref a, rfl, a, _, rfl, .inr (SqT.of ha), 1, _, rfl, rfl, true, ?_, iteT ⟨_, 12, rfl, rfl, true, ?_, ?_⟩⟩
    · show V.bl (decide ((1 : Int) ≤ ((ns.map V.int).length : Int))) = _
      rw [List.length_map, decide_eq_true (by omega)]
    · show V.bl (decide (((ns.map V.int).length : Int) ≤ (12 : Int))) = _
      rw [List.length_map, decide_eq_true (by omega)]
    · refine iteF ?_
      refine ⟨.ref a, rfl, hT, (ns.map V.int).length, _, ⟨fun _ _ e => e, fun H2 h2 => q H2 (Ext.tabbed hT h2)⟩, ?_⟩
      obtain ⟨ps, hps, hts⟩ := hT
      refine ⟨ItemOf (ns.map V.int), fun pins xv s1 I1 r => ?_, fun cenv A' E' i v s2 g hA hD hU hPi => ?_⟩
      · obtain rfl : xv = Value.ref a := r
        exact src_of_tup I1 hps ha
      · obtain ⟨x, hx, rx⟩ := hPi
        obtain ⟨n, hn, rfl⟩ := get_map_int hx
        obtain ⟨t, ht⟩ := mf
        refine elt_isin I (sc := defScope s_are_flows) (by exact (show GScope (defScope s_are_flows) _ _ from ⟨rfl, rfl, by decide +kernel, rfl, rfl, by decide +kernel⟩)) (by rfl) (hi := 1000) (i := i) g rx (room_elt hr hD) (hv n hn).1 (hv n hn).2 (by decide) (fun s3 Q' g3 q3 => ?_) (by rfl)
        exact g3.glb (sc := defScope s_are_flows) (by exact (show GScope (defScope s_are_flows) _ _ from ⟨rfl, rfl, by decide +kernel, rfl, rfl, by decide +kernel⟩)) (by rfl) ht (q3 t s3.toks)
end
end K48

namespace K48
open PySem PySem.Spec PyProof.Rows L2
/-- a full dam with nothing held in the end -/
structure DamAt (H : Hp) (d a : Addr) (C : Int) (ns : List Int) : Prop where
  d : H d = some (.tup [.int C, .int C, .int 0, .ref a])
  a : H a = some (.tup (ns.map V.int))
  lo : 0 ≤ C
  hi : C ≤ 1000
  fl : Flows ns
theorem DamAt.ext {H H' : Hp} {d a : Addr} {C : Int} {ns : List Int} (D : DamAt H d a C ns) (e : Ext H H') : DamAt H' d a C ns := ⟨e.tup D.d, e.tup D.a, D.lo, D.hi, D.fl⟩
section
variable {X : Cx} {x : Str} {st : Stmt} {ps : List Str} {f : Addr} {fd : FuncData} {sp : Sp} {k : Nat} {p pos : Pos} {e : Expr} {es : List Expr} {t : TA} {c T : Addr}
theorem pcall (D : Df X.K X.mg x st ps f fd) (G : FnOk X.prog X.w X.K X.mg X.base CX0 k f fd ps sp) (hr : Room k X.A) (ha : PA X (e :: es) t) (hg : Gl X x := by rfl) (hdb : (x == ("__debug__" : Str)) = false := by decide)
    (he : starEach (e :: es) X.env = (false, eval e X.env) :: starEach es X.env := by rfl) (hpl : (backTo pos (starEach es X.env)).any (·.1) = false := by rfl) : PE X (.Call (.Name x p) (e :: es) [] pos) (tCall sp [] E0 t) :=
  pe_call G hr hg D.g D.F.kp D.b .nil pass0 ha hdb he hpl
theorem pcallC (D : Dc X.K X.mg X.base x st ps f fd c T) (G : FnOk X.prog X.w X.K X.mg X.base CX0 k f fd ps sp) (hr : Room k X.A) (ha : PA X (e :: es) t) (hg : Gl X x := by rfl) (hdb : (x == ("__debug__" : Str)) = false := by decide)
    (he : starEach (e :: es) X.env = (false, eval e X.env) :: starEach es X.env := by rfl) (hpl : (backTo pos (starEach es X.env)).any (·.1) = false := by rfl) : PE X (.Call (.Name x p) (e :: es) [] pos) (tCall sp [] E0 t) :=
  pe_call G hr hg D.g D.F.kp D.b .nil pass0 ha hdb he hpl
theorem IsInT.df {K : PySem.W.Frag} {mg : Str → Option Value} (I : IsInT K mg f fd) : Df K mg "is_in" s_is_in ["value", "least", "most"] f fd := ⟨I.F, I.b, I.g⟩
/-- len(xs) of a list or tuple -/
theorem plen {a : Expr} {ta : TE} (m : X.mg "len" = none) (ha : PE X a ta) (hg : Gl X "len" := by rfl) (he : starEach [a] X.env = (false, eval a X.env) :: starEach [] X.env := by rfl) :
    PE X (.Call (.Name "len" p) [a] [] pos) (tCB (fun xs H Q => ∃ p ys, xs = [.ref p] ∧ (SqL X.K H p ys ∨ SqT X.K H p ys) ∧ Q (.int ys.length) H) (tCons ta tNil)) :=
  pe_callB call_len_seq hg m PySem.boot_len (pa_cons ha pa_nil he) (he := he)
/-- isinstance(x, T), T a built-in type -/
theorem pisi {a : Expr} {ta : TE} {n : Str} {ty : String} {p2 : Pos} (m : X.mg "isinstance" = none) (m2 : X.mg n = none) (hb : bootBuiltins n = some (.type ty)) (ha : PE X a ta) (hg : Gl X "isinstance" := by rfl) (hg2 : Gl X n := by rfl) (hn : n ≠ "__name__" := by decide) (hd : (n == ("__debug__" : Str)) = false := by decide)
    (he : starEach [a, .Name n p2] X.env = (false, eval a X.env) :: starEach [.Name n p2] X.env := by rfl) :
    PE X (.Call (.Name "isinstance" p) [a, .Name n p2] [] pos) (tCB (rIsi X.K) (tCons ta (tCons (tC (.ty ty)) tNil))) :=
  pe_callB call_isi hg m (by decide +kernel) (pa_cons ha (pa_cons (pe_bltn (v := .ty ty) hg2 m2 hb rfl hn hd) pa_nil) he) (he := he)
/-- x[i] of a tuple -/
theorem pix {a b : Expr} {ta tb : TE} (ha : PE X a ta) (hb : PE X b tb) (hs : PlainIx b := by exact fun _ _ => rfl) : PE X (.Subscript a b pos) (tOp (rIxT X.K) ta tb) := pe_ix ix_tup ha hb hs
end
section
variable {P : Program} {w : World} {K : PySem.W.Frag} {mg : Str → Option Value} {base : Heap}
/-! ### need_dam -/
def spNeedDam (T1 T2 : Addr) : Sp := fun vs H Q _ => ∃ (d a : Addr) (C : Int) (ns : List Int), vs = [.ref d] ∧ DamAt H d a C ns ∧ GxR.TabG H T1 ∧ GxR.TabG H T2 ∧ ∀ H', Ext H H' → Q .non H'
theorem ok_need_dam {f fi ff : Addr} {fd fdi fdf : FuncData} {c c1 T1 T2 : Addr} {k : Nat} (D : Dc K mg base "need_dam" s_need_dam ["dam"] f fd c T2) (I : IsInT K mg fi fdi) (Gi : FnOk P w K mg base CX0 k fi fdi ["value", "least", "most"] spIsIn)
    (Df : Dc K mg base "are_flows" s_are_flows ["value"] ff fdf c1 T1) (Gf : FnOk P w K mg base CX0 k ff fdf ["value"] (spFlows T1)) (mtuple : mg "tuple" = none) (mlen : mg "len" = none) (mall : mg "all" = none)
    (mc : CI mg "MOST_CAPACITY" 1000) : FnOk P w K mg base CX0 (k + 1) f fd ["dam"] (spNeedDam T1 T2) := by
  refine D.F.ok sc_need_dam (fun vs H Q E h => ?_) (fun A outer s H vs Q E hr h => ?_)
  · obtain ⟨d, a, C, ns, rfl, _⟩ := h
    rfl
  · obtain ⟨d, a, C, ns, rfl, hD, hT1, hT2, q⟩ := h
    refine ⟨_, pss_cons (ps_if (PW.pt (pw_or (pt_not (pt_val (pisi (ty := "tuple") I.mi mtuple (by decide +kernel) (pv 0))))
        (pw_or (pt_cmpR op_ne (plen mlen (pv 0)) pe_int (nomark _))
        (pw_or1 (pt_not (pt_val (pcall I.df Gi hr (pa_cons (pix (pv 0) pe_int) (pa_cons pe_int (pa_cons (pe_ci (by rfl) mc) pa_nil))))))))))
        (pss_one ps_never) pss_nil)
      (pss_one (ps_if (PW.pt (pw_or (pt_not (pt_val (pe_allG hr (by rfl) mall D.T rfl (by exact (show GScope (defScope s_need_dam) _ _ from ⟨rfl, rfl, by decide +kernel, rfl, rfl, by decide +kernel⟩)) (pe_slice sl_tupA (pv 0) (po_some pe_int) (po_some pe_int)) (fun _ => rfl))))
        (pw_or1 (pt_not (pt_val (pcallC Df Gf hr (pa_cons (pix (pv 0) pe_int) pa_nil)))))))
        (pss_one ps_never) pss_nil)), ?_⟩
    refine ⟨.ref d, rfl, .ref d, .ty "tuple", .type "tuple", .type "tuple", true, rfl, .ty _, .base (.tup hD.d), kit_ty (by decide +kernel), true, rfl, iteF ?_⟩
    refine ⟨.ref d, rfl, d, _, rfl, .inr (SqT.of hD.d), rfl, _, rfl, iteF ?_⟩
    refine ⟨.ref d, rfl, d, _, _, .int C, rfl, rfl, SqT.of hD.d, atI_nat (j := 0) rfl, C, 0, 1000, rfl, hD.lo, hD.hi, true, rfl, iteF ?_⟩
    -- all(.. for one in dam[1:3])
    refine ⟨.ref d, rfl, 1, rfl, 3, rfl, d, _, rfl, SqT.of hD.d, fun z => absurd (show HT.sIx 4 0 (some 1) = 0 from z.1) (by decide), fun _ p np => ?_⟩
    have e1 : Ext H (upd H p (.tup (cutV [.int C, .int C, .int 0, .ref a] (some 1) (some 3)))) := Ext.new np
    have hT2' := e1.tab _ hT2
    have hD1 := hD.ext e1
    refine ⟨hT2', 2, _, ⟨fun _ _ e => e, fun H2 h2 => ?_⟩, ?_⟩
    · have e2 := e1.trans (Ext.tabbed hT2' h2)
      have hD2 := hD.ext e2
      refine ⟨true, rfl, iteF ?_⟩
      refine ⟨.ref d, rfl, d, _, _, .ref a, rfl, rfl, SqT.of hD2.d, atI_nat (j := 3) rfl, a, ns, rfl, hD2.a, hD2.fl, e2.tab _ hT1, fun H3 e3 => ?_⟩
      exact ⟨true, rfl, iteF (q H3 (e2.trans e3))⟩
    · obtain ⟨ps, hps, hts⟩ := hT2'
      refine ⟨ItemOf [.int C, .int 0], fun pins xv s1 I1 r => ?_, fun cenv A' E' i v s2 g hA hD' hU hPi => ?_⟩
      · obtain rfl : xv = Value.ref p := r
        exact src_of_tup I1 hps upd_same
      · obtain ⟨x, hx, rx⟩ := hPi
        obtain ⟨n, hn0, hn1, rfl⟩ : ∃ n : Int, 0 ≤ n ∧ n ≤ C ∧ x = .int n := by
          match i, hx with
          | 0, hx => cases hx; exact ⟨C, hD.lo, Int.le_refl _, rfl⟩
          | 1, hx => cases hx; exact ⟨0, Int.le_refl _, hD.lo, rfl⟩
        refine elt_isin I (sc := defScope s_need_dam) (by exact (show GScope (defScope s_need_dam) _ _ from ⟨rfl, rfl, by decide +kernel, rfl, rfl, by decide +kernel⟩)) (by rfl) (hi := C) (i := i) g rx (room_elt hr hD') hn0 hn1 (by decide) (fun s3 Q' g3 q3 => ?_) (by rfl)
        refine at_raw (fun _ _ => rfl) (g3.cap_ (sc := defScope s_need_dam) (by exact (show GScope (defScope s_need_dam) _ _ from ⟨rfl, rfl, by decide +kernel, rfl, rfl, by decide +kernel⟩)) 0 (u := .ref d) rfl rfl (by decide +kernel) (by rfl) fun z rz => ?_)
        obtain rfl : z = Value.ref d := rz
        refine wpAny_Constant_int ?_
        obtain ⟨its, rv, ht, hz⟩ := g3.tup d _ hD1.d
        refine ⟨d, 0, _, its, _, .int C, rfl, rfl, ht, rv, atI_nat (j := 0) rfl, hz, fun z rz => ?_⟩
        obtain ⟨t, rfl⟩ := rz
        exact q3 t _
end
end K48

namespace K48
open PySem PySem.Spec PyProof.Rows L2
theorem ite_same {c : Prop} [Decidable c] {A B R : Prop} (hA : R → A) (hB : R → B) (h : R) : if c then A else B := ite2 (fun _ => hA h) (fun _ => hB h)
theorem slice_cut (ns : List Int) {f l : Nat} (h1 : f ≤ l) (h2 : l < ns.length) : cutV (ns.map V.int) (some (f : Int)) (some ((l : Int) + 1)) = ((ns.drop f).take (l + 1 - f)).map V.int := by
  unfold cutV
  have e1 : HT.sIx (ns.map V.int).length 0 (some (f : Int)) = f := by
    rw [HT.sIx_nat, List.length_map]
    omega
  have e2 : HT.sIx (ns.map V.int).length (ns.map V.int).length (some ((l : Int) + 1)) = l + 1 := by
    have e : ((l : Int) + 1) = ((l + 1 : Nat) : Int) := by omega
    rw [e, HT.sIx_nat, List.length_map]
    omega
  rw [e1, e2, List.map_take, List.map_drop]
theorem slice_whole (ns : List Int) {f l : Nat} (h2 : l < ns.length) (h : HT.sIx (ns.map V.int).length 0 (some (f : Int)) = 0 ∧ HT.sIx (ns.map V.int).length (ns.map V.int).length (some ((l : Int) + 1)) = (ns.map V.int).length) : (ns.drop f).take (l + 1 - f) = ns := by
  have e : ((l : Int) + 1) = ((l + 1 : Nat) : Int) := by omega
  rw [e, HT.sIx_nat, HT.sIx_nat, List.length_map] at h
  have h0 : f = 0 := by omega
  subst h0
  rw [List.drop_zero, List.take_of_length_le (by omega)]
section
variable {P : Program} {w : World} {K : PySem.W.Frag} {mg : Str → Option Value} {base : Heap}
/-! ### most_held, need_plans, need_demands -/
def spMostHeld : Sp := fun vs H Q _ => ∃ (d a : Addr) (C : Int) (ns : List Int), vs = [.ref d] ∧ DamAt H d a C ns ∧ ∀ m : Int, 0 ≤ m → Q (.int m) H
theorem ok_most_held {f : Addr} {fd : FuncData} {k : Nat} (D : Df K mg "most_held" s_most_held ["dam"] f fd) (mmin : mg "min" = none) : FnOk P w K mg base CX0 (k + 1) f fd ["dam"] spMostHeld := by
  refine D.F.ok sc_most_held (fun vs H Q E h => ?_) (fun cdv A outer s H vs Q E hr h => ?_)
  · obtain ⟨d, a, C, ns, rfl, _⟩ := h
    rfl
  · obtain ⟨d, a, C, ns, rfl, hD, q⟩ := h
    refine ⟨_, pss_cons (ps_set (i := 1) sc_most_held.nd rfl (.inl rfl) (pix (pv 0) pe_int))
      (pss_cons (ps_for PassesOwn.never rfl (pi_tup (pix (pv 0) pe_int)) (pg_name (i := 2) sc_most_held.nd rfl (.inl rfl))
        (pss_one (ps_set (i := 1) sc_most_held.nd rfl (.inl rfl) (pe_callB (call_min2 rfl) (by rfl) mmin (by decide +kernel) (pa_cons (pix (pv 0) pe_int) (pa_cons (pe_op op_add (pv 1) (pv 2)) pa_nil))))))
      (pss_one (ps_ret (pv 1)))), ?_⟩
    refine ⟨.ref d, rfl, d, _, _, .int C, rfl, rfl, SqT.of hD.d, atI_nat (j := 1) rfl, ?_⟩
    refine ⟨.ref d, rfl, d, _, _, .ref a, rfl, rfl, SqT.of hD.d, atI_nat (j := 3) rfl, a, rfl, ⟨_, SqT.of hD.a⟩, ?_⟩
    refine for_tup (xs := ns.map V.int) (fun i σ H' => H' = H ∧ ∃ (m : Int) (y : Option V), σ = [some (.ref d), some (.int m), y] ∧ 0 ≤ m) ⟨rfl, C, none, rfl, hD.lo⟩ (fun i σ H' _ h => ?_) (fun i x σ H' hx h => ?_) (fun σ H' h => ?_)
    · obtain ⟨rfl, _⟩ := h
      exact SqT.of hD.a
    · obtain ⟨rfl, m, y, rfl, hm⟩ := h
      obtain ⟨n, hn, rfl⟩ := get_map_int hx
      have hn0 := (hD.fl.2.2 n hn).1
      refine ⟨.ref d, rfl, d, _, _, .int C, rfl, rfl, SqT.of hD.d, atI_nat (j := 0) rfl, .int m, rfl, .int n, rfl, m, n, rfl, rfl, C, m + n, rfl, ?_⟩
      refine ⟨rfl, _, some (.int n), rfl, ?_⟩
      have hC := hD.lo
      split <;> omega
    · obtain ⟨rfl, m, y, rfl, hm⟩ := h
      exact ⟨.int m, rfl, q m hm⟩
def spNeedPlans : Sp := fun vs H Q _ => ∃ (d a : Addr) (C : Int) (ns : List Int), vs = [.ref d] ∧ DamAt H d a C ns ∧ Q .non H
theorem ok_need_plans {f fm : Addr} {fd fdm : FuncData} {k : Nat} (D : Df K mg "need_plans" s_need_plans ["dam"] f fd) (Dm : Df K mg "most_held" s_most_held ["dam"] fm fdm) (Gm : FnOk P w K mg base CX0 k fm fdm ["dam"] spMostHeld) :
    FnOk P w K mg base CX0 (k + 1) f fd ["dam"] spNeedPlans := by
  refine D.F.ok sc_need_plans (fun vs H Q E h => ?_) (fun cdv A outer s H vs Q E hr h => ?_)
  · obtain ⟨d, a, C, ns, rfl, _⟩ := h
    rfl
  · obtain ⟨d, a, C, ns, rfl, hD, q⟩ := h
    refine ⟨_, pss_one (ps_if (pt_cmpR op_lt (pcall Dm Gm hr (pa_cons (pv 0) pa_nil)) (pix (pv 0) pe_int) (nomark _)) (pss_one ps_never) pss_nil), ?_⟩
    refine ⟨.ref d, rfl, d, a, C, ns, rfl, hD, fun m hm => ⟨.ref d, rfl, d, _, _, .int 0, rfl, rfl, SqT.of hD.d, atI_nat (j := 2) rfl, m, 0, rfl, rfl, _, rfl, ifF (decide_eq_false (by omega)) q⟩⟩
def spNeedDemands (T1 : Addr) : Sp := fun vs H Q _ => ∃ (b : Addr) (ds : List Int), vs = [.int (ds.length : Int), .ref b] ∧ H b = some (.tup (ds.map V.int)) ∧ Flows ds ∧ GxR.TabG H T1 ∧ ∀ H', Ext H H' → Q .non H'
theorem ok_need_demands {f ff : Addr} {fd fdf : FuncData} {c1 T1 : Addr} {k : Nat} (D : Df K mg "need_demands" s_need_demands ["months", "demands"] f fd) (Df' : Dc K mg base "are_flows" s_are_flows ["value"] ff fdf c1 T1) (Gf : FnOk P w K mg base CX0 k ff fdf ["value"] (spFlows T1))
    (mlen : mg "len" = none) : FnOk P w K mg base CX0 (k + 1) f fd ["months", "demands"] (spNeedDemands T1) := by
  refine D.F.ok sc_need_demands (fun vs H Q E h => ?_) (fun cdv A outer s H vs Q E hr h => ?_)
  · obtain ⟨b, ds, rfl, _⟩ := h
    rfl
  · obtain ⟨b, ds, rfl, hb, hf, hT, q⟩ := h
    refine ⟨_, pss_one (ps_if (PW.pt (pw_or (pt_not (pt_val (pcallC Df' Gf hr (pa_cons (pv 1) pa_nil)))) (pw_or1 (pt_cmpR op_ne (plen mlen (pv 1)) (pv 0) (nomark _))))) (pss_one ps_never) pss_nil), ?_⟩
    refine ⟨.ref b, rfl, b, ds, rfl, hb, hf, hT, fun H' e => ⟨true, rfl, iteF ?_⟩⟩
    refine ⟨.ref b, rfl, b, _, rfl, .inr (SqT.of (e.tup hb)), .int _, rfl, rfl, _, rfl, ifF ?_ (q H' e)⟩
    rw [List.length_map, decide_eq_true rfl] <;> rfl
/-! ### water_of -/
def sl (ns : List Int) (f l : Nat) : Int := ((ns.drop f).take (l + 1 - f)).sum
def spWater : Sp := fun vs H Q _ => ∃ (d a : Addr) (C : Int) (ns : List Int) (f l : Nat), vs = [.ref d, .int (f : Int), .int (l : Int)] ∧ DamAt H d a C ns ∧ f ≤ l ∧ l < ns.length ∧ ∀ H', Ext H H' → Q (.int (C + sl ns f l)) H'
theorem ok_water {f : Addr} {fd : FuncData} {k : Nat} (D : Df K mg "water_of" s_water_of ["dam", "first", "last"] f fd) (mlen : mg "len" = none) (msum : mg "sum" = none) : FnOk P w K mg base CX0 (k + 1) f fd ["dam", "first", "last"] spWater := by
  refine D.F.ok sc_water_of (fun vs H Q E h => ?_) (fun cdv A outer s H vs Q E hr h => ?_)
  · obtain ⟨d, a, C, ns, f, l, rfl, _⟩ := h
    rfl
  · obtain ⟨d, a, C, ns, f, l, rfl, hD, h1, h2, q⟩ := h
    refine ⟨_, pss_cons (ps_set (i := 3) sc_water_of.nd rfl (.inl rfl) (pe_ifExp (pt_cmpR op_eq (pv 1) pe_int (nomark _)) (pix (pv 0) pe_int) (pix (pv 0) pe_int)))
      (pss_cons (ps_set (i := 4) sc_water_of.nd rfl (.inl rfl) (pe_ifExp (pt_cmpR op_eq (pv 2) (pe_op op_sub (plen mlen (pix (pv 0) pe_int)) pe_int) (nomark _)) (pix (pv 0) pe_int) pe_int))
      (pss_one (ps_ret (pe_op op_sub (pe_op op_add (pv 3) (pe_callB (cr_sumT rfl) (by rfl) msum (by decide +kernel) (pa_cons (pe_slice sl_tupA (pix (pv 0) pe_int) (po_some (pv 1)) (po_some (pe_op op_add (pv 2) pe_int))) pa_nil))) (pv 4))))), ?_⟩
    refine ⟨.int f, rfl, rfl, _, rfl, ite_same (fun h => ⟨.ref d, rfl, d, _, _, .int C, rfl, rfl, SqT.of hD.d, atI_nat (j := 1) rfl, h⟩) (fun h => ⟨.ref d, rfl, d, _, _, .int C, rfl, rfl, SqT.of hD.d, atI_nat (j := 0) rfl, h⟩) ?_⟩
    refine ⟨.int l, rfl, .ref d, rfl, d, _, _, .ref a, rfl, rfl, SqT.of hD.d, atI_nat (j := 3) rfl, a, _, rfl, .inr (SqT.of hD.a), _, _, rfl, rfl, rfl, _, rfl, ite_same (fun h => ⟨.ref d, rfl, d, _, _, .int 0, rfl, rfl, SqT.of hD.d, atI_nat (j := 2) rfl, h⟩) (fun h => h) ?_⟩
    refine ⟨.int C, rfl, .ref d, rfl, d, _, _, .ref a, rfl, rfl, SqT.of hD.d, atI_nat (j := 3) rfl, .int f, rfl, (f : Int), rfl, .int l, rfl, (l : Int), 1, rfl, rfl, ((l : Int) + 1), rfl, a, _, rfl, SqT.of hD.a, fun hw => ?_, fun hw p np => ?_⟩
    · refine ⟨a, ns, rfl, SqT.of hD.a, C, _, rfl, rfl, .int 0, rfl, _, 0, rfl, rfl, ?_⟩
      have e := q H (Ext.refl H)
      unfold sl at e
      rw [slice_whole ns h2 hw] at e
      show Q (.int (C + ns.sum - 0)) H
      rw [Int.sub_zero]
      exact e
    · refine ⟨p, (ns.drop f).take (l + 1 - f), rfl, SqT.of (by rw [upd_same, slice_cut ns h1 h2]), C, _, rfl, rfl, .int 0, rfl, _, 0, rfl, rfl, ?_⟩
      have e := q _ (Ext.new (o := .tup (cutV (ns.map V.int) (some (f : Int)) (some ((l : Int) + 1)))) np)
      unfold sl at e
      show Q (.int (C + ((ns.drop f).take (l + 1 - f)).sum - 0)) _
      rw [Int.sub_zero]
      exact e
end
end K48

namespace K48
open PySem PySem.Spec PyProof.Rows L2
theorem Ext.over {H0 H : Hp} {D : Addr} {o : HO} (e : Ext H0 H) (n : H0 D = none) : Ext H0 (upd H D o) := by
  refine ⟨fun b u h hn => ?_, fun b t => ?_, fun b u h => ?_⟩
  · rw [upd_ne (ne_of_none h n)]
    exact e.keep b u h hn
  · obtain ⟨ps, h, ht⟩ := id t
    obtain ⟨qs, h2, ht2⟩ := e.tab b t
    exact ⟨qs, by rw [upd_ne (ne_of_none h n)]; exact h2, ht2⟩
  · rw [upd_ne (ne_of_none h n)]
    exact e.there b u h
/-- a list of pairs of ints -/
abbrev PZ := List (Addr × Int × Int)
structure Pairs (H : Hp) (D : Addr) (Z : PZ) : Prop where
  l : H D = some (.lst (Z.map fun z => V.ref z.1))
  a : ∀ z ∈ Z, H z.1 = some (.tup [.int z.2.1, .int z.2.2])
theorem Pairs.ext {H H' : Hp} {D : Addr} {Z : PZ} (p : Pairs H D Z) (e : Ext H H') : Pairs H' D Z := ⟨e.lst p.l, fun z hz => e.tup (p.a z hz)⟩
theorem Pairs.nil {H : Hp} {D : Addr} : Pairs (upd H D (.lst [])) D [] := ⟨upd_same, fun z hz => absurd hz (by simp)⟩
/-- one more -/
theorem Pairs.add {H : Hp} {D p : Addr} {Z : PZ} {x y : Int} (h : Pairs H D Z) (hp : H p = some (.tup [.int x, .int y])) : Pairs (upd H D (.lst ((Z.map fun z => V.ref z.1) ++ [.ref p]))) D (Z ++ [(p, x, y)]) := by
  refine ⟨by rw [upd_same, List.map_append] <;> rfl, fun z hz => ?_⟩
  rcases List.mem_append.mp hz with hz | hz
  · have := h.a z hz
    rw [upd_ne (ne_of this h.l (by intro q; cases q))]
    exact this
  · have e : z = (p, x, y) := by simpa using hz
    subst e
    rw [upd_ne (ne_of hp h.l (by intro q; cases q))]
    exact hp
theorem Pairs.len {H : Hp} {D : Addr} {Z : PZ} (h : Z.length ≤ 1000) : (Z.map fun z => V.ref z.1).length < sizeLine := by
  rw [List.length_map]
  exact small1000 h
theorem yes_ {σ : L2.St} {H : Hp} {Q : Bool → Hp → Prop} (h : Q true H) : tYes σ H Q := h
theorem tup2 : (2 : Nat) ≤ sizeLine := by decide
section
variable {P : Program} {w : World} {K : PySem.W.Frag} {mg : Str → Option Value} {base : Heap}
/-! ### spans -/
def SpanSet (n : Nat) (Z : PZ) : Prop := (∀ z ∈ Z, ∃ f l : Nat, z.2 = ((f : Int), (l : Int)) ∧ f ≤ l ∧ l < n) ∧ (∀ f l : Nat, f ≤ l → l < n → ∃ z ∈ Z, z.2 = ((f : Int), (l : Int))) ∧ Z.length ≤ 200
def spSpans : Sp := fun vs H Q _ => ∃ n : Nat, vs = [.int (n : Int)] ∧ n ≤ 12 ∧ ∀ H' D Z, Ext H H' → H D = none → Pairs H' D Z → SpanSet n Z → Q (.ref D) H'
theorem ok_spans {f : Addr} {fd : FuncData} {k : Nat} (D : Df K mg "spans" s_spans ["months"] f fd) (mrange : mg "range" = none) : FnOk P w K mg base CX0 (k + 1) f fd ["months"] spSpans := by
  refine D.F.ok sc_spans (fun vs H Q E h => ?_) (fun cdv A outer s H vs Q E hr h => ?_)
  · obtain ⟨n, rfl, _⟩ := h
    rfl
  · obtain ⟨n, rfl, hn, q⟩ := h
    refine ⟨_, pss_one (ps_ret (pe_lc2 (own := [("first", 1), ("last", 2)]) (vs1 := [2]) (g := gName 1) (g1 := gName 2) (tt := tYes) (tt1 := tYes) rfl sc_spans.nd (pi_range1 (by rfl) mrange (pa_cons (pv 0) pa_nil))
      (blkOk_by (N := ["months", "first", "last"]) (sc := defScope s_spans) (by decide +kernel)) (by decide)
      (fun _ _ _ _ _ => pg_name (i := 1) sc_spans.nd rfl (Or.inl rfl)) (fun _ _ _ _ _ => pts_nil)
      (fun _ _ _ _ _ => pi_range2 (by rfl) mrange (pa_cons (pv 1) (pa_cons (pv 0) pa_nil)))
      (fun _ _ _ _ _ => pg_name (i := 2) sc_spans.nd rfl (Or.inl rfl)) (fun _ _ _ _ _ => pts_nil)
      (fun _ _ _ _ _ => pe_tup (pa_cons (pv 1) (pa_cons (pv 2) pa_nil))))), ?_⟩
    refine ⟨.int n, rfl, (n : Int), rfl, by omega, by omega, fun D nD => ?_⟩
    refine ⟨fun i m H' => m = n - i ∧ i ≤ n ∧ Ext H H' ∧ ∃ Z : PZ, Pairs H' D Z ∧ (∀ z ∈ Z, ∃ f l : Nat, z.2 = ((f : Int), (l : Int)) ∧ f ≤ l ∧ l < n) ∧ (∀ f l : Nat, f < i → f ≤ l → l < n → ∃ z ∈ Z, z.2 = ((f : Int), (l : Int))) ∧ Z.length ≤ 12 * i,
      ⟨n, rfl, Nat.zero_le _, (Ext.refl H).over nD, [], Pairs.nil, fun z hz => absurd hz (by simp), fun f l h => absurd h (Nat.not_lt_zero _), Nat.zero_le _⟩, fun i m H1 h => ?_⟩
    obtain ⟨rfl, hi, e1, Z, hP, h1, h2, h3⟩ := h
    by_cases hlt : i < n
    · refine .inr ⟨by show i < (n : Int).toNat; omega, fun H' => Ext H H' ∧ ∃ Z : PZ, Pairs H' D Z ∧ (∀ z ∈ Z, ∃ f l : Nat, z.2 = ((f : Int), (l : Int)) ∧ f ≤ l ∧ l < n) ∧ (∀ f l : Nat, f < i + 1 → f ≤ l → l < n → ∃ z ∈ Z, z.2 = ((f : Int), (l : Int))) ∧ Z.length ≤ 12 * (i + 1),
        fun H' p => ⟨n - (i + 1), by omega, rfl, hlt, p⟩, fun x H' y => ?_⟩
      obtain ⟨e, y⟩ := y
      subst e y
      refine ⟨rfl, ?_⟩
      refine yes_ ?_
      rw [if_pos rfl]
      refine ⟨.int (0 + (i : Int)), rfl, .int n, rfl, 0 + (i : Int), n, rfl, by omega, ?_⟩
      refine ⟨fun j k H' => k = n - i - j ∧ j ≤ n - i ∧ Ext H H' ∧ ∃ Z : PZ, Pairs H' D Z ∧ (∀ z ∈ Z, ∃ f l : Nat, z.2 = ((f : Int), (l : Int)) ∧ f ≤ l ∧ l < n) ∧ (∀ f l : Nat, (f < i ∨ (f = i ∧ l < i + j)) → f ≤ l → l < n → ∃ z ∈ Z, z.2 = ((f : Int), (l : Int))) ∧ Z.length ≤ 12 * i + j,
        ⟨n - i, by omega, Nat.zero_le _, e1, Z, hP, h1, fun f l h hfl hl => ?_, by omega⟩, fun j k H2 h => ?_⟩
      · rcases h with h | h
        · exact h2 f l h hfl hl
        · omega
      obtain ⟨rfl, hj, e2, Z2, hP2, g1, g2, g3⟩ := h
      by_cases hjl : j < n - i
      · refine .inr ⟨by show j < ((n : Int) - (0 + (i : Int))).toNat; omega, fun H' => Ext H H' ∧ ∃ Z : PZ, Pairs H' D Z ∧ (∀ z ∈ Z, ∃ f l : Nat, z.2 = ((f : Int), (l : Int)) ∧ f ≤ l ∧ l < n) ∧ (∀ f l : Nat, (f < i ∨ (f = i ∧ l < i + (j + 1))) → f ≤ l → l < n → ∃ z ∈ Z, z.2 = ((f : Int), (l : Int))) ∧ Z.length ≤ 12 * i + (j + 1),
          fun H' p => ⟨n - i - (j + 1), by omega, rfl, hjl, p⟩, fun x H' y => ?_⟩
        obtain ⟨e, y⟩ := y
        subst e y
        refine ⟨rfl, ?_⟩
        refine yes_ ?_
        rw [if_pos rfl]
        refine ⟨.int (0 + (i : Int)), rfl, .int (0 + (i : Int) + (j : Int)), rfl, tup2, fun p np => ?_⟩
        have e3 : Ext H' (upd H' p (.tup [.int (0 + (i : Int)), .int (0 + (i : Int) + (j : Int))])) := Ext.new np
        have hP3 := hP2.ext e3
        refine ⟨_, hP3.l, Pairs.len (H := H') (D := D) (by omega), (e2.trans e3).over nD, _, hP3.add upd_same, fun z hz => ?_, fun f l h hfl hl => ?_, by rw [List.length_append, List.length_singleton]; omega⟩
        · rcases List.mem_append.mp hz with hz | hz
          · exact g1 z hz
          · have e : z = (p, 0 + (i : Int), 0 + (i : Int) + (j : Int)) := by simpa using hz
            subst e
            exact ⟨i, i + j, by simp, by omega, by omega⟩
        · by_cases hh : f < i ∨ (f = i ∧ l < i + j)
          · obtain ⟨z, hz, ez⟩ := g2 f l hh hfl hl
            exact ⟨z, List.mem_append_left _ hz, ez⟩
          · have h4 : f = i ∧ l = i + j := by omega
            obtain ⟨rfl, rfl⟩ := h4
            exact ⟨_, List.mem_append_right _ (List.mem_singleton.mpr rfl), by simp⟩
      · refine .inl ⟨by show ((n : Int) - (0 + (i : Int))).toNat ≤ j; omega, e2, Z2, hP2, g1, fun f l h hfl hl => g2 f l (by omega) hfl hl, by omega⟩
    · have hin : i = n := by omega
      subst hin
      exact .inl ⟨by show (i : Int).toNat ≤ i; omega, q H1 D Z e1 nD hP ⟨h1, fun f l hfl hl => h2 f l (by omega) hfl hl, by omega⟩⟩
end
end K48

namespace K48
open PySem PySem.Spec PyProof.Rows L2
/-- divisors are small -/
def Small (Z : PZ) : Prop := ∀ z ∈ Z, 0 < z.2.2 ∧ z.2.2 < 1073741824
theorem get_refs {Z : PZ} {i : Nat} {x : V} (h : (Z.map fun z => V.ref z.1)[i]? = some x) : ∃ z, Z[i]? = some z ∧ z ∈ Z ∧ x = .ref z.1 := by
  rw [List.getElem?_map] at h
  cases e : Z[i]? with
  | none =>
    rw [e] at h
    cases h
  | some z =>
    rw [e] at h
    cases h
    exact ⟨z, rfl, List.mem_of_getElem? e, rfl⟩
section
variable {P : Program} {w : World} {K : PySem.W.Frag} {mg : Str → Option Value} {base : Heap}
/-! ### least_of -/
def spLeastOf : Sp := fun vs H Q _ => ∃ (a : Addr) (Z : PZ), vs = [.ref a] ∧ Pairs H a Z ∧ Small Z ∧ Z ≠ [] ∧ ∀ z ∈ Z, (∀ y ∈ Z, z.2.1 * y.2.2 ≤ y.2.1 * z.2.2) → Q (.ref z.1) H
theorem ok_least_of {f fl : Addr} {fd fdl : FuncData} {k : Nat} (D : Df K mg "least_of" s_least_of ["some"] f fd) (Dl : Df K mg "less" s_less ["one", "other"] fl fdl) (Gl : FnOk P w K mg base CX0 k fl fdl ["one", "other"] spLess) :
    FnOk P w K mg base CX0 (k + 1) f fd ["some"] spLeastOf := by
  refine D.F.ok sc_least_of (fun vs H Q E h => ?_) (fun cdv A outer s H vs Q E hr h => ?_)
  · obtain ⟨a, Z, rfl, _⟩ := h
    rfl
  · obtain ⟨a, Z, rfl, hP, hS, hne, q⟩ := h
    refine ⟨_, pss_cons (ps_set (i := 1) sc_least_of.nd rfl (.inl rfl) (pe_ix ix_list (pv 0) pe_int (fun _ _ => rfl)))
      (pss_cons (ps_for PassesOwn.never rfl (pi_list (pv 0)) (pg_name (i := 2) sc_least_of.nd rfl (.inl rfl))
        (pss_one (ps_set (i := 1) sc_least_of.nd rfl (.inl rfl) (pe_ifExp (pt_val (pcall Dl Gl hr (pa_cons (pv 2) (pa_cons (pv 1) pa_nil)))) (pv 2) (pv 1)))))
      (pss_one (ps_ret (pv 1)))), ?_⟩
    obtain ⟨z0, Z', hZ⟩ : ∃ z0 Z', Z = z0 :: Z' := by
      cases Z with
      | nil => exact absurd rfl hne
      | cons z r => exact ⟨z, r, rfl⟩
    have m0 : z0 ∈ Z := by rw [hZ]; exact List.mem_cons_self
    refine ⟨.ref a, rfl, a, _, 0, .ref z0.1, rfl, rfl, SqL.of hP.l, atI_nat (j := 0) (by rw [hZ] <;> rfl), ?_⟩
    refine ⟨.ref a, rfl, a, rfl, ⟨_, SqL.of hP.l⟩, ?_⟩
    refine for_list (xs := Z.map fun z => V.ref z.1) (fun i σ H' => H' = H ∧ ∃ b y, b ∈ Z ∧ σ = [some (.ref a), some (.ref b.1), y] ∧ ∀ y ∈ Z.take i, b.2.1 * y.2.2 ≤ y.2.1 * b.2.2) ⟨rfl, z0, none, m0, rfl, fun y hy => by rw [List.take_zero] at hy; cases hy⟩
      (fun i σ H' _ h => ?_) (fun i x σ H' hx h => ?_) (fun σ H' h => ?_)
    · obtain ⟨rfl, _⟩ := h
      exact SqL.of hP.l
    · obtain ⟨rfl, b, y, hb, rfl, hm⟩ := h
      obtain ⟨z, hz, mz, rfl⟩ := get_refs hx
      have tk : Z.take (i + 1) = Z.take i ++ [z] := by rw [List.take_add_one, hz] <;> rfl
      refine ⟨.ref z.1, rfl, .ref b.1, rfl, z.1, b.1, _, _, _, _, rfl, hP.a z mz, hP.a b hb, hS z mz, hS b hb, _, rfl, ite2 (fun c => ?_) (fun c => ?_)⟩
      · have c' := of_decide_eq_true c
        refine ⟨.ref z.1, rfl, rfl, z, _, mz, rfl, fun y hy => ?_⟩
        rw [tk] at hy
        rcases List.mem_append.mp hy with hy | hy
        · have my : y ∈ Z := List.mem_of_mem_take hy
          exact le_trans_rat (a := z.2) (b := b.2) (c := y.2) (hS z mz).1 (hS b hb).1 (hS y my).1 (Int.le_of_lt c') (hm y hy)
        · have e : y = z := by simpa using hy
          subst e
          exact Int.le_refl _
      · have c' : ¬ z.2.1 * b.2.2 < b.2.1 * z.2.2 := fun q => c (decide_eq_true q)
        refine ⟨.ref b.1, rfl, rfl, b, _, hb, rfl, fun y hy => ?_⟩
        rw [tk] at hy
        rcases List.mem_append.mp hy with hy | hy
        · exact hm y hy
        · have e : y = z := by simpa using hy
          subst e
          exact Int.not_lt.mp c'
    · obtain ⟨rfl, b, y, hb, rfl, hm⟩ := h
      refine ⟨.ref b.1, rfl, q b hb fun y hy => hm y ?_⟩
      rw [List.length_map, List.take_of_length_le (Nat.le_refl _)]
      exact hy
/-! ### span_yield -/
def spSpanYield : Sp := fun vs H Q _ => ∃ (d a u : Addr) (C : Int) (ns : List Int) (f l : Nat), vs = [.ref d, .ref u] ∧ DamAt H d a C ns ∧ H u = some (.tup [.int (f : Int), .int (l : Int)]) ∧ f ≤ l ∧ l < ns.length ∧
  ∀ H' p x y, Ext H H' → H p = none → RatOf (C + sl ns f l) ((l : Int) - f + 1) x y → H' p = some (.tup [.int x, .int y]) → Q (.ref p) H'
theorem ok_span_yield {f fr fw : Addr} {fd fdr fdw : FuncData} {k : Nat} (D : Df K mg "span_yield" s_span_yield ["dam", "span"] f fd) (Dr : Df K mg "ratio" s_ratio ["top", "bottom"] fr fdr) (Gr : FnOk P w K mg base CX0 k fr fdr ["top", "bottom"] spRatio)
    (Dw : Df K mg "water_of" s_water_of ["dam", "first", "last"] fw fdw) (Gw : FnOk P w K mg base CX0 k fw fdw ["dam", "first", "last"] spWater) : FnOk P w K mg base CX0 (k + 1) f fd ["dam", "span"] spSpanYield := by
  refine D.F.ok sc_span_yield (fun vs H Q E h => ?_) (fun cdv A outer s H vs Q E hr h => ?_)
  · obtain ⟨d, a, u, C, ns, f, l, rfl, _⟩ := h
    rfl
  · obtain ⟨d, a, u, C, ns, f, l, rfl, hD, hu, h1, h2, q⟩ := h
    have hl := hD.fl.2.1
    refine ⟨_, pss_one (ps_ret (pcall Dr Gr hr (pa_cons (pcall Dw Gw hr (pa_cons (pv 0) (pa_cons (pix (pv 1) pe_int) (pa_cons (pix (pv 1) pe_int) pa_nil))))
      (pa_cons (pe_op op_add (pe_op op_sub (pix (pv 1) pe_int) (pix (pv 1) pe_int)) pe_int) pa_nil)))), ?_⟩
    refine ⟨.ref d, rfl, .ref u, rfl, u, _, _, .int f, rfl, rfl, SqT.of hu, atI_nat (j := 0) rfl, .ref u, rfl, u, _, _, .int l, rfl, rfl, SqT.of hu, atI_nat (j := 1) rfl, d, a, C, ns, f, l, rfl, hD, h1, h2, fun H1 e1 => ?_⟩
    have hu1 := e1.tup hu
    refine ⟨.ref u, rfl, u, _, _, .int l, rfl, rfl, SqT.of hu1, atI_nat (j := 1) rfl, .ref u, rfl, u, _, _, .int f, rfl, rfl, SqT.of hu1, atI_nat (j := 0) rfl, l, f, rfl, rfl, _, 1, rfl, rfl, ?_⟩
    refine ⟨_, _, rfl, by omega, by omega, fun p x y np R => ?_⟩
    exact q _ p x y (e1.trans (Ext.new np)) (e1.free np) R upd_same
/-! ### need_yield -/
theorem ok_need_yield {f fn fp : Addr} {fd fdn fdp : FuncData} {c2 T1 T2 : Addr} {k : Nat} (D : Df K mg "need_yield" s_need_yield ["dam"] f fd) (Dn : Dc K mg base "need_dam" s_need_dam ["dam"] fn fdn c2 T2) (Gn : FnOk P w K mg base CX0 k fn fdn ["dam"] (spNeedDam T1 T2))
    (Dp : Df K mg "need_plans" s_need_plans ["dam"] fp fdp) (Gp : FnOk P w K mg base CX0 k fp fdp ["dam"] spNeedPlans) : FnOk P w K mg base CX0 (k + 1) f fd ["dam"] (spNeedDam T1 T2) := by
  refine D.F.ok sc_need_yield (fun vs H Q E h => ?_) (fun cdv A outer s H vs Q E hr h => ?_)
  · obtain ⟨d, a, C, ns, rfl, _⟩ := h
    rfl
  · obtain ⟨d, a, C, ns, rfl, hD, hT1, hT2, q⟩ := h
    refine ⟨_, pss_cons (ps_expr (pcallC Dn Gn hr (pa_cons (pv 0) pa_nil))) (pss_one (ps_expr (pcall Dp Gp hr (pa_cons (pv 0) pa_nil)))), ?_⟩
    refine ⟨.ref d, rfl, d, a, C, ns, rfl, hD, hT1, hT2, fun H1 e1 => ?_⟩
    exact ⟨.ref d, rfl, d, a, C, ns, rfl, hD.ext e1, q H1 e1⟩
/-! ### yield_of -/
def WFirm (C : Int) (ns : List Int) (w d : Int) : Prop := ∃ f l : Nat, f ≤ l ∧ l < ns.length ∧ w = C + sl ns f l ∧ d = (l : Int) - f + 1
theorem WFirm.pos {C : Int} {ns : List Int} {w d : Int} (h : WFirm C ns w d) : 0 < d := by
  obtain ⟨f, l, h1, h2, _, rfl⟩ := h
  omega
def spYield : Sp := fun vs H Q _ => ∃ (d a : Addr) (C : Int) (ns : List Int), vs = [.ref d] ∧ DamAt H d a C ns ∧ ∀ H' p x y, Ext H H' → Least (WFirm C ns) x y → y ≤ 12 → H' p = some (.tup [.int x, .int y]) → Q (.ref p) H'
theorem ok_yield_of {f fs fy fl : Addr} {fd fds fdy fdl : FuncData} {k : Nat} (D : Df K mg "yield_of" s_yield_of ["dam"] f fd) (Ds : Df K mg "spans" s_spans ["months"] fs fds) (Gs : FnOk P w K mg base CX0 k fs fds ["months"] spSpans)
    (Dy : Df K mg "span_yield" s_span_yield ["dam", "span"] fy fdy) (Gy : FnOk P w K mg base CX0 k fy fdy ["dam", "span"] spSpanYield) (Dl : Df K mg "least_of" s_least_of ["some"] fl fdl) (Gl : FnOk P w K mg base CX0 k fl fdl ["some"] spLeastOf)
    (mlen : mg "len" = none) : FnOk P w K mg base CX0 (k + 1) f fd ["dam"] spYield := by
  refine D.F.ok sc_yield_of (fun vs H Q E h => ?_) (fun cdv A outer s H vs Q E hr h => ?_)
  · obtain ⟨d, a, C, ns, rfl, _⟩ := h
    rfl
  · obtain ⟨d, a, C, ns, rfl, hD, q⟩ := h
    have hl1 := hD.fl.1
    have hl2 := hD.fl.2.1
    refine ⟨_, pss_one (ps_ret (pcall Dl Gl hr (pa_cons (pe_lc (own := [("one", 1)]) (g := gName 1) (tt := tYes) rfl sc_yield_of.nd (pi_list (pcall Ds Gs hr (pa_cons (plen mlen (pix (pv 0) pe_int)) pa_nil)))
      (blkOk_by (N := ["dam", "one"]) (sc := defScope s_yield_of) (by decide +kernel)) (fun _ _ _ _ _ => pg_name (i := 1) sc_yield_of.nd rfl (Or.inl rfl)) (fun _ _ _ _ _ => pts_nil)
      (fun _ _ _ _ _ => pcall Dy Gy hr (pa_cons (pv 0) (pa_cons (pv 1) pa_nil)))) pa_nil))), ?_⟩
    refine ⟨.ref d, rfl, d, _, _, .ref a, rfl, rfl, SqT.of hD.d, atI_nat (j := 3) rfl, a, _, rfl, .inr (SqT.of hD.a), ns.length, by rw [List.length_map] <;> rfl, hl2, fun H1 S Z e1 nS hZ hSp => ?_⟩
    obtain ⟨g1, g2, g3⟩ := hSp
    refine ⟨S, rfl, ⟨_, SqL.of hZ.l⟩, fun L nL => ?_⟩
    refine lc_list (xs := Z.map fun z => V.ref z.1) (fun i H' => Ext H1 H' ∧ ∃ Y : PZ, Pairs H' L Y ∧ Y.length ≤ i ∧ (∀ y ∈ Y, ∃ w d, WFirm C ns w d ∧ RatOf w d y.2.1 y.2.2) ∧ (∀ z ∈ Z.take i, ∀ f l : Nat, z.2 = ((f : Int), (l : Int)) → ∃ y ∈ Y, RatOf (C + sl ns f l) ((l : Int) - f + 1) y.2.1 y.2.2))
      ⟨(Ext.refl H1).over nL, [], Pairs.nil, Nat.zero_le _, fun y hy => absurd hy (by simp), fun z hz => by rw [List.take_zero] at hz; cases hz⟩ (fun i H' _ h => SqL.of (h.1.lst hZ.l)) (fun i x H' hx h => ?_) (fun H' h => ?_)
    · obtain ⟨e2, Y, hY, hYl, y1, y2⟩ := h
      obtain ⟨z, hz, mz, rfl⟩ := get_refs hx
      obtain ⟨f', l', ez, h1, h2⟩ := g1 z mz
      have hi : i < Z.length := (List.getElem?_eq_some_iff.mp hz).1
      have hu := e2.tup (hZ.a z mz)
      rw [ez] at hu
      refine ⟨rfl, ?_⟩
      refine yes_ ?_
      rw [if_pos rfl]
      refine ⟨.ref d, rfl, .ref z.1, rfl, d, a, z.1, C, ns, f', l', rfl, hD.ext (e1.trans e2), hu, h1, h2, fun H3 p x y e3 np R hp => ?_⟩
      have hY3 := hY.ext e3
      refine ⟨_, hY3.l, Pairs.len (H := H3) (D := L) (by omega), (e2.trans e3).over nL, _, hY3.add hp, by rw [List.length_append, List.length_singleton]; omega, fun y' hy' => ?_, fun z' hz' f2 l2 ez2 => ?_⟩
      · rcases List.mem_append.mp hy' with hy' | hy'
        · exact y1 y' hy'
        · have e : y' = (p, x, y) := by simpa using hy'
          subst e
          exact ⟨_, _, ⟨f', l', h1, h2, rfl, rfl⟩, R⟩
      · have tk : Z.take (i + 1) = Z.take i ++ [z] := by rw [List.take_add_one, hz] <;> rfl
        rw [tk] at hz'
        rcases List.mem_append.mp hz' with hz' | hz'
        · obtain ⟨y', hy', R'⟩ := y2 z' hz' f2 l2 ez2
          exact ⟨y', List.mem_append_left _ hy', R'⟩
        · have e : z' = z := by simpa using hz'
          subst e
          rw [ez] at ez2
          obtain ⟨q1, q2⟩ := Prod.mk.inj ez2
          have q1' : f' = f2 := by omega
          have q2' : l' = l2 := by omega
          subst q1' q2'
          exact ⟨(p, x, y), List.mem_append_right _ (List.mem_singleton.mpr rfl), R⟩
    · obtain ⟨e2, Y, hY, hYl, y1, y2⟩ := h
      rw [List.length_map, List.take_of_length_le (Nat.le_refl _)] at y2
      have y3 : ∀ w d, WFirm C ns w d → ∃ y ∈ Y, RatOf w d y.2.1 y.2.2 := fun w d hW => by
        obtain ⟨f', l', h1, h2, rfl, rfl⟩ := hW
        obtain ⟨z, mz, ez⟩ := g2 f' l' h1 h2
        exact y2 z mz f' l' ez
      have hb : ∀ y ∈ Y, 0 < y.2.2 ∧ y.2.2 ≤ 12 := fun y hy => by
        obtain ⟨w, d, ⟨f', l', h1, h2, rfl, rfl⟩, R⟩ := y1 y hy
        have := R.le
        have := R.pos
        omega
      refine ⟨L, Y, rfl, hY, fun y hy => ?_, fun hn => ?_, fun y hy hm => ?_⟩
      · have := hb y hy
        omega
      · obtain ⟨y, hy, _⟩ := y3 _ _ ⟨0, 0, Nat.le_refl _, by omega, rfl, rfl⟩
        rw [hn] at hy
        cases hy
      · exact q H' y.1 _ _ (e1.trans e2) (least_of_rats (fun w d h => h.pos) y1 y3 hy hm) (hb y hy).2 (hY.a y hy)
/-! ### firm_yield -/
def spFirmYield (T1 T2 : Addr) : Sp := fun vs H Q _ => ∃ (d a : Addr) (C : Int) (ns : List Int), vs = [.ref d] ∧ DamAt H d a C ns ∧ GxR.TabG H T1 ∧ GxR.TabG H T2 ∧ ∀ H' p x y, Ext H H' → Least (WFirm C ns) x y → y ≤ 12 → H' p = some (.tup [.int x, .int y]) → Q (.ref p) H'
theorem ok_firm_yield {f fn fy : Addr} {fd fdn fdy : FuncData} {T1 T2 : Addr} {k : Nat} (D : Df K mg "firm_yield" s_firm_yield ["dam"] f fd) (Dn : Df K mg "need_yield" s_need_yield ["dam"] fn fdn) (Gn : FnOk P w K mg base CX0 k fn fdn ["dam"] (spNeedDam T1 T2))
    (Dy : Df K mg "yield_of" s_yield_of ["dam"] fy fdy) (Gy : FnOk P w K mg base CX0 k fy fdy ["dam"] spYield) : FnOk P w K mg base CX0 (k + 1) f fd ["dam"] (spFirmYield T1 T2) := by
  refine D.F.ok sc_firm_yield (fun vs H Q E h => ?_) (fun cdv A outer s H vs Q E hr h => ?_)
  · obtain ⟨d, a, C, ns, rfl, _⟩ := h
    rfl
  · obtain ⟨d, a, C, ns, rfl, hD, hT1, hT2, q⟩ := h
    refine ⟨_, pss_cons (ps_expr (pcall Dn Gn hr (pa_cons (pv 0) pa_nil))) (pss_one (ps_ret (pcall Dy Gy hr (pa_cons (pv 0) pa_nil)))), ?_⟩
    refine ⟨.ref d, rfl, d, a, C, ns, rfl, hD, hT1, hT2, fun H1 e1 => ?_⟩
    exact ⟨.ref d, rfl, d, a, C, ns, rfl, hD.ext e1, fun H2 p x y e2 L hy hp => q H2 p x y (e1.trans e2) L hy hp⟩
end
end K48

namespace K48
open PySem PySem.Spec PyProof.Rows L2
/-- another list is written -/
theorem Pairs.off {H : Hp} {S L : Addr} {Z : PZ} {xs : List V} {o : HO} (h : Pairs H S Z) (n : S ≠ L) (hL : H L = some (.lst xs)) : Pairs (upd H L o) S Z := by
  refine ⟨by rw [upd_ne n]; exact h.l, fun z hz => ?_⟩
  have := h.a z hz
  rw [upd_ne (ne_of this hL (by intro q; cases q))]
  exact this
theorem sum_bound : ∀ (ns : List Int), (∀ v ∈ ns, 0 ≤ v ∧ v ≤ 1000) → 0 ≤ ns.sum ∧ ns.sum ≤ 1000 * (ns.length : Int)
  | [], _ => by simp
  | a :: r, h => by
    have h1 := h a List.mem_cons_self
    have h2 := sum_bound r fun v hv => h v (List.mem_cons_of_mem _ hv)
    rw [List.sum_cons, List.length_cons]
    constructor
    · omega
    · push_cast
      omega
theorem sl_bound {ns : List Int} (h : Flows ns) (f l : Nat) : 0 ≤ sl ns f l ∧ sl ns f l ≤ 12000 := by
  have h1 := sum_bound ((ns.drop f).take (l + 1 - f)) fun v hv => h.2.2 v (List.mem_of_mem_drop (List.mem_of_mem_take hv))
  have h2 : ((ns.drop f).take (l + 1 - f)).length ≤ 12 := by
    have := h.2.1
    rw [List.length_take, List.length_drop]
    omega
  unfold sl
  omega
theorem sum_sl {K : PySem.W.Frag} {H : Hp} {a : Addr} {ns : List Int} {f l : Nat} {R : V → Hp → Prop} (ha : H a = some (.tup (ns.map V.int))) (h1 : f ≤ l) (h2 : l < ns.length)
    (h : ∀ (H' : Hp) (p : Addr) (ms : List Int), Ext H H' → SqT K H' p (ms.map V.int) → ms.sum = sl ns f l → R (.ref p) H') : rSlA K (.ref a) (some (f : Int)) (some ((l : Int) + 1)) H R := by
  refine ⟨a, _, rfl, SqT.of ha, fun hw => ?_, fun hw p np => ?_⟩
  · refine h H a ns (Ext.refl H) (SqT.of ha) ?_
    unfold sl
    rw [slice_whole ns h2 hw]
  · exact h _ p ((ns.drop f).take (l + 1 - f)) (Ext.new np) (SqT.of (by rw [upd_same, slice_cut ns h1 h2])) rfl
def WShare (C : Int) (ns ds : List Int) (w d : Int) : Prop := ∃ f l : Nat, f ≤ l ∧ l < ns.length ∧ w = C + sl ns f l ∧ d = sl ds f l ∧ 0 < d
section
variable {P : Program} {w : World} {K : PySem.W.Frag} {mg : Str → Option Value} {base : Heap}
/-! ### firm_share -/
def spFirmShare (T1 T2 : Addr) : Sp := fun vs H Q _ => ∃ (d a b : Addr) (C : Int) (ns ds : List Int), vs = [.ref d, .ref b] ∧ DamAt H d a C ns ∧ H b = some (.tup (ds.map V.int)) ∧ Flows ds ∧ ds.length = ns.length ∧ (∃ v ∈ ds, 0 < v) ∧ GxR.TabG H T1 ∧ GxR.TabG H T2 ∧
  ∀ H' p x y, Ext H H' → Least (WShare C ns ds) x y → y ≤ 12000 → H' p = some (.tup [.int x, .int y]) → Q (.ref p) H'
theorem sl_one {ds : List Int} {v : Int} (h : v ∈ ds) : ∃ f : Nat, f < ds.length ∧ sl ds f f = v := by
  obtain ⟨f, hf, rfl⟩ := List.getElem_of_mem h
  refine ⟨f, hf, ?_⟩
  unfold sl
  rw [show f + 1 - f = 1 by omega, List.drop_eq_getElem_cons hf]
  show ([ds[f]] : List Int).sum = ds[f]
  simp
theorem ok_firm_share {f fn fe fp fs fr fw fl : Addr} {fd fdn fde fdp fds fdr fdw fdl : FuncData} {c2 T1 T2 : Addr} {k : Nat} (D : Df K mg "firm_share" s_firm_share ["dam", "demands"] f fd)
    (Dn : Dc K mg base "need_dam" s_need_dam ["dam"] fn fdn c2 T2) (Gn : FnOk P w K mg base CX0 k fn fdn ["dam"] (spNeedDam T1 T2)) (De : Df K mg "need_demands" s_need_demands ["months", "demands"] fe fde) (Ge : FnOk P w K mg base CX0 k fe fde ["months", "demands"] (spNeedDemands T1))
    (Dp : Df K mg "need_plans" s_need_plans ["dam"] fp fdp) (Gp : FnOk P w K mg base CX0 k fp fdp ["dam"] spNeedPlans) (Ds : Df K mg "spans" s_spans ["months"] fs fds) (Gs : FnOk P w K mg base CX0 k fs fds ["months"] spSpans)
    (Dr : Df K mg "ratio" s_ratio ["top", "bottom"] fr fdr) (Gr : FnOk P w K mg base CX0 k fr fdr ["top", "bottom"] spRatio) (Dw : Df K mg "water_of" s_water_of ["dam", "first", "last"] fw fdw) (Gw : FnOk P w K mg base CX0 k fw fdw ["dam", "first", "last"] spWater)
    (Dl : Df K mg "least_of" s_least_of ["some"] fl fdl) (Gl : FnOk P w K mg base CX0 k fl fdl ["some"] spLeastOf) (mlen : mg "len" = none) (mmax : mg "max" = none) (msum : mg "sum" = none) :
    FnOk P w K mg base CX0 (k + 1) f fd ["dam", "demands"] (spFirmShare T1 T2) := by
  refine D.F.ok sc_firm_share (fun vs H Q E h => ?_) (fun cdv A outer s H vs Q E hr h => ?_)
  · obtain ⟨d, a, b, C, ns, ds, rfl, _⟩ := h
    rfl
  · obtain ⟨d, a, b, C, ns, ds, rfl, hD, hb, hds, hlen, ⟨v0, hv0, hv0p⟩, hT1, hT2, q⟩ := h
    have hl1 := hD.fl.1
    have hl2 := hD.fl.2.1
    refine ⟨_, pss_cons (ps_expr (pcallC Dn Gn hr (pa_cons (pv 0) pa_nil)))
      (pss_cons (ps_expr (pcall De Ge hr (pa_cons (plen mlen (pix (pv 0) pe_int)) (pa_cons (pv 1) pa_nil))))
      (pss_cons (ps_if (pt_cmpR op_eq (pe_callB (cr_maxT rfl) (by rfl) mmax (by decide +kernel) (pa_cons (pv 1) pa_nil)) pe_int (nomark _)) (pss_one ps_never) pss_nil)
      (pss_cons (ps_expr (pcall Dp Gp hr (pa_cons (pv 0) pa_nil)))
      (pss_cons (ps_set (i := 2) sc_firm_share.nd rfl (.inl rfl) (pe_lst pa_nil))
      (pss_cons (ps_for PassesOwn.never rfl (pi_list (pcall Ds Gs hr (pa_cons (plen mlen (pix (pv 0) pe_int)) pa_nil))) (pg_tup (by rfl) (pgs_cons (pg_name (i := 3) sc_firm_share.nd rfl (.inl rfl)) (pgs_cons (pg_name (i := 4) sc_firm_share.nd rfl (.inl rfl)) pgs_nil)))
        (pss_cons (ps_set (i := 5) sc_firm_share.nd rfl (.inl rfl) (pe_callB (cr_sumT rfl) (by rfl) msum (by decide +kernel) (pa_cons (pe_slice sl_tupA (pv 1) (po_some (pv 3)) (po_some (pe_op op_add (pv 4) pe_int))) pa_nil)))
        (pss_one (ps_if (pt_cmpR op_gt (pv 5) pe_int (nomark _))
          (pss_one (ps_expr (pe_bm PySem.F.plainAttrs_list PySem.F.slot_list_append PySem.F.type_list_append mt_append (pv 2) (pa_cons (pcall Dr Gr hr (pa_cons (pcall Dw Gw hr (pa_cons (pv 0) (pa_cons (pv 3) (pa_cons (pv 4) pa_nil)))) (pa_cons (pv 5) pa_nil))) pa_nil)))) pss_nil))))
      (pss_one (ps_ret (pcall Dl Gl hr (pa_cons (pv 2) pa_nil))))))))), ?_⟩
    refine ⟨.ref d, rfl, d, a, C, ns, rfl, hD, hT1, hT2, fun H1 e1 => ?_⟩
    have hD1 := hD.ext e1
    refine ⟨.ref d, rfl, d, _, _, .ref a, rfl, rfl, SqT.of hD1.d, atI_nat (j := 3) rfl, a, _, rfl, .inr (SqT.of hD1.a), .ref b, rfl, b, ds, by rw [List.length_map, hlen] <;> rfl, e1.tup hb, hds, e1.tab _ hT1, fun H2 e2' => ?_⟩
    have e2 := e1.trans e2'
    have hD2 := hD.ext e2
    refine ⟨.ref b, rfl, b, ds, rfl, SqT.of (e2.tup hb), by have := hds.1; omega, fun m hm hmx => ?_⟩
    have hmp : 0 < m := Int.lt_of_lt_of_le hv0p (hmx v0 hv0)
    refine ⟨rfl, _, rfl, ifF (decide_eq_false fun z => ?_) ?_⟩
    · cases z
      exact absurd hmp (by decide)
    refine ⟨.ref d, rfl, d, a, C, ns, rfl, hD2, ?_⟩
    -- found = []
    refine ⟨Nat.zero_le _, fun L nL => ?_⟩
    have e3 : Ext H2 (upd H2 L (.lst [])) := Ext.new nL
    have nL0 : H L = none := e2.free nL
    have hD3 := hD2.ext e3
    refine ⟨.ref d, rfl, d, _, _, .ref a, rfl, rfl, SqT.of hD3.d, atI_nat (j := 3) rfl, a, _, rfl, .inr (SqT.of hD3.a), ns.length, by rw [List.length_map] <;> rfl, hl2, fun H4 S Z e4 nS hZ hSp => ?_⟩
    obtain ⟨g1, g2, g3⟩ := hSp
    have hSL : S ≠ L := fun z => by
      rw [z, upd_same] at nS
      cases nS
    refine ⟨S, rfl, ⟨_, SqL.of hZ.l⟩, ?_⟩
    refine for_list (xs := Z.map fun z => V.ref z.1) (fun i σ H' => Ext H H' ∧ Pairs H' S Z ∧ ∃ (y3 y4 y5 : Option V) (Y : PZ), σ = [some (.ref d), some (.ref b), some (.ref L), y3, y4, y5] ∧ Pairs H' L Y ∧ Y.length ≤ i ∧ (∀ y ∈ Y, ∃ w d, WShare C ns ds w d ∧ RatOf w d y.2.1 y.2.2) ∧
      (∀ z ∈ Z.take i, ∀ f l : Nat, z.2 = ((f : Int), (l : Int)) → 0 < sl ds f l → ∃ y ∈ Y, RatOf (C + sl ns f l) (sl ds f l) y.2.1 y.2.2))
      ⟨(e2.trans e3).trans e4, hZ, none, none, none, [], rfl, Pairs.nil.ext e4, Nat.zero_le _, fun y hy => absurd hy (by simp), fun z hz => by rw [List.take_zero] at hz; cases hz⟩
      (fun i σ H' _ h => SqL.of h.2.1.l) (fun i x σ H' hx h => ?_) (fun σ H' h => ?_)
    · obtain ⟨e5, hZ5, y3, y4, y5, Y, rfl, hY, hYl, y1, y2⟩ := h
      obtain ⟨z, hz, mz, rfl⟩ := get_refs hx
      obtain ⟨f', l', ez, h1, h2⟩ := g1 z mz
      have hi : i < Z.length := (List.getElem?_eq_some_iff.mp hz).1
      have hu := hZ5.a z mz
      rw [ez] at hu
      have hb5 := e5.tup hb
      have h2' : l' < ds.length := by omega
      have tk : Z.take (i + 1) = Z.take i ++ [z] := by rw [List.take_add_one, hz] <;> rfl
      refine ⟨z.1, _, rfl, SqT.of hu, rfl, .int f', _, rfl, .int l', [], rfl, rfl, ?_⟩
      -- the demand
      refine ⟨.ref b, rfl, .int f', rfl, (f' : Int), rfl, .int l', rfl, (l' : Int), 1, rfl, rfl, ((l' : Int) + 1), rfl, sum_sl hb5 h1 h2' fun H6 p ms e6 hp hs => ⟨p, ms, rfl, hp, ?_⟩⟩
      rw [hs]
      have hb6 := sl_bound hds f' l'
      have hY6 := hY.ext e6
      have hZ6 := hZ5.ext e6
      have e56 := e5.trans e6
      refine ⟨.int _, rfl, _, 0, rfl, rfl, _, rfl, ite2 (fun c => ?_) (fun c => ?_)⟩
      · have c' : 0 < sl ds f' l' := of_decide_eq_true c
        -- found.append(ratio(water_of(dam, first, last), demand))
        refine ⟨.ref L, rfl, .inl ⟨rfl, _, SqL.of hY6.l⟩, .ref d, rfl, .int f', rfl, .int l', rfl, d, a, C, ns, f', l', rfl, hD.ext e56, h1, h2, fun H7 e7 => ?_⟩
        refine ⟨.int _, rfl, C + sl ns f' l', sl ds f' l', rfl, c', by omega, fun r x y nr R => ?_⟩
        have e8 : Ext H6 (upd H7 r (.tup [.int x, .int y])) := e7.trans (Ext.new nr)
        have hY8 := hY6.ext e8
        refine ⟨L, _, _, rfl, rfl, hY8.l, Pairs.len (H := H6) (D := L) (by omega), ?_⟩
        refine ⟨(e56.trans e8).over nL0, (hZ6.ext e8).off hSL hY8.l, _, _, _, _, rfl, hY8.add upd_same, by rw [List.length_append, List.length_singleton]; omega, fun y' hy' => ?_, fun z' hz' f2 l2 ez2 hp2 => ?_⟩
        · rcases List.mem_append.mp hy' with hy' | hy'
          · exact y1 y' hy'
          · have e : y' = (r, x, y) := by simpa using hy'
            subst e
            exact ⟨_, _, ⟨f', l', h1, h2, rfl, rfl, c'⟩, R⟩
        · rw [tk] at hz'
          rcases List.mem_append.mp hz' with hz' | hz'
          · obtain ⟨y', hy', R'⟩ := y2 z' hz' f2 l2 ez2 hp2
            exact ⟨y', List.mem_append_left _ hy', R'⟩
          · have e : z' = z := by simpa using hz'
            subst e
            rw [ez] at ez2
            obtain ⟨q1, q2⟩ := Prod.mk.inj ez2
            have q1' : f' = f2 := by omega
            have q2' : l' = l2 := by omega
            subst q1' q2'
            exact ⟨(r, x, y), List.mem_append_right _ (List.mem_singleton.mpr rfl), R⟩
      · have c' : ¬ 0 < sl ds f' l' := fun z => c (decide_eq_true z)
        refine ⟨e56, hZ6, _, _, _, Y, rfl, hY6, by omega, y1, fun z' hz' f2 l2 ez2 hp2 => ?_⟩
        rw [tk] at hz'
        rcases List.mem_append.mp hz' with hz' | hz'
        · exact y2 z' hz' f2 l2 ez2 hp2
        · have e : z' = z := by simpa using hz'
          subst e
          rw [ez] at ez2
          obtain ⟨q1, q2⟩ := Prod.mk.inj ez2
          have q1' : f' = f2 := by omega
          have q2' : l' = l2 := by omega
          subst q1' q2'
          exact absurd hp2 c'
    · obtain ⟨e5, hZ5, y3, y4, y5, Y, rfl, hY, hYl, y1, y2⟩ := h
      rw [List.length_map, List.take_of_length_le (Nat.le_refl _)] at y2
      have y3 : ∀ w d, WShare C ns ds w d → ∃ y ∈ Y, RatOf w d y.2.1 y.2.2 := fun w d hW => by
        obtain ⟨f', l', h1, h2, rfl, rfl, h3⟩ := hW
        obtain ⟨z, mz, ez⟩ := g2 f' l' h1 h2
        exact y2 z mz f' l' ez h3
      have hb : ∀ y ∈ Y, 0 < y.2.2 ∧ y.2.2 ≤ 12000 := fun y hy => by
        obtain ⟨w, d, ⟨f', l', h1, h2, rfl, rfl, h3⟩, R⟩ := y1 y hy
        have := R.le
        have := R.pos
        have := sl_bound hds f' l'
        omega
      refine ⟨.ref L, rfl, L, Y, rfl, hY, fun y hy => ?_, fun hn => ?_, fun y hy hm => ?_⟩
      · have := hb y hy
        omega
      · obtain ⟨f0, hf0, es⟩ := sl_one hv0
        obtain ⟨y, hy, _⟩ := y3 _ _ ⟨f0, f0, Nat.le_refl _, by omega, rfl, rfl, by omega⟩
        rw [hn] at hy
        cases hy
      · exact q H' y.1 _ _ e5 (least_of_rats (fun w d ⟨_, _, _, _, _, _, h⟩ => h) y1 y3 hy hm) (hb y hy).2 (hY.a y hy)
end
end K48

namespace K48
open PySem PySem.Spec PyProof.Rows L2
/-- c items from place f on, round and round -/
def cs (ns : List Int) (f c : Nat) : Int := preSum (fun k => ns.getD ((f + k) % ns.length) 0) c
def WRound (C : Int) (ns : List Int) (w d : Int) : Prop := (w = ns.sum ∧ d = (ns.length : Int)) ∨ ∃ f c : Nat, f < ns.length ∧ 1 ≤ c ∧ c ≤ ns.length ∧ w = C + cs ns f c ∧ d = (c : Int)
section
variable {X : Cx} {σ : L2.St} {H1 : Hp} {scope sc : Scope} {x : Str} {cenv : Env} {v : Value} {s₂ : Shared} {A : Around} {E : Value → Shared → Prop} {Q : Value → Shared → Prop}
/-- t[e] of a captured tuple of ints, e's value known -/
theorem GView.item (g : GView X σ H1 scope x cenv v s₂) (S : GScope sc scope x) (j : Nat) {y : Str} {a : Addr} {ns : List Int} {i : Nat} {slice : Expr} {p pos : Pos} (hN : X.N[j]? = some y) (hσ : σ[j]? = some (some (.ref a))) (hm : (y, NameKind.free) ∈ scope.names) (hl : scope.names.lookup y = some .free)
    (ha : H1 a = some (.tup (ns.map V.int))) (hi : i < ns.length) (hs : PlainIx slice) (h1 : ∀ Q', (∀ t tk, Q' (.int (i : Int) t) { s₂ with toks := tk }) → wpAny (model X.prog X.w) A (eval slice cenv) Q' E s₂)
    (h : ∀ t tk, Q (.int (ns.getD i 0) t) { s₂ with toks := tk }) (hd : (y == ("__debug__" : Str)) = false := by decide) (hcd : (y == ("__classdict__" : Str)) = false := by decide) :
    wpAny (model X.prog X.w) A (eval (.Subscript (.Name y p) slice pos) cenv) Q E s₂ := by
  refine at_raw hs (g.cap_ S j (u := .ref a) hN hσ hm hl (fun z rz => ?_) hd hcd)
  obtain rfl : z = Value.ref a := rz
  refine h1 _ fun t tk => ?_
  obtain ⟨its, rv, ht, hz⟩ := (g.keep (h' := s₂.heap) (tk := tk) fun _ _ e => e).tup a _ ha
  refine ⟨a, i, t, its, _, .int (ns.getD i 0), rfl, rfl, ht, rv, atI_nat ?_, hz, fun z rz => ?_⟩
  · rw [List.getElem?_map, List.getElem?_eq_getElem hi, List.getD_eq_getElem?_getD, List.getElem?_eq_getElem hi] <;> rfl
  · obtain ⟨t2, rfl⟩ := rz
    exact h t2 _
end
section
variable {P : Program} {w : World} {K : PySem.W.Frag} {mg : Str → Option Value} {base : Heap}
/-! ### round_yield -/
def spRoundYield (T1 T3 : Addr) : Sp := fun vs H Q _ => ∃ (a : Addr) (C : Int) (ns : List Int), vs = [.int C, .ref a] ∧ H a = some (.tup (ns.map V.int)) ∧ Flows ns ∧ 0 ≤ C ∧ C ≤ 1000 ∧ GxR.TabG H T1 ∧ GxR.TabG H T3 ∧
  ∀ H' p x y, Ext H H' → Least (WRound C ns) x y → y ≤ 12 → H' p = some (.tup [.int x, .int y]) → Q (.ref p) H'
theorem ok_round_yield {f fi ff fr fl : Addr} {fd fdi fdf fdr fdl : FuncData} {c1 c3 T1 T3 : Addr} {k : Nat} (D : Dc K mg base "round_yield" s_round_yield ["capacity", "inflows"] f fd c3 T3) (I : IsInT K mg fi fdi) (Gi : FnOk P w K mg base CX0 k fi fdi ["value", "least", "most"] spIsIn)
    (Df' : Dc K mg base "are_flows" s_are_flows ["value"] ff fdf c1 T1) (Gf : FnOk P w K mg base CX0 k ff fdf ["value"] (spFlows T1)) (Dr : Df K mg "ratio" s_ratio ["top", "bottom"] fr fdr) (Gr : FnOk P w K mg base CX0 k fr fdr ["top", "bottom"] spRatio)
    (Dl : Df K mg "least_of" s_least_of ["some"] fl fdl) (Gl : FnOk P w K mg base CX0 k fl fdl ["some"] spLeastOf) (mlen : mg "len" = none) (msum : mg "sum" = none) (mrange : mg "range" = none) (mc : CI mg "MOST_CAPACITY" 1000) :
    FnOk P w K mg base CX0 (k + 1) f fd ["capacity", "inflows"] (spRoundYield T1 T3) := by
  refine D.F.ok sc_round_yield (fun vs H Q E h => ?_) (fun A outer s H vs Q E hr h => ?_)
  · obtain ⟨a, C, ns, rfl, _⟩ := h
    rfl
  · obtain ⟨a, C, ns, rfl, ha, hf, hC0, hC1, hT1, hT3, q⟩ := h
    have hl1 := hf.1
    have hl2 := hf.2.1
    refine ⟨_, pss_cons (ps_if (pt_not (pt_val (pcall I.df Gi hr (pa_cons (pv 0) (pa_cons pe_int (pa_cons (pe_ci (by rfl) mc) pa_nil)))))) (pss_one ps_never) pss_nil)
      (pss_cons (ps_if (pt_not (pt_val (pcallC Df' Gf hr (pa_cons (pv 1) pa_nil)))) (pss_one ps_never) pss_nil)
      (pss_cons (ps_set (i := 6) sc_round_yield.nd rfl (.inr rfl) (plen mlen (pv 1)))
      (pss_cons (ps_set (i := 2) sc_round_yield.nd rfl (.inl rfl) (pe_lst (pa_cons (pcall Dr Gr hr (pa_cons (pe_callB (cr_sumT rfl) (by rfl) msum (by decide +kernel) (pa_cons (pv 1) pa_nil)) (pa_cons (pv 6) pa_nil))) pa_nil)))
      (pss_cons (ps_for PassesOwn.never rfl (pi_range1 (by rfl) mrange (pa_cons (pv 6) pa_nil)) (pg_name (i := 5) sc_round_yield.nd rfl (.inr rfl))
        (pss_one (ps_for PassesOwn.never rfl (pi_range2 (by rfl) mrange (pa_cons pe_int (pa_cons (pe_op op_add (pv 6) pe_int) pa_nil))) (pg_name (i := 3) sc_round_yield.nd rfl (.inl rfl))
          (pss_cons (ps_set (i := 4) sc_round_yield.nd rfl (.inl rfl) (pe_sumG hr (by rfl) msum D.T rfl (by exact (show GScope (defScope s_round_yield) _ _ from ⟨rfl, rfl, by decide +kernel, rfl, rfl, by decide +kernel⟩))
            (pe_callTy cr_range1 (by rfl) mrange boot_range (pa_cons (pv 3) pa_nil)) (fun _ => rfl)))
          (pss_one (ps_expr (pe_bm PySem.F.plainAttrs_list PySem.F.slot_list_append PySem.F.type_list_append mt_append (pv 2) (pa_cons (pcall Dr Gr hr (pa_cons (pe_op op_add (pv 0) (pv 4)) (pa_cons (pv 3) pa_nil))) pa_nil))))))))
      (pss_one (ps_ret (pcall Dl Gl hr (pa_cons (pv 2) pa_nil)))))))), ?_⟩
    refine ⟨.int C, rfl, C, 0, 1000, rfl, hC0, hC1, true, rfl, iteF ?_⟩
    refine ⟨.ref a, rfl, a, ns, rfl, ha, hf, hT1, fun H1 e1 => ⟨true, rfl, iteF ?_⟩⟩
    have ha1 := e1.tup ha
    refine ⟨.ref a, rfl, a, _, rfl, .inr (SqT.of ha1), ?_⟩
    rw [List.length_map]
    refine ⟨.ref a, rfl, a, ns, rfl, SqT.of ha1, .int _, rfl, ns.sum, ns.length, rfl, by omega, by omega, fun r0 x0 y0 nr0 R0 => ?_⟩
    refine ⟨(by decide : 1 ≤ sizeLine), fun L nL => ?_⟩
    have e2 : Ext H1 (upd H1 r0 (.tup [.int x0, .int y0])) := Ext.new nr0
    have e3 := e2.trans (Ext.new (o := .lst [V.ref r0]) nL)
    have nL0 : H L = none := e1.free (e2.free nL)
    have hrL : r0 ≠ L := fun z => by
      rw [← z, upd_same] at nL
      cases nL
    have hY0 : Pairs (upd (upd H1 r0 (.tup [.int x0, .int y0])) L (.lst [V.ref r0])) L [(r0, x0, y0)] := ⟨upd_same, fun z hz => by
      have e : z = (r0, x0, y0) := by simpa using hz
      subst e
      rw [upd_ne hrL, upd_same]⟩
    have hR0 : ∀ y ∈ ([(r0, x0, y0)] : PZ), ∃ w d, WRound C ns w d ∧ RatOf w d y.2.1 y.2.2 := fun y hy => by
      have e : y = (r0, x0, y0) := by simpa using hy
      subst e
      exact ⟨_, _, .inl ⟨rfl, rfl⟩, R0⟩
    refine ⟨.int _, rfl, (ns.length : Int), rfl, by omega, by omega, ?_⟩
    rw [Int.toNat_natCast]
    refine for_range (lo := 0) (n := ns.length) (fun i σ H' => Ext H H' ∧ ∃ (y3 y4 y5 : Option V) (Y : PZ), σ = [some (.int C), some (.ref a), some (.ref L), y3, y4, y5, some (.int (ns.length : Int)), none] ∧ Pairs H' L Y ∧ Y.length ≤ 1 + 12 * i ∧
      (∀ y ∈ Y, ∃ w d, WRound C ns w d ∧ RatOf w d y.2.1 y.2.2) ∧ (∃ y ∈ Y, RatOf ns.sum (ns.length : Int) y.2.1 y.2.2) ∧ (∀ f c : Nat, f < i → 1 ≤ c → c ≤ ns.length → ∃ y ∈ Y, RatOf (C + cs ns f c) (c : Int) y.2.1 y.2.2))
      ⟨e1.trans e3, none, none, none, _, rfl, hY0, by simp, hR0, ⟨_, List.mem_singleton.mpr rfl, R0⟩, fun f c h => absurd h (Nat.not_lt_zero _)⟩ (fun i σ H' hi h => ?_) (fun σ H' h => ?_)
    · obtain ⟨e5, y3, y4, y5, Y, rfl, hY, hYl, y1, y2, yr⟩ := h
      -- for count in range(1, months + 1)
      refine ⟨.int _, rfl, (ns.length : Int), 1, rfl, rfl, 1, (ns.length : Int) + 1, rfl, ⟨by omega, by omega, by omega, by omega⟩, ?_⟩
      have en : ((ns.length : Int) + 1 - 1).toNat = ns.length := by omega
      rw [en]
      refine for_range (lo := 1) (n := ns.length) (fun j σ H' => Ext H H' ∧ ∃ (y3 y4 : Option V) (Y : PZ), σ = [some (.int C), some (.ref a), some (.ref L), y3, y4, some (.int (0 + (i : Int))), some (.int (ns.length : Int)), none] ∧ Pairs H' L Y ∧ Y.length ≤ 1 + 12 * i + j ∧
        (∀ y ∈ Y, ∃ w d, WRound C ns w d ∧ RatOf w d y.2.1 y.2.2) ∧ (∃ y ∈ Y, RatOf ns.sum (ns.length : Int) y.2.1 y.2.2) ∧ (∀ f c : Nat, (f < i ∨ (f = i ∧ c ≤ j)) → 1 ≤ c → c ≤ ns.length → ∃ y ∈ Y, RatOf (C + cs ns f c) (c : Int) y.2.1 y.2.2))
        ⟨e5, y3, y4, Y, rfl, hY, by omega, y1, y2, fun f c h h1 h2 => by
          rcases h with h | h
          · exact yr f c h h1 h2
          · omega⟩ (fun j σ H' hj h => ?_) (fun σ H' h => ?_)
      · obtain ⟨e5, y3, y4, Y, rfl, hY, hYl, y1, y2, yr⟩ := h
        have hT3' := e5.tab _ hT3
        have ha5 := e5.tup ha
        have hcj : (1 : Int) + (j : Int) = ((j + 1 : Nat) : Int) := by omega
        refine ⟨.int (1 + (j : Int)), rfl, (1 + (j : Int)), rfl, fun p np => ?_⟩
        have e6 : Ext H' (upd H' p (.rng 0 (1 + (j : Int)))) := Ext.new np
        have hT3p := e6.tab _ hT3'
        refine ⟨hT3p, j + 1, fun k y => ∃ t, y = .int (ns.getD ((i + k) % ns.length) 0) t, ⟨fun k => ns.getD ((i + k) % ns.length) 0, fun _ _ e => e, fun H7 h7 => ?_⟩, ?_⟩
        · -- found.append(ratio(capacity + water, count))
          have e7 := e6.trans (Ext.tabbed hT3p h7)
          have hY7 := hY.ext e7
          refine ⟨.ref L, rfl, .inl ⟨rfl, _, SqL.of hY7.l⟩, .int C, rfl, .int (cs ns i (j + 1)), rfl, C, _, rfl, rfl, .int (1 + (j : Int)), rfl, C + cs ns i (j + 1), 1 + (j : Int), rfl, by omega, by omega, fun r x y nr R => ?_⟩
          have e8 : Ext H7 (upd H7 r (.tup [.int x, .int y])) := Ext.new nr
          have hY8 := hY7.ext e8
          refine ⟨L, _, _, rfl, rfl, hY8.l, Pairs.len (H := H7) (D := L) (by omega), ?_⟩
          refine ⟨((e5.trans e7).trans e8).over nL0, _, _, _, rfl, hY8.add upd_same, by rw [List.length_append, List.length_singleton]; omega, fun y' hy' => ?_, ?_, fun f c h h1 h2 => ?_⟩
          · rcases List.mem_append.mp hy' with hy' | hy'
            · exact y1 y' hy'
            · have e : y' = (r, x, y) := by simpa using hy'
              subst e
              exact ⟨_, _, .inr ⟨i, j + 1, hi, by omega, by omega, rfl, hcj⟩, R⟩
          · obtain ⟨y', hy', R'⟩ := y2
            exact ⟨y', List.mem_append_left _ hy', R'⟩
          · by_cases hh : f < i ∨ (f = i ∧ c ≤ j)
            · obtain ⟨y', hy', R'⟩ := yr f c hh h1 h2
              exact ⟨y', List.mem_append_left _ hy', R'⟩
            · have h4 : f = i ∧ c = j + 1 := by omega
              obtain ⟨rfl, rfl⟩ := h4
              refine ⟨(r, x, y), List.mem_append_right _ (List.mem_singleton.mpr rfl), ?_⟩
              rw [← hcj]
              exact R
        · obtain ⟨ps, hps, hts⟩ := hT3p
          refine ⟨fun i v => ∃ t, v = .int (i : Int) t, fun pins xv s1 I1 r => ?_, fun cenv A' E' k v s2 g hA hD' hU hPi => ?_⟩
          · obtain rfl : xv = Value.ref p := r
            exact src_of_rng I1 hps (by rw [upd_same, hcj]) (by omega)
          · obtain ⟨t2, rfl⟩ := hPi
            refine g.item (sc := defScope s_round_yield) (by exact (show GScope (defScope s_round_yield) _ _ from ⟨rfl, rfl, by decide +kernel, rfl, rfl, by decide +kernel⟩)) 1 (a := a) (ns := ns) (i := (i + k) % ns.length) rfl rfl (by decide +kernel) (by rfl) (e6.tup ha5) (Nat.mod_lt _ (by omega)) (fun _ _ => rfl) (fun Q' q' => ?_)
              fun t tk => ⟨⟨t, rfl⟩, GxR.keeps_tok s2 tk⟩
            refine wpAny_BinOp (wpAny_BinOp (g.cap_ (sc := defScope s_round_yield) (by exact (show GScope (defScope s_round_yield) _ _ from ⟨rfl, rfl, by decide +kernel, rfl, rfl, by decide +kernel⟩)) 5 (u := .int (0 + (i : Int))) rfl rfl (by decide +kernel) (by rfl) fun z rz => ?_))
            obtain ⟨t1, rfl⟩ := rz
            refine g.own (sc := defScope s_round_yield) (by exact (show GScope (defScope s_round_yield) _ _ from ⟨rfl, rfl, by decide +kernel, rfl, rfl, by decide +kernel⟩)) ?_
            refine add_int ?_
            refine (g.keep (h' := s2.heap) fun _ _ e => e).cap_ (sc := defScope s_round_yield) (by exact (show GScope (defScope s_round_yield) _ _ from ⟨rfl, rfl, by decide +kernel, rfl, rfl, by decide +kernel⟩)) 6 (u := .int (ns.length : Int)) rfl rfl (by decide +kernel) (by rfl) fun z rz => ?_
            obtain ⟨t3, rfl⟩ := rz
            refine mod_int' (by omega) ?_
            rw [Int.fmod_eq_emod_of_nonneg _ (by omega)]
            have e : (0 + (i : Int) + (k : Int)) % (ns.length : Int) = (((i + k) % ns.length : Nat) : Int) := by
              rw [Int.zero_add]
              push_cast
              rfl
            rw [e]
            exact q' _ _
      · obtain ⟨e5, y3, y4, Y, rfl, hY, hYl, y1, y2, yr⟩ := h
        exact ⟨e5, y3, y4, _, Y, rfl, hY, by omega, y1, y2, fun f c h h1 h2 => yr f c (by omega) h1 h2⟩
    · obtain ⟨e5, y3, y4, y5, Y, rfl, hY, hYl, y1, y2, yr⟩ := h
      have hd : ∀ w d, WRound C ns w d → 0 < d ∧ d ≤ 12 := fun w d h => by
        rcases h with ⟨_, rfl⟩ | ⟨f, c, _, h1, h2, _, rfl⟩ <;> omega
      have y3 : ∀ w d, WRound C ns w d → ∃ y ∈ Y, RatOf w d y.2.1 y.2.2 := fun w d hW => by
        rcases hW with ⟨rfl, rfl⟩ | ⟨f, c, h0, h1, h2, rfl, rfl⟩
        · exact y2
        · exact yr f c h0 h1 h2
      have hb : ∀ y ∈ Y, 0 < y.2.2 ∧ y.2.2 ≤ 12 := fun y hy => by
        obtain ⟨w, d, hW, R⟩ := y1 y hy
        have := R.le
        have := R.pos
        have := hd w d hW
        omega
      refine ⟨.ref L, rfl, L, Y, rfl, hY, fun y hy => ?_, fun hn => ?_, fun y hy hm => ?_⟩
      · have := hb y hy
        omega
      · obtain ⟨y, hy, _⟩ := y2
        rw [hn] at hy
        cases hy
      · exact q H' y.1 _ _ e5 (least_of_rats (fun w d h => (hd w d h).1) y1 y3 hy hm) (hb y hy).2 (hY.a y hy)
end
end K48

namespace K48
open PySem PySem.Spec PyProof.Rows L2
/-- a row of c months from f on, round or not -/
def Win (n : Nat) (r : Bool) (f c : Nat) : Prop := f < n ∧ 1 ≤ c ∧ c ≤ (if r = true then n else n - f)
theorem Win.le {n : Nat} {r : Bool} {f c : Nat} (h : Win n r f c) : c ≤ n := by
  obtain ⟨_, _, h⟩ := h
  split at h <;> omega
def lk (ns ds : List Int) (f c : Nat) : Int := preSum (fun k => ds.getD ((f + k) % ns.length) 0 - ns.getD ((f + k) % ns.length) 0) c
def WinSet (n : Nat) (r : Bool) (Z : PZ) : Prop := (∀ z ∈ Z, ∃ f c : Nat, z.2 = ((f : Int), (c : Int)) ∧ Win n r f c) ∧ (∀ f c : Nat, Win n r f c → ∃ z ∈ Z, z.2 = ((f : Int), (c : Int))) ∧ Z.length ≤ 200
theorem Pairs.cat {H : Hp} {D1 D2 p : Addr} {Z1 Z2 : PZ} (h1 : Pairs H D1 Z1) (h2 : Pairs H D2 Z2) (np : H p = none) : Pairs (upd H p (.lst ((Z1.map fun z => V.ref z.1) ++ (Z2.map fun z => V.ref z.1)))) p (Z1 ++ Z2) := by
  refine ⟨by rw [upd_same, List.map_append], fun z hz => ?_⟩
  rcases List.mem_append.mp hz with hz | hz
  · have := h1.a z hz
    rw [upd_ne (ne_of_none this np)]
    exact this
  · have := h2.a z hz
    rw [upd_ne (ne_of_none this np)]
    exact this
section
variable {P : Program} {w : World} {K : PySem.W.Frag} {mg : Str → Option Value} {base : Heap}
/-! ### need_flows -/
def spNeedFlows (T1 : Addr) : Sp := fun vs H Q _ => ∃ (a b : Addr) (ns ds : List Int) (r : Bool), vs = [.ref a, .ref b, .bl r] ∧ H a = some (.tup (ns.map V.int)) ∧ H b = some (.tup (ds.map V.int)) ∧ Flows ns ∧ Flows ds ∧ ds.length = ns.length ∧ GxR.TabG H T1 ∧ ∀ H', Ext H H' → Q .non H'
theorem ok_need_flows {f ff fe : Addr} {fd fdf fde : FuncData} {c1 T1 : Addr} {k : Nat} (D : Df K mg "need_flows" s_need_flows ["inflows", "demands", "is_round"] f fd) (Df' : Dc K mg base "are_flows" s_are_flows ["value"] ff fdf c1 T1) (Gf : FnOk P w K mg base CX0 k ff fdf ["value"] (spFlows T1))
    (De : Df K mg "need_demands" s_need_demands ["months", "demands"] fe fde) (Ge : FnOk P w K mg base CX0 k fe fde ["months", "demands"] (spNeedDemands T1)) (mlen : mg "len" = none) (mi : mg "isinstance" = none) (mbool : mg "bool" = none) :
    FnOk P w K mg base CX0 (k + 1) f fd ["inflows", "demands", "is_round"] (spNeedFlows T1) := by
  refine D.F.ok sc_need_flows (fun vs H Q E h => ?_) (fun cdv A outer s H vs Q E hr h => ?_)
  · obtain ⟨a, b, ns, ds, r, rfl, _⟩ := h
    rfl
  · obtain ⟨a, b, ns, ds, r, rfl, ha, hb, hn, hd, hl, hT, q⟩ := h
    refine ⟨_, pss_cons (ps_if (pt_not (pt_val (pcallC Df' Gf hr (pa_cons (pv 0) pa_nil)))) (pss_one ps_never) pss_nil)
      (pss_cons (ps_expr (pcall De Ge hr (pa_cons (plen mlen (pv 0)) (pa_cons (pv 1) pa_nil))))
      (pss_one (ps_if (pt_not (pt_val (pisi (ty := "bool") mi mbool (by decide +kernel) (pv 2)))) (pss_one ps_never) pss_nil))), ?_⟩
    refine ⟨.ref a, rfl, a, ns, rfl, ha, hn, hT, fun H1 e1 => ⟨true, rfl, iteF ?_⟩⟩
    refine ⟨.ref a, rfl, a, _, rfl, .inr (SqT.of (e1.tup ha)), .ref b, rfl, b, ds, by rw [List.length_map, hl] <;> rfl, e1.tup hb, hd, e1.tab _ hT, fun H2 e2 => ?_⟩
    exact ⟨.bl r, rfl, .bl r, .ty "bool", .type "bool", .type "bool", true, rfl, .ty _, .base (.bl r), kit_ty (by decide +kernel), true, rfl, iteF (q H2 (e1.trans e2))⟩
/-! ### windows -/
def spWindows : Sp := fun vs H Q _ => ∃ (n : Nat) (r : Bool), vs = [.int (n : Int), .bl r] ∧ n ≤ 12 ∧ ∀ H' D Z, Ext H H' → H D = none → Pairs H' D Z → WinSet n r Z → Q (.ref D) H'
theorem ok_windows {f : Addr} {fd : FuncData} {k : Nat} (D : Df K mg "windows" s_windows ["months", "is_round"] f fd) (mrange : mg "range" = none) : FnOk P w K mg base CX0 (k + 1) f fd ["months", "is_round"] spWindows := by
  refine D.F.ok sc_windows (fun vs H Q E h => ?_) (fun cdv A outer s H vs Q E hr h => ?_)
  · obtain ⟨n, r, rfl, _⟩ := h
    rfl
  · obtain ⟨n, r, rfl, hn, q⟩ := h
    refine ⟨_, pss_cons (ps_set (i := 2) sc_windows.nd rfl (.inl rfl) (pe_lst pa_nil))
      (pss_cons (ps_for PassesOwn.never rfl (pi_range1 (by rfl) mrange (pa_cons (pv 0) pa_nil)) (pg_name (i := 3) sc_windows.nd rfl (.inr rfl))
        (pss_cons (ps_set (i := 4) sc_windows.nd rfl (.inl rfl) (pe_ifExp (pt_val (pv 1)) (pv 0) (pe_op op_sub (pv 0) (pv 3))))
        (pss_one (ps_set (i := 2) sc_windows.nd rfl (.inl rfl) (pe_op op_cat (pv 2) (pe_lc (own := [("count", 5)]) (g := gName 5) (tt := tYes) rfl sc_windows.nd (pi_range2 (by rfl) mrange (pa_cons pe_int (pa_cons (pe_op op_add (pv 4) pe_int) pa_nil)))
          (blkOk_by (N := ["months", "is_round", "found", "first", "most", "count"]) (sc := defScope s_windows) (by decide +kernel)) (fun _ _ _ _ _ => pg_name (i := 5) sc_windows.nd rfl (Or.inl rfl)) (fun _ _ _ _ _ => pts_nil)
          (fun _ _ _ _ _ => pe_tup (pa_cons (pv 3) (pa_cons (pv 5) pa_nil)))))))))
      (pss_one (ps_ret (pv 2)))), ?_⟩
    refine ⟨Nat.zero_le _, fun L0 nL0 => ?_⟩
    refine ⟨.int n, rfl, (n : Int), rfl, by omega, by omega, ?_⟩
    rw [Int.toNat_natCast]
    refine for_range (lo := 0) (n := n) (fun i σ H' => Ext H H' ∧ ∃ (y3 y4 : Option V) (L : Addr) (Z : PZ), σ = [some (.int n), some (.bl r), some (.ref L), y3, y4, none] ∧ H L = none ∧ Pairs H' L Z ∧ Z.length ≤ 12 * i ∧
      (∀ z ∈ Z, ∃ f c : Nat, z.2 = ((f : Int), (c : Int)) ∧ Win n r f c) ∧ (∀ f c : Nat, f < i → Win n r f c → ∃ z ∈ Z, z.2 = ((f : Int), (c : Int))))
      ⟨Ext.new nL0, none, none, L0, [], rfl, nL0, Pairs.nil, Nat.zero_le _, fun z hz => absurd hz (by simp), fun f c h => absurd h (Nat.not_lt_zero _)⟩ (fun i σ H' hi h => ?_) (fun σ H' h => ?_)
    · obtain ⟨e1, y3, y4, L, Z, rfl, nL, hZ, hZl, z1, z2⟩ := h
      have rest : ∀ (D : Ends) (m : Nat) (vm : Int), vm = (m : Int) → m = (if r = true then n else n - i) →
          (∀ σ H'', (Ext H H'' ∧ ∃ (y3 y4 : Option V) (L : Addr) (Z : PZ), σ = [some (.int n), some (.bl r), some (.ref L), y3, y4, none] ∧ H L = none ∧ Pairs H'' L Z ∧ Z.length ≤ 12 * (i + 1) ∧
            (∀ z ∈ Z, ∃ f c : Nat, z.2 = ((f : Int), (c : Int)) ∧ Win n r f c) ∧ (∀ f c : Nat, f < i + 1 → Win n r f c → ∃ z ∈ Z, z.2 = ((f : Int), (c : Int)))) → D.nx σ H'') →
          tAsg (tOp rCat (tVar 2) (tLc (iRng2 (tCons (tC (.int 1)) (tCons (tOp (rI0 fun i j => .int (i + j)) (tVar 4) (tC (.int 1))) tNil))) (gName 5) tYes (tTup (tCons (tVar 3) (tCons (tVar 5) tNil))) [5])) (gName 2) D
            [some (.int n), some (.bl r), some (.ref L), some (.int (0 + (i : Int))), some (.int vm), none] H' := by
        intro D m vm hvm hm nx
        subst hvm
        have hmn : m ≤ n := by
          rw [hm]
          split <;> omega
        refine ⟨.ref L, rfl, .int (m : Int), rfl, (m : Int), 1, rfl, rfl, 1, (m : Int) + 1, rfl, ⟨by omega, by omega, by omega, by omega⟩, fun M nM => ?_⟩
        have en : ((m : Int) + 1 - 1).toNat = m := by omega
        rw [en]
        refine lc_range (lo := 1) (n := m) (fun j H'' => Ext H' H'' ∧ ∃ Y : PZ, Pairs H'' M Y ∧ Y.length ≤ j ∧ (∀ y ∈ Y, ∃ c : Nat, y.2 = ((i : Int), (c : Int)) ∧ 1 ≤ c ∧ c ≤ j) ∧ (∀ c : Nat, 1 ≤ c → c ≤ j → ∃ y ∈ Y, y.2 = ((i : Int), (c : Int))))
          ⟨(Ext.refl H').over nM, [], Pairs.nil, Nat.le_refl _, fun y hy => absurd hy (by simp), fun c h1 h2 => by omega⟩ (fun j H'' hj h => ?_) (fun H'' h => ?_)
        · obtain ⟨e2, Y, hY, hYl, y1, y2⟩ := h
          refine ⟨rfl, ?_⟩
          refine yes_ ?_
          rw [if_pos rfl]
          refine ⟨.int (0 + (i : Int)), rfl, .int (1 + (j : Int)), rfl, tup2, fun p np => ?_⟩
          have e3 : Ext H'' (upd H'' p (.tup [.int (0 + (i : Int)), .int (1 + (j : Int))])) := Ext.new np
          have hY3 := hY.ext e3
          refine ⟨_, hY3.l, Pairs.len (H := H'') (D := M) (by omega), (e2.trans e3).over nM, _, hY3.add upd_same, by rw [List.length_append, List.length_singleton]; omega, fun y hy => ?_, fun c h1 h2 => ?_⟩
          · rcases List.mem_append.mp hy with hy | hy
            · obtain ⟨c, ec, h1, h2⟩ := y1 y hy
              exact ⟨c, ec, h1, by omega⟩
            · have e : y = (p, 0 + (i : Int), 1 + (j : Int)) := by simpa using hy
              subst e
              refine ⟨j + 1, ?_, by omega, by omega⟩
              show (0 + (i : Int), 1 + (j : Int)) = _
              rw [Int.zero_add, show (1 : Int) + (j : Int) = ((j + 1 : Nat) : Int) by omega]
          · by_cases hh : c ≤ j
            · obtain ⟨y, hy, ey⟩ := y2 c h1 hh
              exact ⟨y, List.mem_append_left _ hy, ey⟩
            · have h4 : c = j + 1 := by omega
              subst h4
              refine ⟨_, List.mem_append_right _ (List.mem_singleton.mpr rfl), ?_⟩
              show (0 + (i : Int), 1 + (j : Int)) = _
              rw [Int.zero_add, show (1 : Int) + (j : Int) = ((j + 1 : Nat) : Int) by omega]
        · obtain ⟨e2, Y, hY, hYl, y1, y2⟩ := h
          have hZ2 := hZ.ext e2
          refine ⟨L, M, _, _, rfl, rfl, hZ2.l, hY.l, by rw [List.length_map, List.length_map]; exact Nat.le_trans (show Z.length + Y.length ≤ 1000 by omega) (by decide), fun p np => ?_⟩
          have e3 : Ext H'' (upd H'' p (.lst ((Z.map fun z => V.ref z.1) ++ (Y.map fun z => V.ref z.1)))) := Ext.new np
          refine nx _ _ ⟨(e1.trans e2).trans e3, _, _, p, Z ++ Y, rfl, e1.free (e2.free np), hZ2.cat hY np, by rw [List.length_append]; omega, fun z hz => ?_, fun f c hf hw => ?_⟩
          · rcases List.mem_append.mp hz with hz | hz
            · exact z1 z hz
            · obtain ⟨c, ec, h1, h2⟩ := y1 z hz
              exact ⟨i, c, ec, hi, h1, by rw [← hm]; exact h2⟩
          · by_cases hh : f < i
            · obtain ⟨z, hz, ez⟩ := z2 f c hh hw
              exact ⟨z, List.mem_append_left _ hz, ez⟩
            · have h4 : f = i := by omega
              subst h4
              obtain ⟨y, hy, ey⟩ := y2 c hw.2.1 (by rw [hm]; exact hw.2.2)
              exact ⟨y, List.mem_append_right _ hy, ey⟩
      -- most
      refine ⟨.bl r, rfl, r, rfl, ite2 (fun hr' => ⟨.int n, rfl, ?_⟩) (fun hr' => ⟨.int n, rfl, .int (0 + (i : Int)), rfl, n, 0 + (i : Int), rfl, rfl, ?_⟩)⟩
      · exact rest _ n _ rfl (by rw [if_pos hr']) fun _ _ h => h
      · have e : (n : Int) - (0 + (i : Int)) = ((n - i : Nat) : Int) := by omega
        exact rest _ (n - i) _ e (by rw [if_neg hr']) fun _ _ h => h
    · obtain ⟨e1, y3, y4, L, Z, rfl, nL, hZ, hZl, z1, z2⟩ := h
      exact ⟨.ref L, rfl, q H' L Z e1 nL hZ ⟨z1, fun f c hw => z2 f c hw.1 hw, by omega⟩⟩
end
end K48

namespace K48
open PySem PySem.Spec PyProof.Rows L2
theorem get_range_map {c i : Nat} {g : Nat → V} {x : V} (h : ((List.range c).map g)[i]? = some x) : i < c ∧ x = g i := by
  rw [List.getElem?_map] at h
  by_cases hi : i < c
  · rw [List.getElem?_range hi] at h
    cases h
    exact ⟨hi, rfl⟩
  · rw [List.getElem?_eq_none (by rw [List.length_range]; omega)] at h
    cases h
/-- the least storage -/
structure StM (ns ds : List Int) (r : Bool) (m : Int) : Prop where
  lo : 0 ≤ m
  all : ∀ f c, Win ns.length r f c → lk ns ds f c ≤ m
  one : m = 0 ∨ ∃ f c, Win ns.length r f c ∧ lk ns ds f c = m
section
variable {P : Program} {w : World} {K : PySem.W.Frag} {mg : Str → Option Value} {base : Heap}
theorem pixK {X : Cx} {K : PySem.W.Frag} {a b : Expr} {ta tb : TE} {pos : Pos} (hK : X.K = K) (ha : PE X a ta) (hb : PE X b tb) (hs : PlainIx b := by exact fun _ _ => rfl) : PE X (.Subscript a b pos) (tOp (rIxT K) ta tb) := by
  subst hK
  exact pe_ix ix_tup ha hb hs
/-! ### lack_of -/
def spLack (T4 : Addr) : Sp := fun vs H Q _ => ∃ (a b u : Addr) (ns ds : List Int) (f c : Nat), vs = [.ref a, .ref b, .ref u] ∧ H a = some (.tup (ns.map V.int)) ∧ H b = some (.tup (ds.map V.int)) ∧ H u = some (.tup [.int (f : Int), .int (c : Int)]) ∧ 1 ≤ ns.length ∧ ns.length ≤ 12 ∧ ds.length = ns.length ∧ c ≤ 12 ∧
  GxR.TabG H T4 ∧ ∀ H', Ext H H' → Q (.int (lk ns ds f c)) H'
theorem ok_lack_of {f : Addr} {fd : FuncData} {c4 T4 : Addr} {k : Nat} (D : Dc K mg base "lack_of" s_lack_of ["inflows", "demands", "window"] f fd c4 T4) (mlen : mg "len" = none) (mrange : mg "range" = none) (msum : mg "sum" = none) :
    FnOk P w K mg base CX0 (k + 1) f fd ["inflows", "demands", "window"] (spLack T4) := by
  refine D.F.ok sc_lack_of (fun vs H Q E h => ?_) (fun A outer s H vs Q E hr h => ?_)
  · obtain ⟨a, b, u, ns, ds, f, c, rfl, _⟩ := h
    rfl
  · obtain ⟨a, b, u, ns, ds, f, c, rfl, ha, hb, hu, hn1, hn2, hl, hc, hT, q⟩ := h
    refine ⟨_, pss_cons (ps_set (i := 3) sc_lack_of.nd rfl (.inr rfl) (plen mlen (pv 0)))
      (pss_cons (ps_setLc (i := 4) (own := [("k", 5)]) (g := gName 5) (tt := tYes) rfl sc_lack_of.nd rfl rfl (sw_true rfl rfl rfl (by decide +kernel)) (pi_range1 (by rfl) mrange (pa_cons (pix (pv 2) pe_int) pa_nil))
          (blkOk_by (N := ["inflows", "demands", "window", "months", "some", "k", "month"]) (sc := defScope s_lack_of) (by decide +kernel)) (fun _ _ _ _ _ => pg_name (i := 5) sc_lack_of.nd rfl (Or.inl rfl)) (fun _ _ _ _ _ => pts_nil)
          (fun _ _ _ _ _ => pe_op op_mod (pe_op op_add (pixK (K := K) rfl (pv 2) pe_int) (pv 5)) (pv 3)))
      (pss_one (ps_ret (pe_sumG hr (by rfl) msum D.T rfl (by exact (show GScope (defScope s_lack_of) _ _ from ⟨rfl, rfl, by decide +kernel, rfl, rfl, by decide +kernel⟩)) (pv 4) (fun _ => rfl))))), ?_⟩
    refine ⟨.ref a, rfl, a, _, rfl, .inr (SqT.of ha), ?_⟩
    rw [List.length_map]
    refine ⟨.ref u, rfl, u, _, _, .int c, rfl, rfl, SqT.of hu, atI_nat (j := 1) rfl, (c : Int), rfl, by omega, by omega, fun L nL => ?_⟩
    rw [Int.toNat_natCast]
    refine lc_range (lo := 0) (n := c) (fun i H' => Ext H H' ∧ H' L = some (.lst ((List.range i).map fun k => V.int (((f + k) % ns.length : Nat) : Int)))) ⟨(Ext.refl H).over nL, upd_same⟩ (fun i H' hi h => ?_) (fun H' h => ?_)
    · obtain ⟨e1, hL⟩ := h
      refine ⟨rfl, ?_⟩
      refine yes_ ?_
      rw [if_pos rfl]
      refine ⟨.ref u, rfl, u, _, _, .int f, rfl, rfl, SqT.of (e1.tup hu), atI_nat (j := 0) rfl, .int (0 + (i : Int)), rfl, f, 0 + (i : Int), rfl, rfl, .int (ns.length : Int), rfl, _, (ns.length : Int), rfl, rfl, by show (0 : Int) < (ns.length : Int); omega, ?_⟩
      refine ⟨_, hL, by rw [List.length_map, List.length_range]; exact small1000 (by omega), e1.over nL, ?_⟩
      rw [upd_same, List.range_succ, List.map_append]
      have e : ((f : Int) + (0 + (i : Int))) % (ns.length : Int) = (((f + i) % ns.length : Nat) : Int) := by
        rw [Int.zero_add]
        push_cast
        rfl
      show some (HO.lst (_ ++ [V.int (((f : Int) + (0 + (i : Int))) % (ns.length : Int))])) = _
      rw [e] <;> rfl
    · obtain ⟨e1, hL⟩ := h
      have hT1 := e1.tab _ hT
      refine ⟨.ref L, rfl, hT1, c, fun k y => ∃ t, y = .int (ds.getD ((f + k) % ns.length) 0 - ns.getD ((f + k) % ns.length) 0) t, ⟨fun k => ds.getD ((f + k) % ns.length) 0 - ns.getD ((f + k) % ns.length) 0, fun _ _ e => e, fun H2 h2 => q H2 (e1.trans (Ext.tabbed hT1 h2))⟩, ?_⟩
      obtain ⟨ps, hps, hts⟩ := hT1
      refine ⟨ItemOf ((List.range c).map fun k => V.int (((f + k) % ns.length : Nat) : Int)), fun pins xv s1 I1 r => ?_, fun cenv A' E' k v s2 g hA hD' hU hPi => ?_⟩
      · obtain rfl : xv = Value.ref L := r
        have S := src_of_lst I1 hps hL
        rw [List.length_map, List.length_range] at S
        exact S
      · obtain ⟨x, hx, rx⟩ := hPi
        obtain ⟨hk, rfl⟩ := get_range_map hx
        obtain ⟨t2, rfl⟩ := rx
        have hm : (f + k) % ns.length < ns.length := Nat.mod_lt _ (by omega)
        refine wpAny_BinOp ?_
        refine g.item (sc := defScope s_lack_of) (by exact (show GScope (defScope s_lack_of) _ _ from ⟨rfl, rfl, by decide +kernel, rfl, rfl, by decide +kernel⟩)) 1 (a := b) (ns := ds) (i := (f + k) % ns.length) rfl rfl (by decide +kernel) (by rfl) (e1.tup hb) (by omega) (fun _ _ => rfl)
          (fun Q' q' => g.own (sc := defScope s_lack_of) (by exact (show GScope (defScope s_lack_of) _ _ from ⟨rfl, rfl, by decide +kernel, rfl, rfl, by decide +kernel⟩)) (q' t2 s2.toks)) fun t tk => ?_
        have g3 := g.keep (h' := s2.heap) (tk := tk) fun _ _ e => e
        refine g3.item (sc := defScope s_lack_of) (by exact (show GScope (defScope s_lack_of) _ _ from ⟨rfl, rfl, by decide +kernel, rfl, rfl, by decide +kernel⟩)) 0 (a := a) (ns := ns) (i := (f + k) % ns.length) rfl rfl (by decide +kernel) (by rfl) (e1.tup ha) hm (fun _ _ => rfl)
          (fun Q' q' => g3.own (sc := defScope s_lack_of) (by exact (show GScope (defScope s_lack_of) _ _ from ⟨rfl, rfl, by decide +kernel, rfl, rfl, by decide +kernel⟩)) (q' t2 tk)) fun t' tk' => ?_
        exact sub_int ⟨⟨_, rfl⟩, GxR.keeps_tok s2 _⟩
/-! ### storage_of -/
def spStorage (T4 : Addr) : Sp := fun vs H Q _ => ∃ (a b : Addr) (ns ds : List Int) (r : Bool), vs = [.ref a, .ref b, .bl r] ∧ H a = some (.tup (ns.map V.int)) ∧ H b = some (.tup (ds.map V.int)) ∧ 1 ≤ ns.length ∧ ns.length ≤ 12 ∧ ds.length = ns.length ∧ GxR.TabG H T4 ∧
  (r = true → ns.sum < ds.sum → ∀ H', Ext H H' → Q .non H') ∧ (¬ (r = true ∧ ns.sum < ds.sum) → ∀ H' m, Ext H H' → StM ns ds r m → Q (.int m) H')
theorem ok_storage_of {f fw fl : Addr} {fd fdw fdl : FuncData} {c4 T4 : Addr} {k : Nat} (D : Df K mg "storage_of" s_storage_of ["inflows", "demands", "is_round"] f fd) (Dw : Df K mg "windows" s_windows ["months", "is_round"] fw fdw) (Gw : FnOk P w K mg base CX0 k fw fdw ["months", "is_round"] spWindows)
    (Dl : Dc K mg base "lack_of" s_lack_of ["inflows", "demands", "window"] fl fdl c4 T4) (Gl : FnOk P w K mg base CX0 k fl fdl ["inflows", "demands", "window"] (spLack T4)) (mlen : mg "len" = none) (msum : mg "sum" = none) (mmax : mg "max" = none) :
    FnOk P w K mg base CX0 (k + 1) f fd ["inflows", "demands", "is_round"] (spStorage T4) := by
  refine D.F.ok sc_storage_of (fun vs H Q E h => ?_) (fun cdv A outer s H vs Q E hr h => ?_)
  · obtain ⟨a, b, ns, ds, r, rfl, _⟩ := h
    rfl
  · obtain ⟨a, b, ns, ds, r, rfl, ha, hb, hn1, hn2, hl, hT, q1, q2⟩ := h
    refine ⟨_, pss_cons (ps_if (PW.pt (pw_and (pt_val (pv 2)) (pw_and1 (pt_cmpR op_gt (pe_callB (cr_sumT rfl) (by rfl) msum (by decide +kernel) (pa_cons (pv 1) pa_nil)) (pe_callB (cr_sumT rfl) (by rfl) msum (by decide +kernel) (pa_cons (pv 0) pa_nil)) (nomark _)))))
        (pss_one (ps_ret pe_non)) pss_nil)
      (pss_one (ps_ret (pe_callB (cr_max rfl) (by rfl) mmax (by decide +kernel) (pa_cons (pe_lst (pa_cons pe_int (pa_cons (pe_callB (cr_max rfl) (by rfl) mmax (by decide +kernel) (pa_cons
        (pe_lc (own := [("one", 3)]) (g := gName 3) (tt := tYes) rfl sc_storage_of.nd (pi_list (pcall Dw Gw hr (pa_cons (plen mlen (pv 0)) (pa_cons (pv 2) pa_nil))))
          (blkOk_by (N := ["inflows", "demands", "is_round", "one"]) (sc := defScope s_storage_of) (by decide +kernel)) (fun _ _ _ _ _ => pg_name (i := 3) sc_storage_of.nd rfl (Or.inl rfl)) (fun _ _ _ _ _ => pts_nil)
          (fun _ _ _ _ _ => pcallC Dl Gl hr (pa_cons (pv 0) (pa_cons (pv 1) (pa_cons (pv 3) pa_nil))))) pa_nil)) pa_nil))) pa_nil)))), ?_⟩
    have rest : ¬ (r = true ∧ ns.sum < ds.sum) → tRet (tCB (rMax K) (tCons (tLst (tCons (tC (.int 0)) (tCons (tCB (rMax K) (tCons (tLc (iList K (tCall spWindows [] E0 (tCons (tCB (fun xs H Q => ∃ p ys, xs = [.ref p] ∧ (SqL K H p ys ∨ SqT K H p ys) ∧ Q (.int ys.length) H) (tCons (tVar 0) tNil)) (tCons (tVar 2) tNil)))) (gName 3) tYes
        (tCall (spLack T4) [] E0 (tCons (tVar 0) (tCons (tVar 1) (tCons (tVar 3) tNil)))) [3]) tNil)) tNil))) tNil)) { nx := fun _ H' => Q .non H', rt := Q } [some (.ref a), some (.ref b), some (.bl r), none] H := by
      intro hno
      refine ⟨.ref a, rfl, a, _, rfl, .inr (SqT.of ha), .bl r, rfl, ns.length, r, by rw [List.length_map] <;> rfl, hn2, fun H1 S Z e1 nS hZ hW => ?_⟩
      obtain ⟨z1, z2, z3⟩ := hW
      refine ⟨S, rfl, ⟨_, SqL.of hZ.l⟩, fun L nL => ?_⟩
      refine lc_list (xs := Z.map fun z => V.ref z.1) (fun i H' => Ext H1 H' ∧ ∃ ls : List Int, H' L = some (.lst (ls.map V.int)) ∧ ls.length = i ∧ (∀ x ∈ ls, ∃ f c, Win ns.length r f c ∧ x = lk ns ds f c) ∧ (∀ z ∈ Z.take i, ∀ f c : Nat, z.2 = ((f : Int), (c : Int)) → lk ns ds f c ∈ ls))
        ⟨(Ext.refl H1).over nL, [], upd_same, rfl, fun x hx => absurd hx (by simp), fun z hz => by rw [List.take_zero] at hz; cases hz⟩ (fun i H' _ h => SqL.of (h.1.lst hZ.l)) (fun i x H' hx h => ?_) (fun H' h => ?_)
      · obtain ⟨e2, ls, hL, hll, l1, l2⟩ := h
        obtain ⟨z, hz, mz, rfl⟩ := get_refs hx
        obtain ⟨f', c', ez, hw⟩ := z1 z mz
        have hi : i < Z.length := (List.getElem?_eq_some_iff.mp hz).1
        have hu := e2.tup (hZ.a z mz)
        rw [ez] at hu
        have e12 := e1.trans e2
        refine ⟨rfl, ?_⟩
        refine yes_ ?_
        rw [if_pos rfl]
        refine ⟨.ref a, rfl, .ref b, rfl, .ref z.1, rfl, a, b, z.1, ns, ds, f', c', rfl, e12.tup ha, e12.tup hb, hu, hn1, hn2, hl, Nat.le_trans hw.le hn2, e12.tab _ hT, fun H3 e3 => ?_⟩
        refine ⟨_, e3.lst hL, by rw [List.length_map]; exact small1000 (by omega), (e2.trans e3).over nL, ls ++ [lk ns ds f' c'], by rw [upd_same, List.map_append] <;> rfl, by rw [List.length_append, List.length_singleton, hll], fun x hx => ?_, fun z' hz' f2 c2 ez2 => ?_⟩
        · rcases List.mem_append.mp hx with hx | hx
          · exact l1 x hx
          · have e : x = lk ns ds f' c' := by simpa using hx
            exact ⟨f', c', hw, e⟩
        · have tk : Z.take (i + 1) = Z.take i ++ [z] := by rw [List.take_add_one, hz] <;> rfl
          rw [tk] at hz'
          rcases List.mem_append.mp hz' with hz' | hz'
          · exact List.mem_append_left _ (l2 z' hz' f2 c2 ez2)
          · have e : z' = z := by simpa using hz'
            subst e
            rw [ez] at ez2
            obtain ⟨g1, g2⟩ := Prod.mk.inj ez2
            have g1' : f' = f2 := by omega
            have g2' : c' = c2 := by omega
            subst g1' g2'
            exact List.mem_append_right _ (List.mem_singleton.mpr rfl)
      · obtain ⟨e2, ls, hL, hll, l1, l2⟩ := h
        rw [List.length_map, List.take_of_length_le (Nat.le_refl _)] at l2
        have l3 : ∀ f c, Win ns.length r f c → lk ns ds f c ∈ ls := fun f c hw => by
          obtain ⟨z, mz, ez⟩ := z2 f c hw
          exact l2 z mz f c ez
        have hne : 0 < ls.length := by
          have := l3 0 1 ⟨by omega, Nat.le_refl _, by split <;> omega⟩
          exact List.length_pos_of_mem this
        refine ⟨L, ls, rfl, SqL.of hL, hne, fun m hm hmx => ?_⟩
        refine ⟨tup2, fun p np => ?_⟩
        refine ⟨p, [0, m], rfl, SqL.of upd_same, by simp, fun m2 hm2 hmx2 => ?_⟩
        refine q2 hno _ m2 ((e1.trans e2).trans (Ext.new np)) ⟨hmx2 0 (by simp), fun f c hw => ?_, ?_⟩
        · exact Int.le_trans (hmx _ (l3 f c hw)) (hmx2 m (by simp))
        · have h5 : m2 = 0 ∨ m2 = m := by simpa using hm2
          rcases h5 with h5 | h5
          · exact .inl h5
          · obtain ⟨f, c, hw, e⟩ := l1 m hm
            exact .inr ⟨f, c, hw, by rw [h5, e]⟩
    refine ⟨.bl r, rfl, r, rfl, ite2 (fun hr' => ?_) (fun hr' => ?_)⟩
    · refine ⟨.ref b, rfl, b, ds, rfl, SqT.of hb, .ref a, rfl, a, ns, rfl, SqT.of ha, _, _, rfl, rfl, _, rfl, ite2 (fun c => ?_) (fun c => ?_)⟩
      · exact q1 hr' (of_decide_eq_true c) H (Ext.refl H)
      · exact rest fun h => c (decide_eq_true h.2)
    · exact iteF (rest fun h => hr' h.1)
/-! ### least_storage -/
def spLeastStorage (T1 T4 : Addr) : Sp := fun vs H Q _ => ∃ (a b : Addr) (ns ds : List Int) (r : Bool), vs = [.ref a, .ref b, .bl r] ∧ H a = some (.tup (ns.map V.int)) ∧ H b = some (.tup (ds.map V.int)) ∧ Flows ns ∧ Flows ds ∧ ds.length = ns.length ∧ GxR.TabG H T1 ∧ GxR.TabG H T4 ∧
  ∀ H' v, Ext H H' → ((v = .non ∧ r = true ∧ ns.sum < ds.sum) ∨ (¬ (r = true ∧ ns.sum < ds.sum) ∧ ∃ m, v = .int m ∧ StM ns ds r m)) → Q v H'
theorem ok_least_storage {f fn fs : Addr} {fd fdn fds : FuncData} {T1 T4 : Addr} {k : Nat} (D : Df K mg "least_storage" s_least_storage ["inflows", "demands", "is_round"] f fd) (Dn : Df K mg "need_flows" s_need_flows ["inflows", "demands", "is_round"] fn fdn) (Gn : FnOk P w K mg base CX0 k fn fdn ["inflows", "demands", "is_round"] (spNeedFlows T1))
    (Ds : Df K mg "storage_of" s_storage_of ["inflows", "demands", "is_round"] fs fds) (Gs : FnOk P w K mg base CX0 k fs fds ["inflows", "demands", "is_round"] (spStorage T4)) : FnOk P w K mg base CX0 (k + 1) f fd ["inflows", "demands", "is_round"] (spLeastStorage T1 T4) := by
  refine D.F.ok sc_least_storage (fun vs H Q E h => ?_) (fun cdv A outer s H vs Q E hr h => ?_)
  · obtain ⟨a, b, ns, ds, r, rfl, _⟩ := h
    rfl
  · obtain ⟨a, b, ns, ds, r, rfl, ha, hb, hn, hd, hl, hT1, hT4, q⟩ := h
    refine ⟨_, pss_cons (ps_expr (pcall Dn Gn hr (pa_cons (pv 0) (pa_cons (pv 1) (pa_cons (pv 2) pa_nil))))) (pss_one (ps_ret (pcall Ds Gs hr (pa_cons (pv 0) (pa_cons (pv 1) (pa_cons (pv 2) pa_nil)))))), ?_⟩
    refine ⟨.ref a, rfl, .ref b, rfl, .bl r, rfl, a, b, ns, ds, r, rfl, ha, hb, hn, hd, hl, hT1, fun H1 e1 => ?_⟩
    exact ⟨.ref a, rfl, .ref b, rfl, .bl r, rfl, a, b, ns, ds, r, rfl, e1.tup ha, e1.tup hb, hn.1, hn.2.1, hl, e1.tab _ hT4, fun h1 h2 H2 e2 => q H2 _ (e1.trans e2) (.inl ⟨rfl, h1, h2⟩), fun h1 H2 m e2 hm => q H2 _ (e1.trans e2) (.inr ⟨h1, m, rfl, hm⟩)⟩
end
end K48

namespace K48
open PySem PySem.Spec PyProof.Rows L2
/-! ### the law's row of draws -/
/-- the row at l over the script at sc -/
def Row (K : PySem.W.Frag) (sc : Addr) (ns : List Int) (H : Hp) (l : Addr) : Prop := ∃ (i x r : Int), H l = some (.lst [.ref sc, .int i, .int x, .int r]) ∧ 0 ≤ i ∧ SqL K H sc (ns.map V.int)
/-- all but the list at l -/
structure ExtL (l : Addr) (H H' : Hp) : Prop where
  keep : ∀ b o, b ≠ l → H b = some o → (∀ ps, o ≠ .tbl ps) → H' b = some o
  tab : ∀ b, GxR.TabG H b → GxR.TabG H' b
  there : ∀ b o, H b = some o → ∃ o', H' b = some o'
section
variable {l : Addr} {H H' H1 H2 : Hp}
theorem ExtL.of (e : Ext H H') : ExtL l H H' := ⟨fun b o _ h n => e.keep b o h n, e.tab, e.there⟩
theorem ExtL.refl : ExtL l H H := .of (Ext.refl H)
theorem ExtL.trans (a : ExtL l H H1) (b : ExtL l H1 H2) : ExtL l H H2 :=
  ⟨fun c o n e h => b.keep c o n (a.keep c o n e h) h, fun c t => b.tab c (a.tab c t), fun c o e => let ⟨o1, e1⟩ := a.there c o e; b.there c o1 e1⟩
theorem ExtL.free (a : ExtL l H H') {b : Addr} (h : H' b = none) : H b = none := by
  cases q : H b with
  | none => rfl
  | some o =>
    obtain ⟨o', e⟩ := a.there b o q
    rw [h] at e
    cases e
theorem ExtL.put {xs ys : List V} (h : H l = some (.lst xs)) : ExtL l H (upd H l (.lst ys)) := by
  refine ⟨fun b o n e _ => by rw [upd_ne n]; exact e, fun b ⟨ps, e, t⟩ => ⟨ps, ?_, t⟩, fun b o e => ?_⟩
  · rw [upd_ne (ne_of e h (by intro z; cases z))]
    exact e
  · by_cases hb : b = l
    · rw [hb]
      exact ⟨_, upd_same⟩
    · exact ⟨o, by rw [upd_ne hb]; exact e⟩
theorem ExtL.over {D : Addr} {o : HO} (e : ExtL l H H') (n : H D = none) : ExtL l H (upd H' D o) := by
  refine ⟨fun b u hb h hn => ?_, fun b t => ?_, fun b u h => ?_⟩
  · rw [upd_ne (ne_of_none h n)]
    exact e.keep b u hb h hn
  · obtain ⟨ps, h, ht⟩ := id t
    obtain ⟨qs, h2, ht2⟩ := e.tab b t
    exact ⟨qs, by rw [upd_ne (ne_of_none h n)]; exact h2, ht2⟩
  · rw [upd_ne (ne_of_none h n)]
    exact e.there b u h
theorem ExtL.lst {b : Addr} {xs : List V} (e : ExtL l H H') (n : b ≠ l) (h : H b = some (.lst xs)) : H' b = some (.lst xs) := e.keep b _ n h fun ps z => by cases z
theorem Row.ne_tup {K : PySem.W.Frag} {sc b : Addr} {ns : List Int} {xs : List V} (R : Row K sc ns H l) (h : H b = some (.tup xs)) : b ≠ l := by
  obtain ⟨_, _, _, hl, _⟩ := R
  exact ne_of h hl (by intro z; cases z)
theorem ExtL.tup {K : PySem.W.Frag} {sc b : Addr} {ns : List Int} {xs : List V} (e : ExtL l H H') (R : Row K sc ns H l) (h : H b = some (.tup xs)) : H' b = some (.tup xs) := e.keep b _ (R.ne_tup h) h fun ps z => by cases z
theorem sql_ext {K : PySem.W.Frag} {a : Addr} {xs : List V} (e : Ext H H') (h : SqL K H a xs) : SqL K H' a xs := by
  rcases h with (h | ⟨o, h⟩) | h
  · exact .inl (.inl (e.lst h))
  · exact .inl (.inr ⟨o, e.keep _ _ h fun ps z => by cases z⟩)
  · exact .inr h
theorem Row.ext {K : PySem.W.Frag} {sc : Addr} {ns : List Int} (R : Row K sc ns H l) (e : Ext H H') : Row K sc ns H' l := by
  obtain ⟨i, x, r, hl, hi, hs⟩ := R
  exact ⟨i, x, r, e.lst hl, hi, sql_ext e hs⟩
theorem sql_put {K : PySem.W.Frag} {sc : Addr} {ns : List Int} {z : Addr} {zs : List V} {o : HO} (hl : H l = some (.lst (.ref z :: zs))) (h : SqL K H sc (ns.map V.int)) : SqL K (upd H l o) sc (ns.map V.int) := by
  rcases h with (h | ⟨o', h⟩) | h
  · refine .inl (.inl ?_)
    rw [upd_ne (ne_of h hl ?_)]
    · exact h
    · intro q
      injection q with q
      cases ns with
      | nil => cases q
      | cons n r => cases q
  · refine .inl (.inr ⟨o', ?_⟩)
    rw [upd_ne (ne_of h hl (by intro q; cases q))]
    exact h
  · exact .inr h
theorem Row.ne_none {K : PySem.W.Frag} {sc b : Addr} {ns : List Int} (R : Row K sc ns H l) (h : H b = none) : b ≠ l := by
  obtain ⟨_, _, _, hl, _⟩ := R
  exact (ne_of_none hl h).symm
/-- a new list is written -/
theorem Row.over {K : PySem.W.Frag} {sc D : Addr} {ns : List Int} {o : HO} (R0 : Row K sc ns H l) (n : H D = none) (R : Row K sc ns H' l) : Row K sc ns (upd H' D o) l := by
  have nl := R0.ne_none n
  obtain ⟨_, _, _, _, _, h0⟩ := R0
  obtain ⟨i, x, r, hl, hi, hs⟩ := R
  refine ⟨i, x, r, by rw [upd_ne (Ne.symm nl)]; exact hl, hi, ?_⟩
  rcases h0 with h0 | h0
  · have ne : sc ≠ D := by
      rcases h0 with h0 | ⟨o', h0⟩
      · exact ne_of_none h0 n
      · exact ne_of_none h0 n
    rcases hs with (h | ⟨o', h⟩) | h
    · exact .inl (.inl (by rw [upd_ne ne]; exact h))
    · exact .inl (.inr ⟨o', by rw [upd_ne ne]; exact h⟩)
    · exact .inr h
  · exact .inr h0
end
section
variable {P : Program} {w : World} {K : PySem.W.Frag} {mg : Str → Option Value} {base : Heap}
/-! ### _law_taken -/
def spTaken (K : PySem.W.Frag) : Sp := fun vs H Q _ => ∃ (sc : Addr) (ns : List Int) (l : Addr) (m : Int), vs = [.ref l, .int m] ∧ Row K sc ns H l ∧ 0 < m ∧ m < 1073741824 ∧ ∀ H' v, 0 ≤ v → v < m → ExtL l H H' → Row K sc ns H' l → Q (.int v) H'
theorem ok_taken {f : Addr} {fd : FuncData} {k : Nat} (D : Df K mg "_law_taken" s_law_taken ["_law_row", "_law_many"] f fd) (mint : mg "int" = none) (mlen : mg "len" = none) : FnOk P w K mg base CX0 (k + 1) f fd ["_law_row", "_law_many"] (spTaken K) := by
  refine D.F.ok sc_law_taken (fun vs H Q E h => ?_) (fun cdv A outer s H vs Q E hr h => ?_)
  · obtain ⟨sc, ns, l, m, rfl, _⟩ := h
    rfl
  · obtain ⟨sc, ns, l, m, rfl, ⟨i, x, r, hl, hi, hs⟩, m0, m1, q⟩ := h
    refine ⟨_, pss_cons (ps_if (pt_cmpR op_gt (pe_ix ix_list (pv 0) pe_int (fun _ _ => rfl)) pe_int (nomark _))
        (pss_cons (ps_set (i := 2) sc_law_taken.nd rfl (.inl rfl) (pe_op op_mod (pe_callTy call_int1 (by rfl) mint boot_int (pa_cons (pe_ix ix_list (pv 0) pe_int (fun _ _ => rfl)) pa_nil)) (pv 1)))
        (pss_cons (ps_asg (pe_op op_fdiv (pe_ix ix_list (pv 0) pe_int (fun _ _ => rfl)) (pv 1)) (pg_sub (pv 0) pe_int set_list (fun _ => rfl)))
        (pss_one (ps_ret (pv 2))))) pss_nil)
      (pss_cons (ps_asg (pe_op op_add (pe_ix ix_list (pv 0) pe_int (fun _ _ => rfl)) pe_int) (pg_sub (pv 0) pe_int set_list (fun _ => rfl)))
      (pss_cons (ps_if (pt_cmpR op_gt (pe_ix ix_list (pv 0) pe_int (fun _ _ => rfl)) (plen mlen (pe_ix ix_list (pv 0) pe_int (fun _ _ => rfl))) (nomark _))
        (pss_cons (ps_asg (pe_op op_mod (pe_callTy call_int1 (by rfl) mint boot_int (pa_cons (pe_op op_add (pe_op op_mul (pe_ix ix_list (pv 0) pe_int (fun _ _ => rfl)) pe_int) pe_int) pa_nil)) pe_int) (pg_sub (pv 0) pe_int set_list (fun _ => rfl)))
        (pss_one (ps_ret (pe_op op_mod (pe_callTy call_int1 (by rfl) mint boot_int (pa_cons (pe_op op_fdiv (pe_ix ix_list (pv 0) pe_int (fun _ _ => rfl)) pe_int) pa_nil)) (pv 1))))) pss_nil)
      (pss_cons (ps_set (i := 3) sc_law_taken.nd rfl (.inl rfl) (pe_ix ix_list (pe_ix ix_list (pv 0) pe_int (fun _ _ => rfl)) (pe_op op_sub (pe_ix ix_list (pv 0) pe_int (fun _ _ => rfl)) pe_int) (fun _ _ => rfl)))
      (pss_cons (ps_asg (pe_op op_mod (pe_callTy call_int1 (by rfl) mint boot_int (pa_cons (pe_op op_add (pe_op op_add (pe_op op_mul (pe_ix ix_list (pv 0) pe_int (fun _ _ => rfl)) pe_int) (pv 3)) pe_int) pa_nil)) pe_int) (pg_sub (pv 0) pe_int set_list (fun _ => rfl)))
      (pss_cons (ps_if (pt_cmpR op_ge (pv 3) (pe_op op_pow pe_int pe_int) (nomark _)) (pss_one (ps_asg (pe_op op_fdiv (pv 3) (pv 1)) (pg_sub (pv 0) pe_int set_list (fun _ => rfl)))) pss_nil)
      (pss_one (ps_ret (pe_op op_mod (pe_callTy call_int1 (by rfl) mint boot_int (pa_cons (pv 3) pa_nil)) (pv 1))))))))), ?_⟩
    -- if row[3] > 0
    have vmod : ∀ z : Int, 0 ≤ z % m ∧ z % m < m := fun z => ⟨Int.emod_nonneg _ (by omega), Int.emod_lt_of_pos _ m0⟩
    refine ⟨.ref l, rfl, l, _, _, .int r, rfl, rfl, SqL.of hl, atI_nat (j := 3) rfl, r, 0, rfl, rfl, _, rfl, ite2 (fun _ => ?_) (fun _ => ?_)⟩
    · refine ⟨.ref l, rfl, l, _, _, .int r, rfl, rfl, SqL.of hl, atI_nat (j := 3) rfl, .inl ⟨r, rfl, .int m, rfl, r, m, rfl, rfl, m0, ?_⟩⟩
      refine ⟨.ref l, rfl, l, _, _, .int r, rfl, rfl, SqL.of hl, atI_nat (j := 3) rfl, .int m, rfl, r, m, rfl, rfl, ⟨m0, m1⟩, ?_⟩
      refine ⟨.ref l, rfl, l, _, 3, 3, rfl, rfl, hl, rfl, ?_⟩
      refine ⟨.int (r % m), rfl, q _ _ (vmod r).1 (vmod r).2 (ExtL.put hl) ⟨i, x, r / m, ?_, hi, sql_put hl hs⟩⟩
      rw [upd_same] <;> rfl
    -- row[1] = row[1] + 1
    refine ⟨.ref l, rfl, l, _, _, .int i, rfl, rfl, SqL.of hl, atI_nat (j := 1) rfl, i, 1, rfl, rfl, ?_⟩
    refine ⟨.ref l, rfl, l, _, 1, 1, rfl, rfl, hl, rfl, ?_⟩
    have hl1 : (upd H l (.lst [V.ref sc, V.int (i + 1), V.int x, V.int r])) l = some (.lst [V.ref sc, V.int (i + 1), V.int x, V.int r]) := upd_same
    have hs1 : SqL K (upd H l (.lst [V.ref sc, V.int (i + 1), V.int x, V.int r])) sc (ns.map V.int) := sql_put hl hs
    have e1 : ExtL l H (upd H l (.lst [V.ref sc, V.int (i + 1), V.int x, V.int r])) := ExtL.put hl
    refine ⟨.ref l, rfl, l, _, _, .int (i + 1), rfl, rfl, SqL.of hl1, atI_nat (j := 1) rfl, .ref l, rfl, l, _, _, .ref sc, rfl, rfl, SqL.of hl1, atI_nat (j := 0) rfl, sc, _, rfl, .inl hs1, i + 1, _, rfl, rfl, _, rfl, ite2 (fun _ => ?_) (fun c => ?_)⟩
    · refine ⟨.ref l, rfl, l, _, _, .int x, rfl, rfl, SqL.of hl1, atI_nat (j := 2) rfl, x, 48271, rfl, rfl, .inr (by decide), _, 11, rfl, rfl, .inl ⟨_, rfl, _, 2147483647, rfl, rfl, (by show (0 : Int) < 2147483647; decide), ?_⟩⟩
      refine ⟨.ref l, rfl, l, _, 2, 2, rfl, rfl, hl1, rfl, ?_⟩
      refine ⟨.ref l, rfl, l, _, _, .int ((x * 48271 + 11) % 2147483647), rfl, rfl, SqL.of upd_same, atI_nat (j := 2) rfl, _, 7, rfl, rfl, ⟨by decide, by decide⟩, .inl ⟨_, rfl, .int m, rfl, _, m, rfl, rfl, m0, ?_⟩⟩
      refine q _ _ (vmod _).1 (vmod _).2 (e1.trans (ExtL.put hl1)) ⟨i + 1, (x * 48271 + 11) % 2147483647, r, ?_, by omega, sql_put hl1 hs1⟩
      rw [upd_same] <;> rfl
    · have c' : ¬ (((ns.map V.int).length : Int) < i + 1) := fun z => c (decide_eq_true z)
      rw [List.length_map] at c'
      obtain ⟨j, hj⟩ : ∃ j : Nat, i = (j : Int) := ⟨i.toNat, by omega⟩
      have hjl : j < ns.length := by omega
      have hit : atI (ns.map V.int) (i + 1 - 1) = some (.int ns[j]) := by
        rw [show i + 1 - 1 = (j : Int) by omega]
        refine atI_nat ?_
        rw [List.getElem?_map, List.getElem?_eq_getElem hjl] <;> rfl
      generalize ns[j] = cell at hit
      refine ⟨.ref l, rfl, l, _, _, .ref sc, rfl, rfl, SqL.of hl1, atI_nat (j := 0) rfl, .ref l, rfl, l, _, _, .int (i + 1), rfl, rfl, SqL.of hl1, atI_nat (j := 1) rfl, i + 1, 1, rfl, rfl, sc, _, _, .int cell, rfl, rfl, hs1, hit, ?_⟩
      refine ⟨.ref l, rfl, l, _, _, .int x, rfl, rfl, SqL.of hl1, atI_nat (j := 2) rfl, x, 48271, rfl, rfl, .inr (by decide), .int cell, rfl, _, cell, rfl, rfl, _, 11, rfl, rfl, .inl ⟨_, rfl, _, 2147483647, rfl, rfl, (by show (0 : Int) < 2147483647; decide), ?_⟩⟩
      refine ⟨.ref l, rfl, l, _, 2, 2, rfl, rfl, hl1, rfl, ?_⟩
      have hl2 : (upd (upd H l (.lst [V.ref sc, V.int (i + 1), V.int x, V.int r])) l (.lst ([V.ref sc, V.int (i + 1), V.int x, V.int r].set 2 (V.int ((x * 48271 + cell + 11) % 2147483647))))) l = some (.lst [V.ref sc, V.int (i + 1), V.int ((x * 48271 + cell + 11) % 2147483647), V.int r]) := upd_same
      have hs2 := sql_put (o := .lst ([V.ref sc, V.int (i + 1), V.int x, V.int r].set 2 (V.int ((x * 48271 + cell + 11) % 2147483647)))) hl1 hs1
      have e2 := e1.trans (ExtL.put (ys := [V.ref sc, V.int (i + 1), V.int x, V.int r].set 2 (V.int ((x * 48271 + cell + 11) % 2147483647))) hl1)
      refine ⟨.int cell, rfl, 10, 18, rfl, rfl, ⟨by decide, by decide, by decide⟩, cell, _, rfl, rfl, _, rfl, ite2 (fun _ => ?_) (fun _ => ?_)⟩
      · refine ⟨.int cell, rfl, .int m, rfl, cell, m, rfl, rfl, ⟨m0, m1⟩, .ref l, rfl, l, _, 3, 3, rfl, rfl, hl2, rfl, ?_⟩
        refine ⟨.int cell, rfl, .inl ⟨cell, rfl, .int m, rfl, cell, m, rfl, rfl, m0, ?_⟩⟩
        refine q _ _ (vmod _).1 (vmod _).2 (e2.trans (ExtL.put hl2)) ⟨i + 1, (x * 48271 + cell + 11) % 2147483647, cell / m, ?_, by omega, sql_put hl2 hs2⟩
        rw [upd_same] <;> rfl
      · refine ⟨.int cell, rfl, .inl ⟨cell, rfl, .int m, rfl, cell, m, rfl, rfl, m0, ?_⟩⟩
        exact q _ _ (vmod _).1 (vmod _).2 e2 ⟨i + 1, (x * 48271 + cell + 11) % 2147483647, r, hl2, by omega, hs2⟩
end
end K48

namespace K48
open PySem PySem.Spec PyProof.Rows L2
theorem at_int' {xs : List V} {v : Int} (h0 : 0 ≤ v) (h1 : v < (xs.length : Int)) : ∃ x, x ∈ xs ∧ atI xs v = some x := by
  obtain ⟨j, rfl⟩ : ∃ j : Nat, v = (j : Int) := ⟨v.toNat, by omega⟩
  have hj : j < xs.length := by omega
  exact ⟨xs[j], List.getElem_mem hj, atI_nat (List.getElem?_eq_getElem hj)⟩
section
variable {P : Program} {w : World} {K : PySem.W.Frag} {mg : Str → Option Value} {base : Heap}
/-! ### _law_pick -/
def spPick (K : PySem.W.Frag) : Sp := fun vs H Q _ => ∃ (sc : Addr) (ns : List Int) (l t : Addr) (xs : List V), vs = [.ref l, .ref t] ∧ Row K sc ns H l ∧ H t = some (.lst xs) ∧ t ≠ l ∧ 0 < xs.length ∧ xs.length ≤ 1000 ∧ ∀ H' x, x ∈ xs → ExtL l H H' → Row K sc ns H' l → Q x H'
theorem ok_pick {f ft : Addr} {fd fdt : FuncData} {k : Nat} (D : Df K mg "_law_pick" s_law_pick ["_law_row", "_law_things"] f fd) (Dt : Df K mg "_law_taken" s_law_taken ["_law_row", "_law_many"] ft fdt) (Gt : FnOk P w K mg base CX0 k ft fdt ["_law_row", "_law_many"] (spTaken K)) (mlen : mg "len" = none) :
    FnOk P w K mg base CX0 (k + 1) f fd ["_law_row", "_law_things"] (spPick K) := by
  refine D.F.ok sc_law_pick (fun vs H Q E h => ?_) (fun cdv A outer s H vs Q E hr h => ?_)
  · obtain ⟨sc, ns, l, t, xs, rfl, _⟩ := h
    rfl
  · obtain ⟨sc, ns, l, t, xs, rfl, R, ht, hne, h0, h1, q⟩ := h
    refine ⟨_, pss_one (ps_ret (pe_ix ix_list (pv 1) (pcall Dt Gt hr (pa_cons (pv 0) (pa_cons (plen mlen (pv 1)) pa_nil))) (fun _ _ => rfl))), ?_⟩
    refine ⟨.ref t, rfl, .ref l, rfl, .ref t, rfl, t, _, rfl, .inl (SqL.of ht), sc, ns, l, (xs.length : Int), rfl, R, by omega, by omega, fun H' v hv0 hv1 e R' => ?_⟩
    obtain ⟨x, hx, ea⟩ := at_int' hv0 hv1
    exact ⟨t, xs, v, x, rfl, rfl, SqL.of (e.lst hne ht), ea, q H' x hx e R'⟩
/-! ### _law_flow -/
def spFlow (K : PySem.W.Frag) : Sp := fun vs H Q _ => ∃ (sc : Addr) (ns : List Int) (l : Addr), vs = [.ref l] ∧ Row K sc ns H l ∧ ∀ H' v, 0 ≤ v → v ≤ 1000 → ExtL l H H' → Row K sc ns H' l → Q (.int v) H'
theorem ok_flow {f ft fp : Addr} {fd fdt fdp : FuncData} {k : Nat} (D : Df K mg "_law_flow" s_law_flow ["_law_row"] f fd) (Dt : Df K mg "_law_taken" s_law_taken ["_law_row", "_law_many"] ft fdt) (Gt : FnOk P w K mg base CX0 k ft fdt ["_law_row", "_law_many"] (spTaken K))
    (Dp : Df K mg "_law_pick" s_law_pick ["_law_row", "_law_things"] fp fdp) (Gp : FnOk P w K mg base CX0 k fp fdp ["_law_row", "_law_things"] (spPick K)) : FnOk P w K mg base CX0 (k + 1) f fd ["_law_row"] (spFlow K) := by
  refine D.F.ok sc_law_flow (fun vs H Q E h => ?_) (fun cdv A outer s H vs Q E hr h => ?_)
  · obtain ⟨sc, ns, l, rfl, _⟩ := h
    rfl
  · obtain ⟨sc, ns, l, rfl, R, q⟩ := h
    refine ⟨_, pss_one (ps_ret (pcall Dp Gp hr (pa_cons (pv 0) (pa_cons (pe_lst (pa_cons pe_int (pa_cons pe_int (pa_cons pe_int (pa_cons pe_int (pa_cons (pcall Dt Gt hr (pa_cons (pv 0) (pa_cons pe_int pa_nil)))
      (pa_cons (pcall Dp Gp hr (pa_cons (pv 0) (pa_cons (pe_lst (pa_cons pe_int (pa_cons pe_int pa_nil))) pa_nil))) pa_nil))))))) pa_nil)))), ?_⟩
    refine ⟨.ref l, rfl, .ref l, rfl, sc, ns, l, 30, rfl, R, by decide, by decide, fun H1 v h0 h1 e1 R1 => ?_⟩
    refine ⟨.ref l, rfl, tup2, fun t2 n2 => ⟨sc, ns, l, t2, _, rfl, R1.ext (Ext.new n2), upd_same, R1.ne_none n2, by decide, by decide, fun H3 x hx e3 R3 => ?_⟩⟩
    have e13 : ExtL l H H3 := (e1.trans (.of (Ext.new n2))).trans e3
    refine ⟨(by decide : 6 ≤ sizeLine), fun t nt => ⟨sc, ns, l, t, _, rfl, R3.ext (Ext.new nt), upd_same, R3.ne_none nt, by show 0 < 6; decide, by show 6 ≤ 1000; decide, fun H4 y hy e4 R4 => ?_⟩⟩
    have e14 : ExtL l H H4 := (e13.trans (.of (Ext.new nt))).trans e4
    have hx' : x = .int 100 ∨ x = .int 1000 := by simpa using hx
    have hy' : y = .int 0 ∨ y = .int 1 ∨ y = .int 5 ∨ y = .int 10 ∨ y = .int v ∨ y = x := by simpa using hy
    have fin : ∃ z : Int, y = .int z ∧ 0 ≤ z ∧ z ≤ 1000 := by
      rcases hy' with rfl | rfl | rfl | rfl | rfl | rfl
      · exact ⟨0, rfl, by decide, by decide⟩
      · exact ⟨1, rfl, by decide, by decide⟩
      · exact ⟨5, rfl, by decide, by decide⟩
      · exact ⟨10, rfl, by decide, by decide⟩
      · exact ⟨v, rfl, h0, by omega⟩
      · rcases hx' with rfl | rfl
        · exact ⟨100, rfl, by decide, by decide⟩
        · exact ⟨1000, rfl, by decide, by decide⟩
    obtain ⟨z, rfl, z0, z1⟩ := fin
    exact q H4 z z0 z1 e14 R4
/-! ### _law_demands -/
def spDemands (K : PySem.W.Frag) : Sp := fun vs H Q _ => ∃ (sc : Addr) (ns : List Int) (l : Addr) (n : Nat), vs = [.ref l, .int (n : Int)] ∧ Row K sc ns H l ∧ 1 ≤ n ∧ n ≤ 8 ∧
  ∀ H' p ds, ExtL l H H' → Row K sc ns H' l → H' p = some (.tup (ds.map V.int)) → ds.length = n → Flows ds → Q (.ref p) H'
theorem ok_demands {f fl : Addr} {fd fdl : FuncData} {k : Nat} (D : Df K mg "_law_demands" s_law_demands ["_law_row", "_law_many"] f fd) (Dl : Df K mg "_law_flow" s_law_flow ["_law_row"] fl fdl) (Gl : FnOk P w K mg base CX0 k fl fdl ["_law_row"] (spFlow K)) (mrange : mg "range" = none) (mtuple : mg "tuple" = none) :
    FnOk P w K mg base CX0 (k + 1) f fd ["_law_row", "_law_many"] (spDemands K) := by
  refine D.F.ok sc_law_demands (fun vs H Q E h => ?_) (fun cdv A outer s H vs Q E hr h => ?_)
  · obtain ⟨sc, ns, l, n, rfl, _⟩ := h
    rfl
  · obtain ⟨sc, ns, l, n, rfl, R, hn1, hn2, q⟩ := h
    refine ⟨_, pss_one (ps_ret (pe_callTy call_tuple_of (by rfl) mtuple (by decide +kernel) (pa_cons (pe_lc (own := [("_law_k", 2)]) (g := gName 2) (tt := tYes) rfl sc_law_demands.nd (pi_range1 (by rfl) mrange (pa_cons (pv 1) pa_nil))
      (blkOk_by (N := ["_law_row", "_law_many", "_law_k"]) (sc := defScope s_law_demands) (by decide +kernel)) (fun _ _ _ _ _ => pg_name (i := 2) sc_law_demands.nd rfl (Or.inl rfl)) (fun _ _ _ _ _ => pts_nil)
      (fun _ _ _ _ _ => pcall Dl Gl hr (pa_cons (pv 0) pa_nil))) pa_nil))), ?_⟩
    refine ⟨.int n, rfl, (n : Int), rfl, by omega, by omega, fun L nL => ?_⟩
    rw [Int.toNat_natCast]
    have nl := R.ne_none nL
    refine lc_range (lo := 0) (n := n) (fun i H' => ExtL l H H' ∧ Row K sc ns H' l ∧ ∃ ls : List Int, H' L = some (.lst (ls.map V.int)) ∧ ls.length = i ∧ ∀ v ∈ ls, 0 ≤ v ∧ v ≤ 1000)
      ⟨.of (Ext.new nL), R.ext (Ext.new nL), [], upd_same, rfl, fun v hv => absurd hv (by simp)⟩ (fun i H' hi h => ?_) (fun H' h => ?_)
    · obtain ⟨e1, R1, ls, hL, hll, lv⟩ := h
      refine ⟨rfl, ?_⟩
      refine yes_ ?_
      rw [if_pos rfl]
      refine ⟨.ref l, rfl, sc, ns, l, rfl, R1, fun H2 v h0 h1 e2 R2 => ?_⟩
      refine ⟨_, e2.lst nl hL, by rw [List.length_map]; exact small1000 (by omega), (e1.trans e2).over nL, R.over nL R2, ls ++ [v], by rw [upd_same, List.map_append] <;> rfl, by rw [List.length_append, List.length_singleton, hll], fun x hx => ?_⟩
      rcases List.mem_append.mp hx with hx | hx
      · exact lv x hx
      · have e : x = v := by simpa using hx
        subst e
        exact ⟨h0, h1⟩
    · obtain ⟨e1, R1, ls, hL, hll, lv⟩ := h
      refine ⟨L, _, rfl, .inl ⟨SqL.of hL, fun p np => ?_⟩⟩
      exact q _ p ls (e1.trans (.of (Ext.new np))) (R1.ext (Ext.new np)) upd_same hll ⟨by omega, by omega, lv⟩
end
end K48

namespace K48
open PySem PySem.Spec PyProof.Rows L2
theorem gcd_step {x y : Int} (hx : 0 ≤ x) (hy : 0 < y) : Int.gcd y (x % y) = Int.gcd x y := by
  obtain ⟨a, rfl⟩ : ∃ a : Nat, x = (a : Int) := ⟨x.toNat, by omega⟩
  obtain ⟨b, rfl⟩ : ∃ b : Nat, y = (b : Int) := ⟨y.toNat, by omega⟩
  show Nat.gcd b ((a : Int) % (b : Int)).natAbs = Nat.gcd a b
  rw [show ((a : Int) % (b : Int)) = ((a % b : Nat) : Int) by push_cast; rfl, Int.natAbs_natCast, Nat.gcd_comm a b, Nat.gcd_rec b a, Nat.gcd_comm]
def muR (σ : L2.St) (_ : Hp) : Nat := match σ with
  | [_, _, _, some (.int y)] => y.toNat
  | _ => 0
section
variable {P : Program} {w : World} {K : PySem.W.Frag} {mg : Str → Option Value} {base : Heap}
/-! ### _law_ratio, _law_by, _law_less -/
theorem ok_law_ratio {f : Addr} {fd : FuncData} {k : Nat} (D : Df K mg "_law_ratio" s_law_ratio ["_law_top", "_law_bottom"] f fd) (mabs : mg "abs" = none) (mint : mg "int" = none) : FnOk P w K mg base CX0 (k + 1) f fd ["_law_top", "_law_bottom"] spRatio := by
  refine D.F.ok sc_law_ratio (fun vs H Q E h => ?_) (fun cdv A outer s H vs Q E hr h => ?_)
  · obtain ⟨t, b, rfl, _⟩ := h
    rfl
  · obtain ⟨t, b, rfl, hb, hb2, q⟩ := h
    refine ⟨_, pss_cons (ps_par (i := 2) (j := 3) rfl sc_law_ratio.nd rfl rfl (by decide) rfl rfl (pa_cons (pe_callB call_abs (by rfl) mabs (by decide +kernel) (pa_cons (pv 0) pa_nil)) (pa_cons (pe_callB call_abs (by rfl) mabs (by decide +kernel) (pa_cons (pv 1) pa_nil)) pa_nil)) (by rfl))
      (pss_cons (ps_while PassesOwn.never (pt_cmpR op_ne (pv 3) pe_int (nomark _)) (pss_one (ps_par (i := 2) (j := 3) rfl sc_law_ratio.nd rfl rfl (by decide) rfl rfl (pa_cons (pv 3) (pa_cons (pe_op op_mod (pe_callTy call_int1 (by rfl) mint boot_int (pa_cons (pv 2) pa_nil)) (pv 3)) pa_nil)) (by rfl))))
      (pss_one (ps_ret (pe_ifExp (pt_cmpR op_gt (pv 1) pe_int (nomark _)) (pe_tup (pa_cons (pe_op op_fdiv (pv 0) (pv 2)) (pa_cons (pe_op op_fdiv (pv 1) (pv 2)) pa_nil)))
        (pe_tup (pa_cons (pe_op op_sub pe_int (pe_op op_fdiv (pv 0) (pv 2))) (pa_cons (pe_op op_sub pe_int (pe_op op_fdiv (pv 1) (pv 2))) pa_nil))))))), ?_⟩
    refine ⟨.int t, rfl, t, rfl, .int b, rfl, b, rfl, _, _, rfl, ?_⟩
    refine while_by (fun σ H' => H' = H ∧ ∃ x y : Int, σ = [some (.int t), some (.int b), some (.int x), some (.int y)] ∧ 0 ≤ x ∧ 0 ≤ y ∧ Int.gcd x y = Int.gcd t b) muR ⟨rfl, (if t < 0 then -t else t), (if b < 0 then -b else b), rfl, by split <;> omega, by split <;> omega, ?_⟩ (fun σ H' h => ?_)
      (fun σ H' Q1 Q2 hq ⟨v, hv, hs, c, e, q3⟩ => ⟨v, hv, hs, c, e, hq _ _ q3⟩)
    · have e1 : (if t < 0 then -t else t).natAbs = t.natAbs := by split <;> omega
      have e2 : (if b < 0 then -b else b).natAbs = b.natAbs := by split <;> omega
      show Nat.gcd _ _ = Nat.gcd _ _
      rw [e1, e2]
    · obtain ⟨rfl, x, y, rfl, hx, hy, hg⟩ := h
      refine ⟨.int y, rfl, rfl, _, rfl, ite2 (fun c => ?_) (fun c => ?_)⟩
      · have hy0 : y ≠ 0 := fun z => by
          rw [z] at c
          exact absurd c (by decide)
        refine ⟨.int y, rfl, .int x, rfl, .inl ⟨x, rfl, .int y, rfl, x, y, rfl, rfl, by show 0 < y; omega, ?_⟩⟩
        refine ⟨_, _, rfl, ⟨rfl, y, x % y, rfl, hy, Int.emod_nonneg _ hy0, by rw [gcd_step hx (by omega)]; exact hg⟩, ?_⟩
        have := Int.emod_lt_of_pos x (show 0 < y by omega)
        have := Int.emod_nonneg x hy0
        show (x % y).toNat < y.toNat
        omega
      · have hy0 : y = 0 := by
          by_cases z : y = 0
          · exact z
          · exfalso
            apply c
            have : decide (V.int y = V.int 0) = false := decide_eq_false fun q => z (V.int.inj q)
            rw [this] <;> rfl
        subst hy0
        have hxg : x = ((Nat.gcd t.natAbs b.natAbs : Nat) : Int) := by
          have h1 : Int.gcd x 0 = x.natAbs := by
            show Nat.gcd x.natAbs 0 = _
            rw [Nat.gcd_zero_right]
          rw [h1] at hg
          have h2 : x.natAbs = Nat.gcd t.natAbs b.natAbs := hg
          omega
        have g0 := gcd_pos (t := t) hb
        have g1 := gcd_le (t := t) hb
        rw [← hxg] at g0 g1
        have R := rat_of (t := t) hb
        rw [← hxg] at R
        refine ⟨.int b, rfl, b, 0, rfl, rfl, _, rfl, ifT (decide_eq_true hb) ?_⟩
        refine ⟨.int t, rfl, .int x, rfl, t, x, rfl, rfl, ⟨g0, by omega⟩, .int b, rfl, .int x, rfl, b, x, rfl, rfl, ⟨g0, by omega⟩, tup2, fun p hp => ?_⟩
        exact q p _ _ hp R
theorem ok_law_less {f : Addr} {fd : FuncData} {k : Nat} (D : Df K mg "_law_less" s_law_less ["_law_one", "_law_other"] f fd) : FnOk P w K mg base CX0 (k + 1) f fd ["_law_one", "_law_other"] spLess := by
  refine D.F.ok sc_law_less (fun vs H Q E h => ?_) (fun cdv A outer s H vs Q E hr h => ?_)
  · obtain ⟨a, c, x, y, x', y', rfl, _⟩ := h
    rfl
  · obtain ⟨a, c, x, y, x', y', rfl, ha, hc, hy, hy', q⟩ := h
    refine ⟨_, pss_one (ps_ret (pe_cmpR op_lt (pe_op op_mul (pix (pv 0) pe_int) (pix (pv 1) pe_int)) (pe_op op_mul (pix (pv 1) pe_int) (pix (pv 0) pe_int)) (nomark _))), ?_⟩
    refine ⟨.ref a, rfl, a, _, _, .int x, rfl, rfl, SqT.of ha, atI_nat (j := 0) rfl, .ref c, rfl, c, _, _, .int y', rfl, rfl, SqT.of hc, atI_nat (j := 1) rfl, x, y', rfl, rfl, .inr (small64' hy'), ?_⟩
    refine ⟨.ref c, rfl, c, _, _, .int x', rfl, rfl, SqT.of hc, atI_nat (j := 0) rfl, .ref a, rfl, a, _, _, .int y, rfl, rfl, SqT.of ha, atI_nat (j := 1) rfl, x', y, rfl, rfl, .inr (small64' hy), ?_⟩
    exact ⟨_, _, rfl, rfl, q⟩
def spBy : Sp := fun vs H Q _ => ∃ (a c : Addr) (s x y : Int), vs = [.ref a, .ref c] ∧ H a = some (.tup [.int s, .int 1]) ∧ H c = some (.tup [.int x, .int y]) ∧ (0 < s ∧ s < 1000) ∧ (0 < y ∧ y < 1073741824) ∧
  ∀ p u v, H p = none → RatOf (s * x) (1 * y) u v → Q (.ref p) (upd H p (.tup [.int u, .int v]))
theorem ok_law_by {f fr : Addr} {fd fdr : FuncData} {k : Nat} (D : Df K mg "_law_by" s_law_by ["_law_one", "_law_other"] f fd) (Dr : Df K mg "_law_ratio" s_law_ratio ["_law_top", "_law_bottom"] fr fdr) (Gr : FnOk P w K mg base CX0 k fr fdr ["_law_top", "_law_bottom"] spRatio) :
    FnOk P w K mg base CX0 (k + 1) f fd ["_law_one", "_law_other"] spBy := by
  refine D.F.ok sc_law_by (fun vs H Q E h => ?_) (fun cdv A outer s H vs Q E hr h => ?_)
  · obtain ⟨a, c, x, y, z, rfl, _⟩ := h
    rfl
  · obtain ⟨a, c, s, x, y, rfl, ha, hc, hs, hy, q⟩ := h
    refine ⟨_, pss_one (ps_ret (pcall Dr Gr hr (pa_cons (pe_op op_mul (pix (pv 0) pe_int) (pix (pv 1) pe_int)) (pa_cons (pe_op op_mul (pix (pv 0) pe_int) (pix (pv 1) pe_int)) pa_nil)))), ?_⟩
    refine ⟨.ref a, rfl, a, _, _, .int s, rfl, rfl, SqT.of ha, atI_nat (j := 0) rfl, .ref c, rfl, c, _, _, .int x, rfl, rfl, SqT.of hc, atI_nat (j := 0) rfl, s, x, rfl, rfl, .inl (by omega), ?_⟩
    refine ⟨.ref a, rfl, a, _, _, .int 1, rfl, rfl, SqT.of ha, atI_nat (j := 1) rfl, .ref c, rfl, c, _, _, .int y, rfl, rfl, SqT.of hc, atI_nat (j := 1) rfl, 1, y, rfl, rfl, .inl (by omega), ?_⟩
    exact ⟨s * x, 1 * y, rfl, by omega, by omega, fun p u v hp R => q p u v hp R⟩
end
/-! ### t * 1 -/
theorem tuple_mul1 (l : Addr) (items : Array Value) (n : Nat) (dd : Option Addr) (sl : Array (Option Value)) (u : Tok) :
    Meets (Builtin.«tuple.__mul__» ⟨[.ref l, .int 1 u], []⟩) (fun _ R s => s.heap.get? l = some { cls := .type "tuple", dict := dd, data := .seq items n, slots := sl } ∧ R (.ok (.ret (Value.ref l))) s) :=
  .of_wp fun prog w A R s h => by
    obtain ⟨hp, g, d, tk, os⟩ := s
    obtain ⟨hl, h⟩ := h
    have f1 := AutoSeq1.idx_int
    wp_walk using wpAny_loadPart' hl
    exact ⟨_, rfl, h⟩
def rRepA : R2 := fun x y H Q => ∃ l k xs, x = .ref l ∧ y = .int k ∧ H l = some (.tup xs) ∧ xs ≠ [] ∧ 1 ≤ k ∧ k ≤ 1000 ∧ xs.length ≤ 1000 ∧ ∀ H' p, Ext H H' → H' p = some (.tup (List.replicate k.toNat xs).flatten) → Q (.ref p) H'
theorem op_repA {X : Cx} : OpR X (binaryOp .Mult) rRepA := by
  intro pins s σ H x y v u Q I rx ry h
  obtain ⟨l, k, xs, rfl, rfl, hT, hne, h1, h2, hz, q⟩ := h
  by_cases hk : k = 1
  · subst hk
    cases rx
    obtain ⟨t, rfl⟩ := ry
    obtain ⟨its, r, ⟨⟨cls, dd, data, sl⟩, ho, hc, n, hd⟩, hs⟩ := I.tuple (.inl (.inl hT))
    simp only at hc hd
    subst hc hd
    refine wpAny_binaryOp_repeat_ref (T := "tuple") (U := "int") (by decide) ⟨_, ho, rfl⟩ (fun s' => typeIs_int s' 1 t) noFill_tuple_mul F.fills_int_mul F.slot_int_rmul repeat_tuple F.slot_int_index.lookup
      (call_meets F.slot_int_rmul (typeIs_int s 1 t) F.entry_int_rmul (F.args_int_rmul_2 _ _) (int_rmul_tuple 1 t l its.toArray n dd sl)
        ⟨ho, rfl, ⟨_, ho, rfl⟩, call_meets F.slot_tuple_mul ⟨_, ho, rfl⟩ F.entry_tuple_mul (F.args_tuple_mul_2 _ _) (tuple_mul1 l its.toArray n dd sl t) ⟨ho, ?_⟩⟩)
    refine ⟨.ref l, H, I, rfl, q H l (Ext.refl H) ?_⟩
    rw [hT]
    simp
  · exact op_repT pins s σ H _ _ v u Q I rx ry ⟨l, k, xs, rfl, rfl, SqT.of hT, hne, by omega, h2, hz, fun p np => q _ p (Ext.new np) upd_same⟩
end K48

namespace K48
open PySem PySem.Spec PyProof.Rows L2
/-! ### the mathematics of the law -/
theorem preSum_congr {f g : Nat → Int} : ∀ {c : Nat}, (∀ k, k < c → f k = g k) → preSum f c = preSum g c
  | 0, _ => rfl
  | c + 1, h => by
    rw [preSum, preSum, preSum_congr fun k hk => h k (by omega), h c (by omega)]
theorem preSum_sub (f g : Nat → Int) : ∀ c : Nat, preSum (fun k => f k - g k) c = preSum f c - preSum g c
  | 0 => by simp [preSum]
  | c + 1 => by
    rw [preSum, preSum, preSum, preSum_sub f g c]
    omega
theorem preSum_const (D : Int) : ∀ c : Nat, preSum (fun _ => D) c = D * (c : Int)
  | 0 => by simp [preSum]
  | c + 1 => by
    rw [preSum, preSum_const D c]
    push_cast
    rw [Int.mul_add, Int.mul_one]
theorem lk_split {ns ds : List Int} (hl : ds.length = ns.length) (f c : Nat) : lk ns ds f c = cs ds f c - cs ns f c := by
  unfold lk cs
  rw [preSum_sub, hl]
theorem cs_take (ns : List Int) (f : Nat) : ∀ c : Nat, f + c ≤ ns.length → cs ns f c = ((ns.drop f).take c).sum
  | 0, _ => by simp [cs, preSum]
  | c + 1, h => by
    have ih := cs_take ns f c (by omega)
    unfold cs at ih ⊢
    rw [preSum, ih, PySem.sum_take_succ, Nat.mod_eq_of_lt (by omega)]
    congr 1
    rw [List.getD_eq_getElem?_getD, List.getD_eq_getElem?_getD, List.getElem?_drop]
theorem cs_sl {ns : List Int} {f c : Nat} (hc : 1 ≤ c) (h : f + c ≤ ns.length) : cs ns f c = sl ns f (f + c - 1) := by
  rw [cs_take ns f c h]
  unfold sl
  rw [show f + c - 1 + 1 - f = c by omega]
theorem cs_const {n : Nat} (D : Int) (hn : 1 ≤ n) (f c : Nat) : cs (List.replicate n D) f c = D * (c : Int) := by
  unfold cs
  rw [List.length_replicate, ← preSum_const D c]
  refine preSum_congr fun k _ => ?_
  have hm : (f + k) % n < n := Nat.mod_lt _ (by omega)
  rw [List.getD_eq_getElem?_getD, List.getElem?_replicate, if_pos hm] <;> rfl
theorem sum_replicate (n : Nat) (D : Int) : (List.replicate n D).sum = D * (n : Int) := by
  induction n with
  | zero => simp
  | succ n ih =>
    rw [List.replicate_succ, List.sum_cons, ih]
    push_cast
    rw [Int.mul_add, Int.mul_one, Int.add_comm]
theorem StM.le {ns ds : List Int} {r : Bool} {m C : Int} (S : StM ns ds r m) (hC : 0 ≤ C) : m ≤ C ↔ ∀ f c, Win ns.length r f c → lk ns ds f c ≤ C := by
  constructor
  · intro h f c hw
    exact Int.le_trans (S.all f c hw) h
  · intro h
    rcases S.one with e | ⟨f, c, hw, e⟩
    · omega
    · rw [← e]
      exact h f c hw
theorem not_less {p q D : Int} : (!decide (p * 1 < D * q)) = decide (D * q ≤ p) := by
  rw [Int.mul_one]
  by_cases h : p < D * q
  · rw [decide_eq_true h, decide_eq_false (by omega)] <;> rfl
  · rw [decide_eq_false h, decide_eq_true (by omega)] <;> rfl
theorem dec_iff {a b : Prop} [Decidable a] [Decidable b] (h : a ↔ b) : decide a = decide b := by
  by_cases ha : a
  · rw [decide_eq_true ha, decide_eq_true (h.mp ha)]
  · rw [decide_eq_false ha, decide_eq_false fun hb => ha (h.mpr hb)]
/-- a full dam gives D every month exactly if its capacity is the least storage -/
theorem firm_law {C D p q m : Int} {ns : List Int} (hn : 1 ≤ ns.length) (hC : 0 ≤ C) (L : Least (WFirm C ns) p q) (S : StM ns (List.replicate ns.length D) false m) : (!decide (p * 1 < D * q)) = decide (m ≤ C) := by
  rw [not_less]
  refine dec_iff ?_
  rw [L.ge fun w d h => h.pos, S.le hC]
  constructor
  · intro h f c hw
    obtain ⟨hf, hc1, hc2⟩ := hw
    simp only [Bool.false_eq_true, if_false] at hc2
    have h1 := h _ _ ⟨f, f + c - 1, by omega, by omega, rfl, rfl⟩
    rw [← cs_sl hc1 (by omega)] at h1
    rw [lk_split List.length_replicate, cs_const D hn]
    have e : ((f + c - 1 : Nat) : Int) - (f : Int) + 1 = (c : Int) := by omega
    rw [e] at h1
    omega
  · intro h w d hW
    obtain ⟨f, l, h1, h2, rfl, rfl⟩ := hW
    have h3 := h f (l + 1 - f) ⟨by omega, by omega, by simp only [Bool.false_eq_true, if_false]; omega⟩
    rw [lk_split List.length_replicate, cs_const D hn, cs_sl (by omega) (by omega)] at h3
    have e : f + (l + 1 - f) - 1 = l := by omega
    rw [e] at h3
    have e2 : ((l + 1 - f : Nat) : Int) = (l : Int) - f + 1 := by omega
    rw [e2] at h3
    omega
theorem WRound.pos {C : Int} {ns : List Int} (hn : 1 ≤ ns.length) {w d : Int} (h : WRound C ns w d) : 0 < d := by
  rcases h with ⟨_, rfl⟩ | ⟨f, c, _, h1, _, _, rfl⟩ <;> omega
theorem round_none {C D p q : Int} {ns : List Int} (hn : 1 ≤ ns.length) (L : Least (WRound C ns) p q) (h : ns.sum < (List.replicate ns.length D).sum) : (!decide (p * 1 < D * q)) = false := by
  rw [not_less]
  refine decide_eq_false fun hq => ?_
  have h1 := (L.ge fun w d h => h.pos hn).mp hq _ _ (.inl ⟨rfl, rfl⟩)
  rw [sum_replicate] at h
  omega
theorem round_law {C D p q m : Int} {ns : List Int} (hn : 1 ≤ ns.length) (hC : 0 ≤ C) (L : Least (WRound C ns) p q) (hs : ¬ ns.sum < (List.replicate ns.length D).sum) (S : StM ns (List.replicate ns.length D) true m) : (!decide (p * 1 < D * q)) = decide (m ≤ C) := by
  rw [not_less]
  refine dec_iff ?_
  rw [L.ge fun w d h => h.pos hn, S.le hC]
  rw [sum_replicate] at hs
  constructor
  · intro h f c hw
    obtain ⟨hf, hc1, hc2⟩ := hw
    simp only [if_true] at hc2
    have h1 := h _ _ (.inr ⟨f, c, hf, hc1, hc2, rfl, rfl⟩)
    rw [lk_split List.length_replicate, cs_const D hn]
    omega
  · intro h w d hW
    rcases hW with ⟨rfl, rfl⟩ | ⟨f, c, h0, h1, h2, rfl, rfl⟩
    · omega
    · have h3 := h f c ⟨h0, h1, by simp only [if_true]; exact h2⟩
      rw [lk_split List.length_replicate, cs_const D hn] at h3
      omega
theorem share_law {C p q m : Int} {ns ds : List Int} (hns : Flows ns) (hl : ds.length = ns.length) (hC : 0 ≤ C) (L : Least (WShare C ns ds) p q) (S : StM ns ds false m) : (!decide (p * 1 < 1 * q)) = decide (m ≤ C) := by
  rw [not_less]
  refine dec_iff ?_
  rw [L.ge fun w d ⟨_, _, _, _, _, _, h⟩ => h, S.le hC]
  constructor
  · intro h f c hw
    obtain ⟨hf, hc1, hc2⟩ := hw
    simp only [Bool.false_eq_true, if_false] at hc2
    rw [lk_split hl, cs_sl hc1 (by omega), cs_sl hc1 (by omega)]
    have h0 := sl_bound hns f (f + c - 1)
    by_cases hp : 0 < sl ds f (f + c - 1)
    · have h1 := h _ _ ⟨f, f + c - 1, by omega, by omega, rfl, rfl, hp⟩
      omega
    · omega
  · intro h w d hW
    obtain ⟨f, l, h1, h2, rfl, rfl, hp⟩ := hW
    have h3 := h f (l + 1 - f) ⟨by omega, by omega, by simp only [Bool.false_eq_true, if_false]; omega⟩
    rw [lk_split hl, cs_sl (by omega) (by omega), cs_sl (by omega) (by omega)] at h3
    have e : f + (l + 1 - f) - 1 = l := by omega
    rw [e] at h3
    omega
theorem sum_scale (s : Int) : ∀ l : List Int, (l.map (· * s)).sum = l.sum * s
  | [] => by simp
  | a :: r => by
    rw [List.map_cons, List.sum_cons, List.sum_cons, sum_scale s r, Int.add_mul]
theorem sl_scale (ds : List Int) (s : Int) (f l : Nat) : sl (ds.map (· * s)) f l = sl ds f l * s := by
  unfold sl
  rw [← List.map_drop, ← List.map_take, sum_scale]
theorem scale_law {C p q p' q' s a b : Int} {ns ds : List Int} (hs : 0 < s) (L : Least (WShare C ns ds) p q) (L' : Least (WShare C ns (ds.map (· * s))) p' q') (R : RatOf (s * p') (1 * q') a b) : a = p ∧ b = q := by
  refine Least.by_eq hs (fun w d ⟨_, _, _, _, _, _, h⟩ => h) L L' (fun w d h => ?_) (fun w d h => ?_) R
  · obtain ⟨f, l, h1, h2, e1, rfl, hp⟩ := h
    exact ⟨f, l, h1, h2, e1, (sl_scale ds s f l).symm, Int.mul_pos hp hs⟩
  · obtain ⟨f, l, h1, h2, e1, e2, hp⟩ := h
    rw [sl_scale] at e2
    refine ⟨sl ds f l, ⟨f, l, h1, h2, e1, rfl, ?_⟩, e2⟩
    rw [e2] at hp
    rcases Int.lt_or_le 0 (sl ds f l) with h | h
    · exact h
    · have := Int.mul_le_mul_of_nonneg_right h (Int.le_of_lt hs)
      rw [Int.zero_mul] at this
      omega
end K48

namespace K48
open PySem PySem.Spec PyProof.Rows L2
theorem op_add1 {X : Cx} : OpR X (binaryOp .Add) (fun x y H Q => ∃ m : Nat, x = .int 1 ∧ y = .int (m : Int) ∧ Q (.int ((1 + m : Nat) : Int)) H) := by
  intro pins s σ H x y v u Q I rx ry h
  obtain ⟨m, rfl, rfl, q⟩ := h
  refine op_add pins s σ H _ _ v u Q I rx ry ⟨1, m, rfl, rfl, ?_⟩
  show Q (.int ((1 : Int) + (m : Int))) H
  rw [show (1 : Int) + (m : Int) = ((1 + m : Nat) : Int) by omega]
  exact q
theorem rep_flat (n : Nat) (D : Int) : (List.replicate ((n : Int)).toNat [V.int D]).flatten = (List.replicate n D).map V.int := by
  rw [Int.toNat_natCast]
  induction n with
  | zero => rfl
  | succ n ih =>
    rw [List.replicate_succ, List.replicate_succ, List.flatten_cons, ih]
    rfl
theorem flows_rep {n : Nat} {D : Int} (h1 : 1 ≤ n) (h2 : n ≤ 12) (d0 : 0 ≤ D) (d1 : D ≤ 1000) : Flows (List.replicate n D) := by
  refine ⟨by rw [List.length_replicate]; omega, by rw [List.length_replicate]; omega, fun v hv => ?_⟩
  have := List.eq_of_mem_replicate hv
  omega
theorem take_map {f : Int → Int} {l : List Int} {i : Nat} {x : Int} (h : l[i]? = some x) : (l.take (i + 1)).map f = (l.take i).map f ++ [f x] := by
  rw [List.take_add_one, h]
  simp
/-- no demand is above the greatest, times the scale -/
theorem flows_scale {ds : List Int} {s m : Int} (h : Flows ds) (hs : 0 < s) (hm : ∀ y, y ∈ ds → y ≤ m) (hb : ¬ 1000 < m * s) : Flows (ds.map (· * s)) := by
  refine ⟨by rw [List.length_map]; exact h.1, by rw [List.length_map]; exact h.2.1, fun v hv => ?_⟩
  obtain ⟨y, hy, rfl⟩ := List.mem_map.mp hv
  have h1 := h.2.2 y hy
  have h2 := Int.mul_nonneg h1.1 (Int.le_of_lt hs)
  have h3 := Int.mul_le_mul_of_nonneg_right (hm y hy) (Int.le_of_lt hs)
  constructor <;> omega
theorem never_non {v : V} {A B : Prop} {W : Int → Prop} (h : (v = .non ∧ false = true ∧ A) ∨ (B ∧ ∃ m, v = .int m ∧ W m)) : ∃ m, v = .int m ∧ W m := by
  rcases h with ⟨_, h, _⟩ | ⟨_, h⟩
  · exact absurd h (by decide)
  · exact h
theorem and_of {ta tb : TE} {σ : L2.St} {H : Hp} {Q : V → Hp → Prop} {g : Bool} (h : ∀ Q' : V → Hp → Prop, Q' (.bl g) H → tAndV ta tb σ H Q') (q : Q (.bl g) H) : tAndV ta tb σ H Q := h Q q
section
variable {P : Program} {w : World} {K : PySem.W.Frag} {mg : Str → Option Value} {base : Heap}
/-! ### law -/
def spLaw (K : PySem.W.Frag) (T1 T2 T3 T4 : Addr) : Sp := fun vs H Q _ => ∃ (a : Addr) (ns : List Int), vs = [.ref a] ∧ SqL K H a (ns.map V.int) ∧ GxR.TabG H T1 ∧ GxR.TabG H T2 ∧ GxR.TabG H T3 ∧ GxR.TabG H T4 ∧ ∀ H', Q (.bl true) H'
theorem ok_law {f ft fp fd0 fl fb fy fs fr fh : Addr} {fd fdt fdp fdd fdl fdb fdy fds fdr fdh : FuncData} {T1 T2 T3 T4 : Addr} {k : Nat} (D : Df K mg "law" s_law ["_law_script"] f fd)
    (Dt : Df K mg "_law_taken" s_law_taken ["_law_row", "_law_many"] ft fdt) (Gt : FnOk P w K mg base CX0 k ft fdt ["_law_row", "_law_many"] (spTaken K))
    (Dp : Df K mg "_law_pick" s_law_pick ["_law_row", "_law_things"] fp fdp) (Gp : FnOk P w K mg base CX0 k fp fdp ["_law_row", "_law_things"] (spPick K))
    (Dd : Df K mg "_law_demands" s_law_demands ["_law_row", "_law_many"] fd0 fdd) (Gd : FnOk P w K mg base CX0 k fd0 fdd ["_law_row", "_law_many"] (spDemands K))
    (Dl : Df K mg "_law_less" s_law_less ["_law_one", "_law_other"] fl fdl) (Gl : FnOk P w K mg base CX0 k fl fdl ["_law_one", "_law_other"] spLess)
    (Db : Df K mg "_law_by" s_law_by ["_law_one", "_law_other"] fb fdb) (Gb : FnOk P w K mg base CX0 k fb fdb ["_law_one", "_law_other"] spBy)
    (Dy : Df K mg "firm_yield" s_firm_yield ["dam"] fy fdy) (Gy : FnOk P w K mg base CX0 k fy fdy ["dam"] (spFirmYield T1 T2))
    (Ds : Df K mg "least_storage" s_least_storage ["inflows", "demands", "is_round"] fs fds) (Gs : FnOk P w K mg base CX0 k fs fds ["inflows", "demands", "is_round"] (spLeastStorage T1 T4))
    (Dr : Df K mg "round_yield" s_round_yield ["capacity", "inflows"] fr fdr) (Gr : FnOk P w K mg base CX0 k fr fdr ["capacity", "inflows"] (spRoundYield T1 T3))
    (Dh : Df K mg "firm_share" s_firm_share ["dam", "demands"] fh fdh) (Gh : FnOk P w K mg base CX0 k fh fdh ["dam", "demands"] (spFirmShare T1 T2))
    (mmax : mg "max" = none) (mtuple : mg "tuple" = none) : FnOk P w K mg base CX0 (k + 1) f fd ["_law_script"] (spLaw K T1 T2 T3 T4) := by
  refine D.F.ok sc_law (fun vs H Q E h => ?_) (fun cdv A outer s H vs Q E hr h => ?_)
  · obtain ⟨a, ns, rfl, _⟩ := h
    rfl
  · obtain ⟨sc, scs, rfl, hs, hT1, hT2, hT3, hT4, q⟩ := h
    refine ⟨_, pss_cons (ps_set (i := 1) sc_law.nd rfl (.inl rfl) (pe_lst (pa_cons (pv 0) (pa_cons pe_int (pa_cons pe_int (pa_cons pe_int pa_nil))))))
      (pss_cons (ps_par (i := 2) (j := 3) rfl sc_law.nd rfl rfl (by decide) rfl rfl (pa_cons (pe_op op_add1 pe_int (pcall Dt Gt hr (pa_cons (pv 1) (pa_cons pe_int pa_nil))))
          (pa_cons (pcall Dp Gp hr (pa_cons (pv 1) (pa_cons (pe_lst (pa_cons pe_int (pa_cons pe_int (pa_cons pe_int (pa_cons (pcall Dt Gt hr (pa_cons (pv 1) (pa_cons pe_int pa_nil))) pa_nil))))) pa_nil))) pa_nil)) (by rfl))
      (pss_cons (ps_par (i := 4) (j := 5) rfl sc_law.nd rfl rfl (by decide) rfl rfl (pa_cons (pcall Dd Gd hr (pa_cons (pv 1) (pa_cons (pv 2) pa_nil))) (pa_cons (pcall Dt Gt hr (pa_cons (pv 1) (pa_cons pe_int pa_nil))) pa_nil)) (by rfl))
      (pss_cons (ps_par (i := 6) (j := 7) rfl sc_law.nd rfl rfl (by decide) rfl rfl (pa_cons (pe_tup (pa_cons (pv 3) (pa_cons (pv 3) (pa_cons pe_int (pa_cons (pv 4) pa_nil))))) (pa_cons (pe_op op_repA (pe_tup (pa_cons (pv 5) pa_nil)) (pv 2)) pa_nil)) (by rfl))
      (pss_cons (ps_set (i := 8) sc_law.nd rfl (.inl rfl) (pe_not (pcall Dl Gl hr (pa_cons (pcall Dy Gy hr (pa_cons (pv 6) pa_nil)) (pa_cons (pe_tup (pa_cons (pv 5) (pa_cons pe_int pa_nil))) pa_nil)))))
      (pss_cons (ps_if (pt_cmpR op_ne (pv 8) (pe_cmpR op_le (pcall Ds Gs hr (pa_cons (pv 4) (pa_cons (pv 7) (pa_cons pe_bl pa_nil)))) (pv 3) (nomark _)) (nomark _)) (pss_one (ps_ret pe_bl)) pss_nil)
      (pss_cons (ps_set (i := 9) sc_law.nd rfl (.inl rfl) (pcall Ds Gs hr (pa_cons (pv 4) (pa_cons (pv 7) (pa_cons pe_bl pa_nil)))))
      (pss_cons (ps_set (i := 8) sc_law.nd rfl (.inl rfl) (pe_not (pcall Dl Gl hr (pa_cons (pcall Dr Gr hr (pa_cons (pv 3) (pa_cons (pv 4) pa_nil))) (pa_cons (pe_tup (pa_cons (pv 5) (pa_cons pe_int pa_nil))) pa_nil)))))
      (pss_cons (ps_if (pt_cmpR op_ne (pv 8) (pe_and (pe_cmpR op_notN (pv 9) pe_non (nomark _)) (pe_one (pe_cmpR op_le (pv 9) (pv 3) (nomark _)))) (nomark _)) (pss_one (ps_ret pe_bl)) pss_nil)
      (pss_cons (ps_set (i := 10) sc_law.nd rfl (.inl rfl) (pcall Dd Gd hr (pa_cons (pv 1) (pa_cons (pv 2) pa_nil))))
      (pss_cons (ps_if (pt_cmpR op_eq (pe_callB (cr_maxT rfl) (by rfl) mmax (by decide +kernel) (pa_cons (pv 10) pa_nil)) pe_int (nomark _)) (pss_one (ps_ret pe_bl)) pss_nil)
      (pss_cons (ps_set (i := 11) sc_law.nd rfl (.inl rfl) (pe_not (pcall Dl Gl hr (pa_cons (pcall Dh Gh hr (pa_cons (pv 6) (pa_cons (pv 10) pa_nil))) (pa_cons (pe_tup (pa_cons pe_int (pa_cons pe_int pa_nil))) pa_nil)))))
      (pss_cons (ps_if (pt_cmpR op_ne (pv 11) (pe_cmpR op_le (pcall Ds Gs hr (pa_cons (pv 4) (pa_cons (pv 10) (pa_cons pe_bl pa_nil)))) (pv 3) (nomark _)) (nomark _)) (pss_one (ps_ret pe_bl)) pss_nil)
      (pss_cons (ps_set (i := 12) sc_law.nd rfl (.inr rfl) (pe_op op_add pe_int (pcall Dt Gt hr (pa_cons (pv 1) (pa_cons pe_int pa_nil)))))
      (pss_cons (ps_if (pt_cmpR op_gt (pe_op op_mul (pe_callB (cr_maxT rfl) (by rfl) mmax (by decide +kernel) (pa_cons (pv 10) pa_nil)) (pv 12)) pe_int (nomark _)) (pss_one (ps_ret pe_bl)) pss_nil)
      (pss_one (ps_ret (pe_cmpR (op_eqD hr.units) (pcall Db Gb hr (pa_cons (pe_tup (pa_cons (pv 12) (pa_cons pe_int pa_nil))) (pa_cons (pcall Dh Gh hr (pa_cons (pv 6) (pa_cons (pe_callTy call_tuple_of (by rfl) mtuple (by decide +kernel)
          (pa_cons (pe_lc (own := [("_law_one", 13)]) (g := gName 13) (tt := tYes) rfl sc_law.nd (pi_tup (pv 10))
            (blkOk_by (N := ["_law_script", "_law_row", "_law_many", "_law_capacity", "_law_inflows", "_law_demand", "_law_dam_here", "_law_equal", "_law_gives", "_law_round_least", "_law_demands_here", "_law_fits", "_law_size", "_law_one"]) (sc := defScope s_law) (by decide +kernel))
            (fun _ _ _ _ _ => pg_name (i := 13) sc_law.nd rfl (Or.inl rfl)) (fun _ _ _ _ _ => pts_nil)
            (fun _ _ _ _ _ => pe_op op_mul (pv 13) (pv 12))) pa_nil)) pa_nil))) pa_nil)))
          (pcall Dh Gh hr (pa_cons (pv 6) (pa_cons (pv 10) pa_nil))) (nomark _)))))))))))))))))), ?_⟩
    -- the row
    refine ⟨.ref sc, rfl, (by decide : 4 ≤ sizeLine), fun l nl => ?_⟩
    have R1 : Row K sc scs (upd H l (.lst [.ref sc, .int 0, .int 4448, .int 0])) l := ⟨0, 4448, 0, upd_same, by decide, sql_ext (Ext.new nl) hs⟩
    have t1 := fun b h => (Ext.new (o := .lst [.ref sc, .int 0, .int 4448, .int 0]) nl).tab b h
    generalize upd H l (.lst [.ref sc, .int 0, .int 4448, .int 0]) = H1 at R1 t1
    -- many, capacity
    refine ⟨.ref l, rfl, sc, scs, l, 8, rfl, R1, by decide, by decide, fun H2 v0 v0a v0b e2 R2 => ?_⟩
    obtain ⟨j, rfl⟩ : ∃ j : Nat, v0 = (j : Int) := ⟨v0.toNat, by omega⟩
    refine ⟨j, rfl, rfl, ?_⟩
    obtain ⟨n, hn⟩ : ∃ n, n = 1 + j := ⟨_, rfl⟩
    rw [← hn]
    have hn1 : 1 ≤ n := by omega
    have hn2 : n ≤ 8 := by omega
    clear hn v0a v0b
    refine ⟨.ref l, rfl, .ref l, rfl, sc, scs, l, 60, rfl, R2, by decide, by decide, fun H3 c c0 c1 e3 R3 => ?_⟩
    refine ⟨(by decide : 4 ≤ sizeLine), fun t nt => ⟨sc, scs, l, t, _, rfl, R3.ext (Ext.new nt), upd_same, R3.ne_none nt, by show 0 < 4; decide, by show 4 ≤ 1000; decide, fun H4 x hx e4 R4 => ?_⟩⟩
    have e14 : ExtL l H1 H4 := ((e2.trans e3).trans (.of (Ext.new nt))).trans e4
    have hx' : x = .int 0 ∨ x = .int 1 ∨ x = .int 10 ∨ x = .int c := by simpa using hx
    obtain ⟨C, rfl, C0, C1⟩ : ∃ C : Int, x = .int C ∧ 0 ≤ C ∧ C ≤ 1000 := by
      rcases hx' with rfl | rfl | rfl | rfl
      · exact ⟨0, rfl, by decide, by decide⟩
      · exact ⟨1, rfl, by decide, by decide⟩
      · exact ⟨10, rfl, by decide, by decide⟩
      · exact ⟨c, rfl, c0, by omega⟩
    refine ⟨_, _, rfl, ?_⟩
    -- inflows, demand
    refine ⟨.ref l, rfl, .int n, rfl, sc, scs, l, n, rfl, R4, hn1, hn2, fun H5 p ns e5 R5 hp hlen hF => ?_⟩
    refine ⟨.ref l, rfl, sc, scs, l, 30, rfl, R5, by decide, by decide, fun H6 D d0 d1 e6 R6 => ?_⟩
    have e16 : ExtL l H1 H6 := (e14.trans e5).trans e6
    have hp6 := e6.tup R5 hp
    refine ⟨_, _, rfl, ?_⟩
    -- dam, equal
    refine ⟨.int C, rfl, .int C, rfl, .ref p, rfl, (by decide : 4 ≤ sizeLine), fun d nd => ?_⟩
    refine ⟨.int D, rfl, (by decide : 1 ≤ sizeLine), fun u nu => ⟨.int n, rfl, u, n, [.int D], rfl, rfl, upd_same, by simp, by omega, by omega, by show 1 ≤ 1000; decide, fun H7 b e7 hb => ⟨_, _, rfl, ?_⟩⟩⟩
    rw [rep_flat] at hb
    have e67 := ((Ext.new (o := .tup [.int C, .int C, .int 0, .ref p]) nd).trans (Ext.new (o := .tup [.int D]) nu)).trans e7
    have hD : DamAt H7 d p C ns := ⟨e7.tup ((Ext.new nu).tup upd_same), e67.tup hp6, C0, C1, hF⟩
    have R7 := R6.ext e67
    have t7 : ∀ b, GxR.TabG H b → GxR.TabG H7 b := fun b h => e67.tab b (e16.tab b (t1 b h))
    subst hlen
    have hE : Flows (List.replicate ns.length D) := flows_rep hn1 (by omega) d0 (by omega)
    clear e67 e16 e14 hx hx' nt nd nu hp6 hp
    -- gives
    generalize hσ : List.set _ _ _ = σ
    have eσ : σ = [some (.ref sc), some (.ref l), some (.int ns.length), some (.int C), some (.ref p), some (.int D), some (.ref d), some (.ref b), none, none, none, none, none, none] := hσ.symm
    clear hσ
    subst eσ
    refine ⟨.ref d, rfl, d, p, C, ns, rfl, hD, t7 _ hT1, t7 _ hT2, fun H8 y8 x y e8 L hy hp8 => ?_⟩
    refine ⟨.int D, rfl, tup2, fun u nu => ⟨y8, u, x, y, D, 1, rfl, (Ext.new nu).tup hp8, upd_same, ⟨L.pos, by omega⟩, ⟨by decide, by decide⟩, _, rfl, ?_⟩⟩
    have e9 := e8.trans (Ext.new (o := .tup [.int D, .int 1]) nu)
    -- if gives != ..
    refine ⟨.bl _, rfl, .ref p, rfl, .ref b, rfl, p, b, ns, List.replicate ns.length D, false, rfl, e9.tup hD.a, e9.tup hb, hF, hE, List.length_replicate, e9.tab _ (t7 _ hT1), e9.tab _ (t7 _ hT4), fun H10 v9 e10 hv => ?_⟩
    obtain ⟨m, rfl, S⟩ := never_non hv
    refine ⟨.int C, rfl, m, C, rfl, rfl, rfl, _, rfl, ifF (by rw [firm_law hn1 C0 L S]; simp) ?_⟩
    have e7a := e9.trans e10
    have hD10 := hD.ext e7a
    have hb10 := e7a.tup hb
    have R10 := R7.ext e7a
    have t10 : ∀ b, GxR.TabG H b → GxR.TabG H10 b := fun b h => e7a.tab b (t7 b h)
    clear e7a e10 e9 e8 hp8 nu hb hD R7 t7 S L hy
    -- round_least
    refine ⟨.ref p, rfl, .ref b, rfl, p, b, ns, List.replicate ns.length D, true, rfl, hD10.a, hb10, hF, hE, List.length_replicate, t10 _ hT1, t10 _ hT4, fun H11 v9 e11 hv => ?_⟩
    refine ⟨.int C, rfl, .ref p, rfl, p, C, ns, rfl, e11.tup hD10.a, hF, C0, C1, e11.tab _ (t10 _ hT1), e11.tab _ (t10 _ hT3), fun H12 y12 x y e12 L hy hp12 => ?_⟩
    refine ⟨.int D, rfl, tup2, fun u nu => ⟨y12, u, x, y, D, 1, rfl, (Ext.new nu).tup hp12, upd_same, ⟨L.pos, by omega⟩, ⟨by decide, by decide⟩, _, rfl, ?_⟩⟩
    have e13 := (e11.trans e12).trans (Ext.new (o := .tup [.int D, .int 1]) nu)
    refine ⟨.bl _, rfl, and_of (g := !decide (x * 1 < D * y)) (fun Q' q' => ?_) ?_⟩
    · rcases hv with ⟨rfl, _, hv⟩ | ⟨hv, m, rfl, S⟩
      · rw [round_none hn1 L hv] at q'
        exact ⟨.non, rfl, rfl, _, rfl, ifF (by simp) q'⟩
      · rw [round_law hn1 C0 L (fun z => hv ⟨rfl, z⟩) S] at q'
        exact ⟨.int m, rfl, rfl, _, rfl, ifT (by simp) ⟨.int m, rfl, .int C, rfl, m, C, rfl, rfl, q'⟩⟩
    refine ⟨rfl, _, rfl, ifF (by simp) ?_⟩
    have hD13 := hD10.ext e13
    have R13 := R10.ext e13
    have t13 : ∀ b, GxR.TabG H b → GxR.TabG _ b := fun b h => e13.tab b (t10 b h)
    clear e13 e12 e11 hp12 hv hb10 hD10 R10 t10 L hy
    generalize upd H12 u (.tup [.int D, .int 1]) = H13 at hD13 R13 t13
    -- demands_here
    generalize hσ : List.set _ _ _ = σ
    have eσ : σ = [some (.ref sc), some (.ref l), some (.int ns.length), some (.int C), some (.ref p), some (.int D), some (.ref d), some (.ref b), some (.bl _), some v9, none, none, none, none] := hσ.symm
    clear hσ
    subst eσ
    refine ⟨.ref l, rfl, .int ns.length, rfl, sc, scs, l, ns.length, rfl, R13, hn1, hn2, fun H14 b2 ds e14 R14 hb2 hlen hG => ?_⟩
    have hD14 : DamAt H14 d p C ns := ⟨e14.tup R13 hD13.d, e14.tup R13 hD13.a, C0, C1, hF⟩
    have t14 : ∀ b, GxR.TabG H b → GxR.TabG H14 b := fun b h => e14.tab b (t13 b h)
    clear e14 hD13 R13 t13
    refine ⟨.ref b2, rfl, b2, ds, rfl, SqT.of hb2, by omega, fun m hm1 hm2 => ⟨rfl, _, rfl, ite2 (fun _ => q H14) (fun c => ?_)⟩⟩
    have m0 : 0 < m := by
      have h1 := (hG.2.2 m hm1).1
      have h2 : m ≠ 0 := fun z => c (by rw [z]; simp)
      omega
    -- fits
    refine ⟨.ref d, rfl, .ref b2, rfl, d, p, b2, C, ns, ds, rfl, hD14, hb2, hG, hlen, ⟨m, hm1, m0⟩, t14 _ hT1, t14 _ hT2, fun H15 y15 x y e15 L hy hp15 => ?_⟩
    refine ⟨tup2, fun u nu => ⟨y15, u, x, y, 1, 1, rfl, (Ext.new nu).tup hp15, upd_same, ⟨L.pos, by omega⟩, ⟨by decide, by decide⟩, _, rfl, ?_⟩⟩
    have e16 := e15.trans (Ext.new (o := .tup [.int 1, .int 1]) nu)
    refine ⟨.bl _, rfl, .ref p, rfl, .ref b2, rfl, p, b2, ns, ds, false, rfl, e16.tup hD14.a, e16.tup hb2, hF, hG, hlen, e16.tab _ (t14 _ hT1), e16.tab _ (t14 _ hT4), fun H17 v9 e17 hv => ?_⟩
    obtain ⟨m', rfl, S⟩ := never_non hv
    refine ⟨.int C, rfl, m', C, rfl, rfl, rfl, _, rfl, ifF (by rw [share_law hF hlen C0 L S]; simp) ?_⟩
    have e147 := e16.trans e17
    have hD17 := hD14.ext e147
    have hb17 := e147.tup hb2
    have R17 := R14.ext e147
    have t17 : ∀ b, GxR.TabG H b → GxR.TabG H17 b := fun b h => e147.tab b (t14 b h)
    clear e147 e17 e16 e15 hp15 nu hb2 hD14 R14 t14 S L hy
    -- size
    refine ⟨.ref l, rfl, sc, scs, l, 3, rfl, R17, by decide, by decide, fun H18 z z0 z1 e18 R18 => ⟨2, z, rfl, rfl, ?_⟩⟩
    have hD18 : DamAt H18 d p C ns := ⟨e18.tup R17 hD17.d, e18.tup R17 hD17.a, C0, C1, hF⟩
    have t18 : ∀ b, GxR.TabG H b → GxR.TabG H18 b := fun b h => e18.tab b (t17 b h)
    have hb18 := e18.tup R17 hb17
    clear e18 hD17 R17 t17 hb17
    have s0 : 0 < 2 + z := by omega
    have s1 : 2 + z < 1000 := by omega
    refine ⟨.ref b2, rfl, b2, ds, rfl, SqT.of hb18, by omega, fun m2 hm3 hm4 => ⟨.int (2 + z), rfl, m2, (2 + z), rfl, rfl, .inr (by omega), _, 1000, rfl, rfl, _, rfl, ite2 (fun _ => q H18) (fun c2 => ?_)⟩⟩
    have c2' : ¬ 1000 < m2 * (2 + z) := fun h => c2 (decide_eq_true h)
    generalize hσ : List.set _ _ _ = σ
    have eσ : σ = [some (.ref sc), some (.ref l), some (.int ns.length), some (.int C), some (.ref p), some (.int D), some (.ref d), some (.ref b), some (.bl _), some v9, some (.ref b2), some (.bl _), some (.int (2 + z)), none] := hσ.symm
    clear hσ
    subst eσ
    have hS := flows_scale hG s0 hm4 c2'
    -- the scaled demands
    refine ⟨.int (2 + z), rfl, tup2, fun r1 nr1 => ⟨.ref d, rfl, .ref b2, rfl, b2, rfl, ⟨_, SqT.of ((Ext.new nr1).tup hb18)⟩, fun L nL => ?_⟩⟩
    have e19 := Ext.new (o := .tup [.int (2 + z), .int 1]) nr1
    have hr1 : (upd H18 r1 (.tup [.int (2 + z), .int 1])) r1 = some (.tup [.int (2 + z), .int 1]) := upd_same
    generalize upd H18 r1 (.tup [.int (2 + z), .int 1]) = H19 at e19 hr1 nL
    refine lc_tup (xs := ds.map V.int) (fun i H' => Ext H19 H' ∧ H' L = some (.lst (((ds.take i).map (· * (2 + z))).map V.int))) ⟨Ext.new nL, upd_same⟩ (fun i H' _ h => SqT.of (h.1.tup (e19.tup hb18))) (fun i x H' hx h => ?_) (fun H' h => ?_)
    · obtain ⟨e20, hL⟩ := h
      rw [List.getElem?_map] at hx
      obtain ⟨v, hv, rfl⟩ := Option.map_eq_some_iff.mp hx
      refine ⟨rfl, ?_⟩
      refine yes_ ?_
      rw [if_pos rfl]
      refine ⟨.int v, rfl, .int (2 + z), rfl, v, (2 + z), rfl, rfl, .inr (by omega), _, hL, ?_, e20.over nL, ?_⟩
      · rw [List.length_map, List.length_map, List.length_take]
        exact small1000 (by have := hG.2.1; omega)
      · rw [upd_same, take_map hv, List.map_append] <;> rfl
    · obtain ⟨e20, hL⟩ := h
      rw [List.length_map, List.take_of_length_le (Nat.le_refl _)] at hL
      refine ⟨L, _, rfl, .inl ⟨SqL.of hL, fun p2 np2 => ?_⟩⟩
      have e21 := e20.trans (Ext.new (o := .tup ((ds.map (· * (2 + z))).map V.int)) np2)
      have hp2 : (upd H' p2 (.tup ((ds.map (· * (2 + z))).map V.int))) p2 = some (.tup ((ds.map (· * (2 + z))).map V.int)) := upd_same
      generalize upd H' p2 (.tup ((ds.map (· * (2 + z))).map V.int)) = H21 at e21 hp2
      have e1821 := e19.trans e21
      refine ⟨d, p, p2, C, ns, ds.map (· * (2 + z)), rfl, hD18.ext e1821, hp2, hS, by rw [List.length_map]; exact hlen, ⟨m * (2 + z), List.mem_map.mpr ⟨m, hm1, rfl⟩, Int.mul_pos m0 s0⟩, e1821.tab _ (t18 _ hT1), e1821.tab _ (t18 _ hT2), fun H22 r22 x1 y1 e22 L1 hy1 hp22 => ?_⟩
      refine ⟨r1, r22, (2 + z), x1, y1, rfl, (e21.trans e22).tup hr1, hp22, ⟨s0, s1⟩, ⟨L1.pos, by omega⟩, fun p4 u4 v4 np4 R4 => ?_⟩
      have e23 := (e1821.trans e22).trans (Ext.new (o := .tup [.int u4, .int v4]) np4)
      refine ⟨.ref d, rfl, .ref b2, rfl, d, p, b2, C, ns, ds, rfl, hD18.ext e23, e23.tup hb18, hG, hlen, ⟨m, hm1, m0⟩, e23.tab _ (t18 _ hT1), e23.tab _ (t18 _ hT2), fun H24 r24 x2 y2 e24 L2 hy2 hp24 => ?_⟩
      obtain ⟨rfl, rfl⟩ := scale_law s0 L2 L1 R4
      refine ⟨.tuple [.int u4, .int v4], .tuple [.int u4, .int v4], .tup (SqT.of (e24.tup upd_same)) (.cons (.int _) (.cons (.int _) .nil)), .tup (SqT.of hp24) (.cons (.int _) (.cons (.int _) .nil)), rfl, rfl, ?_⟩
      rw [SeqAt.eqv_refl _ rfl]
      exact q H24
end
end K48

namespace K48
open PySem PySem.Spec PyProof.Rows L2
/-! ### the end -/
/-- the tables of the defs that stand at the top are empty -/
def AllTab (q : Program) (K : PySem.W.Frag) (mg : Str → Option Value) (h : Heap) : Prop := ∀ (y : Str) (f : Addr), ((recsOf q).any fun e => e.name == y) = true → mg y = some (.ref f) → LamX.OwnTab K f h
theorem walk_ofAll {l : PySem.W.OpenLaw} {n k : Nat} {q : Program} {loose : List Str} {XP : (Str → Option Value) → Heap → Prop} {YP : World → Heap → Prop} {d : DefRec} {K : Params → PySem.W.Frag} {CX : World → CXT} {x : Str}
    (hn : l.most = some n) (hn2 : n ≤ sizeLine) (hdf : d.params.defaults = []) (hr : Room k callerA) (hY : ∀ (w : World) (h : Heap), YP w h → (K w.params).In h)
    (F : ∀ (w : World) (mg : Str → Option Value) (fa : Addr) (h : Heap), (K w.params).In h → h.Ns mainGlobals mg → mg d.name = some (.ref fa) → AllTab q (K w.params) mg h → LamX.LawAtS l w (K w.params) (CX w) k n x mg fa h)
    (hCX : ∀ (w : World) (H : Hp) (s : Shared) (e : Value) (s' : Shared), CX w [] H s (fun _ _ _ => False) e s' → False) : PySem.W.WalkO q loose XP YP l.row.toRowW d [] (fun f vs => PySem.call f vs) := by
  refine Att.attach_callB hn hdf fun w s₀ s₁ mg mb fa o pm cd doc a vs ns G Y ho hd hcd hmg hobj hints hlen hbits hg => ?_
  have KX := hY w _ Y
  have own : AllTab q (K w.params) mg s₁.heap := fun y f hy hf c T o1 fd1 e dd vs1 sl k1 k2 k3 k4 k5 => by
    obtain ⟨dL, hm, hn1⟩ := List.any_eq_true.mp hy
    have hn2 : dL.name = y := beq_iff_eq.mp hn1
    obtain ⟨a', o', fd', c', T', h1, h2, h3, h4, h5, h6⟩ := G.T.tab dL hm
    rw [hn2, hf] at h1
    cases h1
    rw [KX _ _ k1] at h2
    cases h2
    rw [k2] at h3
    cases h3
    rw [k3] at h4
    cases h4
    obtain ⟨⟨oc, vc, e1, _, e3, e4⟩, hT⟩ := h6
    rw [KX _ _ k4] at e1
    cases e1
    cases e3
    rw [k5] at e4
    cases e4
    exact hT
  obtain ⟨fd, cs, sp, hT, nT, C, hb, hsp, hF⟩ := F w mg fa _ KX G.T.g hmg own
  exact LamX.law_callTs KX G.T.g G.T.b G.T.builtins G.T.nolimit hg hT nT C G.T.bmain hobj hints (Nat.le_trans hlen hn2) hr hF hb (fun H hH hS => hsp H a ns hlen hbits hH hS) fun H e s' => hCX w H s₁ e s'
/-- a def of the top, read off -/
structure Got (K : PySem.W.Frag) (x : Str) (st : Stmt) (f c : Addr) (fd : FuncData) : Prop where
  a : PySem.W.nsIn K mainGlobals x = some (some (.ref f))
  F : FunC K x x st f fd c
theorem got {K : PySem.W.Frag} {x : Str} {st : Stmt} {f c : Addr} {oc : Value} {od an : Option Addr} {osl : Array (Option Value)} {kV doc pm ct : Value} (a : PySem.W.nsIn K mainGlobals x = some (some (.ref f)))
    (l : K.lookup f = some ⟨oc, od, .func (PySem.W.fnOf x x (defArgs st) (defBody st) (defScope st) .none kV doc pm an (.ref c) ct), osl⟩) (h : PySem.W.codeIn K (.ref c) x = true) (k : PySem.W.keepIn K (.ref f) = true) :
    Got K x st f c (PySem.W.fnOf x x (defArgs st) (defBody st) (defScope st) .none kV doc pm an (.ref c) ct) := ⟨a, ⟨⟨oc, od, kV, doc, pm, an, ct, osl, rfl, l, h⟩, k⟩⟩
/-- the table of a code object -/
structure TabOf (K : PySem.W.Frag) (c T : Addr) : Prop where
  l : ∃ (e : Value) (dd : Option Addr) (vs : Array Value) (sl : Array (Option Value)), K.lookup c = some ⟨e, dd, .fields vs, sl⟩ ∧ vs[11]? = some (.ref T)
  hd : PySem.W.codeHdIn K c T = true
  no : K.lookup T = none
theorem tabOf {K : PySem.W.Frag} {c T : Addr} {e : Value} {dd : Option Addr} {vs : Array Value} {sl : Array (Option Value)} (l : K.lookup c = some ⟨e, dd, .fields vs, sl⟩) (g : vs[11]? = some (.ref T)) (hd : PySem.W.codeHdIn K c T = true) (no : K.lookup T = none) : TabOf K c T :=
  ⟨⟨e, dd, vs, sl, l, g⟩, hd, no⟩
theorem tab_empty {q : Program} {K : PySem.W.Frag} {mg : Str → Option Value} {h : Heap} {x : Str} {st : Stmt} {f c T : Addr} {fd : FuncData} (X : K.In h) (G : h.Ns mainGlobals mg) (A : AllTab q K mg h) (g : Got K x st f c fd) (t : TabOf K c T) (hx : ((recsOf q).any fun e => e.name == x) = true) :
    h.get? T = some { cls := .none, data := .fields #[] } := by
  obtain ⟨oc, od, kV, doc, pm, an, ct, osl, rfl, lk, _⟩ := g.F.ex
  obtain ⟨e, dd, vs, sl, hl, hv⟩ := t.l
  exact A x f hx (PySem.W.mg_of X G g.a) c T _ _ e dd vs sl lk rfl rfl hl hv
def tb {base : Heap} {mg : Str → Option Value} {c T : Addr} (t : LamX.TabB base mg c T) : GxR.TabB base mg c T := ⟨t.code, t.bm, t.gP⟩
theorem law_at {l : PySem.W.OpenLaw} {q : Program} {w : World} {K : PySem.W.Frag} {h : Heap} {mg : Str → Option Value} {fa : Addr} {n : Nat} (X : K.In h) (G : h.Ns mainGlobals mg) (hfa : mg "law" = some (.ref fa)) (A : AllTab q K mg h)
    {f0 c0 : Addr} {fd0 : FuncData} (g0 : Got K "ratio" s_ratio f0 c0 fd0)
    {f1 c1 : Addr} {fd1 : FuncData} (g1 : Got K "less" s_less f1 c1 fd1)
    {f2 c2 : Addr} {fd2 : FuncData} (g2 : Got K "is_in" s_is_in f2 c2 fd2)
    {f3 c3 : Addr} {fd3 : FuncData} (g3 : Got K "are_flows" s_are_flows f3 c3 fd3)
    {f4 c4 : Addr} {fd4 : FuncData} (g4 : Got K "need_dam" s_need_dam f4 c4 fd4)
    {f5 c5 : Addr} {fd5 : FuncData} (g5 : Got K "most_held" s_most_held f5 c5 fd5)
    {f6 c6 : Addr} {fd6 : FuncData} (g6 : Got K "need_plans" s_need_plans f6 c6 fd6)
    {f7 c7 : Addr} {fd7 : FuncData} (g7 : Got K "need_demands" s_need_demands f7 c7 fd7)
    {f8 c8 : Addr} {fd8 : FuncData} (g8 : Got K "water_of" s_water_of f8 c8 fd8)
    {f9 c9 : Addr} {fd9 : FuncData} (g9 : Got K "spans" s_spans f9 c9 fd9)
    {f10 c10 : Addr} {fd10 : FuncData} (g10 : Got K "least_of" s_least_of f10 c10 fd10)
    {f11 c11 : Addr} {fd11 : FuncData} (g11 : Got K "span_yield" s_span_yield f11 c11 fd11)
    {f12 c12 : Addr} {fd12 : FuncData} (g12 : Got K "need_yield" s_need_yield f12 c12 fd12)
    {f13 c13 : Addr} {fd13 : FuncData} (g13 : Got K "yield_of" s_yield_of f13 c13 fd13)
    {f14 c14 : Addr} {fd14 : FuncData} (g14 : Got K "firm_yield" s_firm_yield f14 c14 fd14)
    {f15 c15 : Addr} {fd15 : FuncData} (g15 : Got K "firm_share" s_firm_share f15 c15 fd15)
    {f16 c16 : Addr} {fd16 : FuncData} (g16 : Got K "round_yield" s_round_yield f16 c16 fd16)
    {f17 c17 : Addr} {fd17 : FuncData} (g17 : Got K "need_flows" s_need_flows f17 c17 fd17)
    {f18 c18 : Addr} {fd18 : FuncData} (g18 : Got K "windows" s_windows f18 c18 fd18)
    {f19 c19 : Addr} {fd19 : FuncData} (g19 : Got K "lack_of" s_lack_of f19 c19 fd19)
    {f20 c20 : Addr} {fd20 : FuncData} (g20 : Got K "storage_of" s_storage_of f20 c20 fd20)
    {f21 c21 : Addr} {fd21 : FuncData} (g21 : Got K "least_storage" s_least_storage f21 c21 fd21)
    {f22 c22 : Addr} {fd22 : FuncData} (g22 : Got K "_law_taken" s_law_taken f22 c22 fd22)
    {f23 c23 : Addr} {fd23 : FuncData} (g23 : Got K "_law_pick" s_law_pick f23 c23 fd23)
    {f24 c24 : Addr} {fd24 : FuncData} (g24 : Got K "_law_flow" s_law_flow f24 c24 fd24)
    {f25 c25 : Addr} {fd25 : FuncData} (g25 : Got K "_law_demands" s_law_demands f25 c25 fd25)
    {f26 c26 : Addr} {fd26 : FuncData} (g26 : Got K "_law_ratio" s_law_ratio f26 c26 fd26)
    {f27 c27 : Addr} {fd27 : FuncData} (g27 : Got K "_law_less" s_law_less f27 c27 fd27)
    {f28 c28 : Addr} {fd28 : FuncData} (g28 : Got K "_law_by" s_law_by f28 c28 fd28)
    {f29 c29 : Addr} {fd29 : FuncData} (g29 : Got K "law" s_law f29 c29 fd29)
    {T1 : Addr} (t1 : TabOf K c3 T1) (r1 : ((recsOf q).any fun e => e.name == ("are_flows" : Str)) = true)
    {T2 : Addr} (t2 : TabOf K c4 T2) (r2 : ((recsOf q).any fun e => e.name == ("need_dam" : Str)) = true)
    {T3 : Addr} (t3 : TabOf K c16 T3) (r3 : ((recsOf q).any fun e => e.name == ("round_yield" : Str)) = true)
    {T4 : Addr} (t4 : TabOf K c19 T4) (r4 : ((recsOf q).any fun e => e.name == ("lack_of" : Str)) = true)
    (z_abs : PySem.W.nsIn K mainGlobals "abs" = some none)
    (z_all : PySem.W.nsIn K mainGlobals "all" = some none)
    (z_bool : PySem.W.nsIn K mainGlobals "bool" = some none)
    (z_int : PySem.W.nsIn K mainGlobals "int" = some none)
    (z_isinstance : PySem.W.nsIn K mainGlobals "isinstance" = some none)
    (z_len : PySem.W.nsIn K mainGlobals "len" = some none)
    (z_max : PySem.W.nsIn K mainGlobals "max" = some none)
    (z_min : PySem.W.nsIn K mainGlobals "min" = some none)
    (z_range : PySem.W.nsIn K mainGlobals "range" = some none)
    (z_sum : PySem.W.nsIn K mainGlobals "sum" = some none)
    (z_tuple : PySem.W.nsIn K mainGlobals "tuple" = some none)
    {tk_MOST_CAPACITY : Tok} (n_MOST_CAPACITY : PySem.W.nsIn K mainGlobals "MOST_CAPACITY" = some (some (.int 1000 tk_MOST_CAPACITY)))
    {tk_MOST_MONTHS : Tok} (n_MOST_MONTHS : PySem.W.nsIn K mainGlobals "MOST_MONTHS" = some (some (.int 12 tk_MOST_MONTHS)))
    {tk_MOST_FLOW : Tok} (n_MOST_FLOW : PySem.W.nsIn K mainGlobals "MOST_FLOW" = some (some (.int 1000 tk_MOST_FLOW)))
    (n_gcd : PySem.W.nsIn K mainGlobals "gcd" = some (some (.builtin "math.gcd"))) :
    LamX.LawAtS l w K CX0 5 n "_law_script" mg fa h := by
  have e := hfa.symm.trans (PySem.W.mg_of X G g29.a)
  obtain rfl : f29 = fa := by
    cases e
    rfl
  have m_abs := PySem.W.mg_none_of X G z_abs
  have m_all := PySem.W.mg_none_of X G z_all
  have m_bool := PySem.W.mg_none_of X G z_bool
  have m_int := PySem.W.mg_none_of X G z_int
  have m_isinstance := PySem.W.mg_none_of X G z_isinstance
  have m_len := PySem.W.mg_none_of X G z_len
  have m_max := PySem.W.mg_none_of X G z_max
  have m_min := PySem.W.mg_none_of X G z_min
  have m_range := PySem.W.mg_none_of X G z_range
  have m_sum := PySem.W.mg_none_of X G z_sum
  have m_tuple := PySem.W.mg_none_of X G z_tuple
  have k_MOST_CAPACITY : CI mg "MOST_CAPACITY" 1000 := ⟨_, PySem.W.mg_of X G n_MOST_CAPACITY⟩
  have k_MOST_MONTHS : CI mg "MOST_MONTHS" 12 := ⟨_, PySem.W.mg_of X G n_MOST_MONTHS⟩
  have k_MOST_FLOW : CI mg "MOST_FLOW" 1000 := ⟨_, PySem.W.mg_of X G n_MOST_FLOW⟩
  have k_gcd := PySem.W.mg_of X G n_gcd
  have D0 : Df K mg "ratio" s_ratio ["top", "bottom"] f0 fd0 := ⟨g0.F.fun_, g0.F.fun_.binds (ps := ["top", "bottom"]) (fun _ _ _ _ _ _ us hl => match us, hl with | [_, _], _ => rfl), PySem.W.mg_of X G g0.a⟩
  have D1 : Df K mg "less" s_less ["one", "other"] f1 fd1 := ⟨g1.F.fun_, g1.F.fun_.binds (ps := ["one", "other"]) (fun _ _ _ _ _ _ us hl => match us, hl with | [_, _], _ => rfl), PySem.W.mg_of X G g1.a⟩
  have D2 : Df K mg "is_in" s_is_in ["value", "least", "most"] f2 fd2 := ⟨g2.F.fun_, g2.F.fun_.binds (ps := ["value", "least", "most"]) (fun _ _ _ _ _ _ us hl => match us, hl with | [_, _, _], _ => rfl), PySem.W.mg_of X G g2.a⟩
  have D3 : Df K mg "are_flows" s_are_flows ["value"] f3 fd3 := ⟨g3.F.fun_, g3.F.fun_.binds (ps := ["value"]) (fun _ _ _ _ _ _ us hl => match us, hl with | [_], _ => rfl), PySem.W.mg_of X G g3.a⟩
  have D4 : Df K mg "need_dam" s_need_dam ["dam"] f4 fd4 := ⟨g4.F.fun_, g4.F.fun_.binds (ps := ["dam"]) (fun _ _ _ _ _ _ us hl => match us, hl with | [_], _ => rfl), PySem.W.mg_of X G g4.a⟩
  have D5 : Df K mg "most_held" s_most_held ["dam"] f5 fd5 := ⟨g5.F.fun_, g5.F.fun_.binds (ps := ["dam"]) (fun _ _ _ _ _ _ us hl => match us, hl with | [_], _ => rfl), PySem.W.mg_of X G g5.a⟩
  have D6 : Df K mg "need_plans" s_need_plans ["dam"] f6 fd6 := ⟨g6.F.fun_, g6.F.fun_.binds (ps := ["dam"]) (fun _ _ _ _ _ _ us hl => match us, hl with | [_], _ => rfl), PySem.W.mg_of X G g6.a⟩
  have D7 : Df K mg "need_demands" s_need_demands ["months", "demands"] f7 fd7 := ⟨g7.F.fun_, g7.F.fun_.binds (ps := ["months", "demands"]) (fun _ _ _ _ _ _ us hl => match us, hl with | [_, _], _ => rfl), PySem.W.mg_of X G g7.a⟩
  have D8 : Df K mg "water_of" s_water_of ["dam", "first", "last"] f8 fd8 := ⟨g8.F.fun_, g8.F.fun_.binds (ps := ["dam", "first", "last"]) (fun _ _ _ _ _ _ us hl => match us, hl with | [_, _, _], _ => rfl), PySem.W.mg_of X G g8.a⟩
  have D9 : Df K mg "spans" s_spans ["months"] f9 fd9 := ⟨g9.F.fun_, g9.F.fun_.binds (ps := ["months"]) (fun _ _ _ _ _ _ us hl => match us, hl with | [_], _ => rfl), PySem.W.mg_of X G g9.a⟩
  have D10 : Df K mg "least_of" s_least_of ["some"] f10 fd10 := ⟨g10.F.fun_, g10.F.fun_.binds (ps := ["some"]) (fun _ _ _ _ _ _ us hl => match us, hl with | [_], _ => rfl), PySem.W.mg_of X G g10.a⟩
  have D11 : Df K mg "span_yield" s_span_yield ["dam", "span"] f11 fd11 := ⟨g11.F.fun_, g11.F.fun_.binds (ps := ["dam", "span"]) (fun _ _ _ _ _ _ us hl => match us, hl with | [_, _], _ => rfl), PySem.W.mg_of X G g11.a⟩
  have D12 : Df K mg "need_yield" s_need_yield ["dam"] f12 fd12 := ⟨g12.F.fun_, g12.F.fun_.binds (ps := ["dam"]) (fun _ _ _ _ _ _ us hl => match us, hl with | [_], _ => rfl), PySem.W.mg_of X G g12.a⟩
  have D13 : Df K mg "yield_of" s_yield_of ["dam"] f13 fd13 := ⟨g13.F.fun_, g13.F.fun_.binds (ps := ["dam"]) (fun _ _ _ _ _ _ us hl => match us, hl with | [_], _ => rfl), PySem.W.mg_of X G g13.a⟩
  have D14 : Df K mg "firm_yield" s_firm_yield ["dam"] f14 fd14 := ⟨g14.F.fun_, g14.F.fun_.binds (ps := ["dam"]) (fun _ _ _ _ _ _ us hl => match us, hl with | [_], _ => rfl), PySem.W.mg_of X G g14.a⟩
  have D15 : Df K mg "firm_share" s_firm_share ["dam", "demands"] f15 fd15 := ⟨g15.F.fun_, g15.F.fun_.binds (ps := ["dam", "demands"]) (fun _ _ _ _ _ _ us hl => match us, hl with | [_, _], _ => rfl), PySem.W.mg_of X G g15.a⟩
  have D16 : Df K mg "round_yield" s_round_yield ["capacity", "inflows"] f16 fd16 := ⟨g16.F.fun_, g16.F.fun_.binds (ps := ["capacity", "inflows"]) (fun _ _ _ _ _ _ us hl => match us, hl with | [_, _], _ => rfl), PySem.W.mg_of X G g16.a⟩
  have D17 : Df K mg "need_flows" s_need_flows ["inflows", "demands", "is_round"] f17 fd17 := ⟨g17.F.fun_, g17.F.fun_.binds (ps := ["inflows", "demands", "is_round"]) (fun _ _ _ _ _ _ us hl => match us, hl with | [_, _, _], _ => rfl), PySem.W.mg_of X G g17.a⟩
  have D18 : Df K mg "windows" s_windows ["months", "is_round"] f18 fd18 := ⟨g18.F.fun_, g18.F.fun_.binds (ps := ["months", "is_round"]) (fun _ _ _ _ _ _ us hl => match us, hl with | [_, _], _ => rfl), PySem.W.mg_of X G g18.a⟩
  have D19 : Df K mg "lack_of" s_lack_of ["inflows", "demands", "window"] f19 fd19 := ⟨g19.F.fun_, g19.F.fun_.binds (ps := ["inflows", "demands", "window"]) (fun _ _ _ _ _ _ us hl => match us, hl with | [_, _, _], _ => rfl), PySem.W.mg_of X G g19.a⟩
  have D20 : Df K mg "storage_of" s_storage_of ["inflows", "demands", "is_round"] f20 fd20 := ⟨g20.F.fun_, g20.F.fun_.binds (ps := ["inflows", "demands", "is_round"]) (fun _ _ _ _ _ _ us hl => match us, hl with | [_, _, _], _ => rfl), PySem.W.mg_of X G g20.a⟩
  have D21 : Df K mg "least_storage" s_least_storage ["inflows", "demands", "is_round"] f21 fd21 := ⟨g21.F.fun_, g21.F.fun_.binds (ps := ["inflows", "demands", "is_round"]) (fun _ _ _ _ _ _ us hl => match us, hl with | [_, _, _], _ => rfl), PySem.W.mg_of X G g21.a⟩
  have D22 : Df K mg "_law_taken" s_law_taken ["_law_row", "_law_many"] f22 fd22 := ⟨g22.F.fun_, g22.F.fun_.binds (ps := ["_law_row", "_law_many"]) (fun _ _ _ _ _ _ us hl => match us, hl with | [_, _], _ => rfl), PySem.W.mg_of X G g22.a⟩
  have D23 : Df K mg "_law_pick" s_law_pick ["_law_row", "_law_things"] f23 fd23 := ⟨g23.F.fun_, g23.F.fun_.binds (ps := ["_law_row", "_law_things"]) (fun _ _ _ _ _ _ us hl => match us, hl with | [_, _], _ => rfl), PySem.W.mg_of X G g23.a⟩
  have D24 : Df K mg "_law_flow" s_law_flow ["_law_row"] f24 fd24 := ⟨g24.F.fun_, g24.F.fun_.binds (ps := ["_law_row"]) (fun _ _ _ _ _ _ us hl => match us, hl with | [_], _ => rfl), PySem.W.mg_of X G g24.a⟩
  have D25 : Df K mg "_law_demands" s_law_demands ["_law_row", "_law_many"] f25 fd25 := ⟨g25.F.fun_, g25.F.fun_.binds (ps := ["_law_row", "_law_many"]) (fun _ _ _ _ _ _ us hl => match us, hl with | [_, _], _ => rfl), PySem.W.mg_of X G g25.a⟩
  have D26 : Df K mg "_law_ratio" s_law_ratio ["_law_top", "_law_bottom"] f26 fd26 := ⟨g26.F.fun_, g26.F.fun_.binds (ps := ["_law_top", "_law_bottom"]) (fun _ _ _ _ _ _ us hl => match us, hl with | [_, _], _ => rfl), PySem.W.mg_of X G g26.a⟩
  have D27 : Df K mg "_law_less" s_law_less ["_law_one", "_law_other"] f27 fd27 := ⟨g27.F.fun_, g27.F.fun_.binds (ps := ["_law_one", "_law_other"]) (fun _ _ _ _ _ _ us hl => match us, hl with | [_, _], _ => rfl), PySem.W.mg_of X G g27.a⟩
  have D28 : Df K mg "_law_by" s_law_by ["_law_one", "_law_other"] f28 fd28 := ⟨g28.F.fun_, g28.F.fun_.binds (ps := ["_law_one", "_law_other"]) (fun _ _ _ _ _ _ us hl => match us, hl with | [_, _], _ => rfl), PySem.W.mg_of X G g28.a⟩
  have D29 : Df K mg "law" s_law ["_law_script"] f29 fd29 := ⟨g29.F.fun_, g29.F.fun_.binds (ps := ["_law_script"]) (fun _ _ _ _ _ _ us hl => match us, hl with | [_], _ => rfl), PySem.W.mg_of X G g29.a⟩
  have I : IsInT K mg f2 fd2 := ⟨D2.F, D2.b, D2.g, m_isinstance, m_int, m_bool⟩
  have hb : ∀ (s : Shared) (v : Value), BindsTo s fd29 ⟨[v], []⟩ [("_law_script", v)] := by
    obtain ⟨oc, od, kV, doc, pm, an, ct, osl, rfl, _, _⟩ := g29.F.ex
    exact fun s v => .of_eq rfl
  have E : ∀ (T : Addr), ∀ (c : Addr), (c, T) ∈ [(c3, T1), (c4, T2), (c16, T3), (c19, T4)] → h.get? T = some { cls := .none, data := .fields #[] } ∧ K.lookup T = none ∧ PySem.W.CodeHd h c T := by
    intro T c hm
    simp only [List.mem_cons, Prod.mk.injEq, List.not_mem_nil, or_false] at hm
    rcases hm with ⟨rfl, rfl⟩ | ⟨rfl, rfl⟩ | ⟨rfl, rfl⟩ | ⟨rfl, rfl⟩
    · exact ⟨tab_empty X G A g3 t1 r1, t1.no, PySem.W.codeHd_of_K X t1.hd⟩
    · exact ⟨tab_empty X G A g4 t2 r2, t2.no, PySem.W.codeHd_of_K X t2.hd⟩
    · exact ⟨tab_empty X G A g16 t3 r3, t3.no, PySem.W.codeHd_of_K X t3.hd⟩
    · exact ⟨tab_empty X G A g19 t4 r4, t4.no, PySem.W.codeHd_of_K X t4.hd⟩
  refine ⟨fd29, [(c3, T1), (c4, T2), (c16, T3), (c19, T4)], spLaw K T1 T2 T3 T4, fun p hp => (E p.2 p.1 hp).1, fun p hp => (E p.2 p.1 hp).2.1, fun p hp => (E p.2 p.1 hp).2.2, hb, fun H a ns _ _ hH hS => ?_, fun base _ _ hB => ?_⟩
  · have tg : ∀ c T, (c, T) ∈ [(c3, T1), (c4, T2), (c16, T3), (c19, T4)] → GxR.TabG H T := fun c T hm => ⟨#[], hH (c, T) hm, trivial⟩
    exact ⟨a, ns, rfl, hS, tg c3 T1 (by simp), tg c4 T2 (by simp), tg c16 T3 (by simp), tg c19 T4 (by simp), fun _ => rfl⟩
  · have C3 : Dc K mg base "are_flows" s_are_flows ["value"] f3 fd3 c3 T1 := ⟨g3.F, D3.b, D3.g, tb (hB (c3, T1) (by simp))⟩
    have C4 : Dc K mg base "need_dam" s_need_dam ["dam"] f4 fd4 c4 T2 := ⟨g4.F, D4.b, D4.g, tb (hB (c4, T2) (by simp))⟩
    have C16 : Dc K mg base "round_yield" s_round_yield ["capacity", "inflows"] f16 fd16 c16 T3 := ⟨g16.F, D16.b, D16.g, tb (hB (c16, T3) (by simp))⟩
    have C19 : Dc K mg base "lack_of" s_lack_of ["inflows", "demands", "window"] f19 fd19 c19 T4 := ⟨g19.F, D19.b, D19.g, tb (hB (c19, T4) (by simp))⟩
    have G0 : FnOk l.prog w K mg base CX0 1 f0 fd0 ["top", "bottom"] spRatio := ok_ratio D0.F k_gcd
    have G1 : FnOk l.prog w K mg base CX0 1 f1 fd1 ["one", "other"] spLess := ok_less D1.F
    have G2 : FnOk l.prog w K mg base CX0 1 f2 fd2 ["value", "least", "most"] spIsIn := ok_is_in I
    have G3 : FnOk l.prog w K mg base CX0 1 f3 fd3 ["value"] (spFlows T1) := ok_are_flows C3 I m_tuple m_len m_all k_MOST_MONTHS k_MOST_FLOW
    have G4 : FnOk l.prog w K mg base CX0 2 f4 fd4 ["dam"] (spNeedDam T1 T2) := ok_need_dam C4 I G2 C3 G3 m_tuple m_len m_all k_MOST_CAPACITY
    have G5 : FnOk l.prog w K mg base CX0 1 f5 fd5 ["dam"] spMostHeld := ok_most_held D5 m_min
    have G6 : FnOk l.prog w K mg base CX0 2 f6 fd6 ["dam"] spNeedPlans := ok_need_plans D6 D5 G5
    have G7 : FnOk l.prog w K mg base CX0 2 f7 fd7 ["months", "demands"] (spNeedDemands T1) := ok_need_demands D7 C3 G3 m_len
    have G8 : FnOk l.prog w K mg base CX0 1 f8 fd8 ["dam", "first", "last"] spWater := ok_water D8 m_len m_sum
    have G9 : FnOk l.prog w K mg base CX0 1 f9 fd9 ["months"] spSpans := ok_spans D9 m_range
    have G10 : FnOk l.prog w K mg base CX0 2 f10 fd10 ["some"] spLeastOf := ok_least_of D10 D1 G1
    have G11 : FnOk l.prog w K mg base CX0 2 f11 fd11 ["dam", "span"] spSpanYield := ok_span_yield D11 D0 G0 D8 G8
    have G12 : FnOk l.prog w K mg base CX0 3 f12 fd12 ["dam"] (spNeedDam T1 T2) := ok_need_yield D12 C4 G4 D6 G6
    have G13 : FnOk l.prog w K mg base CX0 3 f13 fd13 ["dam"] spYield := ok_yield_of D13 D9 (G9.mono (by decide)) D11 G11 D10 G10 m_len
    have G14 : FnOk l.prog w K mg base CX0 4 f14 fd14 ["dam"] (spFirmYield T1 T2) := ok_firm_yield D14 D12 G12 D13 G13
    have G15 : FnOk l.prog w K mg base CX0 3 f15 fd15 ["dam", "demands"] (spFirmShare T1 T2) := ok_firm_share D15 C4 G4 D7 G7 D6 G6 D9 (G9.mono (by decide)) D0 (G0.mono (by decide)) D8 (G8.mono (by decide)) D10 G10 m_len m_max m_sum
    have G16 : FnOk l.prog w K mg base CX0 3 f16 fd16 ["capacity", "inflows"] (spRoundYield T1 T3) := ok_round_yield C16 I (G2.mono (by decide)) C3 (G3.mono (by decide)) D0 (G0.mono (by decide)) D10 G10 m_len m_sum m_range k_MOST_CAPACITY
    have G17 : FnOk l.prog w K mg base CX0 3 f17 fd17 ["inflows", "demands", "is_round"] (spNeedFlows T1) := ok_need_flows D17 C3 (G3.mono (by decide)) D7 G7 m_len m_isinstance m_bool
    have G18 : FnOk l.prog w K mg base CX0 1 f18 fd18 ["months", "is_round"] spWindows := ok_windows D18 m_range
    have G19 : FnOk l.prog w K mg base CX0 1 f19 fd19 ["inflows", "demands", "window"] (spLack T4) := ok_lack_of C19 m_len m_range m_sum
    have G20 : FnOk l.prog w K mg base CX0 2 f20 fd20 ["inflows", "demands", "is_round"] (spStorage T4) := ok_storage_of D20 D18 G18 C19 G19 m_len m_sum m_max
    have G21 : FnOk l.prog w K mg base CX0 4 f21 fd21 ["inflows", "demands", "is_round"] (spLeastStorage T1 T4) := ok_least_storage D21 D17 G17 D20 (G20.mono (by decide))
    have G22 : FnOk l.prog w K mg base CX0 1 f22 fd22 ["_law_row", "_law_many"] (spTaken K) := ok_taken D22 m_int m_len
    have G23 : FnOk l.prog w K mg base CX0 2 f23 fd23 ["_law_row", "_law_things"] (spPick K) := ok_pick D23 D22 G22 m_len
    have G24 : FnOk l.prog w K mg base CX0 3 f24 fd24 ["_law_row"] (spFlow K) := ok_flow D24 D22 (G22.mono (by decide)) D23 G23
    have G25 : FnOk l.prog w K mg base CX0 4 f25 fd25 ["_law_row", "_law_many"] (spDemands K) := ok_demands D25 D24 G24 m_range m_tuple
    have G26 : FnOk l.prog w K mg base CX0 1 f26 fd26 ["_law_top", "_law_bottom"] spRatio := ok_law_ratio D26 m_abs m_int
    have G27 : FnOk l.prog w K mg base CX0 1 f27 fd27 ["_law_one", "_law_other"] spLess := ok_law_less D27
    have G28 : FnOk l.prog w K mg base CX0 2 f28 fd28 ["_law_one", "_law_other"] spBy := ok_law_by D28 D26 G26
    have G29 : FnOk l.prog w K mg base CX0 5 f29 fd29 ["_law_script"] (spLaw K T1 T2 T3 T4) := ok_law D29 D22 (G22.mono (by decide)) D23 (G23.mono (by decide)) D25 G25 D27 (G27.mono (by decide)) D28 (G28.mono (by decide)) D14 G14 D21 G21 D16 (G16.mono (by decide)) D15 (G15.mono (by decide)) m_max m_tuple
    exact G29
end K48
open PySem PySem.W PyProof.Rows
set_option maxHeartbeats 0 in
theorem PySem.Challenge.cw_damworks_k48_across_yields_and_storages_holds : PySem.Challenge.rw_damworks_k48_across_yields_and_storages.Holds := by
  w_on; o_law; k_head; (case hw => w_witness2)
  k_fill
  refine K48.walk_ofAll (l := PySem.Challenge.rw_damworks_k48_across_yields_and_storages) (n := 63) (k := 5) (x := "_law_script") (CX := fun _ => L2.CX0) rfl (by decide) rfl ⟨rfl, by decide, by decide⟩ (fun w h Y => PySem.W.kIn_of Y) ?F (fun _ _ _ _ _ h => h)
  case F =>
    intro w mg fa h KX G hmg A
    refine' K48.law_at KX G hmg A (K48.got ?a0 ?l0 ?h0 ?k0) (K48.got ?a1 ?l1 ?h1 ?k1) (K48.got ?a2 ?l2 ?h2 ?k2) (K48.got ?a3 ?l3 ?h3 ?k3) (K48.got ?a4 ?l4 ?h4 ?k4) (K48.got ?a5 ?l5 ?h5 ?k5) (K48.got ?a6 ?l6 ?h6 ?k6) (K48.got ?a7 ?l7 ?h7 ?k7) (K48.got ?a8 ?l8 ?h8 ?k8) (K48.got ?a9 ?l9 ?h9 ?k9) (K48.got ?a10 ?l10 ?h10 ?k10) (K48.got ?a11 ?l11 ?h11 ?k11) (K48.got ?a12 ?l12 ?h12 ?k12) (K48.got ?a13 ?l13 ?h13 ?k13) (K48.got ?a14 ?l14 ?h14 ?k14) (K48.got ?a15 ?l15 ?h15 ?k15) (K48.got ?a16 ?l16 ?h16 ?k16) (K48.got ?a17 ?l17 ?h17 ?k17) (K48.got ?a18 ?l18 ?h18 ?k18) (K48.got ?a19 ?l19 ?h19 ?k19) (K48.got ?a20 ?l20 ?h20 ?k20) (K48.got ?a21 ?l21 ?h21 ?k21) (K48.got ?a22 ?l22 ?h22 ?k22) (K48.got ?a23 ?l23 ?h23 ?k23) (K48.got ?a24 ?l24 ?h24 ?k24) (K48.got ?a25 ?l25 ?h25 ?k25) (K48.got ?a26 ?l26 ?h26 ?k26) (K48.got ?a27 ?l27 ?h27 ?k27) (K48.got ?a28 ?l28 ?h28 ?k28) (K48.got ?a29 ?l29 ?h29 ?k29) (K48.tabOf ?tl1 ?tv1 ?th1 ?tn1) ?tr1 (K48.tabOf ?tl2 ?tv2 ?th2 ?tn2) ?tr2 (K48.tabOf ?tl3 ?tv3 ?th3 ?tn3) ?tr3 (K48.tabOf ?tl4 ?tv4 ?th4 ?tn4) ?tr4 ?z0 ?z1 ?z2 ?z3 ?z4 ?z5 ?z6 ?z7 ?z8 ?z9 ?z10 ?n0 ?n1 ?n2 ?ngcd
    (case a0 => k_is); (case l0 => k_is); (case h0 => k_is); (case k0 => k_is); (case a1 => k_is); (case l1 => k_is); (case h1 => k_is); (case k1 => k_is); (case a2 => k_is); (case l2 => k_is); (case h2 => k_is); (case k2 => k_is); (case a3 => k_is); (case l3 => k_is); (case h3 => k_is); (case k3 => k_is); (case a4 => k_is); (case l4 => k_is); (case h4 => k_is); (case k4 => k_is); (case a5 => k_is); (case l5 => k_is); (case h5 => k_is); (case k5 => k_is); (case a6 => k_is); (case l6 => k_is); (case h6 => k_is); (case k6 => k_is); (case a7 => k_is); (case l7 => k_is); (case h7 => k_is); (case k7 => k_is); (case a8 => k_is); (case l8 => k_is); (case h8 => k_is); (case k8 => k_is); (case a9 => k_is); (case l9 => k_is); (case h9 => k_is); (case k9 => k_is); (case a10 => k_is); (case l10 => k_is); (case h10 => k_is); (case k10 => k_is); (case a11 => k_is); (case l11 => k_is); (case h11 => k_is); (case k11 => k_is); (case a12 => k_is); (case l12 => k_is); (case h12 => k_is); (case k12 => k_is); (case a13 => k_is); (case l13 => k_is); (case h13 => k_is); (case k13 => k_is); (case a14 => k_is); (case l14 => k_is); (case h14 => k_is); (case k14 => k_is); (case a15 => k_is); (case l15 => k_is); (case h15 => k_is); (case k15 => k_is); (case a16 => k_is); (case l16 => k_is); (case h16 => k_is); (case k16 => k_is); (case a17 => k_is); (case l17 => k_is); (case h17 => k_is); (case k17 => k_is); (case a18 => k_is); (case l18 => k_is); (case h18 => k_is); (case k18 => k_is); (case a19 => k_is); (case l19 => k_is); (case h19 => k_is); (case k19 => k_is); (case a20 => k_is); (case l20 => k_is); (case h20 => k_is); (case k20 => k_is); (case a21 => k_is); (case l21 => k_is); (case h21 => k_is); (case k21 => k_is); (case a22 => k_is); (case l22 => k_is); (case h22 => k_is); (case k22 => k_is); (case a23 => k_is); (case l23 => k_is); (case h23 => k_is); (case k23 => k_is); (case a24 => k_is); (case l24 => k_is); (case h24 => k_is); (case k24 => k_is); (case a25 => k_is); (case l25 => k_is); (case h25 => k_is); (case k25 => k_is); (case a26 => k_is); (case l26 => k_is); (case h26 => k_is); (case k26 => k_is); (case a27 => k_is); (case l27 => k_is); (case h27 => k_is); (case k27 => k_is); (case a28 => k_is); (case l28 => k_is); (case h28 => k_is); (case k28 => k_is); (case a29 => k_is); (case l29 => k_is); (case h29 => k_is); (case k29 => k_is)
    (case tl1 => k_is); (case tv1 => rfl); (case th1 => kernel_rfl); (case tn1 => kernel_rfl); (case tr1 => kernel_rfl)
    (case tl2 => k_is); (case tv2 => rfl); (case th2 => kernel_rfl); (case tn2 => kernel_rfl); (case tr2 => kernel_rfl)
    (case tl3 => k_is); (case tv3 => rfl); (case th3 => kernel_rfl); (case tn3 => kernel_rfl); (case tr3 => kernel_rfl)
    (case tl4 => k_is); (case tv4 => rfl); (case th4 => kernel_rfl); (case tn4 => kernel_rfl); (case tr4 => kernel_rfl)
    (case z0 => k_is); (case z1 => k_is); (case z2 => k_is); (case z3 => k_is); (case z4 => k_is); (case z5 => k_is); (case z6 => k_is); (case z7 => k_is); (case z8 => k_is); (case z9 => k_is); (case z10 => k_is)
    (case n0 => k_is); (case n1 => k_is); (case n2 => k_is); (case ngcd => k_is)
