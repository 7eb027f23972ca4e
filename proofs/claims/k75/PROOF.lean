import PyProof.Rows.All
import Wide.All
import OpenK.AllK
import Wide.FinOn
import HandS.ForMost
import PySem.Challenge.RW_squaretimes_k75_whole_lots_that_are_let
import PyProof.GenQ
import HandS.AnyAll
import HandS.Keys
import HandS.WideBits
import HandS.Style
import HandS.IsInst
import HandS.Zip
import HandS.TupAny
import HandS.Flow
import HandS.DictComp
import HandS.Star
import KE.GoesEnum
import HandS.Conv
import HandS.SetFor
import HandS.Strs
import HandS.RaiseMore
import HandS.Wide
import HandS.EndTab
set_option linter.all false
namespace Sq
/-- how many binary figures of n are 1 -/
def wt (n : Nat) : Nat := if h : n = 0 then 0 else n % 2 + wt (n / 2)
termination_by n
decreasing_by omega
theorem wt_zero : wt 0 = 0 := by rw [wt]; simp
theorem wt_pos {n : Nat} (h : 0 < n) : wt n = n % 2 + wt (n / 2) := by rw [wt, dif_neg (by omega)]
/-- whether 4 divides the weight -/
def four (k : Nat) : Bool := wt k % 4 == 0
/-- two words of A that differ by k, the first one less -/
def PairD (A : List Nat) (k w : Nat) : Prop := w ∈ A ∧ w < w ^^^ k ∧ w ^^^ k ∈ A
/-- a clash -/
structure IsCl (A B : List Nat) (a b c d : Nat) : Prop where
  ha : a ∈ A
  hb : b ∈ A
  hc : c ∈ B
  hd : d ∈ B
  ab : a < b
  cd : c < d
  eq : a ^^^ b = c ^^^ d
  four : wt (a ^^^ b) % 4 = 0
def Cl (A B : List Nat) : Prop := ∃ a b c d, IsCl A B a b c d

theorem xor_cancel (a b : Nat) : a ^^^ (a ^^^ b) = b := by rw [← Nat.xor_assoc, Nat.xor_self, Nat.zero_xor]
theorem xor_move (a b t : Nat) : (a ^^^ t) ^^^ (b ^^^ t) = a ^^^ b := by
  rw [Nat.xor_comm b t, Nat.xor_assoc, ← Nat.xor_assoc t t b, Nat.xor_self, Nat.zero_xor]
theorem xor_eq_zero {a b : Nat} (h : a ^^^ b = 0) : a = b := by
  have e := xor_cancel a b
  rw [h, Nat.xor_zero] at e
  exact e
theorem Cl.symm {A B : List Nat} (h : Cl A B) : Cl B A := by
  obtain ⟨a, b, c, d, q⟩ := h
  exact ⟨c, d, a, b, q.hc, q.hd, q.ha, q.hb, q.cd, q.ab, q.eq.symm, by rw [← q.eq]; exact q.four⟩
theorem cl_symm {A B : List Nat} : Cl A B ↔ Cl B A := ⟨Cl.symm, Cl.symm⟩
theorem Cl.sub {A B A' B' : List Nat} (hA : ∀ x ∈ A', x ∈ A) (hB : ∀ x ∈ B', x ∈ B) (h : Cl A' B') : Cl A B := by
  obtain ⟨a, b, c, d, q⟩ := h
  exact ⟨a, b, c, d, hA _ q.ha, hA _ q.hb, hB _ q.hc, hB _ q.hd, q.ab, q.cd, q.eq, q.four⟩
/-- a clash from two unlike pairs, whatever their order -/
theorem cl_of {A B : List Nat} {a b c d : Nat} (ha : a ∈ A) (hb : b ∈ A) (hc : c ∈ B) (hd : d ∈ B) (ab : a ≠ b) (cd : c ≠ d) (e : a ^^^ b = c ^^^ d) (f : wt (a ^^^ b) % 4 = 0) : Cl A B := by
  rcases Nat.lt_or_gt_of_ne ab with h1 | h1
  · rcases Nat.lt_or_gt_of_ne cd with h2 | h2
    · exact ⟨a, b, c, d, ha, hb, hc, hd, h1, h2, e, f⟩
    · exact ⟨a, b, d, c, ha, hb, hd, hc, h1, h2, by rw [e, Nat.xor_comm], f⟩
  · rcases Nat.lt_or_gt_of_ne cd with h2 | h2
    · exact ⟨b, a, c, d, hb, ha, hc, hd, h1, h2, by rw [Nat.xor_comm, e], by rw [Nat.xor_comm]; exact f⟩
    · exact ⟨b, a, d, c, hb, ha, hd, hc, h1, h2, by rw [Nat.xor_comm, e, Nat.xor_comm], by rw [Nat.xor_comm]; exact f⟩
/-- a lot moved by a word -/
theorem cl_moved {A A' B : List Nat} {t : Nat} (h : ∀ x, x ∈ A' ↔ ∃ y ∈ A, x = y ^^^ t) : Cl A' B ↔ Cl A B := by
  constructor
  · rintro ⟨a, b, c, d, q⟩
    obtain ⟨x, hx, rfl⟩ := (h a).mp q.ha
    obtain ⟨y, hy, rfl⟩ := (h b).mp q.hb
    have e := q.eq
    have f := q.four
    rw [xor_move] at e f
    exact cl_of hx hy q.hc q.hd (fun z => Nat.lt_irrefl _ (z ▸ q.ab)) (Nat.ne_of_lt q.cd) e f
  · rintro ⟨a, b, c, d, q⟩
    refine cl_of ((h _).mpr ⟨a, q.ha, rfl⟩) ((h _).mpr ⟨b, q.hb, rfl⟩) q.hc q.hd (fun z => ?_) (Nat.ne_of_lt q.cd) (by rw [xor_move]; exact q.eq) (by rw [xor_move]; exact q.four)
    have e := xor_move a b t
    rw [z, Nat.xor_self] at e
    exact Nat.ne_of_lt q.ab (xor_eq_zero e.symm)
theorem pair_lt {A : List Nat} {k w n : Nat} (hA : ∀ x ∈ A, x < 2 ^ n) (h : PairD A k w) : 1 ≤ k ∧ k < 2 ^ n := by
  obtain ⟨h1, h2, h3⟩ := h
  constructor
  · refine Nat.pos_of_ne_zero fun z => ?_
    rw [z, Nat.xor_zero] at h2
    exact Nat.lt_irrefl _ h2
  · have := Nat.xor_lt_two_pow (hA _ h1) (hA _ h3)
    rwa [xor_cancel] at this
theorem cl_pairs {A B : List Nat} : Cl A B ↔ ∃ k, wt k % 4 = 0 ∧ (∃ w, PairD A k w) ∧ ∃ w, PairD B k w := by
  constructor
  · rintro ⟨a, b, c, d, q⟩
    refine ⟨a ^^^ b, q.four, ⟨a, q.ha, ?_, ?_⟩, c, q.hc, ?_, ?_⟩
    · rw [xor_cancel]; exact q.ab
    · rw [xor_cancel]; exact q.hb
    · rw [q.eq, xor_cancel]; exact q.cd
    · rw [q.eq, xor_cancel]; exact q.hd
  · rintro ⟨k, f, ⟨w, h1, h2, h3⟩, v, g1, g2, g3⟩
    exact ⟨w, w ^^^ k, v, v ^^^ k, h1, h3, g1, g3, h2, g2, by rw [xor_cancel, xor_cancel], by rw [xor_cancel]; exact f⟩
theorem cl_pair {A B : List Nat} {k w v : Nat} (f : wt k % 4 = 0) (h : PairD A k w) (g : PairD B k v) : IsCl A B w (w ^^^ k) v (v ^^^ k) :=
  ⟨h.1, h.2.2, g.1, g.2.2, h.2.1, g.2.1, by rw [xor_cancel, xor_cancel], by rw [xor_cancel]; exact f⟩
/-- one turn of a xor, figure by figure -/
theorem xor_step (x y : Nat) : x ^^^ y = (if x % 2 = y % 2 then 0 else 1) + 2 * (x / 2 ^^^ y / 2) := by
  have h1 : (x ^^^ y) / 2 = x / 2 ^^^ y / 2 := Nat.xor_div_two
  have h2 : (x ^^^ y) % 2 = if x % 2 = y % 2 then 0 else 1 := by
    have := @Nat.xor_mod_two_eq_one x y
    split
    · rename_i e
      have h3 : ¬ (x ^^^ y) % 2 = 1 := fun z => by
        have := this.mp z
        omega
      omega
    · rename_i e
      refine this.mpr ?_
      omega
  have h3 := Nat.div_add_mod (x ^^^ y) 2
  rw [h1, h2] at h3
  omega
end Sq
set_option Elab.async false
set_option linter.all false
set_option maxRecDepth 100000
namespace Sq
open PySem PySem.Spec PyProof.Rows L2
/-! the text of each def and its slots -/
def topS (i : Nat) : Stmt := PySem.Challenge.pw_squaretimes_k75_whole_lots_that_are_let.main.body.getD i (.Pass ⟨0, 0, 0, 0⟩)
abbrev s_is_whole : Stmt := topS 7
theorem sc_is_whole : FnScope ["value"] ["value"] (defScope s_is_whole) := ⟨rfl, rfl, rfl, by decide +kernel, rfl, by decide +kernel, by decide +kernel⟩
abbrev s_is_integer : Stmt := topS 8
theorem sc_is_integer : FnScope ["value"] ["value"] (defScope s_is_integer) := ⟨rfl, rfl, rfl, by decide +kernel, rfl, by decide +kernel, by decide +kernel⟩
abbrev s_weight_of : Stmt := topS 13
theorem sc_weight_of : FnScope ["x", "found"] ["x"] (defScope s_weight_of) := ⟨rfl, rfl, rfl, by decide +kernel, rfl, by decide +kernel, by decide +kernel⟩
abbrev s_require_many : Stmt := topS 14
theorem sc_require_many : FnScope ["value", "most"] ["value", "most"] (defScope s_require_many) := ⟨rfl, rfl, rfl, by decide +kernel, rfl, by decide +kernel, by decide +kernel⟩
abbrev s_is_word : Stmt := topS 15
theorem sc_is_word : FnScope ["value", "many"] ["value", "many"] (defScope s_is_word) := ⟨rfl, rfl, rfl, by decide +kernel, rfl, by decide +kernel, by decide +kernel⟩
abbrev s_require_lot : Stmt := topS 16
theorem sc_require_lot : FnScope ["value", "many", "word", "one", "other"] ["value", "many"] (defScope s_require_lot) := ⟨rfl, rfl, rfl, by decide +kernel, rfl, by decide +kernel, by decide +kernel⟩
abbrev s_require_lots : Stmt := topS 17
theorem sc_require_lots : FnScope ["firsts", "seconds", "many"] ["firsts", "seconds", "many"] (defScope s_require_lots) := ⟨rfl, rfl, rfl, by decide +kernel, rfl, by decide +kernel, by decide +kernel⟩
abbrev s_pair_with : Stmt := topS 18
theorem sc_pair_with : FnScope ["lot", "members", "apart"] ["lot", "members", "apart"] (defScope s_pair_with) := ⟨rfl, rfl, rfl, by decide +kernel, rfl, by decide +kernel, by decide +kernel⟩
abbrev s_clash_in : Stmt := topS 19
theorem sc_clash_in : FnScope ["firsts", "seconds", "many", "left", "right", "apart", "one", "other", "word"] ["firsts", "seconds", "many"] (defScope s_clash_in) := ⟨rfl, rfl, rfl, by decide +kernel, rfl, by decide +kernel, by decide +kernel⟩
abbrev s_are_let : Stmt := topS 20
theorem sc_are_let : FnScope ["firsts", "seconds", "many"] ["firsts", "seconds", "many"] (defScope s_are_let) := ⟨rfl, rfl, rfl, by decide +kernel, rfl, by decide +kernel, by decide +kernel⟩
abbrev s_clash : Stmt := topS 21
theorem sc_clash : FnScope ["firsts", "seconds", "many"] ["firsts", "seconds", "many"] (defScope s_clash) := ⟨rfl, rfl, rfl, by decide +kernel, rfl, by decide +kernel, by decide +kernel⟩
abbrev s_is_clash : Stmt := topS 22
theorem sc_is_clash : FnScope ["firsts", "seconds", "many", "value", "a", "b", "c", "d", "word"] ["firsts", "seconds", "many", "value"] (defScope s_is_clash) := ⟨rfl, rfl, rfl, by decide +kernel, rfl, by decide +kernel, by decide +kernel⟩
abbrev s_greatest_let : Stmt := topS 23
theorem sc_greatest_let : FnScope ["many"] ["many"] (defScope s_greatest_let) := ⟨rfl, rfl, rfl, by decide +kernel, rfl, by decide +kernel, by decide +kernel⟩
abbrev s_l_jug : Stmt := topS 25
theorem sc_l_jug : FnScope ["_law_script", "_law_spot", "_law_cell", "_law_great", "_law_mixed"] ["_law_script", "_law_spot"] (defScope s_l_jug) := ⟨rfl, rfl, rfl, by decide +kernel, rfl, by decide +kernel, by decide +kernel⟩
abbrev s_l_pour : Stmt := topS 26
theorem sc_l_pour : FnScope ["_law_jug_here", "_law_many", "_law_found", "_law_one", "_law_two"] ["_law_jug_here", "_law_many"] (defScope s_l_pour) := ⟨rfl, rfl, rfl, by decide +kernel, rfl, by decide +kernel, by decide +kernel⟩
abbrev s_l_of : Stmt := topS 27
theorem sc_l_of : FnScope ["_law_jug_here", "_law_items"] ["_law_jug_here", "_law_items"] (defScope s_l_of) := ⟨rfl, rfl, rfl, by decide +kernel, rfl, by decide +kernel, by decide +kernel⟩
abbrev s_l_xor : Stmt := topS 28
theorem sc_l_xor : FnScope ["_law_x", "_law_y", "_law_found", "_law_power", "_law_one", "_law_other"] ["_law_x", "_law_y"] (defScope s_l_xor) := ⟨rfl, rfl, rfl, by decide +kernel, rfl, by decide +kernel, by decide +kernel⟩
abbrev s_l_weight : Stmt := topS 29
theorem sc_l_weight : FnScope ["_law_x", "_law_found", "_law_left"] ["_law_x"] (defScope s_l_weight) := ⟨rfl, rfl, rfl, by decide +kernel, rfl, by decide +kernel, by decide +kernel⟩
abbrev s_l_clashes : Stmt := topS 30
theorem sc_l_clashes : FnScope ["_law_firsts", "_law_seconds", "_law_found", "_law_heads", "_law_at", "_law_c", "_law_d", "_law_word", "_law_a", "_law_b"] ["_law_firsts", "_law_seconds"] (defScope s_l_clashes) := ⟨rfl, rfl, rfl, by decide +kernel, rfl, by decide +kernel, by decide +kernel⟩
abbrev s_l_lot : Stmt := topS 31
theorem sc_l_lot : FnScope ["_law_jug_here", "_law_many", "_law_most", "_law_size", "_law_way", "_law_turn", "_law_wanted", "_law_left", "_law_found", "_law_word"] ["_law_jug_here", "_law_many", "_law_most"] (defScope s_l_lot) := ⟨rfl, rfl, rfl, by decide +kernel, rfl, by decide +kernel, by decide +kernel⟩
abbrev s_l_moved : Stmt := topS 32
theorem sc_l_moved : FnScope ["_law_lot_here", "_law_word", "_law_one"] ["_law_lot_here", "_law_word"] (defScope s_l_moved) := ⟨rfl, rfl, rfl, by decide +kernel, rfl, by decide +kernel, by decide +kernel⟩
abbrev s_l_part : Stmt := topS 33
theorem sc_l_part : FnScope ["_law_jug_here", "_law_lot_here", "_law_found", "_law_word"] ["_law_jug_here", "_law_lot_here"] (defScope s_l_part) := ⟨rfl, rfl, rfl, by decide +kernel, rfl, by decide +kernel, by decide +kernel⟩
abbrev s_l_is_due : Stmt := topS 34
theorem sc_l_is_due : FnScope ["_law_firsts", "_law_seconds", "_law_value", "_law_a", "_law_b", "_law_c", "_law_d", "_law_one"] ["_law_firsts", "_law_seconds", "_law_value"] (defScope s_l_is_due) := ⟨rfl, rfl, rfl, by decide +kernel, rfl, by decide +kernel, by decide +kernel⟩
abbrev s_l_near : Stmt := topS 35
theorem sc_l_near : FnScope ["_law_jug_here", "_law_firsts", "_law_seconds", "_law_due", "_law_some", "_law_clashing", "_law_a", "_law_b", "_law_c", "_law_d"] ["_law_jug_here", "_law_firsts", "_law_seconds", "_law_due"] (defScope s_l_near) := ⟨rfl, rfl, rfl, by decide +kernel, rfl, by decide +kernel, by decide +kernel⟩
abbrev s_l_right : Stmt := topS 36
theorem sc_l_right : FnScope ["_law_jug_here", "_law_many", "_law_firsts", "_law_seconds", "_law_due", "_law_word", "_law_told", "_law_turn", "_law_value"] ["_law_jug_here"] (defScope s_l_right) := ⟨rfl, rfl, rfl, by decide +kernel, rfl, by decide +kernel, by decide +kernel⟩
abbrev s_l_is_greatest : Stmt := topS 37
theorem sc_l_is_greatest : FnScope ["_law_many", "_law_size", "_law_words", "_law_told", "_law_turn", "_law_every", "_law_wrong", "_law_x", "_law_y"] ["_law_many", "_law_size"] (defScope s_l_is_greatest) := ⟨rfl, rfl, rfl, by decide +kernel, rfl, by decide +kernel, by decide +kernel⟩
abbrev s_law : Stmt := topS 38
theorem sc_law : FnScope ["_law_script", "_law_spot", "_law_many", "_law_size", "_law_every", "_law_wide", "_law_told"] ["_law_script"] (defScope s_law) := ⟨rfl, rfl, rfl, by decide +kernel, rfl, by decide +kernel, by decide +kernel⟩
end Sq
set_option Elab.async false
set_option linter.all false
set_option maxRecDepth 100000
set_option maxHeartbeats 2000000
/-! the first item of a generator expression: its element may be a new object, told by the heap behind it -/
namespace SqG
open PySem PySem.Spec PyProof.Rows
section
variable {P : Program} {w : World} {A : Around}
/-- the clause's tests, one behind the other -/
abbrev tests (ifs : List Expr) (ce : Env) : Sem Bool :=
  forIn ifs true fun c r => if r = true then (do let ok ← isTrue c ce (eval c ce); pure (ForInStep.yield ok)) else pure (ForInStep.yield r)
/-- what is asked of tests and element -/
structure Once (P : Program) (w : World) (ce : Env) (x : Str) (ifs : List Expr) (elt : Expr) (wr : List Addr) (PV : Nat → Value → Prop) (pz : Nat → Bool) (F : Nat → Value → Heap → Prop) (g0 : Heap) : Prop where
  tst : ∀ (B : Around) (E : Value → Shared → Prop) (i : Nat) (v : Value) (t : Shared) (m : Str → Option Value), B.handled = none → PV i v → t.heap.Ns ce.locals m → m x = some v →
    (∀ b o, b ∉ wr → g0.get? b = some o → t.heap.get? b = some o) → wpAny (model P w) B (tests ifs ce) (fun ok t' => ok = pz i ∧ Keeps t t') E t
  itm : ∀ (B : Around) (E : Value → Shared → Prop) (i : Nat) (v : Value) (t : Shared) (m : Str → Option Value), B.handled = none → PV i v → pz i = true → t.heap.Ns ce.locals m → m x = some v →
    (∀ b o, b ∉ wr → g0.get? b = some o → t.heap.get? b = some o) → wpAny (model P w) B (eval elt ce) (fun y t' => F i y t'.heap ∧ Keeps t t') E t
/-- how it ends without an item -/
abbrev EndR (C : Addr) (wr : List Addr) (pz : Nat → Bool) (n : Nat) : Nat → Shared → Shared → Prop := fun _ a b => (∀ j, j < n → pz j = false) ∧ GenSince C wr a b
/-- how it gives its first item -/
abbrev OutY (C : Addr) (wr : List Addr) (pz : Nat → Bool) (n : Nat) (F : Nat → Value → Heap → Prop) : Protocol := fun _ a v b _ => (∃ i, i < n ∧ pz i = true ∧ F i v b.heap) ∧ GenSince C wr a b

theorem once_loop {elt iter : Expr} {x : Str} {px : Pos} {ifs : List Expr} {scope : Scope} {pos : Pos} {I : Addr} {fp wr : List Addr} {n : Nat} {PV : Nat → Value → Prop} {St : Nat → Heap → Prop} {ce : Env} {g0 : Heap} {pz : Nat → Bool} {F : Nat → Value → Heap → Prop}
    (hA : A.handled = none) (W : ∀ B : Around, B.handled = none → Walks P w B I fp wr n PV St) (kx : ce.kindOf x = some .local)
    (kp : (ce.scope.kind == .class || (ce.scope.kind == .module && ce.locals != ce.globals)) = false) (kc : ce.scope.isCoroutine = false) (nC : ce.locals ∉ fp)
    (n0 : g0.get? ce.locals = none) (q : Once P w ce x ifs elt wr PV pz F g0) :
    ∀ (k i : Nat) (s0 s : Shared) (m : Str → Option Value), n - i = k → i ≤ n → (∀ j, j < i → pz j = false) → St i s.heap → s.heap.Ns ce.locals m → GenSince ce.locals wr s0 s →
      (∀ b o, b ∉ wr → g0.get? b = some o → s.heap.get? b = some o) →
      Seg (model P w) A (fun m a r b => r = .ok .next ∧ EndR ce.locals wr pz n m a b) (OutY ce.locals wr pz n F) 1 s0
        (.compLoop (.GeneratorExp elt [⟨.Name x px, iter, ifs, 0⟩] scope pos) 0 (.ref I) .none ce)
        ((model P w).den (.compLoop (.GeneratorExp elt [⟨.Name x px, iter, ifs, 0⟩] scope pos) 0 (.ref I) .none ce)) [] s := by
  generalize hcode : Code.compLoop (.GeneratorExp elt [⟨.Name x px, iter, ifs, 0⟩] scope pos) 0 (.ref I) .none ce = code
  have hB : (A.over code []).handled = none := by subst hcode; exact hA
  have nCw : ce.locals ∉ wr := fun h => nC ((W A hA).sub _ h)
  have hden : (model P w).den code = (compTurn (.GeneratorExp elt [⟨.Name x px, iter, ifs, 0⟩] scope pos) 0 (.ref I) .none ce).onRaise (leaving ce) := by subst hcode; rfl
  have hquiet : code.quiet = true := by subst hcode; rfl
  intro k
  induction k with
  | zero =>
    intro i s0 s m hk hi hpz hst hn hs hk0
    obtain rfl : i = n := by omega
    rw [hden, compTurn_gen, Sem.onRaise_eq_wrap]
    refine seg_bind_wrap (wpAny_standAt (seg_bind_wrap ((W _ hB).done s _ _ hst fun h' tk hk' => ?_)))
    exact seg_end (.ok .next) ⟨rfl, hpz, hs.step fun b o _ hw e => hk' b o hw e⟩
  | succ k ih =>
    intro i s0 s m hk hi hpz hst hn hs hk0
    have hlt : i < n := by omega
    rw [hden, compTurn_gen, Sem.onRaise_eq_wrap]
    refine seg_bind_wrap (wpAny_standAt (seg_bind_wrap ((W _ hB).item i s _ _ hlt hst fun v h1 tk1 hv hst1 hk1 => ?_)))
    refine seg_bind_wrap (wpAny_of_eq (show letOwnedTupleGo (.Name x px) (.ref I) v = pure () from rfl) ?_)
    refine seg_bind_wrap (wpAny_assign_Name (wpAny_storeName_local kx (hn.at' fun o e => hk1 _ o nCw e) (fun h2 hn2 hs2 => ?_) kp))
    have up : ∀ b o, b ≠ ce.locals → b ∉ wr → s.heap.get? b = some o → h2.get? b = some o := fun b o b1 b2 e => hs2.extBut b o b1 (hk1 b o b2 e)
    have hst2 : St (i + 1) h2 := (W A hA).frame _ _ _ hst1 fun b hb o e => hs2.extBut b o (fun z => nC (z ▸ hb)) e
    have hk2 : ∀ b o, b ∉ wr → g0.get? b = some o → h2.get? b = some o := fun b o b2 e => up b o (fun z => by rw [z, n0] at e; cases e) b2 (hk0 b o b2 e)
    refine seg_bind_wrap (wpAny_mono (q.tst _ _ i v _ _ hB hv hn2 (by simp) hk2) (fun ok t ht => ?_) fun _ _ e => e)
    obtain ⟨rfl, h3, tk3, rfl, hk3⟩ := ht
    have hn3 := hn2.keeps hk3
    have hs3 : GenSince ce.locals wr s0 { s with heap := h3, toks := tk3 } := hs.step fun b o b1 b2 e => hk3 b o (up b o b1 b2 e)
    cases hp : pz i with
    | false =>
      simp only [Bool.false_eq_true, if_false]
      refine hcode ▸ seg_again rfl (hcode ▸ ih (i + 1) s0 _ _ (by omega) hlt (fun j hj => ?_) ((W A hA).frame _ _ _ hst2 fun b _ o e => hk3 b o e) hn3 hs3 fun b o b2 e => hk3 b o (hk2 b o b2 e))
      rcases Nat.lt_or_ge j i with z | z
      · exact hpz j z
      · obtain rfl : j = i := by omega
        exact hp
    | true =>
      simp only [if_true]
      have hy : ∀ v, yieldOut ce v = yieldValue v := fun v => by simp only [yieldOut, kc, Bool.false_eq_true, if_false]
      simp only [hy]
      rw [Sem.bind_eq_wrap', Sem.bind_eq_wrap', Sem.wrap_wrap, Sem.wrap_wrap]
      refine seg_wrap (wpAny_mono (q.itm _ _ i v _ _ hB hv hp hn3 (by simp) fun b o b2 e => hk3 b o (hk2 b o b2 e)) (fun y t ht => ?_) fun _ _ e => e)
      obtain ⟨hF, h4, tk4, rfl, hk4⟩ := ht
      exact seg_at (seg_yield rfl rfl rfl ⟨⟨i, hlt, hp, hF⟩, hs3.step fun b o _ _ e => hk4 b o e⟩)
theorem once_start {elt iter : Expr} {x : Str} {px : Pos} {ifs : List Expr} {scope : Scope} {pos : Pos} {I : Addr} {fp wr : List Addr} {n : Nat} {PV : Nat → Value → Prop} {St : Nat → Heap → Prop} {ce : Env} {g0 : Heap} {pz : Nat → Bool} {F : Nat → Value → Heap → Prop}
    (hA : A.handled = none) (W : ∀ B : Around, B.handled = none → Walks P w B I fp wr n PV St) (kx : ce.kindOf x = some .local)
    (kp : (ce.scope.kind == .class || (ce.scope.kind == .module && ce.locals != ce.globals)) = false) (kc : ce.scope.isCoroutine = false) (nC : ce.locals ∉ fp)
    (n0 : g0.get? ce.locals = none) (q : Once P w ce x ifs elt wr PV pz F g0) (s0 s : Shared) (m : Str → Option Value) (hst : St 0 s.heap) (hn : s.heap.Ns ce.locals m) (hs : GenSince ce.locals wr s0 s)
    (hk : ∀ b o, b ∉ wr → g0.get? b = some o → s.heap.get? b = some o) :
    Seg (model P w) A (fun m a r b => r = .ok .next ∧ EndR ce.locals wr pz n m a b) (OutY ce.locals wr pz n F) 1 s0
      (.compStart (.GeneratorExp elt [⟨.Name x px, iter, ifs, 0⟩] scope pos) 0 (.ref I) .none ce)
      ((model P w).den (.compStart (.GeneratorExp elt [⟨.Name x px, iter, ifs, 0⟩] scope pos) 0 (.ref I) .none ce)) [] s := by
  have hB : (A.over (.compStart (.GeneratorExp elt [⟨.Name x px, iter, ifs, 0⟩] scope pos) 0 (.ref I) .none ce) []).handled = none := hA
  have loop := once_loop (iter := iter) (px := px) (scope := scope) (pos := pos) hA W kx kp kc nC n0 q n 0 s0 s m (Nat.sub_zero _) (Nat.zero_le _) (fun j hj => absurd hj (Nat.not_lt_zero _)) hst hn hs hk
  show Seg _ A _ _ 1 s0 _ ((compStart (.GeneratorExp elt [⟨.Name x px, iter, ifs, 0⟩] scope pos) 0 (.ref I) .none ce).onRaise (leaving ce)) [] s
  unfold compStart
  rw [Sem.onRaise_eq_wrap]
  show Seg _ A _ _ 1 s0 _ ((ask >>= _).wrap _ _ _ _) [] s
  refine seg_bind_wrap (wpAny_askSetting ?_)
  split
  · exact seg_again rfl loop
  · first
      | exact seg_bind_wrap (wpAny_rule (seg_bind_wrap (wpAny_standAt (seg_bind_wrap ((W _ hB).self 0 s _ _ hst (seg_again rfl loop))))))
      | (refine seg_bind_wrap (wpAny_rule ?_); show Seg _ A _ _ 1 s0 _ ((standAt iter.pos >>= _).wrap _ _ _ _) [] s; exact seg_bind_wrap (wpAny_standAt (seg_bind_wrap ((W _ hB).self 0 s _ _ hst (seg_again rfl loop)))))
end
end SqG
set_option Elab.async false
set_option linter.all false
set_option maxRecDepth 100000
set_option maxHeartbeats 2000000
namespace SqG
open PySem PySem.Spec PyProof.Rows L2
section
variable {P : Program} {w : World} {A : Around} {E : Value → Shared → Prop} {s : Shared}
/-- next(g, None) of a generator that has not begun: an item, or None -/
theorem next_once {elt iter : Expr} {x : Str} {px : Pos} {ifs : List Expr} {scope : Scope} {pos : Pos} {I a : Addr} {g n : Nat} {fp wr : List Addr} {PV : Nat → Value → Prop} {St : Nat → Heap → Prop} {ce : Env} {g0 : Heap} {pz : Nat → Bool} {F : Nat → Value → Heap → Prop} {m : Str → Option Value} {Q : Value → Shared → Prop}
    (hA : A.handled = none) (hroom : A.depth < recursionLimit) (W : ∀ B : Around, B.handled = none → Walks P w B I fp wr n PV St) (kx : ce.kindOf x = some .local)
    (kp : (ce.scope.kind == .class || (ce.scope.kind == .module && ce.locals != ce.globals)) = false) (kc : ce.scope.isCoroutine = false) (nC : ce.locals ∉ fp)
    (n0 : g0.get? ce.locals = none) (q : Once P w ce x ifs elt wr PV pz F g0) (hst : St 0 s.heap) (hn : s.heap.Ns ce.locals m) (hk : ∀ b o, b ∉ wr → g0.get? b = some o → s.heap.get? b = some o)
    (hl : s.heap.NoLimit) (hg : s.heap.IsGen a g) (hgs : s.gens[g]? = some (.fresh (.compStart (.GeneratorExp elt [⟨.Name x px, iter, ifs, 0⟩] scope pos) 0 (.ref I) .none ce)))
    (hy : ∀ (i : Nat) (v : Value) (t : Shared) (gs : GenState), i < n → pz i = true → gs.bare = true → F i v t.heap → (∀ b o, b ≠ ce.locals → b ∉ wr → s.heap.get? b = some o → t.heap.get? b = some o) → t.gens = (s.gens.setIfInBounds g .running).setIfInBounds g gs → t.os = s.os → Q v t)
    (hz : ∀ (t : Shared), (∀ j, j < n → pz j = false) → (∀ b o, b ≠ ce.locals → b ∉ wr → s.heap.get? b = some o → t.heap.get? b = some o) → t.gens = (s.gens.setIfInBounds g .running).setIfInBounds g .finished → t.os = s.os → Q .none t) :
    wpAny (model P w) A (call (.builtin "next") [.ref a, .none]) Q E s := by
  refine Calls.call_function_entry (by decide +kernel) (by decide +kernel) PySem.W.kdk_entry_next (PySem.W.kdk_args_next2 _ _) ?_
  unfold Builtin.«next»
  refine wpAny_bind (m := someArgs "next" 1 2 _) (wpAny_of_eq (a := [Value.ref a, Value.none]) (by first | rfl | kernel_rfl!) ?_)
  dsimp only
  refine wpAny_bind (wpAny_specialOf (name := Str.ofString "__next__") hg.typeIs slot_gen_next.lookup ?_)
  refine wpAny_ite_split (fun z => absurd z (by decide)) (fun _ => ?_)
  refine wpAny_bind ?_
  refine wpAny_pyNext_genexpQ (n := 1) (P := EndR ce.locals wr pz n) (Y := OutY ce.locals wr pz n F) hA hl ?_ hg hgs ?_ (fun v t gs hb hv => ?_) (fun t ht h' hk' => ?_)
  · exact hroom
  · refine ⟨rfl, once_start (A := A.in1.in1) (s0 := s.setGen g .running) (s := s.setGen g .running) hA W kx kp kc nC n0 q m hst hn (GenSince.refl _ _ _) hk⟩
  · obtain ⟨⟨i, hi, hp, hF⟩, h1, tk1, rfl, hk1⟩ := hv
    exact wpAny_pure ⟨_, rfl, hy i v _ gs hi hp hb hF hk1 rfl rfl⟩
  · obtain ⟨hp, h1, tk1, rfl, hk1⟩ := ht
    exact wpAny_pure ⟨_, rfl, hz _ hp (fun b o b1 b2 e => hk' b o (hk1 b o b1 b2 e)) rfl rfl⟩
end
end SqG
set_option Elab.async false
set_option linter.all false
set_option maxRecDepth 100000
set_option maxHeartbeats 2000000
namespace SqG
open PySem PySem.Spec PyProof.Rows L2
/-- what the generator asks of a word: the other word is greater and a member -/
def tst (kvs : List (Key × V)) (k w : Nat) : Bool := decide (w < w ^^^ k) && (valV kvs (Sum.inl ((w ^^^ k : Nat) : Int) : Key)).isSome
def pzOf (A : List Nat) (kvs : List (Key × V)) (k i : Nat) : Bool := match A[i]? with
  | some w => tst kvs k w
  | none => false
/-- the element's tuple -/
def outF (A : List Nat) (k n0 i : Nat) (v : Value) (h : Heap) : Prop := ∃ (wd : Nat) (p : Addr) (u1 u2 : Value), A[i]? = some wd ∧ v = .ref p ∧ n0 ≤ p ∧ RelV (.int (wd : Int)) u1 ∧ RelV (.int ((wd ^^^ k : Nat) : Int)) u2 ∧ IsTup h p [u1, u2].toArray
section
variable {P : Program} {w : World} {ce : Env} {ca cm d : Addr} {A : List Nat} {k : Nat} {kvs : List (Key × V)} {vs : List (Key × Value)} {g0 : Heap} {its : List Value} {wr : List Addr} {p1 p2 p3 p4 p5 p6 p7 p8 p9 p10 q1 q2 q3 q4 q5 q6 : Pos} {k0 : Nat} {kt : Tok}
theorem xor_nat (a b : Nat) : Builtin.bitXor (a : Int) (b : Int) = ((a ^^^ b : Nat) : Int) := by
  rw [Bits.bitXor_pp (Int.natCast_nonneg a) (Int.natCast_nonneg b), Int.toNat_natCast, Int.toNat_natCast]
theorem once_pair (hk : ce.scope.kind = .function) (lw : ce.scope.names.lookup ("word" : Str) = some .local) (la : ce.scope.names.lookup ("apart" : Str) = some .free) (lm : ce.scope.names.lookup ("members" : Str) = some .free)
    (ea : ce.cells.lookup ("apart" : Str) = some ca) (em : ce.cells.lookup ("members" : Str) = some cm) (nca : ca ∉ wr) (ncm : cm ∉ wr) (nd : d ∉ wr)
    (xa : g0.IsCell ca (some (.int (k : Int) kt))) (xm : g0.IsCell cm (some (.ref d))) (hd : (d == sysModules) = false) (hD : g0.DictOf (mixKind P w) d vs) (hKV : KV kvs vs) (hv : Vals (A.map fun n => V.int (n : Nat)) its) (hC : g0.objs.size ≤ ce.locals) :
    Once P w ce "word" [.BoolOp .And [.Compare (.Name "word" p1) [.Lt] [.BinOp (.Name "word" p2) .BitXor (.Name "apart" p3) p4] p5, .Compare (.BinOp (.Name "word" p6) .BitXor (.Name "apart" p7) p8) [.In] [.Name "members" p9] p10] q1]
      (.Tuple [.Name "word" q2, .BinOp (.Name "word" q3) .BitXor (.Name "apart" q4) q5] k0 q6) wr (fun i v => its.toArray[i]? = some v) (pzOf A kvs k) (outF A k g0.objs.size) g0 := by
  have getA : ∀ (i : Nat) (v : Value), its.toArray[i]? = some v → ∃ (wd : Nat) (t : Tok), A[i]? = some wd ∧ v = .int (wd : Int) t := fun i v e => by
    rw [List.getElem?_toArray] at e
    have hl := hv.length
    rw [List.length_map] at hl
    have hi : i < A.length := by
      have := (List.getElem?_eq_some_iff.mp e).1
      omega
    obtain ⟨u, hu, ru⟩ := hv.get (i := i) (x := V.int ((A[i] : Nat) : Int)) (by rw [List.getElem?_map, List.getElem?_eq_getElem hi]; rfl)
    rw [e] at hu
    cases hu
    obtain ⟨t, e2⟩ := ru
    exact ⟨A[i], t, List.getElem?_eq_getElem hi, e2⟩
  -- the names
  have ldW : ∀ {B : Around} {E : Value → Shared → Prop} {t : Shared} {m : Str → Option Value} {v : Value} {p : Pos} {Q : Value → Shared → Prop}, t.heap.Ns ce.locals m → m "word" = some v → Q v t → wpAny (model P w) B (eval (.Name "word" p) ce) Q E t :=
    fun hn hm h => wpAny_Name (wpAny_loadName_local hk lw hn hm h) (by decide)
  have ldA : ∀ {B : Around} {E : Value → Shared → Prop} {t : Shared} {p : Pos} {Q : Value → Shared → Prop}, (∀ b o, b ∉ wr → g0.get? b = some o → t.heap.get? b = some o) → Q (.int (k : Int) kt) t → wpAny (model P w) B (eval (.Name "apart" p) ce) Q E t :=
    fun hq h => wpAny_Name (wpAny_loadName_free hk la ea (let ⟨o, e, z⟩ := xa; ⟨o, hq _ o nca e, z⟩) h (by decide)) (by decide)
  have ldM : ∀ {B : Around} {E : Value → Shared → Prop} {t : Shared} {p : Pos} {Q : Value → Shared → Prop}, (∀ b o, b ∉ wr → g0.get? b = some o → t.heap.get? b = some o) → Q (.ref d) t → wpAny (model P w) B (eval (.Name "members" p) ce) Q E t :=
    fun hq h => wpAny_Name (wpAny_loadName_free hk lm em (let ⟨o, e, z⟩ := xm; ⟨o, hq _ o ncm e, z⟩) h (by decide)) (by decide)
  have xorE : ∀ {B : Around} {E : Value → Shared → Prop} {t : Shared} {m : Str → Option Value} {wd : Nat} {tw : Tok} {a b c : Pos} {Q : Value → Shared → Prop}, t.heap.Ns ce.locals m → m "word" = some (.int (wd : Int) tw) → (∀ b o, b ∉ wr → g0.get? b = some o → t.heap.get? b = some o) →
      Q (.int ((wd ^^^ k : Nat) : Int) t.toks) { t with toks := t.toks + 1 } → wpAny (model P w) B (eval (.BinOp (.Name "word" a) .BitXor (.Name "apart" b) c) ce) Q E t := fun hn hm hq h => by
    refine wpAny_BinOp (ldW hn hm (ldA hq (PyProof.Rows.xor_int ?_)))
    rw [xor_nat]
    exact h
  refine ⟨fun B E i v t m hB hi hn hm hq => ?_, fun B E i v t m hB hi hp hn hm hq => ?_⟩
  · obtain ⟨wd, tw, hA, rfl⟩ := getA i v hi
    have hpz : pzOf A kvs k i = tst kvs k wd := by unfold pzOf; rw [hA]
    rw [hpz]
    refine wpAny_tests_one (wpAny_isTrue_BoolOp (wpAny_allTrue_And_cons (wpAny_isTrue_Compare1 (ldW hn hm (xorE hn hm hq (lt_int (wpAny_truthy_bool ?_)))))))
    have eq1 : decide ((wd : Int) < ((wd ^^^ k : Nat) : Int)) = decide (wd < wd ^^^ k) := by
      apply decide_eq_decide.mpr
      omega
    rw [eq1]
    cases hc : decide (wd < wd ^^^ k) with
    | false =>
      refine (?_ : _ ∧ _)
      refine ⟨by unfold tst; rw [hc]; rfl, GxR.keeps_tok _ _⟩
    | true =>
      show wpAny _ _ _ _ _ _
      refine wpAny_allTrue_And_cons (wpAny_isTrue_Compare1 (xorE hn hm hq (ldM hq ?_)))
      have hD2 : t.heap.DictOf (mixKind P w) d vs := let ⟨o, es, ep, e, r⟩ := hD; ⟨o, es, ep, hq _ o nd e, r⟩
      refine wpAny_in_of (k := (Sum.inl ((wd ^^^ k : Nat) : Int) : Key)) (kV_is ⟨_, rfl⟩) hd hD2.mapOf (wpAny_truthy_bool ?_)
      rw [← (hKV.val (Sum.inl ((wd ^^^ k : Nat) : Int))).isSome_eq]
      cases hs : (valV kvs (Sum.inl ((wd ^^^ k : Nat) : Int) : Key)).isSome with
      | false =>
        refine (?_ : _ ∧ _)
        exact ⟨by unfold tst; rw [hc, hs]; rfl, GxR.keeps_tok _ _⟩
      | true =>
        refine wpAny_allTrue_And_nil ⟨by unfold tst; rw [hc, hs]; rfl, GxR.keeps_tok _ _⟩
  · obtain ⟨wd, tw, hA, rfl⟩ := getA i v hi
    refine wpAny_Tuple_spliced (Calls.spliced_cons (ldW hn hm (Calls.spliced_cons (xorE hn hm hq (Calls.spliced_nil ⟨by show 2 ≤ sizeLine; decide, ?_⟩)))))
    obtain ⟨o, es, ep, ho, r⟩ := hn
    refine ⟨⟨wd, t.heap.objs.size, _, _, hA, rfl, Nat.le_trans hC (Nat.le_of_lt (Heap.lt_size ho)), ⟨_, rfl⟩, ⟨_, rfl⟩, _, Heap.get?_push_size _ rfl, rfl, _, rfl⟩, _, _, rfl, fun b o' e => Heap.get?_push_of_some _ e⟩
end
end SqG
set_option Elab.async false
set_option linter.all false
set_option maxRecDepth 100000
set_option maxHeartbeats 2000000
namespace SqG
open PySem PySem.Spec PyProof.Rows L2
/-- next(((word, word ^ apart) for word in lot if word < word ^ apart and word ^ apart in members), None), lot, members, apart at 0, 1, 2 -/
def tFirst (K : PySem.W.Frag) (P : Addr) : TE := fun σ H Q => ∃ (a d : Addr) (A : List Nat) (kvs : List (Key × V)) (k : Nat), σ[0]? = some (some (.ref a)) ∧ σ[1]? = some (some (.ref d)) ∧ σ[2]? = some (some (.int (k : Int))) ∧
  SqT K H a (A.map fun n => V.int (n : Nat)) ∧ H d = some (.dK kvs) ∧ GxR.TabG H P ∧ ((∀ wd ∈ A, tst kvs k wd = false) → ∀ H', GxR.Tabbed P H H' → Q .non H') ∧
  (∀ wd ∈ A, tst kvs k wd = true → ∀ H' p, GxR.Tabbed P H H' → H' p = none → Q (.ref p) (upd H' p (.tup [.int (wd : Int), .int ((wd ^^^ k : Nat) : Int)])))
theorem bare_set {gens : Array GenState} {g : Nat} {x : GenState} (h : AllBare gens) (hx : x.bare = true) : AllBare (gens.setIfInBounds g x) := fun y hy => by
  have h1 : y ∈ (gens.setIfInBounds g x).toList := hy.val
  rw [Array.toList_setIfInBounds] at h1
  rcases List.mem_or_eq_of_mem_set h1 with z | z
  · exact h y ⟨z⟩
  · rw [z]
    exact hx
section
variable {X : Cx} {c P : Addr} {k : Nat} {scope : Scope} {p1 p2 p3 p4 p5 p6 p7 p8 p9 p10 q1 q2 q3 q4 q5 q6 z1 z2 z3 z4 z5 gpos pos : Pos} {k0 j0 : Nat}
theorem pe_first (hr : Room k X.A) (hg : Gl X "next") (hm : X.mg "next" = none) (TB : GxR.TabB X.base X.mg c P) (hcode : X.env.code = .ref c) (hN : X.N = (["lot", "members", "apart"] : List Str))
    (l0 : X.env.scope.names.lookup ("lot" : Str) = some .local) (l1 : X.env.scope.names.lookup ("members" : Str) = some .cell) (l2 : X.env.scope.names.lookup ("apart" : Str) = some .cell)
    (hsc : scope = { kind := .function, names := [(Str.ofString ".0", .local), (Str.ofString "word", .local), (Str.ofString "apart", .free), (Str.ofString "members", .free)], isGenerator := true, isCoroutine := false, more := [] }) :
    PE X (.Call (.Name "next" z1) [.GeneratorExp (.Tuple [.Name "word" q2, .BinOp (.Name "word" q3) .BitXor (.Name "apart" q4) q5] k0 q6)
      [⟨.Name "word" z2, .Name "lot" z3, [.BoolOp .And [.Compare (.Name "word" p1) [.Lt] [.BinOp (.Name "word" p2) .BitXor (.Name "apart" p3) p4] p5, .Compare (.BinOp (.Name "word" p6) .BitXor (.Name "apart" p7) p8) [.In] [.Name "members" p9] p10] q1], 0⟩] scope gpos,
      .Constant .none j0 z4] [] pos) (tFirst X.K P) := by
  refine ⟨fun pins s σ H Q I h => ?_⟩
  obtain ⟨a, d, A, kvs, kk, s0, s1, s2, hA, hD, ⟨ps, hP, ht⟩, qn, qs⟩ := h
  obtain ⟨m0, hn0, hl0⟩ := I.loc
  have cellOf : ∀ (i : Nat) (x : Str) (v : V), X.N[i]? = some x → X.env.scope.names.lookup x = some .cell → σ[i]? = some (some v) → ∃ u c, RelV v u ∧ X.env.cells.lookup x = some c ∧ s.heap.IsCell c (some u) := fun i x v e1 e2 e3 => by
    obtain ⟨u, r, l⟩ := hl0 i x v e1 e3 (.inr (.inl e2))
    rcases l with ⟨z, _⟩ | ⟨_, c, e, z⟩
    · have z' : X.env.scope.names.lookup x = some .local := z
      rw [e2] at z'
      cases z'
    · exact ⟨u, c, r, e, z⟩
  obtain ⟨um, cm, rm, em, xm⟩ := cellOf 1 "members" (.ref d) (by rw [hN]; rfl) l1 s1
  obtain ⟨ua, ca, ra, ea, xa⟩ := cellOf 2 "apart" (.int (kk : Int)) (by rw [hN]; rfl) l2 s2
  obtain rfl : um = Value.ref d := rm
  obtain ⟨kt, rfl⟩ := ra
  obtain ⟨its, rv, tp, _⟩ := I.tuple hA
  obtain ⟨zD, hdm, vs, hKV, hDD⟩ := I.hok d _ hD
  have hPs : s.heap.get? P = some { cls := .none, data := .fields ps } := I.hok P _ hP
  have hPlt : P < s.heap.objs.size := Heap.lt_size hPs
  have hne : ∀ {b : Addr} {o : Obj}, s.heap.get? b = some o → (∀ fs, o.data ≠ .fields fs) → b ≠ P := fun {b o} e nf z => by
    rw [z, hPs] at e
    cases e
    exact nf _ rfl
  have he : ∀ e e' : Expr, starEach [e, e'] X.env = (false, eval e X.env) :: starEach [e'] X.env → True := fun _ _ _ => trivial
  refine wpAny_Call_Name_kw (ld_blt (u := .builtin "next") I hg hm (by first | rfl | decide +kernel) ?_ (by decide) (by decide))
  refine PyProof.Rows.callWith_builtin1 ?_ (by rfl) (by rfl)
  show wpAny _ _ (spliced ((false, eval (.GeneratorExp _ _ scope gpos) X.env) :: (false, eval (.Constant .none j0 z4) X.env) :: [])) _ _ s
  refine Calls.spliced_cons ?_
  have sco : scope.isCoroutine = false := by rw [hsc]
  have skd : scope.kind = .function := by rw [hsc]
  have scell : ∀ y ∈ scope.names, y.2 ≠ .cell := by
    rw [hsc]
    intro y hy
    simp only [List.mem_cons, List.not_mem_nil, or_false] at hy
    rcases hy with rfl | rfl | rfl | rfl <;> (intro z; cases z)
  have sfree : ∀ y ∈ scope.names, y.2 = .free → ∃ c, X.env.cells.lookup y.1 = some c := by
    rw [hsc]
    intro y hy e
    simp only [List.mem_cons, List.not_mem_nil, or_false] at hy
    rcases hy with rfl | rfl | rfl | rfl
    · cases e
    · cases e
    · exact ⟨ca, ea⟩
    · exact ⟨cm, em⟩
  generalize hcl : cloFrom X.env.cells scope.names [] = cl
  have cla : cl.lookup ("apart" : Str) = some ca ∧ cl.lookup ("members" : Str) = some cm := by
    rw [← hcl, hsc]
    have e1 : X.env.cells.lookup (Str.ofString "apart") = some ca := ea
    have e2 : X.env.cells.lookup (Str.ofString "members") = some cm := em
    constructor
    · simp [cloFrom, e1, e2]
      rfl
    · simp [cloFrom, e1, e2]
  obtain ⟨ul, rl, ll⟩ := hl0 0 "lot" (.ref a) (by rw [hN]; rfl) s0 (.inl l0)
  obtain rfl : ul = Value.ref a := rl
  have hml : m0 "lot" = some (Value.ref a) := by
    rcases ll with ⟨_, z⟩ | ⟨z, _⟩
    · exact z
    · rcases z with z | z
      · have z' : X.env.scope.names.lookup ("lot" : Str) = some .cell := z
        rw [l0] at z'
        cases z'
      · have z' : X.env.scope.names.lookup ("lot" : Str) = some .free := z
        rw [l0] at z'
        cases z'
  refine wpAny_GeneratorExp_make (cl := cl) sco (by rw [← hcl]; exact closure_ok sfree) scell (by rw [hsc]; rfl) skd (by have := hr.dp; omega) ?_ (by intro x; rfl)
  refine wpAny_Name (wpAny_loadName_local I.ok.kind l0 hn0 hml ?_) (by decide)
  refine wpAny_pyIter_tuple tp ?_
  generalize ho : ({ cls := .type "tuple_iterator", data := .fields #[.ref a, .int 0 0] } : Obj) = o
  have hitr : (s.heap.push o).IsTupleIter s.heap.objs.size a 0 := by
    subst ho
    exact ⟨_, Heap.get?_push_size _ rfl, rfl, rfl⟩
  have alt : a < s.heap.objs.size := let ⟨_, e, _⟩ := tp; Heap.lt_size e
  have aP : a ≠ P := let ⟨o', e, _, n, z⟩ := tp; hne e fun fs z' => by rw [z] at z'; cases z'
  have hP2 : (s.heap.push o).get? P = some { cls := .none, data := .fields ps } := Heap.get?_push_of_some _ hPs
  have cd : PySem.W.CodeHd (s.heap.push o) c P := TB.code.keeps fun b u e => Heap.get?_push_of_some _ (I.bk b u e)
  have lim2 : (s.heap.push o).NoLimit := I.nolimit.push o
  refine ⟨lim2, ?_⟩
  have cont : ∀ (code : Value) (h3 : Heap) (tk : Nat) (ps' : Array Value), Heap.ExtBut P (s.heap.push o) h3 → (s.heap.push o).objs.size ≤ h3.objs.size → h3.get? P = some { cls := .none, data := .fields ps' } → (∃ more, ps' = ps ++ more) → TriplesOk ps'.toList →
      wpAny (model X.prog X.w) X.A (builtinsFor X.env.globals X.env.builtins) (fun bi t4 =>
        ∀ h', h'.Ns t4.heap.objs.size (fun y => if y = ".0" then some (Value.ref s.heap.objs.size) else none) → Heap.SameBut t4.heap.objs.size (t4.heap.push { cls := .type "frame", data := .dict #[] }) h' →
          wpAny (model X.prog X.w) X.A (spliced [(false, eval (.Constant .none j0 z4) X.env)]) (fun vs t5 => wpAny (model X.prog X.w) X.A (call (.builtin "next") (.ref h'.objs.size :: vs)) (L2.EP X pins σ Q) X.xe t5) X.xe { t4 with
            gens := t4.gens.push (.fresh (.compStart (.GeneratorExp (.Tuple [.Name "word" q2, .BinOp (.Name "word" q3) .BitXor (.Name "apart" q4) q5] k0 q6)
      [⟨.Name "word" z2, .Name "lot" z3, [.BoolOp .And [.Compare (.Name "word" p1) [.Lt] [.BinOp (.Name "word" p2) .BitXor (.Name "apart" p3) p4] p5, .Compare (.BinOp (.Name "word" p6) .BitXor (.Name "apart" p7) p8) [.In] [.Name "members" p9] p10] q1], 0⟩] scope gpos) 0 (.ref s.heap.objs.size) .none (genEnv scope cl t4.heap.objs.size code bi X.env))),
            toks := t4.toks + 1 + 1 + 1,
            heap := h'.push { cls := .type "generator", data := .fields #[.int t4.gens.size 0, .str "<genexpr>" (t4.toks + 1), .str (X.env.qual ++ "<genexpr>") (t4.toks + 1 + 1)] } }) X.xe { s with heap := h3, toks := tk } := by
    intro code h3 tk ps' hx hsz hP3 hmore ht3
    obtain ⟨bm, ob, e1, e2, e3, e4, e5, e6, e7, e8⟩ := TB.bm
    have keep3 : ∀ b u, b ≠ P → s.heap.get? b = some u → h3.get? b = some u := fun b u hb e => hx b u hb (Heap.get?_push_of_some _ e)
    have sz2 : (s.heap.push o).objs.size = s.heap.objs.size + 1 := Heap.size_push ..
    have szle : s.heap.objs.size < h3.objs.size := by omega
    refine wpAny_builtinsFor (m := X.mg) (by rw [I.ok.glob]; exact ((I.mod.glob.keeps I.bk).push o).extBut hx TB.gP) e1 e2 (keep3 _ _ e4 (I.bk _ _ e5)) e6 e7 e8 ?_
    intro h' hn' hs'
    have up : ∀ b u, h3.get? b = some u → h'.get? b = some u := fun b u e => hs'.extBut b u (Nat.ne_of_lt (Heap.lt_size e)) (Heap.get?_push_of_some _ e)
    refine Calls.spliced_cons (Constant_none (Calls.spliced_nil ?_))
    have ltS : ∀ {b : Addr} {u : Obj}, s.heap.get? b = some u → b ∉ [s.heap.objs.size] := fun {b u} e z => Nat.ne_of_lt (Heap.lt_size e) (List.mem_singleton.mp z)
    obtain ⟨oa, eca, dca⟩ := xa
    obtain ⟨om, ecm, dcm⟩ := xm
    have nca : ca ≠ P := hne eca fun fs z => by rw [dca] at z; cases z
    have ncm : cm ≠ P := hne ecm fun fs z => by rw [dcm] at z; cases z
    obtain ⟨od, es, ep, ecd, dd⟩ := hDD
    have ncd : d ≠ P := hne ecd fun fs z => by
      obtain ⟨_, z2, _⟩ := dd
      rw [z2] at z
      cases z
    have oq := once_pair (P := X.prog) (w := X.w) (ce := genEnv scope cl h3.objs.size code builtinsNs X.env) (wr := [s.heap.objs.size]) (g0 := h3) (k0 := k0) (p1 := p1) (p2 := p2) (p3 := p3) (p4 := p4) (p5 := p5) (p6 := p6) (p7 := p7) (p8 := p8) (p9 := p9) (p10 := p10) (q1 := q1) (q2 := q2) (q3 := q3) (q4 := q4) (q5 := q5) (q6 := q6)
      skd (by show scope.names.lookup _ = _; rw [hsc]; rfl) (by show scope.names.lookup _ = _; rw [hsc]; rfl) (by show scope.names.lookup _ = _; rw [hsc]; rfl) cla.1 cla.2 (ltS eca) (ltS ecm) (ltS ecd) ⟨oa, keep3 _ _ nca eca, dca⟩ ⟨om, keep3 _ _ ncm ecm, dcm⟩ hdm ⟨od, es, ep, keep3 _ _ ncd ecd, dd⟩ hKV rv (Nat.le_refl _)
    have alen : its.toArray.size = A.length := by
      have := rv.length
      rw [List.length_map] at this
      rw [List.size_toArray]
      exact this.symm
    -- behind the call: everything that stood stands, the table may have grown
    have back : ∀ (t : Shared) (gs : GenState), gs.bare = true → (∀ b u, b ≠ h3.objs.size → b ∉ [s.heap.objs.size] → (h'.push { cls := .type "generator", data := .fields #[.int s.gens.size 0, .str "<genexpr>" (tk + 1), .str (X.env.qual ++ "<genexpr>") (tk + 1 + 1)] }).get? b = some u → t.heap.get? b = some u) →
        (∃ c0 : Code, t.gens = ((s.gens.push (.fresh c0)).setIfInBounds s.gens.size .running).setIfInBounds s.gens.size gs) → t.os = s.os → ∃ H', GxR.Tabbed P H H' ∧ L2.Inv X pins σ H' t ∧ ∀ p, h3.objs.size ≤ p → H' p = none := by
      intro t gs hb hkeep hgen hos
      obtain ⟨more, em⟩ := hmore
      have kp : ∀ b u, b ≠ P → s.heap.get? b = some u → t.heap.get? b = some u := fun b u nb e => hkeep b u (Nat.ne_of_lt (Nat.lt_trans (Heap.lt_size e) szle)) (ltS e) (Heap.get?_push_of_some _ (up b u (keep3 b u nb e)))
      have hPt : t.heap.get? P = some { cls := .none, data := .fields ps' } := hkeep P _ (Nat.ne_of_lt (Nat.lt_trans hPlt szle)) (ltS hPs) (Heap.get?_push_of_some _ (up P _ hP3))
      have hbare : AllBare t.gens := by
        obtain ⟨c0, eg⟩ := hgen
        rw [eg]
        exact bare_set (bare_set (I.bare.push (g := .fresh c0) rfl) rfl) hb
      have J := GxR.inv_tab (more := more) (h' := t.heap) (g' := t.gens) (d' := t.drawn) (t' := t.toks) I hP kp (by rw [← em]; exact hPt) hbare
      rw [GxR.sh_eta s t hos] at J
      refine ⟨upd H P (.tbl (ps ++ more)), ⟨⟨ps ++ more, upd_same, by rw [← em]; exact ht3⟩, fun b hb => upd_ne hb⟩, J, fun p hp => ?_⟩
      rw [upd_ne (show p ≠ P from fun z => by rw [z] at hp; exact absurd (Nat.lt_trans hPlt szle) (Nat.not_lt.mpr hp))]
      exact I.hok.fresh (Nat.le_trans (Nat.le_of_lt szle) hp)
    refine next_once (s := { s with heap := h'.push { cls := .type "generator", data := .fields #[.int s.gens.size 0, .str "<genexpr>" (tk + 1), .str (X.env.qual ++ "<genexpr>") (tk + 1 + 1)] }, toks := tk + 1 + 1 + 1, gens := s.gens.push _ }) (g := s.gens.size) (I := s.heap.objs.size) (fp := [s.heap.objs.size, a]) (wr := [s.heap.objs.size]) (n := its.toArray.size) (g0 := h3)
      (St := fun i h => h.IsTupleIter s.heap.objs.size a i ∧ h.IsTuple a its.toArray) (m := fun y => if y = ".0" then some (Value.ref s.heap.objs.size) else none)
      hr.hd (by have := hr.dp; omega) (fun B hB => Walks.tuple hB _ _ (Nat.ne_of_lt alt) _) (by show scope.names.lookup _ = _; rw [hsc]; rfl) (by simp [genEnv, skd]) sco
      (fun z => ?_) (Heap.get?_none_of_le (Nat.le_refl _)) oq ?_ (hn'.push _) (fun b u nb e => Heap.get?_push_of_some _ (up b u e)) ?_ ⟨_, _, _, Heap.get?_push_size _ rfl, rfl, rfl, rfl⟩ (Array.getElem?_push_size ..) (fun i v t gs hi hp hb hF hkeep hgen hos => ?_) (fun t hp hkeep hgen hos => ?_)
    · rcases List.mem_cons.mp z with z | z
      · have z' : h3.objs.size = s.heap.objs.size := z
        omega
      · have z' : h3.objs.size = a := List.mem_singleton.mp z
        rw [z'] at szle
        exact Nat.lt_asymm szle alt
    · have IP : s.heap.objs.size ≠ P := Nat.ne_of_gt hPlt
      obtain ⟨oi, gi, ri⟩ := hitr
      obtain ⟨ot, gt, rt⟩ := tp
      exact ⟨⟨oi, Heap.get?_push_of_some _ (up _ _ (hx _ _ IP gi)), ri⟩, ⟨ot, Heap.get?_push_of_some _ (up _ _ (keep3 _ _ aP gt)), rt⟩⟩
    · have hcP : cStatics ≠ P := fun e => by
        obtain ⟨_, hns, _⟩ := I.nolimit
        obtain ⟨o', es', ep', ho', hd', _⟩ := hns
        rw [e, hPs] at ho'
        cases ho'
        cases hd'
      exact (lim2.extBut hx hcP).keeps fun b u e => Heap.get?_push_of_some _ (up b u e)
    · obtain ⟨H2, hT, J, hfree⟩ := back t gs hb hkeep ⟨_, hgen⟩ hos
      obtain ⟨wd, p, u1, u2, hAi, rfl, hp0, r1, r2, tup⟩ := hF
      have hst : tst kvs kk wd = true := by
        have h9 := hp
        unfold pzOf at h9
        rw [hAi] at h9
        exact h9
      have fp : FpOk X pins H2 p := I.fpOk (Nat.le_trans (Nat.le_of_lt szle) hp0) (hfree p hp0)
      have J2 : L2.Inv X pins σ (upd H2 p (.tup [.int (wd : Int), .int ((wd ^^^ kk : Nat) : Int)])) t := Inv.take (h' := t.heap) (t' := t.toks) J (fun b ob _ e => e) fp ⟨by show 2 ≤ sizeLine; decide, [u1, u2], .cons r1 (.cons r2 .nil), tup⟩
      exact ⟨.ref p, _, J2, rfl, qs wd (List.mem_of_getElem? hAi) hst H2 p hT (hfree p hp0)⟩
    · obtain ⟨H2, hT, J, _⟩ := back t .finished rfl hkeep ⟨_, hgen⟩ hos
      refine ⟨.non, H2, J, rfl, qn (fun wd hw => ?_) H2 hT⟩
      obtain ⟨i, hi, e⟩ := List.getElem_of_mem hw
      have h9 := hp i (by rw [alen]; exact hi)
      unfold pzOf at h9
      rw [List.getElem?_eq_getElem hi, e] at h9
      exact h9
  cases hf : codeAmong gpos ps.toList with
  | none =>
    refine wpAny_genexprCodeX hcode (cd.code hP2 ht) (cd.tab hP2) hf fun c' h' tk hx hge hlt hco' _ htab' _ => ?_
    obtain ⟨o1, vs1, f1, tf, fl, tg, inF, tx, tt, op, _, _, _, _, _, _, _, _, _, htr, _⟩ := hco'
    exact cont _ h' tk _ hx (Nat.le_trans hge (Nat.le_of_lt hlt)) htab'.2 ⟨_, rfl⟩ htr
  | some cv =>
    refine wpAny_genexprCode_hit hcode (cd.code hP2 ht) hf ?_
    exact cont cv (s.heap.push o) s.toks ps (Heap.ExtBut.refl _ _) (Nat.le_refl _) hP2 ⟨#[], by simp⟩ ht
end
end SqG
set_option Elab.async false
set_option linter.all false
set_option maxRecDepth 100000
set_option maxHeartbeats 4000000
namespace Sq
open PySem PySem.Spec PyProof.Rows L2
section
variable {P : Program} {w : World} {K : PySem.W.Frag} {mg : Str → Option Value} {base : Heap} {f : Addr} {fd : FuncData} {k : Nat}
theorem same_new {H : Hp} {p : Addr} {o : HO} (h : H p = none) : Same H (upd H p o) := fun b x e => by
  rw [upd_ne (ne_of_none e h)]
  exact e
/-- a heap's new place is new before -/
theorem Same.fresh {H H' : Hp} {p : Addr} (s : Same H H') (h : H' p = none) : H p = none := s.free h
/-! ### weight_of, _law_weight -/
def spWeight : Sp := fun vs H Q _ => ∃ n : Nat, vs = [.int (n : Int)] ∧ Q (.int ((wt n : Nat) : Int)) H
theorem ok_weight_of (F : Fun K "weight_of" "weight_of" s_weight_of f fd) : FnOk P w K mg base CX0 (k + 1) f fd ["x"] spWeight := by
  refine F.ok sc_weight_of (fun vs H Q E h => ?_) (fun cdv A outer s H vs Q E hr h => ?_)
  · obtain ⟨n, rfl, _⟩ := h
    rfl
  · obtain ⟨n, rfl, q⟩ := h
    refine ⟨_, pss_cons (ps_set (i := 1) sc_weight_of.nd rfl (.inl rfl) pe_int)
      (pss_cons (ps_while PassesOwn.never (pt_cmpR op_gt (pv 0) pe_int (nomark _))
        (pss_one (ps_par (i := 1) (j := 0) (by rfl) sc_weight_of.nd rfl rfl (by decide) rfl rfl (pa_cons (pe_op op_addN (pv 1) (pe_op op_odd (pv 0) pe_int)) (pa_cons (pe_op op_halfN (pv 0) pe_int) pa_nil)) (by rfl))))
      (pss_one (ps_ret (pv 1)))), ?_⟩
    refine ⟨fun m σ H' => ∃ a b : Nat, σ = [some (.int (b : Int)), some (.int (a : Int))] ∧ m = b ∧ a + wt b = wt n ∧ H' = H, ⟨n, 0, n, rfl, rfl, Nat.zero_add _, rfl⟩, ?_⟩
    rintro m σ H1 ⟨a, b, rfl, rfl, e, rfl⟩
    refine ⟨_, rfl, _, _, rfl, rfl, _, rfl, ite2 (fun h => ?_) (fun h => ?_)⟩
    · have hb : 0 < m := by
        have := of_decide_eq_true h
        omega
      refine ⟨fun σ' H' => σ' = [some (.int ((m / 2 : Nat) : Int)), some (.int ((a + m % 2 : Nat) : Int))] ∧ H' = H1, fun σ' H' hN => ?_, ?_⟩
      · obtain ⟨rfl, rfl⟩ := hN
        refine ⟨m / 2, by omega, _, _, rfl, rfl, ?_, rfl⟩
        rw [wt_pos hb] at e
        omega
      · exact ⟨_, rfl, _, rfl, m, rfl, rfl, a, m % 2, rfl, rfl, _, rfl, m, rfl, rfl, _, _, rfl, rfl, rfl⟩
    · have hb : m = 0 := by
        have h2 : ¬ (0 : Int) < (m : Int) := fun z => h (decide_eq_true z)
        omega
      subst hb
      rw [wt_zero, Nat.add_zero] at e
      refine ⟨_, rfl, ?_⟩
      rw [e]
      exact q
theorem ok_l_weight (mi : mg "int" = none) (F : Fun K "_law_weight" "_law_weight" s_l_weight f fd) : FnOk P w K mg base CX0 (k + 1) f fd ["_law_x"] spWeight := by
  refine F.ok sc_l_weight (fun vs H Q E h => ?_) (fun cdv A outer s H vs Q E hr h => ?_)
  · obtain ⟨n, rfl, _⟩ := h
    rfl
  · obtain ⟨n, rfl, q⟩ := h
    refine ⟨_, pss_cons (ps_par (i := 1) (j := 2) (by rfl) sc_l_weight.nd rfl rfl (by decide) rfl rfl (pa_cons pe_int (pa_cons (pe_callTy call_int1 (by rfl) mi (by decide +kernel) (pa_cons (pv 0) pa_nil)) pa_nil)) (by rfl))
      (pss_cons (ps_while PassesOwn.never (pt_cmpR op_gt (pv 2) pe_int (nomark _))
        (pss_one (ps_par (i := 1) (j := 2) (by rfl) sc_l_weight.nd rfl rfl (by decide) rfl rfl (pa_cons (pe_op op_add (pv 1) (pe_op op_mod (pv 2) pe_int)) (pa_cons (pe_op op_fdiv (pv 2) pe_int) pa_nil)) (by rfl))))
      (pss_one (ps_ret (pv 1)))), ?_⟩
    refine ⟨_, rfl, .inl ⟨_, rfl, _, _, rfl, ?_⟩⟩
    refine ⟨fun m σ H' => ∃ a b : Nat, σ = [some (.int (n : Int)), some (.int (a : Int)), some (.int (b : Int))] ∧ m = b ∧ a + wt b = wt n ∧ H' = H, ⟨n, 0, n, rfl, rfl, Nat.zero_add _, rfl⟩, ?_⟩
    rintro m σ H1 ⟨a, b, rfl, rfl, e, rfl⟩
    refine ⟨_, rfl, _, _, rfl, rfl, _, rfl, ite2 (fun h => ?_) (fun h => ?_)⟩
    · have hb : 0 < m := by
        have := of_decide_eq_true h
        omega
      refine ⟨fun σ' H' => σ' = [some (.int (n : Int)), some (.int ((a + m % 2 : Nat) : Int)), some (.int ((m / 2 : Nat) : Int))] ∧ H' = H1, fun σ' H' hN => ?_, ?_⟩
      · obtain ⟨rfl, rfl⟩ := hN
        refine ⟨m / 2, by omega, _, _, rfl, rfl, ?_, rfl⟩
        rw [wt_pos hb] at e
        omega
      · exact ⟨_, rfl, _, rfl, _, _, rfl, rfl, (by show (0 : Int) < 2; decide), _, _, rfl, rfl, _, rfl, _, _, rfl, rfl, ⟨by decide, by decide⟩, _, _, rfl, rfl, rfl⟩
    · have hb : m = 0 := by
        have h2 : ¬ (0 : Int) < (m : Int) := fun z => h (decide_eq_true z)
        omega
      subst hb
      rw [wt_zero, Nat.add_zero] at e
      refine ⟨_, rfl, ?_⟩
      rw [e]
      exact q
/-! ### _law_xor -/
def spXor : Sp := fun vs H Q _ => ∃ a b : Nat, vs = [.int (a : Int), .int (b : Int)] ∧ ∀ H', Same H H' → Q (.int ((a ^^^ b : Nat) : Int)) H'
theorem ok_l_xor (mi : mg "int" = none) (F : Fun K "_law_xor" "_law_xor" s_l_xor f fd) : FnOk P w K mg base CX0 (k + 1) f fd ["_law_x", "_law_y"] spXor := by
  refine F.ok sc_l_xor (fun vs H Q E h => ?_) (fun cdv A outer s H vs Q E hr h => ?_)
  · obtain ⟨a, b, rfl, _⟩ := h
    rfl
  · obtain ⟨x, y, rfl, q⟩ := h
    refine ⟨_, pss_cons (ps_asg (pe_tup (pa_cons pe_int (pa_cons pe_int (pa_cons (pe_callTy call_int1 (by rfl) mi (by decide +kernel) (pa_cons (pv 0) pa_nil)) (pa_cons (pe_callTy call_int1 (by rfl) mi (by decide +kernel) (pa_cons (pv 1) pa_nil)) pa_nil)))))
        (pg_tup (by rfl) (pgs_cons (pg_name (i := 2) sc_l_xor.nd rfl (.inl rfl)) (pgs_cons (pg_name (i := 3) sc_l_xor.nd rfl (.inl rfl)) (pgs_cons (pg_name (i := 4) sc_l_xor.nd rfl (.inl rfl)) (pgs_cons (pg_name (i := 5) sc_l_xor.nd rfl (.inl rfl)) pgs_nil))))))
      (pss_cons (ps_while PassesOwn.never (PW.pt (pw_or (pt_cmpR op_gt (pv 4) pe_int (nomark _)) (pw_or1 (pt_cmpR op_gt (pv 5) pe_int (nomark _)))))
        (pss_cons (ps_set (i := 2) sc_l_xor.nd rfl (.inl rfl) (pe_op op_add (pv 2) (pe_op op_mul (pv 3) (pe_callTy call_int1 (by rfl) mi (by decide +kernel) (pa_cons (pe_cmpR op_ne (pe_op op_mod (pv 4) pe_int) (pe_op op_mod (pv 5) pe_int) (nomark _)) pa_nil)))))
        (pss_one (ps_par3 (i := 4) (j := 5) (l := 3) (by rfl) sc_l_xor.nd rfl rfl rfl (by decide) (by decide) (by decide) rfl rfl rfl (pa_cons (pe_op op_fdiv (pv 4) pe_int) (pa_cons (pe_op op_fdiv (pv 5) pe_int) (pa_cons (pe_op op_mul (pv 3) pe_int) pa_nil))) (by rfl)))))
      (pss_one (ps_ret (pv 2)))), ?_⟩
    refine ⟨_, rfl, .inl ⟨_, rfl, _, rfl, .inl ⟨_, rfl, (by show 4 ≤ sizeLine; decide), fun t nt => ?_⟩⟩⟩
    refine ⟨t, _, rfl, .inl (.inl upd_same), rfl, _, _, rfl, _, _, rfl, _, _, rfl, _, _, rfl, rfl, ?_⟩
    refine ⟨fun m σ H' => ∃ (a p c d : Nat), σ = [some (.int (x : Int)), some (.int (y : Int)), some (.int (a : Int)), some (.int (p : Int)), some (.int (c : Int)), some (.int (d : Int))] ∧ m = c + d ∧ a + p * (c ^^^ d) = x ^^^ y ∧ Same H H', ⟨x + y, 0, 1, x, y, rfl, rfl, by omega, same_new nt⟩, ?_⟩
    rintro m σ H1 ⟨a, p, c, d, rfl, rfl, e, sm⟩
    have turn : 0 < c + d → ∃ N : L2.St → Hp → Prop, (∀ σ' H', N σ' H' → ∃ m', m' < c + d ∧ ∃ (a p c d : Nat), σ' = [some (.int (x : Int)), some (.int (y : Int)), some (.int (a : Int)), some (.int (p : Int)), some (.int (c : Int)), some (.int (d : Int))] ∧ m' = c + d ∧ a + p * (c ^^^ d) = x ^^^ y ∧ Same H H') ∧
        N [some (.int (x : Int)), some (.int (y : Int)), some (.int ((a : Int) + (p : Int) * (if (!decide (V.int ((c : Int) % 2) = V.int ((d : Int) % 2))) = true then 1 else 0))), some (.int ((p : Int) * 2)), some (.int ((c : Int) / 2)), some (.int ((d : Int) / 2))] H1 := fun hcd => by
      refine ⟨fun σ' H' => σ' = _ ∧ H' = _, fun σ' H' hN => ?_, rfl, rfl⟩
      obtain ⟨rfl, rfl⟩ := hN
      refine ⟨c / 2 + d / 2, by omega, a + p * (if c % 2 = d % 2 then 0 else 1), p * 2, c / 2, d / 2, ?_, rfl, ?_, sm⟩
      · have e1 : ((a : Int) + (p : Int) * (if (!decide (V.int ((c : Int) % 2) = V.int ((d : Int) % 2))) = true then 1 else 0)) = ((a + p * (if c % 2 = d % 2 then 0 else 1) : Nat) : Int) := by
          by_cases z : c % 2 = d % 2
          · have z2 : V.int ((c : Int) % 2) = V.int ((d : Int) % 2) := by
              congr 1
              omega
            rw [if_pos z, decide_eq_true z2]
            simp
          · have z2 : ¬ V.int ((c : Int) % 2) = V.int ((d : Int) % 2) := fun q => z (by
              have := V.int.inj q
              omega)
            rw [if_neg z, decide_eq_false z2]
            simp
        rw [e1]
        have e2 : ((p : Int) * 2) = ((p * 2 : Nat) : Int) := by simp
        have e3 : ((c : Int) / 2) = ((c / 2 : Nat) : Int) := by simp
        have e4 : ((d : Int) / 2) = ((d / 2 : Nat) : Int) := by simp
        rw [e2, e3, e4]
      · rw [← e, xor_step c d, Nat.mul_add, Nat.add_assoc, Nat.mul_assoc]
    have step : ∀ N : L2.St → Hp → Prop, N [some (.int (x : Int)), some (.int (y : Int)), some (.int ((a : Int) + (p : Int) * (if (!decide (V.int ((c : Int) % 2) = V.int ((d : Int) % 2))) = true then 1 else 0))), some (.int ((p : Int) * 2)), some (.int ((c : Int) / 2)), some (.int ((d : Int) / 2))] H1 → True := fun _ _ => trivial
    refine ⟨_, rfl, _, _, rfl, rfl, _, rfl, ite2 (fun h => ?_) (fun h => ?_)⟩
    · have hb : 0 < c + d := by
        have := of_decide_eq_true h
        omega
      obtain ⟨N, h1, h2⟩ := turn hb
      refine iteT ⟨N, h1, ?_⟩
      refine ⟨_, rfl, _, rfl, _, rfl, _, _, rfl, rfl, (by show (0 : Int) < 2; decide), _, rfl, _, _, rfl, rfl, (by show (0 : Int) < 2; decide), rfl, .inr ⟨_, rfl, _, _, rfl, rfl, .inr ?_, _, _, rfl, rfl, ?_⟩⟩
      · split <;> exact ⟨by decide, by decide⟩
      · exact ⟨_, rfl, _, _, rfl, rfl, ⟨by decide, by decide⟩, _, rfl, _, _, rfl, rfl, ⟨by decide, by decide⟩, _, rfl, _, _, rfl, rfl, .inr ⟨by decide, by decide⟩, _, _, _, rfl, h2⟩
    · refine ⟨_, rfl, _, _, rfl, rfl, _, rfl, ite2 (fun h' => ?_) (fun h' => ?_)⟩
      · have hb : 0 < c + d := by
          have := of_decide_eq_true h'
          omega
        obtain ⟨N, h1, h2⟩ := turn hb
        refine ⟨N, h1, ?_⟩
        refine ⟨_, rfl, _, rfl, _, rfl, _, _, rfl, rfl, (by show (0 : Int) < 2; decide), _, rfl, _, _, rfl, rfl, (by show (0 : Int) < 2; decide), rfl, .inr ⟨_, rfl, _, _, rfl, rfl, .inr ?_, _, _, rfl, rfl, ?_⟩⟩
        · split <;> exact ⟨by decide, by decide⟩
        · exact ⟨_, rfl, _, _, rfl, rfl, ⟨by decide, by decide⟩, _, rfl, _, _, rfl, rfl, ⟨by decide, by decide⟩, _, rfl, _, _, rfl, rfl, .inr ⟨by decide, by decide⟩, _, _, _, rfl, h2⟩
      · have hc : c = 0 := by
          have h2 : ¬ (0 : Int) < (c : Int) := fun z => h (decide_eq_true z)
          omega
        have hd : d = 0 := by
          have h2 : ¬ (0 : Int) < (d : Int) := fun z => h' (decide_eq_true z)
          omega
        subst hc hd
        refine ⟨_, rfl, ?_⟩
        rw [Nat.xor_self, Nat.mul_zero, Nat.add_zero] at e
        rw [e]
        exact q _ sm
end
end Sq
set_option Elab.async false
set_option linter.all false
set_option maxRecDepth 100000
set_option maxHeartbeats 4000000
namespace Sq
open PySem PySem.Spec PyProof.Rows L2
/-! ### plain values as data -/
/-- None, a truth value, a number, a text that can be laid -/
def Sc (v : V) : Prop := v = .non ∨ (∃ b, v = .bl b) ∨ (∃ i, v = .int i) ∨ ∃ x, v = .str x ∧ PyData.canLay0 (.str x) = true
def scD : V → PyData
  | .bl b => .bool b
  | .int i => .int i
  | .str x => .str x
  | _ => .none
def isI : V → Bool
  | .int _ => true
  | _ => false
abbrev vN (n : Nat) : V := V.int (n : Int)
structure LotOk (m : Nat) (A : List Nat) : Prop where
  ne : A ≠ []
  lt : ∀ x ∈ A, x < 2 ^ m
  asc : A.Pairwise (· < ·)
  len : A.length ≤ 40
theorem sc_lay {v : V} (h : Sc v) : PyData.canLay0 (scD v) = true ∧ PyData.depth (scD v) = 0 := by
  rcases h with rfl | ⟨b, rfl⟩ | ⟨i, rfl⟩ | ⟨x, rfl, e⟩
  · exact ⟨rfl, rfl⟩
  · exact ⟨rfl, rfl⟩
  · exact ⟨rfl, rfl⟩
  · exact ⟨e, rfl⟩
theorem sc_layAll : ∀ {xs : List V}, (∀ v ∈ xs, Sc v) → PyData.canLayAll0 (xs.map scD) = true ∧ PyData.depthAll (xs.map scD) = 0
  | [], _ => ⟨rfl, rfl⟩
  | x :: xs, h => by
    obtain ⟨h1, h2⟩ := sc_lay (h x List.mem_cons_self)
    obtain ⟨h3, h4⟩ := sc_layAll fun v hv => h v (List.mem_cons_of_mem _ hv)
    constructor
    · show (PyData.canLay0 (scD x) && PyData.canLayAll0 (xs.map scD)) = true
      rw [h1, h3] <;> rfl
    · show max (PyData.depth (scD x)) (PyData.depthAll (xs.map scD)) = 0
      rw [h2, h4] <;> rfl
theorem shaped_l {ds : List PyData} (h : PyData.canLayAll0 ds = true) (d : PyData.depthAll ds ≤ 5) : SeqAt.shaped (.list ds) = true := by
  unfold SeqAt.shaped
  have e1 : PyData.canLay0 (.list ds) = true := h
  have e2 : PyData.depth (.list ds) ≤ 64 := by
    show PyData.depthAll ds + 1 ≤ 64
    omega
  rw [e1, decide_eq_true e2] <;> rfl
theorem shaped_t {ds : List PyData} (h : PyData.canLayAll0 ds = true) (d : PyData.depthAll ds ≤ 5) : SeqAt.shaped (.tuple ds) = true := by
  unfold SeqAt.shaped
  have e1 : PyData.canLay0 (.tuple ds) = true := h
  have e2 : PyData.depth (.tuple ds) ≤ 64 := by
    show PyData.depthAll ds + 1 ≤ 64
    omega
  rw [e1, decide_eq_true e2] <;> rfl
theorem eqv_nilL (ds : List PyData) : PyData.eqv (.list ds) (.list []) = ds.isEmpty := by
  cases ds <;> rfl
theorem eqv_nilT (ds : List PyData) : PyData.eqv (.tuple ds) (.tuple []) = ds.isEmpty := by
  cases ds <;> rfl
section
variable {K : PySem.W.Frag} {H H' : Hp}
theorem dp_sc {v : V} (h : Sc v) : Dp K H v (scD v) := by
  rcases h with rfl | ⟨b, rfl⟩ | ⟨i, rfl⟩ | ⟨x, rfl, e⟩
  · exact .non
  · exact .bl b
  · exact .int i
  · exact .str x
theorem dpAll_sc : ∀ {xs : List V}, (∀ v ∈ xs, Sc v) → DpAll K H xs (xs.map scD)
  | [], _ => .nil
  | x :: xs, h => .cons (dp_sc (h x List.mem_cons_self)) (dpAll_sc fun v hv => h v (List.mem_cons_of_mem _ hv))
theorem sc_N (A : List Nat) : ∀ v ∈ A.map vN, Sc v := fun v hv => by
  obtain ⟨n, _, rfl⟩ := List.mem_map.mp hv
  exact .inr (.inr (.inl ⟨_, rfl⟩))
theorem seqT {a : Addr} {xs : List V} (e : Same H H') (h : SqT K H a xs) : SqT K H' a xs := by
  rcases h with (h | ⟨o, h⟩) | h
  · exact .inl (.inl (e _ _ h))
  · exact .inl (.inr ⟨o, e _ _ h⟩)
  · exact .inr h
theorem tyx_t {a : Addr} {xs : List V} (h : SqT K H a xs) : TyX K H (.ref a) (.type "tuple") := by
  rcases h with (h | ⟨o, h⟩) | ⟨o, its, n, e, c, _⟩
  · exact .base (.tup h)
  · exact .fTuple h
  · exact .kTuple e c
theorem tyx_sc {v : V} (h : Sc v) : ∃ t b1 b2, TyX K H v t ∧ PySem.W.kitOne K t (.type "int") = some b1 ∧ PySem.W.kitOne K t (.type "bool") = some b2 ∧ (b1 && !b2) = isI v := by
  rcases h with rfl | ⟨b, rfl⟩ | ⟨i, rfl⟩ | ⟨x, rfl, e⟩
  · exact ⟨_, false, false, .base .non, kit_ty (by decide +kernel), kit_ty (by decide +kernel), rfl⟩
  · exact ⟨_, true, true, .base (.bl b), kit_ty (by decide +kernel), kit_ty (by decide +kernel), rfl⟩
  · exact ⟨_, true, false, .base (.int i), kit_ty (by decide +kernel), kit_ty (by decide +kernel), rfl⟩
  · exact ⟨_, false, false, .base (.str x), kit_ty (by decide +kernel), kit_ty (by decide +kernel), rfl⟩
end
section
variable {P : Program} {w : World} {K : PySem.W.Frag} {mg : Str → Option Value} {base : Heap} {f : Addr} {fd : FuncData} {k : Nat}
/-! ### is_whole, is_integer, is_word -/
def spWhole (K : PySem.W.Frag) : Sp := fun vs H Q _ => ∃ v : V, vs = [v] ∧ Sc v ∧ Q (.bl (isI v)) H
theorem ok_is_whole (ms : mg "isinstance" = none) (mi : mg "int" = none) (mb : mg "bool" = none) (F : Fun K "is_whole" "is_whole" s_is_whole f fd) : FnOk P w K mg base CX0 (k + 1) f fd ["value"] (spWhole K) := by
  refine F.ok sc_is_whole (fun vs H Q E h => ?_) (fun cdv A outer s H vs Q E hr h => ?_)
  · obtain ⟨v, rfl, _⟩ := h
    rfl
  · obtain ⟨v, rfl, sv, q⟩ := h
    refine ⟨_, pss_one (ps_ret (pe_and (pe_callB call_isi (by rfl) ms (by decide +kernel) (pa_cons (pv 0) (pa_cons (pe_bltn (v := .ty "int") (by rfl) mi (by decide +kernel) rfl) pa_nil)))
      (pe_one (pe_not (pe_callB call_isi (by rfl) ms (by decide +kernel) (pa_cons (pv 0) (pa_cons (pe_bltn (v := .ty "bool") (by rfl) mb (by decide +kernel) rfl) pa_nil))))))), ?_⟩
    obtain ⟨t, b1, b2, ty, e1, e2, e3⟩ := tyx_sc (K := K) (H := H) sv
    refine ⟨_, rfl, v, .ty "int", t, _, b1, rfl, .ty "int", ty, e1, b1, rfl, ?_⟩
    cases b1 with
    | false =>
      refine iteF ?_
      show Q (.bl false) H
      have e4 : false = isI v := e3
      rw [e4]
      exact q
    | true =>
      refine iteT ⟨_, rfl, v, .ty "bool", t, _, b2, rfl, .ty "bool", ty, e2, b2, rfl, ?_⟩
      have e4 : (!b2) = isI v := e3
      show Q (.bl (!b2)) H
      rw [e4]
      exact q
def spInteger : Sp := fun vs H Q _ => ∃ n : Nat, vs = [vN n] ∧ n ≤ 1000 ∧ Q (.bl true) H
theorem ok_is_integer {fW : Addr} {fdW : FuncData} {tB : Tok} (mB : mg "BEYOND" = some (.int (10 ^ 60) tB)) (gW : mg "is_whole" = some (.ref fW)) (FW : Fun K "is_whole" "is_whole" s_is_whole fW fdW) (bW : Binds K fdW ["value"] [])
    (GW : FnOk P w K mg base CX0 (k + 1) fW fdW ["value"] (spWhole K)) (F : Fun K "is_integer" "is_integer" s_is_integer f fd) : FnOk P w K mg base CX0 (k + 2) f fd ["value"] spInteger := by
  refine F.ok sc_is_integer (fun vs H Q E h => ?_) (fun cdv A outer s H vs Q E hr h => ?_)
  · obtain ⟨n, rfl, _⟩ := h
    rfl
  · obtain ⟨n, rfl, hn, q⟩ := h
    refine ⟨_, pss_one (ps_ret (pe_and (pe_call GW hr (by rfl) gW FW.kp bW .nil pass0 (pa_cons (pv 0) pa_nil))
      (pe_one (pe_chain op_lt op_lt (pe_un un_neg (pe_glob (v := .int (10 ^ 60)) (by rfl) mB ⟨_, rfl⟩)) (pv 0) (pe_glob (v := .int (10 ^ 60)) (by rfl) mB ⟨_, rfl⟩))))), ?_⟩
    refine ⟨_, rfl, _, rfl, .inr (.inr (.inl ⟨_, rfl⟩)), true, rfl, iteT ⟨_, rfl, _, rfl, _, _, rfl, rfl, _, rfl, ?_⟩⟩
    have e1 : decide (-(10 ^ 60 : Int) < (n : Int)) = true := decide_eq_true (by omega)
    have e2 : decide ((n : Int) < (10 ^ 60 : Int)) = true := decide_eq_true (by omega)
    rw [e1]
    refine iteT ⟨_, _, rfl, rfl, ?_⟩
    show Q (.bl (decide ((n : Int) < (10 ^ 60 : Int)))) H
    rw [e2]
    exact q
def spWord : Sp := fun vs H Q _ => ∃ n m : Nat, vs = [vN n, vN m] ∧ n < 2 ^ m ∧ m ≤ 10 ∧ Q (.bl true) H
theorem ok_is_word {fW : Addr} {fdW : FuncData} (gW : mg "is_whole" = some (.ref fW)) (FW : Fun K "is_whole" "is_whole" s_is_whole fW fdW) (bW : Binds K fdW ["value"] [])
    (GW : FnOk P w K mg base CX0 (k + 1) fW fdW ["value"] (spWhole K)) (F : Fun K "is_word" "is_word" s_is_word f fd) : FnOk P w K mg base CX0 (k + 2) f fd ["value", "many"] spWord := by
  refine F.ok sc_is_word (fun vs H Q E h => ?_) (fun cdv A outer s H vs Q E hr h => ?_)
  · obtain ⟨n, m, rfl, _⟩ := h
    rfl
  · obtain ⟨n, m, rfl, hn, hm, q⟩ := h
    refine ⟨_, pss_one (ps_ret (pe_and (pe_call GW hr (by rfl) gW FW.kp bW .nil pass0 (pa_cons (pv 0) pa_nil))
      (pe_one (pe_chain op_le op_lt pe_int (pv 0) (pe_op op_oneShl pe_int (pv 1)))))), ?_⟩
    refine ⟨_, rfl, _, rfl, .inr (.inr (.inl ⟨_, rfl⟩)), true, rfl, iteT ⟨_, rfl, _, _, rfl, rfl, _, rfl, ?_⟩⟩
    have e1 : decide ((0 : Int) ≤ (n : Int)) = true := decide_eq_true (by omega)
    have e2 : decide ((n : Int) < (2 : Int) ^ m) = true := decide_eq_true (by
      have h2 : ((2 ^ m : Nat) : Int) = (2 : Int) ^ m := by simp
      rw [← h2]
      omega)
    rw [e1]
    refine iteT ⟨_, rfl, m, rfl, rfl, by omega, _, _, rfl, rfl, ?_⟩
    show Q (.bl (decide ((n : Int) < (2 : Int) ^ m))) H
    rw [e2]
    exact q
/-! ### require_many, require_lot, require_lots -/
def spMany : Sp := fun vs H Q _ => ∃ n m : Nat, vs = [vN n, vN m] ∧ 1 ≤ n ∧ n ≤ m ∧ m ≤ 1000 ∧ Q .non H
theorem ok_require_many {fI : Addr} {fdI : FuncData} (gI : mg "is_integer" = some (.ref fI)) (FI : Fun K "is_integer" "is_integer" s_is_integer fI fdI) (bI : Binds K fdI ["value"] [])
    (GI : FnOk P w K mg base CX0 (k + 2) fI fdI ["value"] spInteger) (F : Fun K "require_many" "require_many" s_require_many f fd) : FnOk P w K mg base CX0 (k + 3) f fd ["value", "most"] spMany := by
  refine F.ok sc_require_many (fun vs H Q E h => ?_) (fun cdv A outer s H vs Q E hr h => ?_)
  · obtain ⟨n, m, rfl, _⟩ := h
    rfl
  · obtain ⟨n, m, rfl, h1, hn, hm, q⟩ := h
    refine ⟨_, pss_one (ps_if (PW.pt (pw_or (pt_not (pt_val (pe_call GI hr (by rfl) gI FI.kp bI .nil pass0 (pa_cons (pv 0) pa_nil))))
      (pw_or1 (pt_not (pt_chain op_le op_le pe_int (pv 0) (pv 1)))))) (pss_one ps_never) pss_nil), ?_⟩
    refine ⟨_, rfl, n, rfl, by omega, true, rfl, ?_⟩
    refine iteF ⟨_, rfl, _, _, rfl, rfl, _, rfl, ?_⟩
    have e1 : decide ((1 : Int) ≤ (n : Int)) = true := decide_eq_true (by omega)
    have e2 : decide ((n : Int) ≤ (m : Int)) = true := decide_eq_true (by omega)
    rw [e1]
    refine iteT ⟨_, rfl, _, _, rfl, rfl, _, rfl, ?_⟩
    rw [e2]
    exact q
/-- the places of a list behind its first: what [1:] gives -/
theorem cut_one (xs : List V) : cutV xs (some 1) none = xs.drop 1 := by
  unfold cutV
  have e : HT.sIx xs.length 0 (some 1) = min 1 xs.length := HT.sIx_nat xs.length 0 1
  rw [e, HT.sIx_none]
  cases xs with
  | nil => rfl
  | cons x r =>
    have e2 : min 1 (x :: r).length = 1 := by
      rw [List.length_cons]
      omega
    rw [e2]
    show List.take ((x :: r).length - 1) r = r
    rw [List.length_cons, Nat.add_sub_cancel]
    exact List.take_length
theorem same_mut {H H' : Hp} {p : Addr} {o : HO} (e : Same H H') (h : H p = none) : Same H (upd H' p o) := fun b x hb => by
  rw [upd_ne (ne_of_none hb h)]
  exact e b x hb
/-- a comprehension over zip of two tuples, the second one the shorter -/
theorem lc_zipT {a b : Addr} {xs ys : List V} {g : TG} {tt : TT} {te : TE} {vs : List Nat} {σ : L2.St} {H1 : Hp} {D : Addr} {Qd : Hp → Prop} (hxy : ys.length ≤ xs.length) (Pv : Nat → Hp → Prop) (h0 : Pv 0 (upd H1 D (.lst [])))
    (hl : ∀ i H, Pv i H → SqT K H a xs ∧ SqT K H b ys)
    (hs : ∀ i x y T H, xs[i]? = some x → ys[i]? = some y → Pv i H → H T = none → g (.ref T) (wipe σ vs) (upd H T (.tup [x, y])) fun σ2 H2 => wipe σ2 vs = wipe σ vs ∧ tt σ2 H2 fun c H3 =>
      if c = true then te σ2 H3 fun z H4 => ∃ acc, H4 D = some (.lst acc) ∧ acc.length < sizeLine ∧ Pv (i + 1) (upd H4 D (.lst (acc ++ [z]))) else Pv (i + 1) H3) (hd : ∀ H, Pv ys.length H → Qd H) :
    ∃ W : Nat → Nat → Hp → Prop, (∃ m, W 0 m (upd H1 D (.lst []))) ∧ ∀ i m H, W i m H →
      ((RZ.ItzT K a b).stop i H ∧ Qd H) ∨ ((RZ.ItzT K a b).go i H ∧ ∃ Nx : Hp → Prop, (∀ H', Nx H' → ∃ m', m' < m ∧ W (i + 1) m' H') ∧ ∀ x H', (RZ.ItzT K a b).yld i H x H' → g x (wipe σ vs) H' fun σ2 H2 => wipe σ2 vs = wipe σ vs ∧ tt σ2 H2 fun c H3 =>
        if c = true then te σ2 H3 fun z H4 => ∃ acc, H4 D = some (.lst acc) ∧ acc.length < sizeLine ∧ Nx (upd H4 D (.lst (acc ++ [z]))) else Nx H3) := by
  refine ⟨fun i m H => m = ys.length - i ∧ i ≤ ys.length ∧ Pv i H, ⟨ys.length, rfl, Nat.zero_le _, h0⟩, ?_⟩
  rintro i m H ⟨rfl, hi, p⟩
  obtain ⟨q1, q2⟩ := hl i H p
  by_cases hlt : i < ys.length
  · have hy : ys[i]? = some ys[i] := List.getElem?_eq_getElem hlt
    have hlt2 : i < xs.length := Nat.lt_of_lt_of_le hlt hxy
    have hx : xs[i]? = some xs[i] := List.getElem?_eq_getElem hlt2
    refine .inr ⟨⟨xs, ys, _, _, q1, q2, hx, hy⟩, Pv (i + 1), fun H' p' => ⟨ys.length - (i + 1), by omega, rfl, hlt, p'⟩, fun v H' hv => ?_⟩
    obtain ⟨T, x', y', rfl, hT, rfl, f1, f2⟩ := hv
    exact hs i x' y' T H (f1 xs q1) (f2 ys q2) p hT
  · have e : i = ys.length := by omega
    subst e
    exact .inl ⟨⟨xs, ys, q1, q2, .inr (Nat.le_refl _)⟩, hd H p⟩
theorem get_vN {A : List Nat} {i : Nat} {x : V} (h : (A.map vN)[i]? = some x) : ∃ n, A[i]? = some n ∧ x = vN n := by
  rw [List.getElem?_map] at h
  cases e : A[i]? with
  | none =>
    rw [e] at h
    cases h
  | some n =>
    rw [e] at h
    exact ⟨n, rfl, (Option.some.inj h).symm⟩
def spReqLot (K : PySem.W.Frag) : Sp := fun vs H Q _ => ∃ (a : Addr) (A : List Nat) (m : Nat), vs = [.ref a, vN m] ∧ SqT K H a (A.map vN) ∧ LotOk m A ∧ m ≤ 10 ∧ ∀ H', Same H H' → Q .non H'
theorem reps (i : Nat) : ((List.replicate i true).map V.bl) ++ [V.bl true] = (List.replicate (i + 1) true).map V.bl := by
  rw [List.replicate_succ', List.map_append]
  rfl
theorem all_reps (i : Nat) : (List.replicate i true).all id = true := by
  rw [List.all_eq_true]
  intro x hx
  rw [(List.mem_replicate.mp hx).2]
  rfl
theorem ok_require_lot {fW : Addr} {fdW : FuncData} (ms : mg "isinstance" = none) (mt : mg "tuple" = none) (ma : mg "all" = none) (mz : mg "zip" = none) (gW : mg "is_word" = some (.ref fW)) (FW : Fun K "is_word" "is_word" s_is_word fW fdW) (bW : Binds K fdW ["value", "many"] [])
    (GW : FnOk P w K mg base CX0 (k + 2) fW fdW ["value", "many"] spWord) (F : Fun K "require_lot" "require_lot" s_require_lot f fd) : FnOk P w K mg base CX0 (k + 3) f fd ["value", "many"] (spReqLot K) := by
  refine F.ok sc_require_lot (fun vs H Q E h => ?_) (fun cdv A outer s H vs Q E hr h => ?_)
  · obtain ⟨a, A, m, rfl, _⟩ := h
    rfl
  · obtain ⟨a, A, m, rfl, hA, lot, hm, q⟩ := h
    refine ⟨_, pss_cons (ps_if (PW.pt (pw_or (pt_not (pt_val (pe_callB call_isi (by rfl) ms (by decide +kernel) (pa_cons (pv 0) (pa_cons (pe_bltn (v := .ty "tuple") (by rfl) mt (by decide +kernel) rfl) pa_nil)))))
        (pw_or (pt_cmpR (op_eqD hr.units) (pv 0) (pe_tup pa_nil) (nomark _))
        (pw_or1 (pt_not (pt_val (pe_callB (cr_all rfl) (by rfl) ma (by decide +kernel) (pa_cons (pe_lc (own := [("word", 2)]) (g := gName 2) (tt := tYes) (by rfl) sc_require_lot.nd (pi_tup (pv 0))
          (blkOk_by (own := [("word", 2)]) (N := ["value", "many", "word", "one", "other"]) (sc := defScope s_require_lot) (by decide +kernel)) (fun _ _ _ _ _ => pg_name (i := 2) sc_require_lot.nd rfl (Or.inl rfl)) (fun _ _ _ _ _ => pts_nil)
          (fun _ _ _ _ _ => pe_call GW hr (by rfl) gW FW.kp bW .nil pass0 (pa_cons (pv 2) (pa_cons (pv 1) pa_nil)))) pa_nil))))))))
        (pss_one ps_never) pss_nil)
      (pss_one (ps_if (pt_not (pt_val (pe_callB (cr_all rfl) (by rfl) ma (by decide +kernel) (pa_cons (pe_lc (own := [("one", 3), ("other", 4)]) (g := gTup K 2 (gCons (gName 3) (gCons (gName 4) gNil))) (tt := tYes) (by rfl) sc_require_lot.nd
          (RZ.pi_zipA (by rfl) mz (pa_cons (pv 0) (pa_cons (pe_slice sl_tup (pv 0) (po_some pe_int) po_none) pa_nil)))
          (blkOk_by (own := [("one", 3), ("other", 4)]) (N := ["value", "many", "word", "one", "other"]) (sc := defScope s_require_lot) (by decide +kernel))
          (fun _ _ _ _ _ => pg_tup (by rfl) (pgs_cons (pg_name (i := 3) sc_require_lot.nd rfl (Or.inl rfl)) (pgs_cons (pg_name (i := 4) sc_require_lot.nd rfl (Or.inl rfl)) pgs_nil))) (fun _ _ _ _ _ => pts_nil)
          (fun _ _ _ _ _ => pe_cmpR op_lt (pv 3) (pv 4) (nomark _))) pa_nil))))
        (pss_one ps_never) pss_nil)), ?_⟩
    have hlen : (A.map vN).length ≤ 40 := by
      rw [List.length_map]
      exact lot.len
    have hsz : ∀ i, i ≤ 40 → ((List.replicate i true).map V.bl).length < sizeLine := fun i hi => by
      rw [List.length_map, List.length_replicate]
      exact Nat.lt_of_le_of_lt hi (by decide)
    refine ⟨_, rfl, .ref a, .ty "tuple", .type "tuple", _, true, rfl, .ty "tuple", tyx_t hA, kit_ty (by decide +kernel), true, rfl, iteF ?_⟩
    refine ⟨_, rfl, Nat.zero_le _, fun t0 nt => ?_⟩
    have s0 : Same H (upd H t0 (.tup [])) := same_new nt
    have hA0 := seqT s0 hA
    refine ⟨.tuple ((A.map vN).map scD), .tuple [], .tup hA0 (dpAll_sc (sc_N A)), .tup (.inl (.inl upd_same)) .nil, shaped_t (sc_layAll (sc_N A)).1 (by rw [(sc_layAll (sc_N A)).2]; omega), shaped_t rfl (Nat.zero_le _), _, rfl, ?_⟩
    have e0 : PyData.eqv (.tuple ((A.map vN).map scD)) (.tuple []) = false := by
      rw [eqv_nilT]
      cases A with
      | nil => exact absurd rfl lot.ne
      | cons x r => rfl
    rw [e0]
    refine iteF ?_
    -- all([is_word(word, many) for word in value])
    refine ⟨_, rfl, a, rfl, ⟨_, hA0⟩, fun D nD => ?_⟩
    refine lc_tup (xs := A.map vN) (fun i H' => Same (upd H t0 (.tup [])) H' ∧ H' D = some (.lst ((List.replicate i true).map V.bl))) ⟨same_new nD, upd_same⟩ (fun i H' _ p => seqT p.1 hA0) (fun i x H' hx p => ?_) (fun H' p => ?_)
    · obtain ⟨n, hn, rfl⟩ := get_vN hx
      have hi : i < (A.map vN).length := (List.getElem?_eq_some_iff.mp hx).1
      refine ⟨rfl, _, rfl, _, rfl, n, m, rfl, lot.lt n (List.mem_of_getElem? hn), hm, _, p.2, hsz i (by omega), same_mut p.1 nD, ?_⟩
      rw [reps]
      exact upd_same
    · refine ⟨D, _, rfl, .inl (.inl p.2), _, rfl, ?_⟩
      rw [all_reps]
      -- all([one < other for one, other in zip(value, value[1:])])
      have hA1 := seqT p.1 hA0
      refine ⟨_, rfl, _, rfl, 1, rfl, a, _, rfl, hA1, fun z => ?_, fun c nc => ?_⟩
      · have z1 : HT.sIx (A.map vN).length 0 (some 1) = min 1 (A.map vN).length := HT.sIx_nat _ 0 1
        rw [z1, List.length_map] at z
        have : A.length ≠ 0 := fun e => lot.ne (List.eq_nil_of_length_eq_zero e)
        omega
      have s2 := same_new (o := .tup (cutV (A.map vN) (some 1) none)) nc
      refine ⟨a, c, _, _, rfl, .inr ⟨seqT s2 hA1, .inl (.inl upd_same), fun D2 nD2 => ?_⟩⟩
      rw [cut_one] at s2 nD2 ⊢
      refine lc_zipT (xs := A.map vN) (ys := (A.map vN).drop 1) (by rw [List.length_drop]; omega) (fun i H'' => Same (upd H' c (.tup ((A.map vN).drop 1))) H'' ∧ H'' D2 = some (.lst ((List.replicate i true).map V.bl))) ⟨same_new nD2, upd_same⟩
        (fun i H'' p2 => ⟨seqT p2.1 (seqT s2 hA1), seqT p2.1 (.inl (.inl upd_same))⟩) (fun i x y T H'' hx hy p2 nT => ?_) (fun H'' p2 => ?_)
      · obtain ⟨n, hn, rfl⟩ := get_vN hx
        rw [List.getElem?_drop] at hy
        obtain ⟨n2, hn2, rfl⟩ := get_vN hy
        have hi : i < (A.map vN).length := (List.getElem?_eq_some_iff.mp hx).1
        have hlt : n < n2 := by
          obtain ⟨h1, e1⟩ := List.getElem?_eq_some_iff.mp hn
          obtain ⟨h2, e2⟩ := List.getElem?_eq_some_iff.mp hn2
          rw [← e1, ← e2]
          exact (List.pairwise_iff_getElem.mp lot.asc) i (1 + i) h1 h2 (by omega)
        have e3 : decide ((n : Int) < (n2 : Int)) = true := decide_eq_true (by omega)
        have nT2 : D2 ≠ T := ne_of_none p2.2 nT
        refine ⟨T, _, rfl, .inl (.inl upd_same), rfl, _, _, rfl, _, _, rfl, rfl, rfl, _, rfl, _, rfl, _, _, rfl, rfl, _, ?_, hsz i (by omega), same_mut (p2.1.trans (same_new nT)) nD2, ?_⟩
        · rw [upd_ne nT2]
          exact p2.2
        · show upd _ D2 (.lst (((List.replicate i true).map V.bl) ++ [V.bl (decide ((n : Int) < (n2 : Int)))])) D2 = _
          rw [e3, reps]
          exact upd_same
      · refine ⟨D2, _, rfl, .inl (.inl p2.2), _, rfl, ?_⟩
        rw [all_reps]
        exact q _ (((s0.trans p.1).trans s2).trans p2.1)
def spReqLots (K : PySem.W.Frag) : Sp := fun vs H Q _ => ∃ (a b : Addr) (A B : List Nat) (m : Nat), vs = [.ref a, .ref b, vN m] ∧ SqT K H a (A.map vN) ∧ SqT K H b (B.map vN) ∧ LotOk m A ∧ LotOk m B ∧ 1 ≤ m ∧ m ≤ 10 ∧ ∀ H', Same H H' → Q .non H'
theorem ok_require_lots {fM fL : Addr} {fdM fdL : FuncData} {tM : Tok} (mM : mg "MAX_LETTERS" = some (.int 10 tM)) (gM : mg "require_many" = some (.ref fM)) (FM : Fun K "require_many" "require_many" s_require_many fM fdM) (bM : Binds K fdM ["value", "most"] [])
    (GM : FnOk P w K mg base CX0 (k + 3) fM fdM ["value", "most"] spMany) (gL : mg "require_lot" = some (.ref fL)) (FL : Fun K "require_lot" "require_lot" s_require_lot fL fdL) (bL : Binds K fdL ["value", "many"] [])
    (GL : FnOk P w K mg base CX0 (k + 3) fL fdL ["value", "many"] (spReqLot K)) (F : Fun K "require_lots" "require_lots" s_require_lots f fd) : FnOk P w K mg base CX0 (k + 4) f fd ["firsts", "seconds", "many"] (spReqLots K) := by
  refine F.ok sc_require_lots (fun vs H Q E h => ?_) (fun cdv A outer s H vs Q E hr h => ?_)
  · obtain ⟨a, b, A, B, m, rfl, _⟩ := h
    rfl
  · obtain ⟨a, b, A, B, m, rfl, hA, hB, la, lb, h1, hm, q⟩ := h
    refine ⟨_, pss_cons (ps_expr (pe_call GM hr (by rfl) gM FM.kp bM .nil pass0 (pa_cons (pv 2) (pa_cons (pe_glob (v := .int 10) (by rfl) mM ⟨_, rfl⟩) pa_nil))))
      (pss_cons (ps_expr (pe_call GL hr (by rfl) gL FL.kp bL .nil pass0 (pa_cons (pv 0) (pa_cons (pv 2) pa_nil))))
      (pss_one (ps_expr (pe_call GL hr (by rfl) gL FL.kp bL .nil pass0 (pa_cons (pv 1) (pa_cons (pv 2) pa_nil)))))), ?_⟩
    refine ⟨_, rfl, m, 10, rfl, h1, hm, by decide, ?_⟩
    refine ⟨_, rfl, _, rfl, a, A, m, rfl, hA, la, hm, fun H1 s1 => ?_⟩
    exact ⟨_, rfl, _, rfl, b, B, m, rfl, seqT s1 hB, lb, hm, fun H2 s2 => q _ (s1.trans s2)⟩
end
end Sq
set_option Elab.async false
set_option linter.all false
set_option maxRecDepth 100000
set_option maxHeartbeats 4000000
namespace Sq
open PySem PySem.Spec PyProof.Rows L2
/-! ### everything but the table -/
structure Kp (Pt : Addr) (H H' : Hp) : Prop where
  tab : GxR.TabG H' Pt
  keep : ∀ b o, (∀ ps, o ≠ .tbl ps) → H b = some o → H' b = some o
theorem Kp.trans {Pt : Addr} {H H1 H2 : Hp} (a : Kp Pt H H1) (b : Kp Pt H1 H2) : Kp Pt H H2 := ⟨b.tab, fun c o n e => b.keep c o n (a.keep c o n e)⟩
theorem tab_same {Pt : Addr} {H H' : Hp} (t : GxR.TabG H Pt) (s : Same H H') : GxR.TabG H' Pt := let ⟨ps, e, h⟩ := t; ⟨ps, s _ _ e, h⟩
theorem Kp.same {Pt : Addr} {H H' : Hp} (t : GxR.TabG H Pt) (s : Same H H') : Kp Pt H H' := ⟨tab_same t s, fun b o _ e => s b o e⟩
theorem Kp.tabbed {Pt : Addr} {H H' : Hp} (t : GxR.TabG H Pt) (s : GxR.Tabbed Pt H H') : Kp Pt H H' := ⟨s.1, fun b o n e => by
  have nb : b ≠ Pt := fun z => by
    obtain ⟨ps, e2, _⟩ := t
    rw [z, e2] at e
    exact n ps (Option.some.inj e).symm
  rw [s.2 b nb]
  exact e⟩
theorem Kp.t {K : PySem.W.Frag} {Pt a : Addr} {H H' : Hp} {xs : List V} (e : Kp Pt H H') (h : SqT K H a xs) : SqT K H' a xs := by
  rcases h with (h | ⟨o, h⟩) | h
  · exact .inl (.inl (e.keep _ _ (fun _ z => by cases z) h))
  · exact .inl (.inr ⟨o, e.keep _ _ (fun _ z => by cases z) h⟩)
  · exact .inr h
theorem Kp.l {K : PySem.W.Frag} {Pt a : Addr} {H H' : Hp} {xs : List V} (e : Kp Pt H H') (h : SqL K H a xs) : SqL K H' a xs := by
  rcases h with (h | ⟨o, h⟩) | h
  · exact .inl (.inl (e.keep _ _ (fun _ z => by cases z) h))
  · exact .inl (.inr ⟨o, e.keep _ _ (fun _ z => by cases z) h⟩)
  · exact .inr h
section
variable {P : Program} {w : World} {K : PySem.W.Frag} {mg : Str → Option Value} {base : Heap} {f : Addr} {fd : FuncData} {k : Nat}
/-- a def of the text whose code object is known -/
structure FunC (K : PySem.W.Frag) (x qual : Str) (st : Stmt) (f : Addr) (fd : FuncData) (c : Addr) : Prop where
  ex : ∃ (oc : Value) (od : Option Addr) (kV doc pm : Value) (an : Option Addr) (ct : Value) (osl : Array (Option Value)),
    fd = PySem.W.fnOf x qual (defArgs st) (defBody st) (defScope st) .none kV doc pm an (.ref c) ct ∧ K.lookup f = some ⟨oc, od, .func fd, osl⟩ ∧ PySem.W.codeIn K (.ref c) qual = true
  kp : PySem.W.keepIn K (.ref f) = true
/-- members has the lot's words as its keys -/
def KeysOf (kvs : List (Key × V)) (A : List Nat) : Prop := ∀ n : Nat, (valV kvs (Sum.inl (n : Int) : Key)).isSome = decide (n ∈ A)
theorem tst_iff {kvs : List (Key × V)} {A : List Nat} (h : KeysOf kvs A) {kk wd : Nat} (hw : wd ∈ A) : SqG.tst kvs kk wd = true ↔ PairD A kk wd := by
  unfold SqG.tst PairD
  rw [h, Bool.and_eq_true, decide_eq_true_eq, decide_eq_true_eq]
  exact ⟨fun ⟨a, b⟩ => ⟨hw, a, b⟩, fun ⟨_, a, b⟩ => ⟨a, b⟩⟩
def spPair (K : PySem.W.Frag) (Pt : Addr) : Sp := fun vs H Q _ => ∃ (a d : Addr) (A : List Nat) (kvs : List (Key × V)) (kk : Nat), vs = [.ref a, .ref d, vN kk] ∧ SqT K H a (A.map vN) ∧ H d = some (.dK kvs) ∧ KeysOf kvs A ∧ GxR.TabG H Pt ∧
  ((¬ ∃ wd, PairD A kk wd) → ∀ H', Kp Pt H H' → Q .non H') ∧ (∀ wd, PairD A kk wd → ∀ H' p, Kp Pt H H' → H' p = some (.tup [vN wd, vN (wd ^^^ kk)]) → Q (.ref p) H')
theorem ok_pair_with {c Pt : Addr} (mn : mg "next" = none) (TB : GxR.TabB base mg c Pt) (F : FunC K "pair_with" "pair_with" s_pair_with f fd c) : FnOk P w K mg base CX0 (k + 1) f fd ["lot", "members", "apart"] (spPair K Pt) := by
  obtain ⟨oc, od, kV, doc, pm, an, ct, osl, rfl, lk, hcd⟩ := F.ex
  refine fn_of lk hcd sc_pair_with (fun vs H Q E h => ?_) (fun A outer s H vs Q E hr h => ?_)
  · obtain ⟨a, d, A, kvs, kk, rfl, _⟩ := h
    rfl
  · obtain ⟨a, d, A, kvs, kk, rfl, hA, hD, hK, tab, q1, q2⟩ := h
    refine ⟨_, PSs.nox (pss_one (ps_ret (SqG.pe_first hr (by rfl) mn TB rfl rfl rfl rfl rfl rfl))), ?_⟩
    refine ⟨a, d, A, kvs, kk, rfl, rfl, rfl, hA, hD, tab, fun hn H' hT => q1 (fun ⟨wd, hw⟩ => ?_) H' (Kp.tabbed tab hT), fun wd hw hs H' p hT hp => ?_⟩
    · have h1 := hn wd hw.1
      rw [(tst_iff hK hw.1).mpr hw] at h1
      cases h1
    · have kp := Kp.tabbed tab hT
      exact q2 wd ((tst_iff hK hw).mp hs) _ p (kp.trans (Kp.same kp.tab (same_new hp))) upd_same
end
end Sq
set_option Elab.async false
set_option linter.all false
set_option maxRecDepth 100000
set_option maxHeartbeats 4000000
namespace Sq
open PySem PySem.Spec PyProof.Rows L2
/-- a plain test and a test that stores a name, both -/
def wAnd (t : TT) (u : TTw) : TTw := fun σ H Q => t σ H fun c H1 => if c = true then u σ H1 Q else Q false σ H1
theorem ptw_and2 {X : Cx} {a b : Expr} {pos : Pos} {t : TT} {u : TTw} (ha : PT X a t) (hb : PTw X b u) : PTw X (.BoolOp .And [a, b] pos) (wAnd t u) := by
  refine ⟨fun pins s σ H Q I h => ?_⟩
  refine isTrue_and (thn (ha.run pins s σ H _ I h) fun c s1 ⟨H1, I1, q1⟩ => ?_)
  cases c with
  | false => exact ⟨σ, H1, I1, q1⟩
  | true =>
    refine isTrue_and (thn (hb.run pins s1 σ H1 _ I1 q1) fun c s2 e => ?_)
    cases c with
    | true => exact isTrue_and_nil e
    | false => exact e
theorem keys_put {kvs : List (Key × V)} {A : List Nat} {n : Nat} {i : Nat} (h : KeysOf kvs (A.take i)) (hn : A[i]? = some n) (v : V) : KeysOf (putK kvs (Sum.inl (n : Int) : Key) v) (A.take (i + 1)) := fun j => by
  rw [valV_put, List.take_add_one, hn]
  by_cases e : (Sum.inl (j : Int) : Key) = Sum.inl (n : Int)
  · rw [if_pos e]
    have e2 : j = n := by
      have := Sum.inl.inj e
      omega
    subst e2
    simp
  · rw [if_neg e, h j]
    have e2 : j ≠ n := fun z => e (by rw [z])
    simp [e2]
section
variable {P : Program} {w : World} {K : PySem.W.Frag} {mg : Str → Option Value} {base : Heap} {f : Addr} {fd : FuncData} {k : Nat}
def spClashIn (K : PySem.W.Frag) (Pt : Addr) : Sp := fun vs H Q _ => ∃ (a b : Addr) (A B : List Nat) (m : Nat), vs = [.ref a, .ref b, vN m] ∧ SqT K H a (A.map vN) ∧ SqT K H b (B.map vN) ∧ LotOk m A ∧ LotOk m B ∧ m ≤ 10 ∧ GxR.TabG H Pt ∧
  (¬ Cl A B → ∀ H', Kp Pt H H' → Q .non H') ∧ (∀ x y u v, IsCl A B x y u v → ∀ H' p, Kp Pt H H' → H' p = some (.tup [vN x, vN y, vN u, vN v]) → Q (.ref p) H')
theorem ok_clash_in {c Pt fW fP : Addr} {fdW fdP : FuncData} (mr : mg "range" = none) (gW : mg "weight_of" = some (.ref fW)) (FW : Fun K "weight_of" "weight_of" s_weight_of fW fdW) (bW : Binds K fdW ["x"] []) (GW : FnOk P w K mg base CX0 (k + 1) fW fdW ["x"] spWeight)
    (gP : mg "pair_with" = some (.ref fP)) (kP : PySem.W.keepIn K (.ref fP) = true) (bP : Binds K fdP ["lot", "members", "apart"] []) (GP : FnOk P w K mg base CX0 (k + 1) fP fdP ["lot", "members", "apart"] (spPair K Pt))
    (F : Fun K "clash_in" "clash_in" s_clash_in f fd) : FnOk P w K mg base CX0 (k + 2) f fd ["firsts", "seconds", "many"] (spClashIn K Pt) := by
  refine F.ok sc_clash_in (fun vs H Q E h => ?_) (fun cdv A outer s H vs Q E hr h => ?_)
  · obtain ⟨a, b, A, B, m, rfl, _⟩ := h
    rfl
  · obtain ⟨a, b, A, B, m, rfl, hA, hB, la, lb, hm, tab, q1, q2⟩ := h
    refine ⟨_, pss_cons (ps_par (i := 3) (j := 4) (by rfl) sc_clash_in.nd rfl rfl (by decide) rfl rfl
        (pa_cons (pe_dc (own := [("word", 8)]) (g := gName 8) (tt := tYes) (by rfl) sc_clash_in.nd (pi_tup (pv 0)) (blkOk_by (own := [("word", 8)]) (N := ["firsts", "seconds", "many", "left", "right", "apart", "one", "other", "word"]) (sc := defScope s_clash_in) (by decide +kernel)) (fun _ _ _ _ _ => pg_name (i := 8) sc_clash_in.nd rfl (Or.inl rfl)) (fun _ _ _ _ _ => pts_nil) (fun _ _ _ _ _ => pv 8) (fun _ _ _ _ _ => pe_bl))
        (pa_cons (pe_dc (own := [("word", 8)]) (g := gName 8) (tt := tYes) (by rfl) sc_clash_in.nd (pi_tup (pv 1)) (blkOk_by (own := [("word", 8)]) (N := ["firsts", "seconds", "many", "left", "right", "apart", "one", "other", "word"]) (sc := defScope s_clash_in) (by decide +kernel)) (fun _ _ _ _ _ => pg_name (i := 8) sc_clash_in.nd rfl (Or.inl rfl)) (fun _ _ _ _ _ => pts_nil) (fun _ _ _ _ _ => pv 8) (fun _ _ _ _ _ => pe_bl)) pa_nil)) (by rfl))
      (pss_cons (ps_for PassesOwn.never rfl (pi_range2 (by rfl) mr (pa_cons pe_int (pa_cons (pe_op op_oneShl pe_int (pv 2)) pa_nil))) (pg_name (i := 5) sc_clash_in.nd rfl (.inl rfl))
        (pss_one (ps_ifW (ptw_and2 (pt_cmpR op_eq (pe_op op_mod (pe_call GW hr (by rfl) gW FW.kp bW .nil pass0 (pa_cons (pv 5) pa_nil)) pe_int) pe_int (nomark _))
            (ptw_cmp op_notN (pew_named (i := 6) sc_clash_in.nd rfl (.inl rfl) (pew_of (pe_call GP hr (by rfl) gP kP bP .nil pass0 (pa_cons (pv 0) (pa_cons (pv 3) (pa_cons (pv 5) pa_nil)))))) pe_non (nomark _)))
          (pss_one (ps_ifW (ptw_cmp op_notN (pew_named (i := 7) sc_clash_in.nd rfl (.inl rfl) (pew_of (pe_call GP hr (by rfl) gP kP bP .nil pass0 (pa_cons (pv 1) (pa_cons (pv 4) (pa_cons (pv 5) pa_nil)))))) pe_non (nomark _))
            (pss_one (ps_ret (pe_tup (StX.pa_star (pv 6) (StX.pa_star (pv 7) pa_nil))))) pss_nil)) pss_nil)))
      (pss_one (ps_ret pe_non))), ?_⟩
    have lenA : (A.map vN).length ≤ 40 := by
      rw [List.length_map]
      exact la.len
    have lenB : (B.map vN).length ≤ 40 := by
      rw [List.length_map]
      exact lb.len
    refine ⟨_, rfl, a, rfl, ⟨_, hA⟩, fun d1 n1 => ?_⟩
    refine dc_tup (xs := A.map vN) (fun i H' => Same H H' ∧ ∃ kvs, H' d1 = some (.dK kvs) ∧ KeysOf kvs (A.take i) ∧ kvs.length ≤ i) ⟨same_new n1, [], upd_same, fun n => by simp [valV], Nat.le_refl _⟩ (fun i H' _ p => seqT p.1 hA) (fun i x H' hx p => ?_) (fun H1 p => ?_)
    · obtain ⟨s1, kvs, hD, hK, hl⟩ := p
      obtain ⟨n, hn, rfl⟩ := get_vN hx
      have hi : i < (A.map vN).length := (List.getElem?_eq_some_iff.mp hx).1
      exact ⟨rfl, _, rfl, kvs, Sum.inl (n : Int), rfl, hD, Nat.lt_of_le_of_lt (by omega : kvs.length ≤ 40) (by decide), same_mut s1 n1, _, upd_same, keys_put hK hn _, Nat.le_trans (length_putK _ _ _) (by omega)⟩
    obtain ⟨s1, k1, hD1, hK1, -⟩ := p
    rw [List.length_map, List.take_length] at hK1
    have hB1 := seqT s1 hB
    refine ⟨_, rfl, b, rfl, ⟨_, hB1⟩, fun d2 n2 => ?_⟩
    refine dc_tup (xs := B.map vN) (fun i H' => Same H1 H' ∧ ∃ kvs, H' d2 = some (.dK kvs) ∧ KeysOf kvs (B.take i) ∧ kvs.length ≤ i) ⟨same_new n2, [], upd_same, fun n => by simp [valV], Nat.le_refl _⟩ (fun i H' _ p => seqT p.1 hB1) (fun i x H' hx p => ?_) (fun H2 p => ?_)
    · obtain ⟨s2, kvs, hD, hK, hl⟩ := p
      obtain ⟨n, hn, rfl⟩ := get_vN hx
      have hi : i < (B.map vN).length := (List.getElem?_eq_some_iff.mp hx).1
      exact ⟨rfl, _, rfl, kvs, Sum.inl (n : Int), rfl, hD, Nat.lt_of_le_of_lt (by omega : kvs.length ≤ 40) (by decide), same_mut s2 n2, _, upd_same, keys_put hK hn _, Nat.le_trans (length_putK _ _ _) (by omega)⟩
    obtain ⟨s2, k2, hD2, hK2, -⟩ := p
    rw [List.length_map, List.take_length] at hK2
    have s12 : Same H H2 := s1.trans s2
    refine ⟨_, _, rfl, ?_⟩
    have h2m : ((2 ^ m : Nat) : Int) = (2 : Int) ^ m := by simp
    have hpow : 2 ^ m ≤ 2 ^ 10 := Nat.pow_le_pow_right (by decide) hm
    obtain ⟨tt, ht⟩ : ∃ tt : Nat, 2 ^ m = tt := ⟨_, rfl⟩
    rw [ht] at h2m hpow
    refine ⟨_, rfl, m, rfl, rfl, by omega, 1, (2 : Int) ^ m, rfl, ?_⟩
    rw [← h2m]
    refine ⟨⟨by decide, by decide, by omega, by omega⟩, ?_⟩
    refine for_range (lo := 1) (n := ((tt : Int) - 1).toNat) (fun i σ' H' => ∃ y5 y6 y7, σ' = [some (.ref a), some (.ref b), some (vN m), some (.ref d1), some (.ref d2), y5, y6, y7, none] ∧ Kp Pt H H' ∧ H' d1 = some (.dK k1) ∧ H' d2 = some (.dK k2) ∧
      ∀ kk, 1 ≤ kk → kk < 1 + i → wt kk % 4 = 0 → ¬ ((∃ wd, PairD A kk wd) ∧ ∃ wd, PairD B kk wd)) ⟨none, none, none, rfl, Kp.same tab s12, s2 _ _ hD1, hD2, fun kk h1 h2 => by omega⟩ (fun i σ' H' hi p => ?_) (fun σ' H' p => ?_)
    · rw [show (1 : Int) + (i : Int) = ((i + 1 : Nat) : Int) by omega]
      obtain ⟨y5, y6, y7, rfl, kp, e1, e2, old⟩ := p
      have nxt : ∀ (z6 z7 : Option V) (H9 : Hp), Kp Pt H' H9 → ¬ (wt (i + 1) % 4 = 0 ∧ (∃ wd, PairD A (i + 1) wd) ∧ ∃ wd, PairD B (i + 1) wd) →
          ∃ y5 y6 y7, [some (.ref a), some (.ref b), some (vN m), some (.ref d1), some (.ref d2), some (.int ((i + 1 : Nat) : Int)), z6, z7, none] = [some (.ref a), some (.ref b), some (vN m), some (.ref d1), some (.ref d2), y5, y6, y7, none] ∧ Kp Pt H H9 ∧ H9 d1 = some (.dK k1) ∧ H9 d2 = some (.dK k2) ∧
            ∀ kk, 1 ≤ kk → kk < 1 + (i + 1) → wt kk % 4 = 0 → ¬ ((∃ wd, PairD A kk wd) ∧ ∃ wd, PairD B kk wd) := fun z6 z7 H9 k9 hno => by
        refine ⟨_, _, _, rfl, kp.trans k9, k9.keep _ _ (fun _ z => by cases z) e1, k9.keep _ _ (fun _ z => by cases z) e2, fun kk h1 h2 h3 => ?_⟩
        by_cases z : kk = i + 1
        · subst z
          exact fun q => hno ⟨h3, q⟩
        · exact old kk h1 (by omega) h3
      refine ⟨_, rfl, i + 1, rfl, _, _, rfl, rfl, (by show (0 : Int) < 4; decide), rfl, _, rfl, ite2 (fun hc => ?_) (fun hc => ?_)⟩
      · have four : wt (i + 1) % 4 = 0 := by
          have := V.int.inj (of_decide_eq_true hc)
          omega
        refine ⟨_, rfl, _, rfl, _, rfl, a, d1, A, k1, i + 1, rfl, kp.t hA, e1, hK1, kp.tab, fun hno H3 k3 => ?_, fun wd hw H3 p k3 hp => ?_⟩
        · exact ⟨rfl, _, rfl, nxt _ _ H3 k3 (fun z => hno z.2.1)⟩
        · refine ⟨rfl, _, rfl, ?_⟩
          refine ⟨_, rfl, _, rfl, _, rfl, b, d2, B, k2, i + 1, rfl, k3.t (kp.t hB), k3.keep _ _ (fun _ z => by cases z) e2, hK2, k3.tab, fun hno H4 k4 => ?_, fun w2 hw2 H4 p2 k4 hp2 => ?_⟩
          · exact ⟨rfl, _, rfl, nxt _ _ H4 (k3.trans k4) (fun z => hno z.2.2)⟩
          · refine ⟨rfl, _, rfl, ?_⟩
            refine ⟨_, rfl, p, _, rfl, .inl (k4.t (.inl (.inl hp))), _, rfl, p2, _, rfl, .inl (.inl (.inl hp2)), (by show 4 ≤ sizeLine; decide), fun p3 n3 => ?_⟩
            exact q2 _ _ _ _ (cl_pair four hw hw2) _ p3 (((kp.trans k3).trans k4).trans (Kp.same k4.tab (same_new n3))) upd_same
      · exact nxt _ _ H' (Kp.same kp.tab (Same.refl _)) (fun z => hc (decide_eq_true (by
          have := z.1
          exact congrArg V.int (by omega))))
    · obtain ⟨y5, y6, y7, rfl, kp, _, _, old⟩ := p
      refine q1 (fun cl => ?_) H' kp
      obtain ⟨kk, h4, h5, h6⟩ := cl_pairs.mp cl
      obtain ⟨wd, hw⟩ := h5
      have hk := pair_lt (fun x hx => la.lt x hx) hw
      exact old kk hk.1 (by rw [ht] at hk; omega) h4 ⟨⟨wd, hw⟩, h6⟩
end
end Sq
set_option Elab.async false
set_option linter.all false
set_option maxRecDepth 100000
set_option maxHeartbeats 4000000
namespace Sq
open PySem PySem.Spec PyProof.Rows L2
section
variable {P : Program} {w : World} {K : PySem.W.Frag} {mg : Str → Option Value} {base : Heap} {f : Addr} {fd : FuncData} {k : Nat}
/-! ### are_let, clash -/
def spAreLet (K : PySem.W.Frag) (Pt : Addr) : Sp := fun vs H Q _ => ∃ (a b : Addr) (A B : List Nat) (m : Nat), vs = [.ref a, .ref b, vN m] ∧ SqT K H a (A.map vN) ∧ SqT K H b (B.map vN) ∧ LotOk m A ∧ LotOk m B ∧ 1 ≤ m ∧ m ≤ 10 ∧ GxR.TabG H Pt ∧
  ∀ (r : Bool) H', (r = true ↔ ¬ Cl A B) → Kp Pt H H' → Q (.bl r) H'
theorem ok_are_let {Pt fR fC : Addr} {fdR fdC : FuncData} (gR : mg "require_lots" = some (.ref fR)) (FR : Fun K "require_lots" "require_lots" s_require_lots fR fdR) (bR : Binds K fdR ["firsts", "seconds", "many"] []) (GR : FnOk P w K mg base CX0 (k + 4) fR fdR ["firsts", "seconds", "many"] (spReqLots K))
    (gC : mg "clash_in" = some (.ref fC)) (FC : Fun K "clash_in" "clash_in" s_clash_in fC fdC) (bC : Binds K fdC ["firsts", "seconds", "many"] []) (GC : FnOk P w K mg base CX0 (k + 4) fC fdC ["firsts", "seconds", "many"] (spClashIn K Pt))
    (F : Fun K "are_let" "are_let" s_are_let f fd) : FnOk P w K mg base CX0 (k + 5) f fd ["firsts", "seconds", "many"] (spAreLet K Pt) := by
  refine F.ok sc_are_let (fun vs H Q E h => ?_) (fun cdv A outer s H vs Q E hr h => ?_)
  · obtain ⟨a, b, A, B, m, rfl, _⟩ := h
    rfl
  · obtain ⟨a, b, A, B, m, rfl, hA, hB, la, lb, h1, hm, tab, q⟩ := h
    refine ⟨_, pss_cons (ps_expr (pe_call GR hr (by rfl) gR FR.kp bR .nil pass0 (pa_cons (pv 0) (pa_cons (pv 1) (pa_cons (pv 2) pa_nil)))))
      (pss_one (ps_ret (pe_cmpR op_isN (pe_call GC hr (by rfl) gC FC.kp bC .nil pass0 (pa_cons (pv 0) (pa_cons (pv 1) (pa_cons (pv 2) pa_nil)))) pe_non (nomark _)))), ?_⟩
    refine ⟨_, rfl, _, rfl, _, rfl, a, b, A, B, m, rfl, hA, hB, la, lb, h1, hm, fun H1 s1 => ?_⟩
    have t1 := tab_same tab s1
    refine ⟨_, rfl, _, rfl, _, rfl, a, b, A, B, m, rfl, seqT s1 hA, seqT s1 hB, la, lb, hm, t1, fun hno H2 k2 => ?_, fun x y u v cl H2 p k2 hp => ?_⟩
    · exact ⟨rfl, q true H2 ⟨fun _ => hno, fun _ => rfl⟩ ((Kp.same tab s1).trans k2)⟩
    · exact ⟨rfl, q false H2 ⟨fun z => (by cases z), fun z => absurd ⟨x, y, u, v, cl⟩ z⟩ ((Kp.same tab s1).trans k2)⟩
def spClash (K : PySem.W.Frag) (Pt : Addr) : Sp := fun vs H Q _ => ∃ (a b : Addr) (A B : List Nat) (m : Nat), vs = [.ref a, .ref b, vN m] ∧ SqT K H a (A.map vN) ∧ SqT K H b (B.map vN) ∧ LotOk m A ∧ LotOk m B ∧ 1 ≤ m ∧ m ≤ 10 ∧ GxR.TabG H Pt ∧
  (¬ Cl A B → ∀ H', Kp Pt H H' → Q .non H') ∧ (∀ x y u v, IsCl A B x y u v → ∀ H' p, Kp Pt H H' → H' p = some (.tup [vN x, vN y, vN u, vN v]) → Q (.ref p) H')
theorem ok_clash {Pt fR fC : Addr} {fdR fdC : FuncData} (gR : mg "require_lots" = some (.ref fR)) (FR : Fun K "require_lots" "require_lots" s_require_lots fR fdR) (bR : Binds K fdR ["firsts", "seconds", "many"] []) (GR : FnOk P w K mg base CX0 (k + 4) fR fdR ["firsts", "seconds", "many"] (spReqLots K))
    (gC : mg "clash_in" = some (.ref fC)) (FC : Fun K "clash_in" "clash_in" s_clash_in fC fdC) (bC : Binds K fdC ["firsts", "seconds", "many"] []) (GC : FnOk P w K mg base CX0 (k + 4) fC fdC ["firsts", "seconds", "many"] (spClashIn K Pt))
    (F : Fun K "clash" "clash" s_clash f fd) : FnOk P w K mg base CX0 (k + 5) f fd ["firsts", "seconds", "many"] (spClash K Pt) := by
  refine F.ok sc_clash (fun vs H Q E h => ?_) (fun cdv A outer s H vs Q E hr h => ?_)
  · obtain ⟨a, b, A, B, m, rfl, _⟩ := h
    rfl
  · obtain ⟨a, b, A, B, m, rfl, hA, hB, la, lb, h1, hm, tab, q1, q2⟩ := h
    refine ⟨_, pss_cons (ps_expr (pe_call GR hr (by rfl) gR FR.kp bR .nil pass0 (pa_cons (pv 0) (pa_cons (pv 1) (pa_cons (pv 2) pa_nil)))))
      (pss_one (ps_ret (pe_call GC hr (by rfl) gC FC.kp bC .nil pass0 (pa_cons (pv 0) (pa_cons (pv 1) (pa_cons (pv 2) pa_nil)))))), ?_⟩
    refine ⟨_, rfl, _, rfl, _, rfl, a, b, A, B, m, rfl, hA, hB, la, lb, h1, hm, fun H1 s1 => ?_⟩
    have t1 := tab_same tab s1
    exact ⟨_, rfl, _, rfl, _, rfl, a, b, A, B, m, rfl, seqT s1 hA, seqT s1 hB, la, lb, hm, t1, fun hno H2 k2 => q1 hno H2 ((Kp.same tab s1).trans k2), fun x y u v cl H2 p k2 hp => q2 x y u v cl H2 p ((Kp.same tab s1).trans k2) hp⟩
/-! ### a value, as both judges see it -/
/-- a value that is judged: no tuple, or a tuple of plain values -/
inductive ValOk (K : PySem.W.Frag) (H : Hp) : V → Option (List V) → Prop where
  | sc {v : V} (h : Sc v) : ValOk K H v none
  | lst {p : Addr} {xs : List V} (h : H p = some (.lst xs)) : ValOk K H (.ref p) none
  | tup {p : Addr} {xs : List V} (h : SqT K H p xs) (hs : ∀ x ∈ xs, Sc x) (hl : xs.length ≤ 100) : ValOk K H (.ref p) (some xs)
def dueI (A B : List Nat) (a b c d : Int) : Bool :=
  inV (.int a) (A.map vN) && inV (.int b) (A.map vN) && inV (.int c) (B.map vN) && inV (.int d) (B.map vN) && decide (a < b) && decide (c < d) && (a.toNat ^^^ b.toNat == c.toNat ^^^ d.toNat) && (wt (a.toNat ^^^ b.toNat) % 4 == 0)
def due (A B : List Nat) : Option (List V) → Bool
  | some [.int a, .int b, .int c, .int d] => dueI A B a b c d
  | _ => false
theorem inV_nat {A : List Nat} {a : Int} (h : inV (.int a) (A.map vN) = true) : ∃ n, n ∈ A ∧ a = (n : Int) := by
  unfold inV at h
  rw [List.any_eq_true] at h
  obtain ⟨y, hy, e⟩ := h
  obtain ⟨n, hn, rfl⟩ := List.mem_map.mp hy
  refine ⟨n, hn, ?_⟩
  have e2 : ((n : Int) == a) = true := e
  exact (beq_iff_eq.mp e2).symm
theorem nat_inV {A : List Nat} {n : Nat} (h : n ∈ A) : inV (vN n) (A.map vN) = true := by
  unfold inV
  rw [List.any_eq_true]
  exact ⟨vN n, List.mem_map.mpr ⟨n, h, rfl⟩, beq_iff_eq.mpr rfl⟩
theorem flat_N (A : List Nat) : (A.map vN).all flatV = true := by
  rw [List.all_eq_true]
  intro y hy
  obtain ⟨n, _, rfl⟩ := List.mem_map.mp hy
  rfl
theorem due_cl {A B : List Nat} {x y u v : Nat} (h : IsCl A B x y u v) : due A B (some [vN x, vN y, vN u, vN v]) = true := by
  show dueI A B (x : Int) (y : Int) (u : Int) (v : Int) = true
  unfold dueI
  rw [nat_inV h.ha, nat_inV h.hb, nat_inV h.hc, nat_inV h.hd, decide_eq_true (by have := h.ab; omega : (x : Int) < (y : Int)), decide_eq_true (by have := h.cd; omega : (u : Int) < (v : Int))]
  simp only [Int.toNat_natCast, h.eq, Bool.and_self, Bool.true_and, beq_self_eq_true]
  have := h.four
  rw [h.eq] at this
  rw [this] <;> rfl
theorem ValOk.same {H H' : Hp} {v : V} {o : Option (List V)} (s : Same H H') (h : ValOk K H v o) : ValOk K H' v o := by
  cases h with
  | sc h => exact .sc h
  | lst h => exact .lst (s _ _ h)
  | tup h hs hl => exact .tup (seqT s h) hs hl
theorem ValOk.ty {H : Hp} {v : V} {o : Option (List V)} (h : ValOk K H v o) : ∃ t, TyX K H v t ∧ PySem.W.kitOne K t (.type "tuple") = some o.isSome := by
  cases h with
  | sc h =>
    rcases h with rfl | ⟨b, rfl⟩ | ⟨i, rfl⟩ | ⟨x, rfl, e⟩
    · exact ⟨_, .base .non, kit_ty (by decide +kernel)⟩
    · exact ⟨_, .base (.bl b), kit_ty (by decide +kernel)⟩
    · exact ⟨_, .base (.int i), kit_ty (by decide +kernel)⟩
    · exact ⟨_, .base (.str x), kit_ty (by decide +kernel)⟩
  | lst h => exact ⟨_, .base (.lst h), kit_ty (by decide +kernel)⟩
  | tup h hs hl => exact ⟨_, tyx_t h, kit_ty (r := true) (by decide +kernel)⟩
theorem due_four {A B : List Nat} {xs : List V} (h : due A B (some xs) = true) : ∃ a b c d, xs = [.int a, .int b, .int c, .int d] := by
  unfold due at h
  split at h
  · rename_i a b c d e
    exact ⟨a, b, c, d, Option.some.inj e⟩
  · cases h
theorem due_not {A B : List Nat} {xs : List V} (h : ∀ a b c d, xs ≠ [.int a, .int b, .int c, .int d]) : due A B (some xs) = false := by
  cases e : due A B (some xs) with
  | false => rfl
  | true =>
    obtain ⟨a, b, c, d, z⟩ := due_four e
    exact absurd z (h a b c d)
/-- four plain values, all of them numbers -/
theorem four_ints {xs : List V} (hl : xs.length = 4) (h : xs.all isI = true) : ∃ a b c d, xs = [.int a, .int b, .int c, .int d] := by
  match xs, hl, h with
  | [x1, x2, x3, x4], _, h =>
    rw [List.all_eq_true] at h
    have g : ∀ x, x ∈ [x1, x2, x3, x4] → ∃ i, x = .int i := fun x hx => by
      have e := h x hx
      cases x <;> first | exact ⟨_, rfl⟩ | cases e
    obtain ⟨a, rfl⟩ := g x1 (by simp)
    obtain ⟨b, rfl⟩ := g x2 (by simp)
    obtain ⟨c, rfl⟩ := g x3 (by simp)
    obtain ⟨d, rfl⟩ := g x4 (by simp)
    exact ⟨a, b, c, d, rfl⟩
/-! ### is_clash -/
def spIsClash (K : PySem.W.Frag) : Sp := fun vs H Q _ => ∃ (a b : Addr) (A B : List Nat) (m : Nat) (v : V) (o : Option (List V)), vs = [.ref a, .ref b, vN m, v] ∧ SqT K H a (A.map vN) ∧ SqT K H b (B.map vN) ∧ LotOk m A ∧ LotOk m B ∧ 1 ≤ m ∧ m ≤ 10 ∧ ValOk K H v o ∧
  ∀ H', Same H H' → Q (.bl (due A B o)) H'
theorem ok_is_clash {fR fW fG : Addr} {fdR fdW fdG : FuncData} (ms : mg "isinstance" = none) (mt : mg "tuple" = none) (ml : mg "len" = none) (ma : mg "all" = none)
    (gR : mg "require_lots" = some (.ref fR)) (FR : Fun K "require_lots" "require_lots" s_require_lots fR fdR) (bR : Binds K fdR ["firsts", "seconds", "many"] []) (GR : FnOk P w K mg base CX0 (k + 4) fR fdR ["firsts", "seconds", "many"] (spReqLots K))
    (gW : mg "is_whole" = some (.ref fW)) (FW : Fun K "is_whole" "is_whole" s_is_whole fW fdW) (bW : Binds K fdW ["value"] []) (GW : FnOk P w K mg base CX0 (k + 4) fW fdW ["value"] (spWhole K))
    (gG : mg "weight_of" = some (.ref fG)) (FG : Fun K "weight_of" "weight_of" s_weight_of fG fdG) (bG : Binds K fdG ["x"] []) (GG : FnOk P w K mg base CX0 (k + 4) fG fdG ["x"] spWeight)
    (F : Fun K "is_clash" "is_clash" s_is_clash f fd) : FnOk P w K mg base CX0 (k + 5) f fd ["firsts", "seconds", "many", "value"] (spIsClash K) := by
  refine F.ok sc_is_clash (fun vs H Q E h => ?_) (fun cdv A outer s H vs Q E hr h => ?_)
  · obtain ⟨a, b, A, B, m, v, o, rfl, _⟩ := h
    rfl
  · obtain ⟨a, b, A, B, m, v, o, rfl, hA, hB, la, lb, h1, hm, hv, q⟩ := h
    refine ⟨_, pss_cons (ps_expr (pe_call GR hr (by rfl) gR FR.kp bR .nil pass0 (pa_cons (pv 0) (pa_cons (pv 1) (pa_cons (pv 2) pa_nil)))))
      (pss_cons (ps_if (PW.pt (pw_or (pt_not (pt_val (pe_callB call_isi (by rfl) ms (by decide +kernel) (pa_cons (pv 3) (pa_cons (pe_bltn (v := .ty "tuple") (by rfl) mt (by decide +kernel) rfl) pa_nil)))))
          (pw_or (pt_cmpR op_ne (pe_callB call_len_seq (by rfl) ml PySem.boot_len (pa_cons (pv 3) pa_nil)) pe_int (nomark _))
          (pw_or1 (pt_not (pt_val (pe_callB (cr_all rfl) (by rfl) ma (by decide +kernel) (pa_cons (pe_lc (own := [("word", 8)]) (g := gName 8) (tt := tYes) (by rfl) sc_is_clash.nd (pi_tup (pv 3))
            (blkOk_by (own := [("word", 8)]) (N := ["firsts", "seconds", "many", "value", "a", "b", "c", "d", "word"]) (sc := defScope s_is_clash) (by decide +kernel)) (fun _ _ _ _ _ => pg_name (i := 8) sc_is_clash.nd rfl (Or.inl rfl)) (fun _ _ _ _ _ => pts_nil)
            (fun _ _ _ _ _ => pe_call GW hr (by rfl) gW FW.kp bW .nil pass0 (pa_cons (pv 8) pa_nil))) pa_nil))))))))
          (pss_one (ps_ret pe_bl)) pss_nil)
      (pss_cons (ps_asg (pv 3) (pg_tup (by rfl) (pgs_cons (pg_name (i := 4) sc_is_clash.nd rfl (.inl rfl)) (pgs_cons (pg_name (i := 5) sc_is_clash.nd rfl (.inl rfl)) (pgs_cons (pg_name (i := 6) sc_is_clash.nd rfl (.inl rfl)) (pgs_cons (pg_name (i := 7) sc_is_clash.nd rfl (.inl rfl)) pgs_nil))))))
      (pss_cons (ps_if (PW.pt (pw_or (pt_cmpR op_notIn_seq (pv 4) (pv 0) rfl) (pw_or (pt_cmpR op_notIn_seq (pv 5) (pv 0) rfl) (pw_or (pt_cmpR op_notIn_seq (pv 6) (pv 1) rfl) (pw_or1 (pt_cmpR op_notIn_seq (pv 7) (pv 1) rfl))))))
          (pss_one (ps_ret pe_bl)) pss_nil)
      (pss_one (ps_ret (pe_and (pe_cmpR op_lt (pv 4) (pv 5) (nomark _)) (pe_and (pe_cmpR op_lt (pv 6) (pv 7) (nomark _)) (pe_and (pe_cmpR op_eq (pe_op op_xor (pv 4) (pv 5)) (pe_op op_xor (pv 6) (pv 7)) (nomark _))
        (pe_one (pe_cmpR op_eq (pe_op op_mod (pe_call GG hr (by rfl) gG FG.kp bG .nil pass0 (pa_cons (pe_op op_xor (pv 4) (pv 5)) pa_nil)) pe_int) pe_int (nomark _)))))))))))
      , ?_⟩
    refine ⟨_, rfl, _, rfl, _, rfl, a, b, A, B, m, rfl, hA, hB, la, lb, h1, hm, fun H1 s1 => ?_⟩
    have hv1 := hv.same s1
    have hA1 := seqT s1 hA
    have hB1 := seqT s1 hB
    obtain ⟨t, ty, kt⟩ := hv1.ty
    refine ⟨_, rfl, v, .ty "tuple", t, _, _, rfl, .ty "tuple", ty, kt, _, rfl, ?_⟩
    cases hv1 with
    | sc h => exact q H1 s1
    | lst h => exact q H1 s1
    | @tup p xs h hs hl =>
      refine iteF ⟨_, rfl, p, xs, rfl, .inr h, rfl, _, rfl, ite2 (fun hc => ?_) (fun hc => ?_)⟩
      · have hne : xs.length ≠ 4 := fun z => by
          rw [z] at hc
          exact absurd hc (by decide)
        have e : due A B (some xs) = false := due_not fun a b c d z => hne (by rw [z]; rfl)
        have q' := q H1 s1
        rw [e] at q'
        exact q'
      · have h4 : xs.length = 4 := by
          have h5 : ¬ (!decide (V.int (xs.length : Int) = V.int 4)) = true := hc
          by_cases z : xs.length = 4
          · exact z
          · exact absurd (by rw [decide_eq_false (fun y => z (by have := V.int.inj y; omega))]; rfl) h5
        refine ⟨_, rfl, p, rfl, ⟨_, h⟩, fun D nD => ?_⟩
        refine lc_tup (xs := xs) (fun i H' => Same H1 H' ∧ H' D = some (.lst (((xs.take i).map isI).map V.bl))) ⟨same_new nD, upd_same⟩ (fun i H' _ p => seqT p.1 h) (fun i x H' hx p => ?_) (fun H2 p2 => ?_)
        · have hi : i < xs.length := (List.getElem?_eq_some_iff.mp hx).1
          refine ⟨rfl, _, rfl, x, rfl, hs x (List.mem_of_getElem? hx), _, p.2, ?_, same_mut p.1 nD, ?_⟩
          · rw [List.length_map, List.length_map, List.length_take]
            exact Nat.lt_of_le_of_lt (Nat.le_trans (Nat.min_le_right _ _) hl) (by decide)
          · rw [List.take_add_one, hx, List.map_append, List.map_append]
            exact upd_same
        · obtain ⟨s2, hD⟩ := p2
          rw [List.take_length] at hD
          refine ⟨D, _, rfl, .inl (.inl hD), _, rfl, ?_⟩
          have hall : (xs.map isI).all id = xs.all isI := by rw [List.all_map]; rfl
          rw [hall]
          cases hi : xs.all isI with
          | false =>
            have e : due A B (some xs) = false := due_not fun a b c d z => by
              rw [z] at hi
              cases hi
            have q' := q H2 (s1.trans s2)
            rw [e] at q'
            exact q'
          | true =>
            obtain ⟨x, y, u, v, rfl⟩ := four_ints h4 hi
            have hA2 := seqT s2 hA1
            have hB2 := seqT s2 hB1
            refine ⟨_, rfl, p, _, rfl, seqT s2 h, rfl, _, _, rfl, _, _, rfl, _, _, rfl, _, _, rfl, rfl, ?_⟩
            have q' := q H2 (s1.trans s2)
            have e0 : due A B (some [.int x, .int y, .int u, .int v]) = dueI A B x y u v := rfl
            rw [e0] at q'
            unfold dueI at q'
            refine ⟨_, rfl, _, rfl, a, _, rfl, .inr hA2, rfl, flat_N A, _, rfl, ?_⟩
            cases m1 : inV (.int x) (A.map vN) with
            | false =>
              rw [m1] at q'
              exact q'
            | true =>
            refine iteF ⟨_, rfl, _, rfl, a, _, rfl, .inr hA2, rfl, flat_N A, _, rfl, ?_⟩
            cases m2 : inV (.int y) (A.map vN) with
            | false =>
              rw [m1, m2] at q'
              exact q'
            | true =>
            refine iteF ⟨_, rfl, _, rfl, b, _, rfl, .inr hB2, rfl, flat_N B, _, rfl, ?_⟩
            cases m3 : inV (.int u) (B.map vN) with
            | false =>
              rw [m1, m2, m3] at q'
              exact q'
            | true =>
            refine iteF ⟨_, rfl, _, rfl, b, _, rfl, .inr hB2, rfl, flat_N B, _, rfl, ?_⟩
            cases m4 : inV (.int v) (B.map vN) with
            | false =>
              rw [m1, m2, m3, m4] at q'
              exact q'
            | true =>
            rw [m1, m2, m3, m4] at q'
            obtain ⟨n1, g1, rfl⟩ := inV_nat m1
            obtain ⟨n2, g2, rfl⟩ := inV_nat m2
            obtain ⟨n3, g3, rfl⟩ := inV_nat m3
            obtain ⟨n4, g4, rfl⟩ := inV_nat m4
            refine ⟨_, rfl, _, rfl, _, _, rfl, rfl, _, rfl, ?_⟩
            cases c1 : decide ((n1 : Int) < (n2 : Int)) with
            | false =>
              rw [c1] at q'
              exact q'
            | true =>
            refine iteT ⟨_, rfl, _, rfl, _, _, rfl, rfl, _, rfl, ?_⟩
            cases c2 : decide ((n3 : Int) < (n4 : Int)) with
            | false =>
              rw [c1, c2] at q'
              exact q'
            | true =>
            rw [c1, c2] at q'
            simp only [Int.toNat_natCast, Bool.and_self, Bool.true_and] at q'
            refine iteT ⟨_, rfl, _, rfl, _, _, rfl, rfl, _, rfl, _, rfl, _, _, rfl, rfl, rfl, _, rfl, ?_⟩
            simp only [SqG.xor_nat]
            by_cases z : n1 ^^^ n2 = n3 ^^^ n4
            · rw [decide_eq_true (show V.int ((n1 ^^^ n2 : Nat) : Int) = V.int ((n3 ^^^ n4 : Nat) : Int) by rw [z])]
              refine iteT ⟨_, rfl, _, rfl, _, _, rfl, rfl, n1 ^^^ n2, ?_, _, _, rfl, rfl, (by show (0 : Int) < 4; decide), rfl, ?_⟩
              · simp only [SqG.xor_nat]
                rfl
              · rw [z] at q' ⊢
                rw [beq_self_eq_true, Bool.true_and] at q'
                have e9 : decide (V.int (((wt (n3 ^^^ n4) : Nat) : Int) % 4) = V.int 0) = (wt (n3 ^^^ n4) % 4 == 0) := by
                  by_cases y : wt (n3 ^^^ n4) % 4 = 0
                  · rw [y, decide_eq_true (congrArg V.int (by omega))] <;> rfl
                  · rw [beq_eq_false_iff_ne.mpr y, decide_eq_false (fun t => y (by have := V.int.inj t; omega))]
                show Q (.bl (decide (V.int (((wt (n3 ^^^ n4) : Nat) : Int) % 4) = V.int 0))) H2
                rw [e9]
                exact q'
            · rw [decide_eq_false (fun t => z (by have := V.int.inj t; omega))]
              rw [beq_eq_false_iff_ne.mpr z, Bool.false_and] at q'
              exact q'
end
end Sq
set_option Elab.async false
set_option linter.all false
set_option maxRecDepth 100000
set_option maxHeartbeats 4000000
/-! for i, x in enumerate(t), t a tuple -/
namespace SqN
open PySem
theorem meets_enum1 {v : Value} {o : Obj} {H : Heap → Prop} (B : Begins v o H) :
    Meets (Builtin.«enumerate.__new__» ⟨[.type "enumerate", v], []⟩) (fun _ R s => H s.heap ∧
      R (.ok (.ret (.ref (s.heap.push o).objs.size))) { s with heap := (s.heap.push o).push { cls := .type "enumerate", data := .fields #[.none, .bool false, .ref s.heap.objs.size, rawInt 0, .none, .none] } }) :=
  .of_wp fun prog w A R s h => by
    obtain ⟨hp, g, d, tk, os⟩ := s; obtain ⟨h1, h⟩ := h
    have hsub := sub_enumerate
    have q1 : ∀ {A' : Around} {E : Value → Shared → Prop} {Q : Value → Shared → Prop}, Q (.ref hp.objs.size) ⟨hp.push o, g, d, tk, os⟩ → wpAny (model prog w) A' (pyIter v) Q E ⟨hp, g, d, tk, os⟩ :=
      fun q => B.iter prog w _ _ ⟨hp, g, d, tk, os⟩ _ h1 q
    wp_walk using q1
    refine wpAny_stack_any fun st => wpAny_pure ?_
    split
    · rename_i c _ _ _ _ _
      cases (c == Value.type "enumerate") <;> (wp_walk using q1; exact ⟨_, rfl, h⟩)
    · wp_walk using q1
      exact ⟨_, rfl, h⟩
section
variable {prog : Program} {w : World} {A : Around} {E : Value → Shared → Prop} {s : Shared}
theorem call_enum1 {v : Value} {o : Obj} {H : Heap → Prop} {Q : Value → Shared → Prop} (B : Begins v o H) (h1 : H s.heap)
    (h : ∀ h' : Heap, IsEnum h' (s.heap.objs.size + 1) s.heap.objs.size 0 .none → h'.get? s.heap.objs.size = some o → (∀ b u, s.heap.get? b = some u → h'.get? b = some u) → Q (.ref (s.heap.objs.size + 1)) { s with heap := h' }) :
    wpAny (model prog w) A (call (.type "enumerate") [v]) Q E s := by
  refine callType_new F.called_enumerate (by decide) (F.typeCall_enumerate_1 _) (F.newCall_enumerate_1 _) (fun obj => F.args_object_init_2 obj _) F.entry_enumerate_new (meets_enum1 B) ⟨h1, ?_⟩
  have hz : (s.heap.push o).objs.size = s.heap.objs.size + 1 := Heap.size_push ..
  show _ ∧ _
  rw [hz]
  have he : IsEnum ((s.heap.push o).push { cls := .type "enumerate", data := .fields #[.none, .bool false, .ref s.heap.objs.size, rawInt 0, .none, .none] }) (s.heap.objs.size + 1) s.heap.objs.size 0 .none := by
    have e := Heap.get?_push_size (s.heap.push o) (o := { cls := .type "enumerate", data := .fields #[.none, .bool false, .ref s.heap.objs.size, rawInt 0, .none, .none] }) rfl
    rw [hz] at e
    exact e
  exact ⟨⟨_, he, rfl⟩, h _ he (Heap.get?_push_of_some _ (Heap.get?_push_size _ B.free)) fun b u x => Heap.get?_push_of_some _ (Heap.get?_push_of_some _ x)⟩
end
open PySem.Spec PyProof.Rows L2
/-- the tuple at a as it stands at each turn, each item in a new pair -/
def ItE (K : PySem.W.Frag) (a : Addr) : It :=
  ⟨fun i H => ∃ (xs : List V) (x : V), SqT K H a xs ∧ xs[i]? = some x,
    fun i H v H' => ∃ T x, v = .ref T ∧ H T = none ∧ H' = upd H T (.tup [.int (i : Nat), x]) ∧ ∀ xs, SqT K H a xs → xs[i]? = some x,
    fun i H => ∃ xs : List V, SqT K H a xs ∧ xs.length ≤ i⟩
theorem turn_enumT {P : Program} {w : World} {K : PySem.W.Frag} {elts : List Expr} {kk : Nat} {tpos : Pos} (a e it : Addr) :
    Turn P w K (.Tuple elts kk tpos) (ItE K a) [e, it] e (fun i h => (∃ old, IsEnum h e it ((i : Nat) : Int) old) ∧ h.IsTupleIter it a i ∧ e ≠ it ∧ a ≠ e ∧ a ≠ it) where
  mem := List.mem_cons_self
  obj := fun i h st b hb => by
    obtain ⟨⟨old, he⟩, ⟨o, ho, hc, hd⟩, _⟩ := st
    rcases List.mem_cons.mp hb with z | z
    · rw [z]
      exact ⟨_, he, fun v q => nomatch q⟩
    · rw [List.mem_singleton.mp z]
      exact ⟨o, ho, fun v q => by rw [hd] at q; cases q⟩
  keep := fun i h h' st k => by
    obtain ⟨⟨old, he⟩, ⟨o, ho, r⟩, hne⟩ := st
    exact ⟨⟨old, k e List.mem_cons_self _ he⟩, ⟨o, k it (List.mem_cons_of_mem _ List.mem_cons_self) _ ho, r⟩, hne⟩
  item := by
    intro X hP hw hK hc i pins s σ H E I hf st hg
    subst hP hw hK
    obtain ⟨⟨old, he⟩, hit, hne, ha1, ha2⟩ := st
    obtain ⟨xs, x, hq, hx⟩ := hg
    obtain ⟨its, rv, tp, hz⟩ := I.tuple hq
    obtain ⟨u, hu, ru⟩ := rv.get hx
    have hi : i < its.toArray.size := by
      rw [List.size_toArray]
      exact (List.getElem?_eq_some_iff.mp hu).1
    have hel : e < s.heap.objs.size := Heap.lt_size he
    have hil : it < s.heap.objs.size := let ⟨_, q, _⟩ := hit; Heap.lt_size q
    refine wpAny_pyNext_enum_itemC (Draws.tuple (prog := X.prog) (w := X.w) (A := X.A.in1) (I.ok.hd hc) it a ha2 its.toArray) he ⟨hit, tp⟩ hi hne (fun z => ?_) fun y h' tk hy ho hst hT hsz hk => ?_
    · rcases List.mem_cons.mp z with z | z
      · exact hne z
      · exact ha1 (List.mem_singleton.mp z).symm
    · have ey : y = u := by
        rw [List.getElem?_toArray, hu] at hy
        exact (Option.some.inj hy).symm
      subst ey
      refine ⟨_, rfl, wpAny_letOwnedTupleGo_enum (s := { s with heap := h', toks := tk + 1 }) ho fun h'' he' sb => ?_⟩
      have hT2 : h''.get? s.heap.objs.size = some { cls := .type "tuple", data := .seq #[.int i tk, y] } := (sb.2 _ (Nat.ne_of_gt hel)).trans hT
      have new : ObjOk X.prog X.w (upd H s.heap.objs.size (.tup [.int (i : Nat), x])) h'' s.heap.objs.size (.tup [.int (i : Nat), x]) :=
        ⟨by show 2 ≤ sizeLine; decide, [.int i tk, y], .cons ⟨_, rfl⟩ (.cons ru .nil), ⟨_, hT2, rfl, _, rfl⟩⟩
      have I1 : L2.Inv X pins σ (upd H s.heap.objs.size (.tup [.int (i : Nat), x])) { s with heap := h'', toks := tk + 1 } :=
        I.turnedNew (ch := [e, it]) (fun b ob hb q => (sb.2 b (fun z => hb (by simp [z]))).trans (hk b ob (fun z => hb (by simp [z])) (fun z => hb (by simp [z])) q)) hf (Nat.le_refl _) new
      obtain ⟨⟨oi, gi, ri⟩, _⟩ := hst
      refine ⟨.ref s.heap.objs.size, _, I1, rfl, ⟨_, x, rfl, I.hok.fresh (Nat.le_refl _), rfl, fun ys hy2 => by rw [I.tuple_inj hy2 hq]; exact hx⟩, ⟨⟨y, ?_⟩, ⟨oi, (sb.2 it (Ne.symm hne)).trans gi, ri⟩, hne, ha1, ha2⟩, fun b hb => ?_⟩
      · have e1 : ((i + 1 : Nat) : Int) = (i : Int) + 1 := by omega
        rw [e1]
        exact he'
      · have hb' : b < s.heap.objs.size := by
          rcases List.mem_cons.mp hb with z | z
          · rw [z]; exact hel
          · rw [List.mem_singleton.mp z]; exact hil
        rw [upd_ne (Nat.ne_of_lt hb')]
        exact (hf b hb).1
  done := by
    intro X hP hw hK hc i pins s σ H E I hf st hg
    subst hP hw hK
    obtain ⟨⟨old, he⟩, hit, hne, ha1, ha2⟩ := st
    obtain ⟨xs, hq, hx⟩ := hg
    obtain ⟨its, rv, tp, hz⟩ := I.tuple hq
    obtain ⟨f0, f1, f2, f3, f4, f5⟩ := hf it (List.mem_cons_of_mem _ List.mem_cons_self)
    have hl := rv.length
    have no : its.toArray[i]? = none := by
      rw [List.getElem?_toArray]
      exact List.getElem?_eq_none (by omega)
    have D : Draws X.prog X.w X.A.in1 it [it, a] i (fun _ _ => False) (fun j h => j = i ∧ h.IsTupleIter it a i ∧ h.IsTuple a its.toArray) := by
      refine ⟨fun j h st => let ⟨_, ⟨o, ho, _⟩, _⟩ := st; ⟨o, ho⟩, fun j h h' st hk => ?_, fun j t Q E2 hj st => ?_, fun t Q E2 st hE => wpAny_nextOf_tuple_end (I.ok.hd hc) st.2.1 st.2.2 no hE⟩
      · obtain ⟨e1, ⟨o1, g1, r1⟩, o2, g2, r2⟩ := st
        exact ⟨e1, ⟨o1, hk it (by simp) _ g1, r1⟩, o2, hk a (by simp) _ g2, r2⟩
      · exact absurd st.1 (Nat.ne_of_lt hj)
    exact wpAny_pyNext_enum_endD D he ⟨rfl, hit, tp⟩ fun h' eb => ⟨rfl, I.turned (t' := s.toks) (fun b o hb q => eb b o hb q) f0 f1 f3 f4 f5⟩
  self := fun A i s Q E st h => let ⟨⟨_, he⟩, _⟩ := st; wpAny_pyIter_enum he h
def iEnumT (K : PySem.W.Frag) (ta : TA) : TI := fun σ H R => ta σ H fun vs H1 => ∃ a xs, vs = [.ref a] ∧ SqT K H1 a xs ∧ R (ItE K a) H1
theorem pi_enumT {X : Cx} {e : Expr} {ta : TA} {p pos tpos : Pos} {elts : List Expr} {kk : Nat} (hg : Gl X "enumerate") (hm : X.mg "enumerate" = none) (ha : PA X [e] ta) (hs : starEach [e] X.env = [(false, eval e X.env)] := by rfl) :
    PI X (.Tuple elts kk tpos) (.Call (.Name "enumerate" p) [e] [] pos) (iEnumT X.K ta) := by
  refine ⟨fun pins s σ H R I h => ?_⟩
  refine Call_ (ld_blt I hg hm boot_enumerate (PyProof.Rows.callWith_type1 (thn (ha.run pos pins s σ H _ I h) fun us s1 ⟨vs, H1, I1, r1, a, xs, ex, hq, q⟩ => ?_) hs rfl))
  subst ex
  cases r1 with
  | cons r rr =>
    cases rr
    cases r
    obtain ⟨its, rv, tp, hz⟩ := I1.tuple hq
    have alt : a < s1.heap.objs.size := let ⟨_, g, _⟩ := tp; Heap.lt_size g
    refine call_enum1 (begins_tuple a its.toArray) tp fun h' he hit hk => wpAny_pyIter_enum he ?_
    have I2 : L2.Inv X pins σ H1 { s1 with heap := h' } := I1.kept (t' := s1.toks) hk
    refine ⟨s1.heap.objs.size + 1, [s1.heap.objs.size + 1, s1.heap.objs.size], _, _, H1, rfl, I2, turn_enumT a (s1.heap.objs.size + 1) s1.heap.objs.size, ⟨⟨.none, he⟩, ⟨_, hit, rfl, rfl⟩, Nat.succ_ne_self _, Nat.ne_of_lt (Nat.lt_succ_of_lt alt), Nat.ne_of_lt alt⟩, fun b hb => ?_, q⟩
    have hle : s1.heap.objs.size ≤ b := by
      rcases List.mem_cons.mp hb with z | z
      · rw [z]; exact Nat.le_succ _
      · rw [List.mem_singleton.mp z]; exact Nat.le_refl _
    exact I1.fpOk hle (I1.hok.fresh hle)
/-- a loop over it: Pv by the turn, the slots, the heap -/
theorem for_enumT {K : PySem.W.Frag} {a : Addr} {xs : List V} {g : TG} {tb : TS} {D : Ends} {σ : L2.St} {H : Hp} (Pv : Nat → L2.St → Hp → Prop) (h0 : Pv 0 σ H) (hq : ∀ i σ H, Pv i σ H → SqT K H a xs)
    (hs : ∀ (i : Nat) (x : V) (T : Addr) (σ : L2.St) (H : Hp), xs[i]? = some x → Pv i σ H → H T = none → g (.ref T) σ (upd H T (.tup [.int (i : Nat), x])) fun σ2 H2 => tb { D with nx := Pv (i + 1), ct := Pv (i + 1), bk := D.nx } σ2 H2) (hd : ∀ σ H, Pv xs.length σ H → D.nx σ H) :
    ∃ W : Nat → Nat → L2.St → Hp → Prop, (∃ m, W 0 m σ H) ∧ ∀ i m σ H, W i m σ H →
      ((ItE K a).stop i H ∧ D.nx σ H) ∨ ((ItE K a).go i H ∧ ∃ N : L2.St → Hp → Prop, (∀ σ' H', N σ' H' → ∃ m', m' < m ∧ W (i + 1) m' σ' H') ∧ ∀ v H', (ItE K a).yld i H v H' → g v σ H' fun σ2 H2 => tb { D with nx := N, ct := N, bk := D.nx } σ2 H2) := by
  refine ⟨fun i m σ H => m = xs.length - i ∧ i ≤ xs.length ∧ Pv i σ H, ⟨xs.length, rfl, Nat.zero_le _, h0⟩, ?_⟩
  rintro i m σ H ⟨rfl, hi, p⟩
  have q := hq i σ H p
  by_cases hlt : i < xs.length
  · refine .inr ⟨⟨xs, _, q, List.getElem?_eq_getElem hlt⟩, Pv (i + 1), fun σ' H' p' => ⟨xs.length - (i + 1), by omega, rfl, hlt, p'⟩, fun v H' y => ?_⟩
    obtain ⟨T, x', rfl, hT, rfl, f1⟩ := y
    exact hs i x' T σ H (f1 xs q) p hT
  · have e : i = xs.length := by omega
    subst e
    exact .inl ⟨⟨xs, q, Nat.le_refl _⟩, hd σ H p⟩
end SqN
set_option Elab.async false
set_option linter.all false
set_option maxRecDepth 100000
set_option maxHeartbeats 4000000
namespace Sq
open PySem PySem.Spec PyProof.Rows L2
/-- the greatest lots -/
def gl (n : Nat) : List Nat := if n = 5 then [0, 1, 2, 3, 4, 5, 8, 9, 16, 17] else List.range (2 ^ min n 3)
theorem rgV_nat (t : Nat) : rgV 0 (t : Int) = (List.range t).map vN := by
  unfold rgV
  have e : ((t : Int) - 0).toNat = t := by omega
  rw [e]
  refine List.map_congr_left fun i _ => ?_
  show V.int (0 + (i : Int)) = V.int (i : Int)
  rw [Int.zero_add]
section
variable {P : Program} {w : World} {K : PySem.W.Frag} {mg : Str → Option Value} {base : Heap} {f : Addr} {fd : FuncData} {k : Nat}
/-! ### greatest_let -/
def spGreat (K : PySem.W.Frag) : Sp := fun vs H Q _ => ∃ n : Nat, vs = [vN n] ∧ 1 ≤ n ∧ n ≤ 5 ∧ ∀ H' p, Same H H' → SqT K H' p ((gl n).map vN) → Q (.ref p) H'
theorem ok_greatest_let {gA : Addr} (hG : ∀ H, SqT K H gA ((gl 5).map vN)) (mG : mg "GREATEST" = some (.ref gA)) {fM : Addr} {fdM : FuncData} {tM tK : Tok} (mM : mg "MAX_LETTERS" = some (.int 10 tM)) (mK : mg "MAX_MADE" = some (.int 5 tK)) (mr : mg "range" = none) (mm : mg "min" = none) (mt : mg "tuple" = none) (ml : mg "list" = none)
    (gM : mg "require_many" = some (.ref fM)) (FM : Fun K "require_many" "require_many" s_require_many fM fdM) (bM : Binds K fdM ["value", "most"] [])
    (GM : FnOk P w K mg base CX0 (k + 3) fM fdM ["value", "most"] spMany) (F : Fun K "greatest_let" "greatest_let" s_greatest_let f fd) : FnOk P w K mg base CX0 (k + 4) f fd ["many"] (spGreat K) := by
  refine F.ok sc_greatest_let (fun vs H Q E h => ?_) (fun cdv A outer s H vs Q E hr h => ?_)
  · obtain ⟨n, rfl, _⟩ := h
    rfl
  · obtain ⟨n, rfl, h1, hm, q⟩ := h
    refine ⟨_, pss_cons (ps_expr (pe_call GM hr (by rfl) gM FM.kp bM .nil pass0 (pa_cons (pv 0) (pa_cons (pe_glob (v := .int 10) (by rfl) mM ⟨_, rfl⟩) pa_nil))))
      (pss_cons (ps_if (pt_cmpR op_gt (pv 0) (pe_glob (v := .int 5) (by rfl) mK ⟨_, rfl⟩) (nomark _)) (pss_one ps_never) pss_nil)
      (pss_one (ps_ret (pe_ifExp (pt_cmpR op_eq (pv 0) (pe_glob (v := .int 5) (by rfl) mK ⟨_, rfl⟩) (nomark _)) (pe_glob (v := .ref gA) (by rfl) mG rfl)
        (pe_callTy call_tuple_of (by rfl) mt (by decide +kernel) (pa_cons (pe_listRg rfl (by rfl) ml (prg_1 (by rfl) mr (pe_op op_oneShl pe_int (pe_callB (call_min2 rfl) (by rfl) mm (by decide +kernel) (pa_cons (pv 0) (pa_cons pe_int pa_nil)))))) pa_nil)))))), ?_⟩
    refine ⟨_, rfl, n, 10, rfl, h1, by omega, by decide, ?_⟩
    refine ⟨_, rfl, _, _, rfl, rfl, _, rfl, ?_⟩
    rw [decide_eq_false (by omega : ¬ (n : Int) > 5)]
    refine iteF ?_
    refine ⟨_, rfl, rfl, _, rfl, ?_⟩
    by_cases z : n = 5
    · subst z
      exact q H gA (Same.refl _) (hG H)
    · rw [decide_eq_false (fun t => z (by have := V.int.inj t; omega))]
      refine iteF ⟨_, rfl, _, _, rfl, ?_⟩
      have e : (if (3 : Int) < (n : Int) then (3 : Int) else (n : Int)) = ((min n 3 : Nat) : Int) := by
        split <;> omega
      rw [e]
      refine ⟨min n 3, rfl, rfl, by omega, _, rfl, ?_⟩
      have h2m : ((2 ^ min n 3 : Nat) : Int) = (2 : Int) ^ min n 3 := by simp
      have hpow : 2 ^ min n 3 ≤ 2 ^ 3 := Nat.pow_le_pow_right (by decide) (by omega)
      have eg : gl n = List.range (2 ^ min n 3) := if_neg z
      rw [← h2m]
      rw [eg] at q
      obtain ⟨tt, ht⟩ : ∃ tt : Nat, 2 ^ min n 3 = tt := ⟨_, rfl⟩
      rw [ht] at hpow q ⊢
      refine ⟨RgOk.of_le (by decide) (by omega) (by decide) (by omega), fun p hp => ?_⟩
      rw [rgV_nat]
      refine ⟨p, _, rfl, .inl ⟨.inl (.inl upd_same), fun l hl => ?_⟩⟩
      exact q _ l ((same_new hp).trans (same_new hl)) (.inl (.inl upd_same))
/-! ### _law_is_due -/
theorem filt_nil {xs : List V} : (xs.filter fun x => !isI x).isEmpty = xs.all isI := by
  induction xs with
  | nil => rfl
  | cons x r ih =>
    rw [List.filter_cons, List.all_cons]
    cases isI x with
    | true => exact ih
    | false => rfl
def spDue (K : PySem.W.Frag) : Sp := fun vs H Q _ => ∃ (a b : Addr) (A B : List Nat) (v : V) (o : Option (List V)), vs = [.ref a, .ref b, v] ∧ SqT K H a (A.map vN) ∧ SqT K H b (B.map vN) ∧ ValOk K H v o ∧
  ∀ H', Same H H' → Q (.bl (due A B o)) H'
theorem ok_l_is_due {fX fG : Addr} {fdX fdG : FuncData} (ms : mg "isinstance" = none) (mt : mg "tuple" = none) (ml : mg "len" = none) (mi : mg "int" = none) (mb : mg "bool" = none)
    (gX : mg "_law_xor" = some (.ref fX)) (FX : Fun K "_law_xor" "_law_xor" s_l_xor fX fdX) (bX : Binds K fdX ["_law_x", "_law_y"] []) (GX : FnOk P w K mg base CX0 (k + 1) fX fdX ["_law_x", "_law_y"] spXor)
    (gG : mg "_law_weight" = some (.ref fG)) (FG : Fun K "_law_weight" "_law_weight" s_l_weight fG fdG) (bG : Binds K fdG ["_law_x"] []) (GG : FnOk P w K mg base CX0 (k + 1) fG fdG ["_law_x"] spWeight)
    (F : Fun K "_law_is_due" "_law_is_due" s_l_is_due f fd) : FnOk P w K mg base CX0 (k + 2) f fd ["_law_firsts", "_law_seconds", "_law_value"] (spDue K) := by
  refine F.ok sc_l_is_due (fun vs H Q E h => ?_) (fun cdv A outer s H vs Q E hr h => ?_)
  · obtain ⟨a, b, A, B, v, o, rfl, _⟩ := h
    rfl
  · obtain ⟨a, b, A, B, v, o, rfl, hA, hB, hv, q⟩ := h
    refine ⟨_, pss_cons (ps_if (PW.pt (pw_or (pt_not (pt_val (pe_callB call_isi (by rfl) ms (by decide +kernel) (pa_cons (pv 2) (pa_cons (pe_bltn (v := .ty "tuple") (by rfl) mt (by decide +kernel) rfl) pa_nil)))))
          (pw_or1 (pt_cmpR op_ne (pe_callB call_len_seq (by rfl) ml PySem.boot_len (pa_cons (pv 2) pa_nil)) pe_int (nomark _)))))
          (pss_one (ps_ret pe_bl)) pss_nil)
      (pss_cons (ps_if (pt_cmpR (op_neD hr.units) (pe_lc (own := [("_law_one", 7)]) (g := gName 7) (by rfl) sc_l_is_due.nd (pi_tup (pv 2))
            (blkOk_by (own := [("_law_one", 7)]) (N := ["_law_firsts", "_law_seconds", "_law_value", "_law_a", "_law_b", "_law_c", "_law_d", "_law_one"]) (sc := defScope s_l_is_due) (by decide +kernel)) (fun _ _ _ _ _ => pg_name (i := 7) sc_l_is_due.nd rfl (Or.inl rfl))
            (fun _ _ _ _ _ => pts_one (PW.pt (pw_or (pt_not (pt_val (pe_callB (show CallR _ (.builtin "isinstance") (rIsi K) from call_isi) (by rfl) ms boot_isinstance (pa_cons (pv 7) (pa_cons (pe_bltn (v := .ty "int") (by rfl) mi (by decide +kernel) rfl) pa_nil)))))
              (pw_or1 (pt_val (pe_callB (show CallR _ (.builtin "isinstance") (rIsi K) from call_isi) (by rfl) ms boot_isinstance (pa_cons (pv 7) (pa_cons (pe_bltn (v := .ty "bool") (by rfl) mb (by decide +kernel) rfl) pa_nil))))))))
            (fun _ _ _ _ _ => pv 7)) (pe_lst pa_nil) (nomark _))
          (pss_one (ps_ret pe_bl)) pss_nil)
      (pss_cons (ps_asg (pv 2) (pg_tup (by rfl) (pgs_cons (pg_name (i := 3) sc_l_is_due.nd rfl (.inl rfl)) (pgs_cons (pg_name (i := 4) sc_l_is_due.nd rfl (.inl rfl)) (pgs_cons (pg_name (i := 5) sc_l_is_due.nd rfl (.inl rfl)) (pgs_cons (pg_name (i := 6) sc_l_is_due.nd rfl (.inl rfl)) pgs_nil))))))
      (pss_cons (ps_if (PW.pt (pw_or (pt_cmpR op_notIn_seq (pv 3) (pv 0) rfl) (pw_or (pt_cmpR op_notIn_seq (pv 4) (pv 0) rfl) (pw_or (pt_cmpR op_notIn_seq (pv 5) (pv 1) rfl) (pw_or (pt_cmpR op_notIn_seq (pv 6) (pv 1) rfl)
            (pw_or (pt_cmpR op_ge (pv 3) (pv 4) (nomark _)) (pw_or1 (pt_cmpR op_ge (pv 5) (pv 6) (nomark _)))))))))
          (pss_one (ps_ret pe_bl)) pss_nil)
      (pss_one (ps_ret (pe_and (pe_cmpR op_eq (pe_call GX hr (by rfl) gX FX.kp bX .nil pass0 (pa_cons (pv 3) (pa_cons (pv 4) pa_nil))) (pe_call GX hr (by rfl) gX FX.kp bX .nil pass0 (pa_cons (pv 5) (pa_cons (pv 6) pa_nil))) (nomark _))
        (pe_one (pe_cmpR op_eq (pe_op op_mod (pe_call GG hr (by rfl) gG FG.kp bG .nil pass0 (pa_cons (pe_call GX hr (by rfl) gX FX.kp bX .nil pass0 (pa_cons (pv 3) (pa_cons (pv 4) pa_nil))) pa_nil)) pe_int) pe_int (nomark _))))))))), ?_⟩
    obtain ⟨t, ty, kt⟩ := hv.ty
    refine ⟨_, rfl, v, .ty "tuple", t, _, _, rfl, .ty "tuple", ty, kt, _, rfl, ?_⟩
    cases hv with
    | sc h => exact q H (Same.refl _)
    | lst h => exact q H (Same.refl _)
    | @tup p xs h hs hl =>
      refine iteF ⟨_, rfl, p, xs, rfl, .inr h, rfl, _, rfl, ite2 (fun hc => ?_) (fun hc => ?_)⟩
      · have hne : xs.length ≠ 4 := fun z => by
          rw [z] at hc
          exact absurd hc (by decide)
        have e : due A B (some xs) = false := due_not fun a b c d z => hne (by rw [z]; rfl)
        have q' := q H (Same.refl _)
        rw [e] at q'
        exact q'
      · have h4 : xs.length = 4 := by
          have h5 : ¬ (!decide (V.int (xs.length : Int) = V.int 4)) = true := hc
          by_cases z : xs.length = 4
          · exact z
          · exact absurd (by rw [decide_eq_false (fun y => z (by have := V.int.inj y; omega))]; rfl) h5
        refine ⟨_, rfl, p, rfl, ⟨_, h⟩, fun D nD => ?_⟩
        refine lc_tup (xs := xs) (fun i H' => Same H H' ∧ H' D = some (.lst ((xs.take i).filter fun x => !isI x))) ⟨same_new nD, upd_same⟩ (fun i H' _ p => seqT p.1 h) (fun i x H' hx p => ?_) (fun H2 p2 => ?_)
        · have hi : i < xs.length := (List.getElem?_eq_some_iff.mp hx).1
          obtain ⟨t2, b1, b2, ty2, k1, k2, e3⟩ := tyx_sc (K := K) (H := H') (hs x (List.mem_of_getElem? hx))
          have et : ((xs.take (i + 1)).filter fun x => !isI x) = ((xs.take i).filter fun x => !isI x) ++ (if isI x = true then [] else [x]) := by
            rw [List.take_add_one, hx, List.filter_append]
            congr 1
            show List.filter _ [x] = _
            rw [List.filter_cons]
            cases isI x <;> rfl
          have hlen : ((xs.take i).filter fun x => !isI x).length < sizeLine := Nat.lt_of_le_of_lt (Nat.le_trans (List.length_filter_le _ _) (by rw [List.length_take]; omega : _ ≤ 100)) (by decide)
          have push : isI x = false → ∃ acc, H' D = some (.lst acc) ∧ acc.length < sizeLine ∧ Same H (upd H' D (.lst (acc ++ [x]))) ∧ upd H' D (.lst (acc ++ [x])) D = some (.lst ((xs.take (i + 1)).filter fun x => !isI x)) := fun hf => by
            refine ⟨_, p.2, hlen, same_mut p.1 nD, ?_⟩
            rw [upd_same, et, hf]
            rfl
          refine ⟨rfl, _, rfl, x, .ty "int", t2, _, b1, rfl, .ty "int", ty2, k1, b1, rfl, ?_⟩
          cases b1 with
          | false => exact ⟨_, rfl, push e3.symm⟩
          | true =>
            refine iteF ⟨_, rfl, x, .ty "bool", t2, _, b2, rfl, .ty "bool", ty2, k2, b2, rfl, ?_⟩
            cases b2 with
            | true => exact ⟨_, rfl, push e3.symm⟩
            | false =>
              refine ⟨p.1, ?_⟩
              have ei : isI x = true := e3.symm
              rw [et, ei, p.2]
              exact congrArg (fun z => some (HO.lst z)) (List.append_nil _).symm
        · obtain ⟨s2, hD⟩ := p2
          rw [List.take_length] at hD
          refine ⟨Nat.zero_le _, fun t0 nt => ?_⟩
          have s3 : Same H2 (upd H2 t0 (.lst [])) := same_new nt
          have hf : ∀ v ∈ xs.filter fun x => !isI x, Sc v := fun v hv => hs v ((List.mem_filter.mp hv).1)
          refine ⟨.list ((xs.filter fun x => !isI x).map scD), .list [], .lst (.inl (.inl (s3 _ _ hD))) (dpAll_sc hf), .lst (.inl (.inl upd_same)) .nil, shaped_l (sc_layAll hf).1 (by rw [(sc_layAll hf).2]; omega), shaped_l rfl (Nat.zero_le _), _, rfl, ?_⟩
          have s03 : Same H (upd H2 t0 (.lst [])) := s2.trans s3
          have e0 : PyData.eqv (.list ((xs.filter fun x => !isI x).map scD)) (.list []) = xs.all isI := by
            rw [eqv_nilL, List.isEmpty_map, filt_nil]
          rw [e0]
          cases hi : xs.all isI with
          | false =>
            have e : due A B (some xs) = false := due_not fun a b c d z => by
              rw [z] at hi
              cases hi
            have q' := q _ s03
            rw [e] at q'
            exact q'
          | true =>
            obtain ⟨x, y, u, v, rfl⟩ := four_ints h4 hi
            have hA2 := seqT s03 hA
            have hB2 := seqT s03 hB
            refine ⟨_, rfl, p, _, rfl, seqT s03 h, rfl, _, _, rfl, _, _, rfl, _, _, rfl, _, _, rfl, rfl, ?_⟩
            have e0 : due A B (some [.int x, .int y, .int u, .int v]) = dueI A B x y u v := rfl
            rw [e0] at q
            unfold dueI at q
            have q' := q _ s03
            refine ⟨_, rfl, _, rfl, a, _, rfl, .inr hA2, rfl, flat_N A, _, rfl, ?_⟩
            cases m1 : inV (.int x) (A.map vN) with
            | false =>
              rw [m1] at q'
              exact q'
            | true =>
            refine iteF ⟨_, rfl, _, rfl, a, _, rfl, .inr hA2, rfl, flat_N A, _, rfl, ?_⟩
            cases m2 : inV (.int y) (A.map vN) with
            | false =>
              rw [m1, m2] at q'
              exact q'
            | true =>
            refine iteF ⟨_, rfl, _, rfl, b, _, rfl, .inr hB2, rfl, flat_N B, _, rfl, ?_⟩
            cases m3 : inV (.int u) (B.map vN) with
            | false =>
              rw [m1, m2, m3] at q'
              exact q'
            | true =>
            refine iteF ⟨_, rfl, _, rfl, b, _, rfl, .inr hB2, rfl, flat_N B, _, rfl, ?_⟩
            cases m4 : inV (.int v) (B.map vN) with
            | false =>
              rw [m1, m2, m3, m4] at q'
              exact q'
            | true =>
            rw [m1, m2, m3, m4] at q q'
            obtain ⟨n1, g1, rfl⟩ := inV_nat m1
            obtain ⟨n2, g2, rfl⟩ := inV_nat m2
            obtain ⟨n3, g3, rfl⟩ := inV_nat m3
            obtain ⟨n4, g4, rfl⟩ := inV_nat m4
            refine iteF ⟨_, rfl, _, rfl, _, _, rfl, rfl, _, rfl, ?_⟩
            by_cases c1 : n1 < n2
            · rw [decide_eq_false (by omega : ¬ (n1 : Int) ≥ (n2 : Int))]
              rw [decide_eq_true (by omega : (n1 : Int) < (n2 : Int))] at q q'
              refine iteF ⟨_, rfl, _, rfl, _, _, rfl, rfl, _, rfl, ?_⟩
              by_cases c2 : n3 < n4
              · rw [decide_eq_false (by omega : ¬ (n3 : Int) ≥ (n4 : Int))]
                rw [decide_eq_true (by omega : (n3 : Int) < (n4 : Int))] at q q'
                simp only [Int.toNat_natCast, Bool.and_self, Bool.true_and] at q q'
                refine iteF ?_
                refine ⟨_, rfl, _, rfl, n1, n2, rfl, fun H4 s4 => ⟨_, rfl, _, rfl, n3, n4, rfl, fun H5 s5 => ⟨rfl, _, rfl, ?_⟩⟩⟩
                by_cases z : n1 ^^^ n2 = n3 ^^^ n4
                · rw [decide_eq_true (show V.int ((n1 ^^^ n2 : Nat) : Int) = V.int ((n3 ^^^ n4 : Nat) : Int) by rw [z])]
                  refine iteT ⟨_, rfl, _, rfl, n1, n2, rfl, fun H6 s6 => ⟨n1 ^^^ n2, rfl, _, _, rfl, rfl, (by show (0 : Int) < 4; decide), rfl, ?_⟩⟩
                  have q6 := q _ (((s03.trans s4).trans s5).trans s6)
                  rw [z] at q6 ⊢
                  rw [beq_self_eq_true, Bool.true_and] at q6
                  have e9 : decide (V.int (((wt (n3 ^^^ n4) : Nat) : Int) % 4) = V.int 0) = (wt (n3 ^^^ n4) % 4 == 0) := by
                    by_cases y : wt (n3 ^^^ n4) % 4 = 0
                    · rw [y, decide_eq_true (congrArg V.int (by omega))] <;> rfl
                    · rw [beq_eq_false_iff_ne.mpr y, decide_eq_false (fun t => y (by have := V.int.inj t; omega))]
                  show Q (.bl (decide (V.int (((wt (n3 ^^^ n4) : Nat) : Int) % 4) = V.int 0))) H6
                  rw [e9]
                  exact q6
                · rw [decide_eq_false (fun t => z (by have := V.int.inj t; omega))]
                  have q6 := q _ ((s03.trans s4).trans s5)
                  rw [beq_eq_false_iff_ne.mpr z, Bool.false_and] at q6
                  exact q6
              · rw [decide_eq_true (by omega : (n3 : Int) ≥ (n4 : Int))]
                rw [decide_eq_false (by omega : ¬ (n3 : Int) < (n4 : Int))] at q'
                simp only [Bool.and_false, Bool.false_and] at q'
                exact q'
            · rw [decide_eq_true (by omega : (n1 : Int) ≥ (n2 : Int))]
              rw [decide_eq_false (by omega : ¬ (n1 : Int) < (n2 : Int))] at q'
              simp only [Bool.and_false, Bool.false_and] at q'
              exact q'
/-! ### _law_moved -/
def spMoved (K : PySem.W.Frag) : Sp := fun vs H Q _ => ∃ (a : Addr) (A : List Nat) (t m : Nat), vs = [.ref a, vN t] ∧ SqT K H a (A.map vN) ∧ LotOk m A ∧ t < 2 ^ m ∧
  ∀ (A' : List Nat) p H', Same H H' → SqT K H' p (A'.map vN) → LotOk m A' → (∀ x, x ∈ A' ↔ ∃ y ∈ A, x = y ^^^ t) → Q (.ref p) H'
def natI (A : List Nat) : List Int := A.map fun (n : Nat) => (n : Int)
/-- a list of whole numbers, none below 0, as Nats -/
theorem toNats : ∀ (ns : List Int), (∀ x ∈ ns, ∃ n : Nat, x = (n : Int)) → ∃ A : List Nat, ns = natI A
  | [], _ => ⟨[], rfl⟩
  | x :: r, h => by
    obtain ⟨n, e⟩ := h x List.mem_cons_self
    obtain ⟨A, e2⟩ := toNats r fun y hy => h y (List.mem_cons_of_mem _ hy)
    exact ⟨n :: A, by rw [e, e2]; rfl⟩
theorem vN_map (A : List Nat) : A.map vN = (natI A).map V.int := by
  unfold natI
  rw [List.map_map]
  rfl
/-- a rising list without two of a kind rises at each place -/
theorem strict_of {A : List Nat} (h : A.Pairwise (· ≤ ·)) (d : A.Nodup) : A.Pairwise (· < ·) := by
  have h2 := List.Pairwise.and h d
  exact h2.imp fun z => Nat.lt_of_le_of_ne z.1 z.2
theorem nodup_of {A : List Nat} (h : A.Pairwise (· < ·)) : A.Nodup := h.imp fun z => Nat.ne_of_lt z
/-- what sorted gives of the Nats of A -/
theorem sorted_nats {A : List Nat} {ns : List Int} (hp : ns.Perm (natI A)) (hs : ns.Pairwise (· ≤ ·)) : ∃ A' : List Nat, ns = natI A' ∧ A'.Perm A ∧ A'.Pairwise (· ≤ ·) := by
  obtain ⟨A', e⟩ := toNats ns fun x hx => by
    obtain ⟨n, _, z⟩ := List.mem_map.mp (show x ∈ A.map fun (n : Nat) => (n : Int) from hp.mem_iff.mp hx)
    exact ⟨n, z.symm⟩
  subst e
  refine ⟨A', rfl, ?_, ?_⟩
  · have h2 := hp.map Int.toNat
    unfold natI at h2
    rw [List.map_map, List.map_map] at h2
    have e1 : ∀ L : List Nat, L.map (Int.toNat ∘ fun n : Nat => (n : Int)) = L := fun L => by
      conv => rhs; rw [← List.map_id L]
      exact List.map_congr_left fun n _ => Int.toNat_natCast n
    rw [e1, e1] at h2
    exact h2
  · unfold natI at hs
    rw [List.pairwise_map] at hs
    exact hs.imp fun z => by omega
theorem ok_l_moved {fX : Addr} {fdX : FuncData} (mt : mg "tuple" = none) (mS : mg "sorted" = none)
    (gX : mg "_law_xor" = some (.ref fX)) (FX : Fun K "_law_xor" "_law_xor" s_l_xor fX fdX) (bX : Binds K fdX ["_law_x", "_law_y"] []) (GX : FnOk P w K mg base CX0 (k + 1) fX fdX ["_law_x", "_law_y"] spXor)
    (F : Fun K "_law_moved" "_law_moved" s_l_moved f fd) : FnOk P w K mg base CX0 (k + 2) f fd ["_law_lot_here", "_law_word"] (spMoved K) := by
  refine F.ok sc_l_moved (fun vs H Q E h => ?_) (fun cdv A outer s H vs Q E hr h => ?_)
  · obtain ⟨a, A, t, m, rfl, _⟩ := h
    rfl
  · obtain ⟨a, A, t, m, rfl, hA, lot, ht, q⟩ := h
    refine ⟨_, pss_one (ps_ret (pe_callTy call_tuple_of (by rfl) mt (by decide +kernel) (pa_cons (pe_callB cr_sorted (by rfl) mS (by decide +kernel) (pa_cons (pe_lc (own := [("_law_one", 2)]) (g := gName 2) (tt := tYes) (by rfl) sc_l_moved.nd (pi_tup (pv 0))
            (blkOk_by (own := [("_law_one", 2)]) (N := ["_law_lot_here", "_law_word", "_law_one"]) (sc := defScope s_l_moved) (by decide +kernel)) (fun _ _ _ _ _ => pg_name (i := 2) sc_l_moved.nd rfl (Or.inl rfl)) (fun _ _ _ _ _ => pts_nil)
            (fun _ _ _ _ _ => pe_call GX hr (by rfl) gX FX.kp bX .nil pass0 (pa_cons (pv 2) (pa_cons (pv 1) pa_nil)))) pa_nil)) pa_nil))), ?_⟩
    refine ⟨_, rfl, a, rfl, ⟨_, hA⟩, fun D nD => ?_⟩
    refine lc_tup (xs := A.map vN) (fun i H' => Same H H' ∧ H' D = some (.lst (((A.take i).map (· ^^^ t)).map vN))) ⟨same_new nD, upd_same⟩ (fun i H' _ p => seqT p.1 hA) (fun i x H' hx p => ?_) (fun H2 p2 => ?_)
    · have hi : i < (A.map vN).length := (List.getElem?_eq_some_iff.mp hx).1
      obtain ⟨n, hn, rfl⟩ := get_vN hx
      have ll := lot.len
      refine ⟨rfl, _, rfl, _, rfl, n, t, rfl, fun H3 s3 => ⟨_, s3 _ _ p.2, ?_, same_mut (p.1.trans s3) nD, ?_⟩⟩
      · rw [List.length_map, List.length_map, List.length_take]
        exact Nat.lt_of_le_of_lt (by omega : _ ≤ 40) (by decide)
      · rw [upd_same, List.take_add_one, hn, List.map_append, List.map_append]
        rfl
    · obtain ⟨s2, hD⟩ := p2
      rw [List.length_map, List.take_length] at hD
      have ll := lot.len
      refine ⟨D, natI (A.map (· ^^^ t)), rfl, .inl (.inl (by rw [hD, vN_map])), by unfold natI; rw [List.length_map, List.length_map]; omega, fun ns' p perm ris np => ?_⟩
      obtain ⟨A', rfl, pm, rs⟩ := sorted_nats perm ris
      refine ⟨p, _, rfl, .inl ⟨.inl (.inl upd_same), fun l hl => ?_⟩⟩
      have mem : ∀ x, x ∈ A' ↔ ∃ y ∈ A, x = y ^^^ t := fun x => by
        rw [pm.mem_iff, List.mem_map]
        exact ⟨fun ⟨y, h, e⟩ => ⟨y, h, e.symm⟩, fun ⟨y, h, e⟩ => ⟨y, h, e.symm⟩⟩
      refine q A' l _ ((s2.trans (same_new np)).trans (same_new hl)) (by rw [vN_map]; exact .inl (.inl upd_same)) ⟨fun z => ?_, fun x hx => ?_, ?_, ?_⟩ mem
      · subst z
        have := pm.length_eq
        rw [List.length_map] at this
        exact lot.ne (List.eq_nil_of_length_eq_zero this.symm)
      · obtain ⟨y, hy, rfl⟩ := (mem x).mp hx
        exact Nat.xor_lt_two_pow (lot.lt y hy) ht
      · refine strict_of rs (pm.nodup_iff.mpr ?_)
        show List.Pairwise _ (A.map _)
        rw [List.pairwise_map]
        refine lot.asc.imp fun {a b} z e => ?_
        have e2 := xor_move a b t
        rw [e, Nat.xor_self] at e2
        exact Nat.ne_of_lt z (xor_eq_zero e2.symm)
      · rw [pm.length_eq, List.length_map]
        exact ll
end
end Sq
set_option Elab.async false
set_option linter.all false
set_option maxRecDepth 100000
set_option maxHeartbeats 4000000
namespace Sq
open PySem PySem.Spec PyProof.Rows L2
theorem cut_nat (xs : List V) (n : Nat) : cutV xs (some (n : Int)) none = xs.drop n := by
  unfold cutV
  have e : HT.sIx xs.length 0 (some (n : Int)) = min n xs.length := HT.sIx_nat xs.length 0 n
  rw [e, HT.sIx_none]
  by_cases h : n ≤ xs.length
  · rw [Nat.min_eq_left h]
    rw [← List.length_drop]
    exact List.take_length
  · rw [Nat.min_eq_right (by omega), List.drop_eq_nil_of_le (by omega : xs.length ≤ n), List.drop_length, List.take_nil]
/-! ### the pairs by their xor -/
def PairAt (B : List Nat) (H : Hp) (wd : Nat) (r : V) : Prop := ∃ (t : Addr) (c d : Nat), r = .ref t ∧ H t = some (.tup [vN c, vN d]) ∧ c ∈ B ∧ d ∈ B ∧ c < d ∧ c ^^^ d = wd ∧ wt wd % 4 = 0
structure Heads (B : List Nat) (hd : Addr) (n : Nat) (H : Hp) (kvs : List (Key × V)) : Prop where
  at' : H hd = some (.dK kvs)
  len : kvs.length ≤ n
  val : ∀ kk v, valV kvs kk = some v → ∃ (wd : Nat) (l : Addr) (rs : List V), kk = (Sum.inl (wd : Int) : Key) ∧ v = .ref l ∧ H l = some (.lst rs) ∧ rs ≠ [] ∧ rs.length ≤ n ∧ ∀ r ∈ rs, PairAt B H wd r
def Cov (B : List Nat) (kvs : List (Key × V)) (i j : Nat) : Prop := ∀ i1 j1 c d, B[i1]? = some c → B[j1]? = some d → i1 < j1 → (i1 < i ∨ i1 = i ∧ j1 < i + 1 + j) → wt (c ^^^ d) % 4 = 0 → (valV kvs (Sum.inl ((c ^^^ d : Nat) : Int) : Key)).isSome = true
theorem PairAt.same {B : List Nat} {H H' : Hp} {wd : Nat} {r : V} (s : Same H H') (h : PairAt B H wd r) : PairAt B H' wd r := by
  obtain ⟨t, c, d, e, ht, q⟩ := h
  exact ⟨t, c, d, e, s _ _ ht, q⟩
theorem Heads.same {B : List Nat} {hd : Addr} {n : Nat} {H H' : Hp} {kvs : List (Key × V)} (s : Same H H') (h : Heads B hd n H kvs) : Heads B hd n H' kvs :=
  ⟨s _ _ h.at', h.len, fun kk v e => by
    obtain ⟨wd, l, rs, e1, e2, hl, ne, ln, q⟩ := h.val kk v e
    exact ⟨wd, l, rs, e1, e2, s _ _ hl, ne, ln, fun r hr => (q r hr).same s⟩⟩
theorem Heads.mono {B : List Nat} {hd : Addr} {n n' : Nat} {H : Hp} {kvs : List (Key × V)} (hn : n ≤ n') (h : Heads B hd n H kvs) : Heads B hd n' H kvs :=
  ⟨h.at', Nat.le_trans h.len hn, fun kk v e => by
    obtain ⟨wd, l, rs, e1, e2, hl, ne, ln, q⟩ := h.val kk v e
    exact ⟨wd, l, rs, e1, e2, hl, ne, Nat.le_trans ln hn, q⟩⟩
/-- a pair is laid down under its xor -/
theorem Heads.put {B : List Nat} {hd : Addr} {n : Nat} {H : Hp} {kvs : List (Key × V)} {wd : Nat} {l : Addr} {rs : List V} (h : Heads B hd n H kvs) (hl : H l = some (.lst rs)) (ne : rs ≠ []) (ln : rs.length ≤ n + 1) (q : ∀ r ∈ rs, PairAt B H wd r) :
    Heads B hd (n + 1) (upd H hd (.dK (putK kvs (Sum.inl (wd : Int) : Key) (.ref l)))) (putK kvs (Sum.inl (wd : Int) : Key) (.ref l)) := by
  have keepL : ∀ {l : Addr} {rs : List V}, H l = some (.lst rs) → upd H hd (.dK (putK kvs (Sum.inl (wd : Int) : Key) (.ref l))) l = some (.lst rs) := fun {l rs} e => by
    rw [upd_ne (ne_of e h.at' (by intro z; cases z)), e]
  have keepP : ∀ {wd' : Nat} {r : V} {o : HO}, PairAt B H wd' r → PairAt B (upd H hd o) wd' r := fun {wd' r o} e => by
    obtain ⟨t, c, d, e1, ht, q⟩ := e
    exact ⟨t, c, d, e1, by rw [upd_ne (ne_of ht h.at' (by intro z; cases z)), ht], q⟩
  refine ⟨upd_same, Nat.le_trans (length_putK _ _ _) (by have := h.len; omega), fun kk v e => ?_⟩
  rw [valV_put] at e
  by_cases z : kk = (Sum.inl (wd : Int) : Key)
  · rw [if_pos z] at e
    have e2 := (Option.some.inj e).symm
    exact ⟨wd, l, rs, z, e2, keepL hl, ne, ln, fun r hr => keepP (q r hr)⟩
  · rw [if_neg z] at e
    obtain ⟨wd2, l2, rs2, e1, e2, hl2, ne2, ln2, q2⟩ := h.val kk v e
    refine ⟨wd2, l2, rs2, e1, e2, ?_, ne2, by omega, fun r hr => keepP (q2 r hr)⟩
    rw [upd_ne (ne_of hl2 h.at' (by intro z; cases z)), hl2]
theorem Cov.next {B : List Nat} {kvs : List (Key × V)} {i : Nat} (h : Cov B kvs i B.length) : Cov B kvs (i + 1) 0 := fun i1 j1 c d e1 e2 lt a f => by
  refine h i1 j1 c d e1 e2 lt ?_ f
  have hj := (List.getElem?_eq_some_iff.mp e2).1
  omega
theorem Cov.start {B : List Nat} : Cov B [] 0 0 := fun i1 j1 c d e1 e2 lt a f => by omega
/-- the turn of a pair that is no one's half -/
theorem Cov.skip {B : List Nat} {kvs : List (Key × V)} {i j c d : Nat} (h : Cov B kvs i j) (hc : B[i]? = some c) (hd : B[i + 1 + j]? = some d) (f : wt (c ^^^ d) % 4 ≠ 0) : Cov B kvs i (j + 1) := fun i1 j1 c1 d1 e1 e2 lt a g => by
  by_cases z : i1 = i ∧ j1 = i + 1 + j
  · obtain ⟨rfl, rfl⟩ := z
    rw [hc] at e1
    rw [hd] at e2
    obtain rfl := Option.some.inj e1
    obtain rfl := Option.some.inj e2
    exact absurd g f
  · exact h i1 j1 c1 d1 e1 e2 lt (by omega) g
theorem Cov.put {B : List Nat} {kvs : List (Key × V)} {i j c d : Nat} {v : V} (h : Cov B kvs i j) (hc : B[i]? = some c) (hd : B[i + 1 + j]? = some d) : Cov B (putK kvs (Sum.inl ((c ^^^ d : Nat) : Int) : Key) v) i (j + 1) := fun i1 j1 c1 d1 e1 e2 lt a g => by
  rw [valV_put]
  by_cases y : (Sum.inl ((c1 ^^^ d1 : Nat) : Int) : Key) = Sum.inl ((c ^^^ d : Nat) : Int)
  · rw [if_pos y]
    rfl
  · rw [if_neg y]
    refine h i1 j1 c1 d1 e1 e2 lt ?_ g
    by_cases z : i1 = i ∧ j1 = i + 1 + j
    · obtain ⟨rfl, rfl⟩ := z
      rw [hc] at e1
      rw [hd] at e2
      obtain rfl := Option.some.inj e1
      obtain rfl := Option.some.inj e2
      exact absurd rfl y
    · omega
/-! ### the clashes found -/
def QuadAt (A B : List Nat) (H : Hp) (r : V) : Prop := ∃ (t : Addr) (x y u v : Nat), r = .ref t ∧ H t = some (.tup [vN x, vN y, vN u, vN v]) ∧ IsCl A B x y u v
theorem QuadAt.same {A B : List Nat} {H H' : Hp} {r : V} (s : Same H H') (h : QuadAt A B H r) : QuadAt A B H' r := by
  obtain ⟨t, x, y, u, v, e, ht, q⟩ := h
  exact ⟨t, x, y, u, v, e, s _ _ ht, q⟩
/-- a clash is told of by the pairs seen -/
def Seen (A B : List Nat) (rs : List V) (i j : Nat) : Prop := rs = [] → ∀ i1 j1 x y u v, A[i1]? = some x → A[j1]? = some y → i1 < j1 → (i1 < i ∨ i1 = i ∧ j1 < i + 1 + j) → ¬ IsCl A B x y u v
theorem Seen.next {A B : List Nat} {rs : List V} {i : Nat} (h : Seen A B rs i A.length) : Seen A B rs (i + 1) 0 := fun z i1 j1 x y u v e1 e2 lt a => by
  refine h z i1 j1 x y u v e1 e2 lt ?_
  have hj := (List.getElem?_eq_some_iff.mp e2).1
  omega
theorem asc_lt {A : List Nat} (h : A.Pairwise (· < ·)) {i j x y : Nat} (hx : A[i]? = some x) (hy : A[j]? = some y) (hxy : x < y) : i < j := by
  obtain ⟨h1, e1⟩ := List.getElem?_eq_some_iff.mp hx
  obtain ⟨h2, e2⟩ := List.getElem?_eq_some_iff.mp hy
  rcases Nat.lt_trichotomy i j with z | z | z
  · exact z
  · subst z
    rw [e1] at e2
    omega
  · have := (List.pairwise_iff_getElem.mp h) j i h2 h1 z
    omega
theorem lt_asc {A : List Nat} (h : A.Pairwise (· < ·)) {i j x y : Nat} (hx : A[i]? = some x) (hy : A[j]? = some y) (hij : i < j) : x < y := by
  obtain ⟨h1, e1⟩ := List.getElem?_eq_some_iff.mp hx
  obtain ⟨h2, e2⟩ := List.getElem?_eq_some_iff.mp hy
  rw [← e1, ← e2]
  exact (List.pairwise_iff_getElem.mp h) i j h1 h2 hij
/-- a key is there for each pair that counts -/
theorem cov_all {B : List Nat} {kvs : List (Key × V)} (h : Cov B kvs B.length 0) (asc : B.Pairwise (· < ·)) {u v : Nat} (hu : u ∈ B) (hv : v ∈ B) (lt : u < v) (f : wt (u ^^^ v) % 4 = 0) : (valV kvs (Sum.inl ((u ^^^ v : Nat) : Int) : Key)).isSome = true := by
  obtain ⟨i, hi⟩ := List.mem_iff_getElem?.mp hu
  obtain ⟨j, hj⟩ := List.mem_iff_getElem?.mp hv
  have hl := (List.getElem?_eq_some_iff.mp hi).1
  exact h i j u v hi hj (asc_lt asc hi hj lt) (.inl hl) f
theorem seen_all {A B : List Nat} {rs : List V} (h : Seen A B rs A.length 0) (asc : A.Pairwise (· < ·)) (z : rs = []) : ¬ Cl A B := by
  rintro ⟨x, y, u, v, cl⟩
  obtain ⟨i, hi⟩ := List.mem_iff_getElem?.mp cl.ha
  obtain ⟨j, hj⟩ := List.mem_iff_getElem?.mp cl.hb
  have hl := (List.getElem?_eq_some_iff.mp hi).1
  exact h z i j x y u v hi hj (asc_lt asc hi hj cl.ab) (.inl hl) cl
section
variable {P : Program} {w : World} {K : PySem.W.Frag} {mg : Str → Option Value} {base : Heap} {f : Addr} {fd : FuncData} {k : Nat}
def spClashes (K : PySem.W.Frag) : Sp := fun vs H Q _ => ∃ (a b : Addr) (A B : List Nat) (m : Nat), vs = [.ref a, .ref b] ∧ SqT K H a (A.map vN) ∧ SqT K H b (B.map vN) ∧ LotOk m A ∧ LotOk m B ∧
  ∀ H' p rs, Same H H' → H' p = some (.lst rs) → rs.length ≤ 4000000 → (∀ r ∈ rs, QuadAt A B H' r) → (rs = [] ↔ ¬ Cl A B) → Q (.ref p) H'
theorem ok_l_clashes {fX fG : Addr} {fdX fdG : FuncData} (me : mg "enumerate" = none)
    (gX : mg "_law_xor" = some (.ref fX)) (FX : Fun K "_law_xor" "_law_xor" s_l_xor fX fdX) (bX : Binds K fdX ["_law_x", "_law_y"] []) (GX : FnOk P w K mg base CX0 (k + 1) fX fdX ["_law_x", "_law_y"] spXor)
    (gG : mg "_law_weight" = some (.ref fG)) (FG : Fun K "_law_weight" "_law_weight" s_l_weight fG fdG) (bG : Binds K fdG ["_law_x"] []) (GG : FnOk P w K mg base CX0 (k + 1) fG fdG ["_law_x"] spWeight)
    (F : Fun K "_law_clashes" "_law_clashes" s_l_clashes f fd) : FnOk P w K mg base CX0 (k + 2) f fd ["_law_firsts", "_law_seconds"] (spClashes K) := by
  refine F.ok sc_l_clashes (fun vs H Q E h => ?_) (fun cdv A0 outer s H vs Q E hr h => ?_)
  · obtain ⟨a, b, A, B, m, rfl, _⟩ := h
    rfl
  · obtain ⟨a, b, A, B, m, rfl, hA, hB, la, lb, q⟩ := h
    refine ⟨_, pss_cons (ps_par (i := 2) (j := 3) (by rfl) sc_l_clashes.nd rfl rfl (by decide) rfl rfl (pa_cons (pe_lst pa_nil) (pa_cons pe_dnewK pa_nil)) (by rfl))
      (pss_cons (ps_for PassesOwn.never rfl (SqN.pi_enumT (by rfl) me (pa_cons (pv 1) pa_nil)) (pg_tup (by rfl) (pgs_cons (pg_name (i := 4) sc_l_clashes.nd rfl (.inl rfl)) (pgs_cons (pg_name (i := 5) sc_l_clashes.nd rfl (.inl rfl)) pgs_nil)))
        (pss_one (ps_for PassesOwn.never rfl (pi_tup (pe_slice sl_tup (pv 1) (po_some (pe_op op_add (pv 4) pe_int)) po_none)) (pg_name (i := 6) sc_l_clashes.nd rfl (.inl rfl))
          (pss_cons (ps_set (i := 7) sc_l_clashes.nd rfl (.inl rfl) (pe_call GX hr (by rfl) gX FX.kp bX .nil pass0 (pa_cons (pv 5) (pa_cons (pv 6) pa_nil))))
          (pss_one (ps_if (pt_cmpR op_eq (pe_op op_mod (pe_call GG hr (by rfl) gG FG.kp bG .nil pass0 (pa_cons (pv 7) pa_nil)) pe_int) pe_int (nomark _))
            (pss_one (ps_dput (hu_of hr) (pv 3) (pv 7) (pe_op op_cat (pe_dget2 (hu_of hr) (pv 3) (pv 7) (pe_lst pa_nil) ⟨rfl, by rfl, by rfl, by rfl⟩) (pe_lst (pa_cons (pe_tup (pa_cons (pv 5) (pa_cons (pv 6) pa_nil))) pa_nil))) (by rfl))) pss_nil))))))
      (pss_cons (ps_for PassesOwn.never rfl (SqN.pi_enumT (by rfl) me (pa_cons (pv 0) pa_nil)) (pg_tup (by rfl) (pgs_cons (pg_name (i := 4) sc_l_clashes.nd rfl (.inl rfl)) (pgs_cons (pg_name (i := 8) sc_l_clashes.nd rfl (.inr rfl)) pgs_nil)))
        (pss_one (ps_for PassesOwn.never rfl (pi_tup (pe_slice sl_tup (pv 0) (po_some (pe_op op_add (pv 4) pe_int)) po_none)) (pg_name (i := 9) sc_l_clashes.nd rfl (.inr rfl))
          (pss_one (ps_set (i := 2) sc_l_clashes.nd rfl (.inl rfl) (pe_op op_cat (pv 2) (pe_lc (own := [("_law_c", 5), ("_law_d", 6)]) (g := gTup K 2 (gCons (gName 5) (gCons (gName 6) gNil))) (tt := tYes) (by rfl) sc_l_clashes.nd
            (pi_list (pe_dget2 (hu_of hr) (pv 3) (pe_call GX hr (by rfl) gX FX.kp bX .nil pass0 (pa_cons (pv 8) (pa_cons (pv 9) pa_nil))) (pe_lst pa_nil) ⟨rfl, by rfl, by rfl, by rfl⟩))
            (blkOk_by (own := [("_law_c", 5), ("_law_d", 6)]) (N := ["_law_firsts", "_law_seconds", "_law_found", "_law_heads", "_law_at", "_law_c", "_law_d", "_law_word", "_law_a", "_law_b"]) (sc := defScope s_l_clashes) (by decide +kernel))
            (fun _ _ _ _ _ => pg_tup (by rfl) (pgs_cons (pg_name (i := 5) sc_l_clashes.nd rfl (Or.inl rfl)) (pgs_cons (pg_name (i := 6) sc_l_clashes.nd rfl (Or.inl rfl)) pgs_nil))) (fun _ _ _ _ _ => pts_nil)
            (fun _ _ _ _ _ => pe_tup (pa_cons (pv 8) (pa_cons (pv 9) (pa_cons (pv 5) (pa_cons (pv 6) pa_nil)))))))))))) 
      (pss_one (ps_ret (pv 2))))), ?_⟩
    have lenA := la.len
    have lenB := lb.len
    refine ⟨Nat.zero_le _, fun fo nf => fun hd nh => ⟨_, _, rfl, ?_⟩⟩
    have s1 : Same H (upd (upd H fo (.lst [])) hd (.dK [])) := (same_new nf).trans (same_new nh)
    have nfh : fo ≠ hd := fun z => by
      rw [z, upd_same] at nh
      cases nh
    have nhd : H hd = none := Same.fresh (same_new nf) nh
    have e1 : upd (upd H fo (.lst [])) hd (.dK []) fo = some (.lst []) := by rw [upd_ne nfh, upd_same]
    refine ⟨_, rfl, b, _, rfl, seqT s1 hB, ?_⟩
    refine SqN.for_enumT (xs := B.map vN) (fun i σ' H' => ∃ y4 y5 y6 y7 kvs, σ' = [some (.ref a), some (.ref b), some (.ref fo), some (.ref hd), y4, y5, y6, y7, none, none] ∧ Same H H' ∧ H' fo = some (.lst []) ∧ Heads B hd (40 * i) H' kvs ∧ Cov B kvs i 0)
      ⟨none, none, none, none, [], rfl, s1, e1, ⟨upd_same, Nat.le_refl _, fun kk v z => by simp [valV] at z⟩, Cov.start⟩ (fun i σ' H' p => by
        obtain ⟨_, _, _, _, _, _, sm, _⟩ := p
        exact seqT sm hB) (fun i x T σ' H' hx p nT => ?_) (fun σ' H' p => ?_)
    · obtain ⟨y4, y5, y6, y7, kvs, rfl, sm, efo, hh, cov⟩ := p
      obtain ⟨c, hc, rfl⟩ := get_vN hx
      have hi2 := (List.getElem?_eq_some_iff.mp hc).1
      have sT : Same H' (upd H' T (.tup [.int (i : Nat), vN c])) := same_new nT
      refine ⟨T, _, rfl, .inl (.inl upd_same), rfl, _, _, rfl, _, _, rfl, rfl, ?_⟩
      refine ⟨_, rfl, _, rfl, _, _, rfl, rfl, _, rfl, b, _, rfl, seqT (sm.trans sT) hB, fun z => ?_, fun c0 nc => ?_⟩
      · have z1 : HT.sIx (B.map vN).length 0 (some ((i : Int) + 1)) = min (i + 1) (B.map vN).length := by
          rw [show ((i : Int) + 1) = ((i + 1 : Nat) : Int) by omega]
          exact HT.sIx_nat _ 0 (i + 1)
        rw [z1, List.length_map] at z
        omega
      rw [show ((i : Int) + 1) = ((i + 1 : Nat) : Int) by omega]
      rw [cut_nat, ← List.map_drop]
      have s2 := sT.trans (same_new (o := .tup ((B.drop (i + 1)).map vN)) nc)
      refine ⟨c0, rfl, ⟨_, .inl (.inl upd_same)⟩, ?_⟩
      refine for_tup (xs := (B.drop (i + 1)).map vN) (fun j σ2 H2 => ∃ y6 y7 kvs, σ2 = [some (.ref a), some (.ref b), some (.ref fo), some (.ref hd), some (.int (i : Nat)), some (vN c), y6, y7, none, none] ∧ Same H H2 ∧ H2 fo = some (.lst []) ∧ H2 c0 = some (.tup ((B.drop (i + 1)).map vN)) ∧ Heads B hd (40 * i + j) H2 kvs ∧ Cov B kvs i j)
        ⟨y6, y7, kvs, rfl, sm.trans s2, s2 _ _ efo, upd_same, hh.same s2, cov⟩ (fun j σ2 H2 _ p => by
          obtain ⟨_, _, _, _, _, _, e, _⟩ := p
          exact .inl (.inl e)) (fun j y σ2 H2 hy p => ?_) (fun σ2 H2 p => ?_)
      · obtain ⟨y6, y7, kvs, rfl, sm2, efo2, ec0, hh2, cov2⟩ := p
        obtain ⟨d, hd', rfl⟩ := get_vN hy
        rw [List.getElem?_drop] at hd'
        have hj := (List.getElem?_eq_some_iff.mp hd').1
        refine ⟨_, rfl, _, rfl, c, d, rfl, fun H4 s4 => ?_⟩
        have hh4 := hh2.same s4
        refine ⟨_, rfl, c ^^^ d, rfl, _, _, rfl, rfl, (by show (0 : Int) < 4; decide), rfl, _, rfl, ite2 (fun hw => ?_) (fun hw => ?_)⟩
        · have four : wt (c ^^^ d) % 4 = 0 := by
            have := V.int.inj (of_decide_eq_true hw)
            omega
          refine ⟨_, rfl, hd, rfl, .inl ⟨_, .inl hh4.at'⟩, _, rfl, Nat.zero_le _, fun z nz => ?_⟩
          have s5 : Same H4 (upd H4 z (.lst [])) := same_new nz
          have hh5 := hh4.same s5
          refine ⟨_, DGet.k (k := (Sum.inl ((c ^^^ d : Nat) : Int) : Key)) hh5.at', ?_⟩
          have hv : ∃ l0 rs0, (valV kvs (Sum.inl ((c ^^^ d : Nat) : Int) : Key)).getD (.ref z) = .ref l0 ∧ upd H4 z (.lst []) l0 = some (.lst rs0) ∧ rs0.length ≤ 40 * i + j ∧ ∀ r ∈ rs0, PairAt B (upd H4 z (.lst [])) (c ^^^ d) r := by
            cases e : valV kvs (Sum.inl ((c ^^^ d : Nat) : Int) : Key) with
            | none => exact ⟨z, [], rfl, upd_same, Nat.zero_le _, fun r hr => by cases hr⟩
            | some v =>
              obtain ⟨wd, l, rs, e1, e2, hl, ne, ln, q⟩ := hh5.val _ _ e
              have e3 : wd = c ^^^ d := by
                have := Sum.inl.inj e1
                omega
              subst e3
              exact ⟨l, rs, e2, hl, ln, q⟩
          obtain ⟨l0, rs0, el, hl0, ln0, q0⟩ := hv
          refine ⟨_, rfl, _, rfl, (by show 2 ≤ sizeLine; decide), fun t nt => ⟨(by show 1 ≤ sizeLine; decide), fun l2 n2 => ?_⟩⟩
          have s6 : Same (upd H4 z (.lst [])) (upd (upd H4 z (.lst [])) t (.tup [vN c, vN d])) := same_new nt
          have s7 := same_new (o := .lst [.ref t]) n2
          refine ⟨l0, l2, rs0, [.ref t], el, rfl, s7 _ _ (s6 _ _ hl0), upd_same, Nat.le_trans (by rw [List.length_singleton]; omega : _ ≤ 2000) (by decide), fun p np => ?_⟩
          have s8 := same_new (o := .lst (rs0 ++ [.ref t])) np
          have s58 := (s6.trans s7).trans s8
          have s28 := ((s4.trans s5).trans s58)
          have hh8 := hh5.same s58
          have ht := (s7.trans s8) _ _ (upd_same (H := upd H4 z (.lst [])) (a := t) (o := .tup [vN c, vN d]))
          refine ⟨_, rfl, _, rfl, hd, _, rfl, DPut.k (k := (Sum.inl ((c ^^^ d : Nat) : Int) : Key)) hh8.at' (Nat.lt_of_le_of_lt (by have := hh8.len; omega : _ ≤ 2000) (by decide)), ?_⟩
          refine ⟨_, _, _, rfl, same_mut (sm2.trans s28) nhd, ?_, ?_, hh8.put upd_same (by simp) (by rw [List.length_append, List.length_singleton]; omega) (fun r hr => ?_), cov2.put hc hd'⟩
          · rw [upd_ne nfh]
            exact s28 _ _ efo2
          · rw [upd_ne (ne_of (s28 _ _ ec0) hh8.at' (by intro z; cases z))]
            exact s28 _ _ ec0
          · rcases List.mem_append.mp hr with h | h
            · exact (q0 r h).same s58
            · rw [List.mem_singleton.mp h]
              exact ⟨t, c, d, rfl, ht, List.mem_of_getElem? hc, List.mem_of_getElem? hd', lt_asc lb.asc hc hd' (by omega), rfl, four⟩
        · refine ⟨_, _, _, rfl, sm2.trans s4, s4 _ _ efo2, s4 _ _ ec0, hh4.mono (by omega), cov2.skip hc hd' (fun z => hw (decide_eq_true (congrArg V.int (by omega))))⟩
      · obtain ⟨y6, y7, kvs, rfl, sm2, efo2, ec0, hh2, cov2⟩ := p
        rw [List.length_map, List.length_drop] at hh2 cov2
        refine ⟨_, _, _, _, kvs, rfl, sm2, efo2, hh2.mono (by omega), Cov.next (fun i1 j1 c1 d1 e1 e2 lt ar g => cov2 i1 j1 c1 d1 e1 e2 lt ?_ g)⟩
        have := (List.getElem?_eq_some_iff.mp e2).1
        omega
    · obtain ⟨y4, y5, y6, y7, kvs, rfl, sm, efo, hh, cov⟩ := p
      rw [List.length_map] at hh cov
      have hh0 := hh.mono (by omega : 40 * B.length ≤ 1600)
      refine ⟨_, rfl, a, _, rfl, seqT sm hA, ?_⟩
      refine SqN.for_enumT (xs := A.map vN) (fun i σ' H' => ∃ fo rs y4 y5 y6 y7 y8 y9, σ' = [some (.ref a), some (.ref b), some (.ref fo), some (.ref hd), y4, y5, y6, y7, y8, y9] ∧ Same H H' ∧ H' fo = some (.lst rs) ∧ Heads B hd 1600 H' kvs ∧ rs.length ≤ 2000 * (40 * i) ∧ (∀ r ∈ rs, QuadAt A B H' r) ∧ Seen A B rs i 0)
        ⟨fo, [], _, _, _, _, _, _, rfl, sm, efo, hh0, Nat.le_refl _, (fun r hr => by cases hr), fun _ i1 j1 x y u v e1 e2 lt ar => by omega⟩ (fun i σ' H' p => by
          obtain ⟨_, _, _, _, _, _, _, _, _, sm, _⟩ := p
          exact seqT sm hA) (fun i x T σ' H' hx p nT => ?_) (fun σ' H' p => ?_)
      · obtain ⟨fo, rs, y4, y5, y6, y7, y8, y9, rfl, sm, efo, hh, ln, qd, seen⟩ := p
        obtain ⟨c, hc, rfl⟩ := get_vN hx
        have hi2 := (List.getElem?_eq_some_iff.mp hc).1
        have sT : Same H' (upd H' T (.tup [.int (i : Nat), vN c])) := same_new nT
        refine ⟨T, _, rfl, .inl (.inl upd_same), rfl, _, _, rfl, _, _, rfl, rfl, ?_⟩
        refine ⟨_, rfl, _, rfl, _, _, rfl, rfl, _, rfl, a, _, rfl, seqT (sm.trans sT) hA, fun z => ?_, fun c0 nc => ?_⟩
        · have z1 : HT.sIx (A.map vN).length 0 (some ((i : Int) + 1)) = min (i + 1) (A.map vN).length := by
            rw [show ((i : Int) + 1) = ((i + 1 : Nat) : Int) by omega]
            exact HT.sIx_nat _ 0 (i + 1)
          rw [z1, List.length_map] at z
          omega
        rw [show ((i : Int) + 1) = ((i + 1 : Nat) : Int) by omega]
        rw [cut_nat, ← List.map_drop]
        have s2 := sT.trans (same_new (o := .tup ((A.drop (i + 1)).map vN)) nc)
        refine ⟨c0, rfl, ⟨_, .inl (.inl upd_same)⟩, ?_⟩
        refine for_tup (xs := (A.drop (i + 1)).map vN) (fun j σ2 H2 => ∃ fo rs y5 y6 y7 y9, σ2 = [some (.ref a), some (.ref b), some (.ref fo), some (.ref hd), some (.int (i : Nat)), y5, y6, y7, some (vN c), y9] ∧ Same H H2 ∧ H2 fo = some (.lst rs) ∧ H2 c0 = some (.tup ((A.drop (i + 1)).map vN)) ∧ Heads B hd 1600 H2 kvs ∧ rs.length ≤ 2000 * (40 * i + j) ∧ (∀ r ∈ rs, QuadAt A B H2 r) ∧ Seen A B rs i j)
          ⟨fo, rs, _, _, _, _, rfl, sm.trans s2, s2 _ _ efo, upd_same, hh.same s2, ln, fun r hr => (qd r hr).same s2, seen⟩ (fun j σ2 H2 _ p => by
            obtain ⟨_, _, _, _, _, _, _, _, _, e, _⟩ := p
            exact .inl (.inl e)) (fun j y σ2 H2 hy p => ?_) (fun σ2 H2 p => ?_)
        · obtain ⟨fo, rs, y5, y6, y7, y9, rfl, sm2, efo2, ec0, hh2, ln2, qd2, seen2⟩ := p
          obtain ⟨d, hd', rfl⟩ := get_vN hy
          rw [List.getElem?_drop] at hd'
          have hj := (List.getElem?_eq_some_iff.mp hd').1
          refine ⟨_, rfl, _, rfl, hd, rfl, .inl ⟨_, .inl hh2.at'⟩, _, rfl, _, rfl, c, d, rfl, fun H4 s4 => ⟨Nat.zero_le _, fun z nz => ?_⟩⟩
          have s5 : Same H4 (upd H4 z (.lst [])) := same_new nz
          have hh5 := (hh2.same s4).same s5
          refine ⟨_, DGet.k (k := (Sum.inl ((c ^^^ d : Nat) : Int) : Key)) hh5.at', ?_⟩
          have hv : ∃ l0 rs0, (valV kvs (Sum.inl ((c ^^^ d : Nat) : Int) : Key)).getD (.ref z) = .ref l0 ∧ upd H4 z (.lst []) l0 = some (.lst rs0) ∧ rs0.length ≤ 1600 ∧ (∀ r ∈ rs0, PairAt B (upd H4 z (.lst [])) (c ^^^ d) r) ∧ ((valV kvs (Sum.inl ((c ^^^ d : Nat) : Int) : Key)).isSome = true → rs0 ≠ []) := by
            cases e : valV kvs (Sum.inl ((c ^^^ d : Nat) : Int) : Key) with
            | none => exact ⟨z, [], rfl, upd_same, Nat.zero_le _, fun r hr => (by cases hr), fun t => by cases t⟩
            | some v =>
              obtain ⟨wd, l, rs, e1, e2, hl, ne, ln, q⟩ := hh5.val _ _ e
              have e3 : wd = c ^^^ d := by
                have := Sum.inl.inj e1
                omega
              subst e3
              exact ⟨l, rs, e2, hl, ln, q, fun _ => ne⟩
          obtain ⟨l0, rs0, el, hl0, ln0, q0, ne0⟩ := hv
          have s25 := s4.trans s5
          refine ⟨l0, el, ⟨_, .inl (.inl hl0)⟩, fun D nD => ?_⟩
          refine lc_list (xs := rs0) (fun n H6 => Same (upd H4 z (.lst [])) H6 ∧ ∃ acc, H6 D = some (.lst acc) ∧ acc.length = n ∧ ∀ r ∈ acc, QuadAt A B H6 r) ⟨same_new nD, [], upd_same, rfl, fun r hr => by cases hr⟩ (fun n H6 _ p => .inl (.inl (p.1 _ _ hl0))) (fun n r H6 hr p => ?_) (fun H6 p => ?_)
          · obtain ⟨s6, acc, eD, en, qa⟩ := p
            obtain ⟨t, u, v, rfl, ht, hu, hv, huv, exy, four⟩ := (q0 r (List.mem_of_getElem? hr)).same s6
            have hn := (List.getElem?_eq_some_iff.mp hr).1
            refine ⟨t, _, rfl, .inl (.inl ht), rfl, _, _, rfl, _, _, rfl, rfl, rfl, _, rfl, _, rfl, _, rfl, _, rfl, (by show 4 ≤ sizeLine; decide), fun p np => ?_⟩
            have s7 : Same H6 (upd H6 p (.tup [vN c, vN d, vN u, vN v])) := same_new np
            have nDp : p ≠ D := fun z => by
              rw [z, eD] at np
              cases np
            refine ⟨acc, s7 _ _ eD, Nat.lt_of_le_of_lt (by omega : _ ≤ 1600) (by decide), same_mut (s6.trans s7) nD, _, upd_same, by rw [List.length_append, List.length_singleton, en], fun r2 hr2 => ?_⟩
            have keep : ∀ {r : V}, QuadAt A B (upd H6 p (.tup [vN c, vN d, vN u, vN v])) r → QuadAt A B (upd (upd H6 p (.tup [vN c, vN d, vN u, vN v])) D (.lst (acc ++ [.ref p]))) r := fun {r} h => by
              obtain ⟨t2, x1, x2, x3, x4, e1, e2, e3⟩ := h
              exact ⟨t2, x1, x2, x3, x4, e1, by rw [upd_ne (ne_of e2 (s7 _ _ eD) (by intro z; cases z)), e2], e3⟩
            rcases List.mem_append.mp hr2 with h | h
            · exact keep ((qa r2 h).same s7)
            · rw [List.mem_singleton.mp h]
              exact keep ⟨p, c, d, u, v, rfl, upd_same, ⟨List.mem_of_getElem? hc, List.mem_of_getElem? hd', hu, hv, lt_asc la.asc hc hd' (by omega), huv, exy.symm, four⟩⟩
          · obtain ⟨s6, acc, eD, en, qa⟩ := p
            have s26 := s25.trans s6
            refine ⟨fo, D, rs, acc, rfl, rfl, s26 _ _ efo2, eD, Nat.le_trans (by omega : _ ≤ 4000000) (by decide), fun p np => ?_⟩
            have s7 := same_new (o := .lst (rs ++ acc)) np
            have s27 := s26.trans s7
            refine ⟨p, _, _, _, _, _, rfl, sm2.trans s27, upd_same, s27 _ _ ec0, hh2.same s27, by rw [List.length_append]; omega, fun r hr => ?_, fun z i1 j1 x y u v e1 e2 lt ar cl => ?_⟩
            · rcases List.mem_append.mp hr with h | h
              · exact (qd2 r h).same s27
              · exact (qa r h).same s7
            · obtain ⟨z1, z2⟩ := List.append_eq_nil_iff.mp z
              by_cases y1 : i1 = i ∧ j1 = i + 1 + j
              · obtain ⟨rfl, rfl⟩ := y1
                rw [hc] at e1
                rw [hd'] at e2
                obtain rfl := Option.some.inj e1
                obtain rfl := Option.some.inj e2
                have ci := cov_all cov lb.asc cl.hc cl.hd cl.cd (by rw [← cl.eq]; exact cl.four)
                rw [← cl.eq] at ci
                have n0 := ne0 ci
                rw [z2] at en
                exact n0 (List.eq_nil_of_length_eq_zero en.symm)
              · exact seen2 z1 i1 j1 x y u v e1 e2 lt (by omega) cl
        · obtain ⟨fo, rs, y5, y6, y7, y9, rfl, sm2, efo2, ec0, hh2, ln2, qd2, seen2⟩ := p
          rw [List.length_map, List.length_drop] at ln2 seen2
          refine ⟨fo, rs, _, _, _, _, _, _, rfl, sm2, efo2, hh2, by omega, qd2, Seen.next (fun z i1 j1 x y u v e1 e2 lt ar => seen2 z i1 j1 x y u v e1 e2 lt ?_)⟩
          have := (List.getElem?_eq_some_iff.mp e2).1
          omega
      · obtain ⟨fo, rs, y4, y5, y6, y7, y8, y9, rfl, sm, efo, hh, ln, qd, seen⟩ := p
        rw [List.length_map] at ln seen
        refine ⟨_, rfl, q H' fo rs sm efo (by omega) qd ⟨fun z => seen_all seen la.asc z, fun ncl => ?_⟩⟩
        cases rs with
        | nil => rfl
        | cons r rs =>
          obtain ⟨t, x, y, u, v, _, _, cl⟩ := qd r List.mem_cons_self
          exact absurd ⟨x, y, u, v, cl⟩ ncl
end
end Sq
set_option Elab.async false
set_option linter.all false
set_option maxRecDepth 100000
set_option maxHeartbeats 8000000
/-! set(list of whole numbers), set(tuple of whole numbers), repr of a truth value, a power of a great number: rules of my own -/
namespace SqS
open PySem PySem.Spec PyProof.Rows L2
abbrev noneYet (w : World) : Obj := { cls := .type "set", dict := none, data := .set #[] 0 (.fresh 0 0 (!w.params.followText "set-order")) }
section
variable {P : Program} {w : World} {A : Around} {E : Value → Shared → Prop} {s : Shared}
theorem set_of_list {l : Addr} {us : Array Value} (ns : List Int) {Q : Value → Shared → Prop} (hh : A.handled = none) (hl : s.heap.IsList l us) (hit : IntsAre us.toList ns) (hb : ns.length + 1 < scanBound)
    (h : ∀ (h' : Heap) (tk c : Nat), SetR w h' s.heap.objs.size (fun j => decide (j ∈ ns)) c → c ≤ ns.length → (∀ b o, s.heap.get? b = some o → h'.get? b = some o) → Q (.ref s.heap.objs.size) { s with heap := h', toks := tk }) :
    wpAny (model P w) A (call (.type "set") [.ref l]) Q E s := by
  have sz : us.size = ns.length := (Array.length_toList (xs := us)) ▸ IntsAre.length hit
  obtain ⟨c, tl, hmro⟩ := F.called_set.mro
  have f1 := F.called_set.made
  have f2 := F.called_set.sub
  have f3 := F.called_set.notType
  have f4 := F.called_set.canCreate
  have f5 := F.typeCall_set_1 (.ref l)
  refine wpAny_call (codeAny_of_tree (wpAny_pure ⟨Code.quiet_builtin _ (by decide +kernel), codeAny_builtin F.entry_type_call ?_⟩))
  rw [Around.under_plain (weight_type_call_type "set" [.ref l] []) rfl]
  repeat (any_goals (first | assumption | wp_step))
  refine codeAny_mono (code_set_led1 (.ref l) (E := E) (Q₁ := fun z s1 => z = .ref s.heap.objs.size ∧ s1 = { s with heap := s.heap.push (noneYet w) }) ⟨rfl, rfl⟩) fun r s1 hr => ?_
  cases r with
  | error e => exact hr
  | ok fl =>
    cases fl with
    | ret z =>
      obtain ⟨rfl, rfl⟩ := hr
      have gS : (s.heap.push (noneYet w)).get? s.heap.objs.size = some (noneYet w) := Heap.get?_push_size _ rfl
      have tS : Shared.TypeIs { s with heap := s.heap.push (noneYet w) } (.ref s.heap.objs.size) "set" := ⟨_, gS, rfl⟩
      have f6 := F.called_set.init.lookup
      have f7 := F.called_set.init.bind (.ref s.heap.objs.size)
      repeat (any_goals (first | assumption | wp_step))
      refine codeAny_mono (codeAny_call_builtin (R := wants (fun r s2 => r = .none ∧ ∃ h' tk c, s2 = { s with heap := h', toks := tk } ∧ SetR w h' s.heap.objs.size (fun j => decide (j ∈ ns)) c ∧ c ≤ ns.length ∧
          (∀ b o, s.heap.get? b = some o → h'.get? b = some o)) E) F.called_set.init.plain F.entry_set_init (check_set_init_1 tS ?_)) fun r2 s2 hr2 => ?_
      · obtain ⟨⟨oc, od, ot, os⟩, ho, hc, nl, hd⟩ := hl
        simp only at hc hd
        subst hc; subst hd
        have ltl : l < s.heap.objs.size := Heap.lt_size ho
        have gl : (s.heap.push (noneYet w)).get? l = some { cls := .type "list", dict := od, data := .seq us nl, slots := os } := Heap.get?_push_of_some _ ho
        have g1 := F.sub_list_set
        have g2 := F.sub_list_frozenset
        have g3 : (Value.type "list" == Value.type "dict") = false := by decide
        have ll : (s.heap.push (noneYet w)).IsList l us := ⟨_, gl, rfl, nl, rfl⟩
        unfold Builtin.«set.__init__» noKeywords Builtin.Frozenset.updateFrom
        generalize hPI : pyIter = PI
        wp_walk
        subst hPI
        refine wpAny_pyIter_list ll (wpAny_bind (wpAny_runValue ?_))
        have hh3 : A.in1.in1.in1.handled = none := by simp [hh]
        have zz : (s.heap.push (noneYet w)).objs.size = s.heap.objs.size + 1 := Heap.size_push ..
        have nI : l ≠ (s.heap.push (noneYet w)).objs.size := by
          rw [zz]
          exact Nat.ne_of_lt (Nat.lt_succ_of_lt ltl)
        have nS : s.heap.objs.size ∉ [(s.heap.push (noneYet w)).objs.size, l] := by
          rw [zz]
          intro z
          rcases List.mem_cons.mp z with z | z
          · exact Nat.ne_of_lt (Nat.lt_succ_self _) z
          · exact Nat.ne_of_gt ltl (List.mem_singleton.mp z)
        have val : ∀ (i : Nat) (v : Value), us[i]? = some v → ∃ k t, ns[i]? = some k ∧ v = .int k t := fun i v hv => by
          have hi : i < ns.length := sz ▸ (Array.getElem?_eq_some_iff.mp hv).1
          obtain ⟨t, e⟩ := PyProof.Rows.IntsAre.int_at hit i v (by rw [Array.getElem?_toList]; exact hv)
          refine ⟨ns[i], t, List.getElem?_eq_getElem hi, ?_⟩
          rw [e, List.getD_eq_getElem?_getD, List.getElem?_eq_getElem hi]
          rfl
        refine set_update_ints ((Walks.list hh3 _ l nI us).toS) s.heap.objs.size nS ns sz hb val (us.size - 0) 0 _ (by omega) (Nat.zero_le _)
          ⟨⟨_, Heap.get?_push_size _ rfl, rfl, rfl⟩, (ll.push _)⟩ ?hzS ?hzR
        case hzS => exact ⟨0, Nat.le_refl 0, setR_new_at (Heap.get?_push_of_some _ gS)⟩
        case hzR =>
          intro s' c' hm hc' hS'
          obtain ⟨h', g', d', tk', o'⟩ := s'
          obtain rfl : g' = s.gens := hm.gens
          obtain rfl : d' = s.drawn := hm.drawn
          obtain rfl : o' = s.os := hm.os
          rw [sz] at hc'
          show wpAny _ _ (pure _) _ _ _
          refine wpAny_pure ?_
          show wpAny _ _ (ret Value.none) _ _ _
          refine wpAny_pure ⟨rfl, h', tk', c', rfl, hS', hc', fun b o e => ?_⟩
          have lb : b < s.heap.objs.size := Heap.lt_size e
          refine hm.heap b o (fun z => ?_) (Heap.get?_push_of_some _ (Heap.get?_push_of_some _ e))
          rcases List.mem_cons.mp z with z | z
          · exact Nat.ne_of_lt lb z
          · have z2 := List.mem_singleton.mp z
            rw [z2] at lb
            exact Nat.lt_irrefl _ (Nat.lt_trans (Nat.lt_succ_self _) (zz ▸ lb))
      · cases r2 with
        | error e => exact hr2
        | ok fl2 =>
          cases fl2 with
          | ret r =>
            obtain ⟨rfl, h', tk, c', rfl, q1, q2, q3⟩ := hr2
            repeat (any_goals (first | assumption | wp_step))
            exact h _ _ _ q1 q2 q3
          | _ => exact hr2.elim
    | _ => exact hr.elim
end
section
variable {X : Cx}
/-- set(xs), set(t) of whole numbers -/
def rSetI (K : PySem.W.Frag) (w : World) : List V → Hp → VK → Prop := fun vs H Q => ∃ (l : Addr) (ns : List Int), vs = [V.ref l] ∧ (SqL K H l (ns.map V.int) ∨ SqT K H l (ns.map V.int)) ∧ ns.length < 1000 ∧
  ∀ p c, H p = none → c ≤ ns.length → Q (.ref p) (upd H p (SetO w p (fun j => decide (j ∈ ns)) c))
theorem cr_setI (hc : X.calm = true) : CallR X (.type "set") (rSetI X.K X.w) := by
  intro pins s σ H vs us Q I r h
  obtain ⟨l, ns, rfl, hl, hn, q⟩ := h
  rw [Vals.ref1 r]
  have hb : ns.length + 1 < scanBound := Nat.lt_of_le_of_lt (by omega : _ ≤ 1000) (by decide)
  have hf : H s.heap.objs.size = none := I.hok.fresh (Nat.le_refl _)
  rcases hl with hl | hl
  · obtain ⟨its, rv, pl, hz⟩ := I.list hl
    refine set_of_list (P := X.prog) (w := X.w) ns (I.ok.hd hc) pl.isList (by simpa using Vals.ints rv) hb fun h' tk c R hc' k => ?_
    exact ⟨.ref s.heap.objs.size, upd H s.heap.objs.size (SetO X.w s.heap.objs.size (fun j => decide (j ∈ ns)) c), I.laid (t' := tk) k (Nat.le_refl _) (setO_new R), rfl, q _ c hf hc'⟩
  · obtain ⟨its, rv, tp, hz⟩ := I.tuple hl
    refine call_set_tupI (P := X.prog) (w := X.w) ns (I.ok.hd hc) tp (by simpa using Vals.ints rv) hb fun h' tk c R hc' k => ?_
    exact ⟨.ref s.heap.objs.size, upd H s.heap.objs.size (SetO X.w s.heap.objs.size (fun j => decide (j ∈ ns)) c), I.laid (t' := tk) k (Nat.le_refl _) (setO_new R), rfl, q _ c hf hc'⟩
/-- repr of a truth value -/
theorem call_repr_bool : CallR X (.builtin "repr") (fun xs H Q => ∃ b, xs = [.bl b] ∧ Q (.str (if b = true then "True" else "False")) H) := by
  intro pins s σ H xs us Q I r h
  obtain ⟨b, rfl, q⟩ := h
  obtain ⟨u, rfl, e⟩ := vals1 r
  subst e
  exact PySem.P.repr_of_bool ⟨.str _, H, I.tok _, ⟨_, rfl⟩, q⟩
/-- a power of a great number -/
theorem op_powW : OpR X (binaryOp .Pow) (rI (fun i j => 0 ≤ j ∧ (Builtin.Int.intBits i : Int) * j ≤ 2 ^ 27) fun i j => .int (i ^ j.toNat)) := opI fun _ _ _ _ _ _ _ hc q => pow_int hc.1 hc.2 q
end
end SqS
set_option Elab.async false
set_option linter.all false
set_option maxRecDepth 100000
set_option maxHeartbeats 4000000
namespace Sq
open PySem PySem.Spec PyProof.Rows L2
/-! ### the jug: a list of three whole numbers -/
def IsJug (H : Hp) (J : Addr) : Prop := ∃ a b c : Int, H J = some (.lst [.int a, .int b, .int c])
/-- everything but the jug stands -/
structure Jg (J : Addr) (H H' : Hp) : Prop where
  jug : IsJug H' J
  keep : ∀ b o, b ≠ J → H b = some o → H' b = some o
theorem Jg.trans {J : Addr} {H H1 H2 : Hp} (a : Jg J H H1) (b : Jg J H1 H2) : Jg J H H2 := ⟨b.jug, fun c o n e => b.keep c o n (a.keep c o n e)⟩
theorem IsJug.same {J : Addr} {H H' : Hp} (h : IsJug H J) (s : Same H H') : IsJug H' J := let ⟨a, b, c, e⟩ := h; ⟨a, b, c, s _ _ e⟩
theorem Jg.same {J : Addr} {H H' : Hp} (h : IsJug H J) (s : Same H H') : Jg J H H' := ⟨h.same s, fun b o _ e => s b o e⟩
theorem Jg.then {J : Addr} {H H1 H2 : Hp} (a : Jg J H H1) (s : Same H1 H2) : Jg J H H2 := a.trans (Jg.same a.jug s)
theorem Jg.t {K : PySem.W.Frag} {J a : Addr} {H H' : Hp} {xs : List V} (j : IsJug H J) (e : Jg J H H') (h : SqT K H a xs) : SqT K H' a xs := by
  obtain ⟨x, y, z, ej⟩ := j
  rcases h with (h | ⟨o, h⟩) | h
  · exact .inl (.inl (e.keep _ _ (ne_of h ej (by intro q; cases q)) h))
  · exact .inl (.inr ⟨o, e.keep _ _ (ne_of h ej (by intro q; cases q)) h⟩)
  · exact .inr h
theorem Jg.l {K : PySem.W.Frag} {J a : Addr} {H H' : Hp} {xs : List V} (n : a ≠ J) (e : Jg J H H') (h : SqL K H a xs) : SqL K H' a xs := by
  rcases h with (h | ⟨o, h⟩) | h
  · exact .inl (.inl (e.keep _ _ n h))
  · exact .inl (.inr ⟨o, e.keep _ _ n h⟩)
  · exact .inr h
/-- a store at the jug -/
theorem Jg.set {J : Addr} {H : Hp} {a b c : Int} : Jg J H (upd H J (.lst [.int a, .int b, .int c])) := ⟨⟨a, b, c, upd_same⟩, fun x o n e => by rw [upd_ne n]; exact e⟩
theorem Jg.put {J p : Addr} {H H' : Hp} {o : HO} (e : Jg J H H') (h : H p = none) (n : p ≠ J) : Jg J H (upd H' p o) := by
  obtain ⟨a, b, c, ej⟩ := e.jug
  refine ⟨⟨a, b, c, by rw [upd_ne (Ne.symm n)]; exact ej⟩, fun x o' nx ex => ?_⟩
  rw [upd_ne (ne_of_none ex h)]
  exact e.keep x o' nx ex
section
variable {P : Program} {w : World} {K : PySem.W.Frag} {mg : Str → Option Value} {base : Heap} {f : Addr} {fd : FuncData} {k : Nat}
def cutI (ns : List Int) : List Int := ns.take 1
theorem cut_first (xs : List V) : cutV xs none (some 1) = xs.take 1 := by
  unfold cutV
  have e : HT.sIx xs.length xs.length (some ((1 : Nat) : Int)) = min 1 xs.length := HT.sIx_nat xs.length xs.length 1
  have e' : HT.sIx xs.length xs.length (some 1) = min 1 xs.length := e
  rw [e', HT.sIx_none, Nat.sub_zero, List.drop_zero]
  cases xs with
  | nil => rfl
  | cons x r =>
    rw [List.length_cons, Nat.min_eq_left (by omega)]
theorem cut_ints (ns : List Int) : cutV (ns.map V.int) none (some 1) = (cutI ns).map V.int := by
  rw [cut_first]
  unfold cutI
  rw [List.map_take]
def spJug (K : PySem.W.Frag) : Sp := fun vs H Q _ => ∃ (a : Addr) (ns : List Int) (spot : Nat), vs = [.ref a, vN spot] ∧ SqL K H a (ns.map V.int) ∧
  ∀ H' p, Same H H' → H p = none → IsJug H' p → Q (.ref p) H'
theorem ok_l_jug (mi : mg "int" = none) (ml : mg "len" = none) (mS : mg "sum" = none) (ma : mg "abs" = none) (mx : mg "max" = none)
    (F : Fun K "_law_jug" "_law_jug" s_l_jug f fd) : FnOk P w K mg base CX0 (k + 1) f fd ["_law_script", "_law_spot"] (spJug K) := by
  refine F.ok sc_l_jug (fun vs H Q E h => ?_) (fun cdv A outer s H vs Q E hr h => ?_)
  · obtain ⟨a, ns, spot, rfl, _⟩ := h
    rfl
  · obtain ⟨a, ns, spot, rfl, hS, q⟩ := h
    refine ⟨_, pss_cons (ps_set (i := 2) sc_l_jug.nd rfl (.inl rfl) (pe_ifExp (pt_cmpR op_lt (pv 1) (pe_callB call_len_seq (by rfl) ml PySem.boot_len (pa_cons (pv 0) pa_nil)) (nomark _))
          (pe_callTy call_int1 (by rfl) mi (by decide +kernel) (pa_cons (pe_ix ix_list (pv 0) (pv 1) (fun _ _ => rfl)) pa_nil))
          (pe_op op_add (pe_op op_add (pe_op op_mul pe_int (pv 1)) pe_int) (pe_op op_mod (pe_callTy call_int1 (by rfl) mi (by decide +kernel) (pa_cons (pe_callB (cr_sum rfl) (by rfl) mS (by decide +kernel) (pa_cons (pe_slice sl_list (pv 0) po_none (po_some pe_int)) pa_nil)) pa_nil)) pe_int))))
      (pss_cons (ps_set (i := 3) sc_l_jug.nd rfl (.inl rfl) (pe_op op_mod (pe_callTy call_int1 (by rfl) mi (by decide +kernel) (pa_cons (pe_callB call_abs (by rfl) ma (by decide +kernel) (pa_cons (pv 2) pa_nil)) pa_nil)) (pe_op SqS.op_powW (pe_op op_pow pe_int pe_int) pe_int)))
      (pss_cons (ps_set (i := 4) sc_l_jug.nd rfl (.inl rfl) (pe_op op_mod (pe_callTy call_int1 (by rfl) mi (by decide +kernel) (pa_cons
          (pe_op op_add (pe_op op_add (pe_op op_add (pe_op op_mul (pe_op op_mod (pv 3) pe_int) pe_int) (pe_op op_mul pe_int (pv 1))) (pe_op op_mul pe_int (pe_callTy call_int1 (by rfl) mi (by decide +kernel) (pa_cons (pe_cmpR op_lt (pv 2) pe_int (nomark _)) pa_nil)))) pe_int) pa_nil)) pe_int))
      (pss_one (ps_ret (pe_lst (pa_cons (pe_callB (call_max2 rfl) (by rfl) mx (by decide +kernel) (pa_cons pe_int (pa_cons (pe_op op_sub (pv 3) (pe_op op_pow pe_int pe_int)) pa_nil))) (pa_cons (pv 4) (pa_cons pe_int pa_nil)))))))), ?_⟩
    refine ⟨_, rfl, _, rfl, a, _, rfl, .inl hS, _, _, rfl, rfl, _, rfl, ite2 (fun h => ?_) (fun h => ?_)⟩
    · have hlt : spot < ns.length := by
        have := of_decide_eq_true h
        rw [List.length_map] at this
        omega
      refine ⟨_, rfl, _, rfl, a, _, _, _, rfl, rfl, hS, atI_nat (j := spot) (by rw [List.getElem?_map, List.getElem?_eq_getElem hlt]; rfl), .inl ⟨_, rfl, ?_⟩⟩
      refine ⟨_, rfl, _, rfl, .inl ⟨_, rfl, _, _, rfl, rfl, ⟨by decide, by decide, by decide⟩, _, _, rfl, rfl, ⟨by decide, by decide⟩, _, _, rfl, rfl, Int.pow_pos (Int.pow_pos (by decide)), ?_⟩⟩
      refine ⟨_, rfl, _, _, rfl, rfl, (by show (0 : Int) < 2305843009213693921; decide), _, _, rfl, rfl, .inr ⟨by decide, by decide⟩, _, rfl, _, _, rfl, rfl, .inl ⟨by decide, by decide⟩, _, _, rfl, rfl, ?_⟩
      refine ⟨_, rfl, _, _, rfl, rfl, .inr ⟨_, rfl, _, _, rfl, rfl, .inl ⟨by decide, by decide⟩, _, _, rfl, rfl, _, _, rfl, rfl, .inl ⟨_, rfl, _, _, rfl, rfl, (by show (0 : Int) < 2305843009213693951; decide), ?_⟩⟩⟩
      refine ⟨_, rfl, _, _, rfl, rfl, ⟨by decide, by decide, by decide⟩, _, _, rfl, rfl, _, _, rfl, _, rfl, (by show 3 ≤ sizeLine; decide), fun p np => ?_⟩
      exact q _ p (same_new np) np ⟨_, _, _, upd_same⟩
    · refine ⟨_, rfl, _, _, rfl, rfl, .inl ⟨by decide, by decide⟩, _, _, rfl, rfl, _, rfl, 1, rfl, a, _, rfl, hS, fun p0 np0 => ?_⟩
      have s0 : Same H (upd H p0 (.lst (cutV (ns.map V.int) none (some 1)))) := same_new np0
      have ec : cutV (ns.map V.int) none (some 1) = (cutI ns).map V.int := cut_ints ns
      refine ⟨p0, cutI ns, rfl, .inl (.inl (by rw [upd_same, ec])), .inl ⟨_, rfl, _, _, rfl, rfl, (by show (0 : Int) < 1000033; decide), _, _, rfl, rfl, ?_⟩⟩
      refine ⟨_, rfl, _, rfl, .inl ⟨_, rfl, _, _, rfl, rfl, ⟨by decide, by decide, by decide⟩, _, _, rfl, rfl, ⟨by decide, by decide⟩, _, _, rfl, rfl, Int.pow_pos (Int.pow_pos (by decide)), ?_⟩⟩
      refine ⟨_, rfl, _, _, rfl, rfl, (by show (0 : Int) < 2305843009213693921; decide), _, _, rfl, rfl, .inr ⟨by decide, by decide⟩, _, rfl, _, _, rfl, rfl, .inl ⟨by decide, by decide⟩, _, _, rfl, rfl, ?_⟩
      refine ⟨_, rfl, _, _, rfl, rfl, .inr ⟨_, rfl, _, _, rfl, rfl, .inl ⟨by decide, by decide⟩, _, _, rfl, rfl, _, _, rfl, rfl, .inl ⟨_, rfl, _, _, rfl, rfl, (by show (0 : Int) < 2305843009213693951; decide), ?_⟩⟩⟩
      refine ⟨_, rfl, _, _, rfl, rfl, ⟨by decide, by decide, by decide⟩, _, _, rfl, rfl, _, _, rfl, _, rfl, (by show 3 ≤ sizeLine; decide), fun p np => ?_⟩
      exact q _ p (s0.trans (same_new np)) (Same.fresh s0 np) ⟨_, _, _, upd_same⟩
/-! ### _law_pour -/
def spPour : Sp := fun vs H Q _ => ∃ (J : Addr) (m : Nat), vs = [.ref J, vN m] ∧ IsJug H J ∧ 0 < m ∧ m < 1073741824 ∧ ∀ (r : Nat) H', r < m → Jg J H H' → Q (vN r) H'
theorem mod_nat (x : Int) {m : Nat} (h : 0 < m) : ∃ r : Nat, r < m ∧ x % (m : Int) = (r : Int) := by
  have h1 := Int.emod_nonneg x (by omega : (m : Int) ≠ 0)
  have h2 := Int.emod_lt_of_pos x (by omega : (0 : Int) < (m : Int))
  exact ⟨(x % (m : Int)).toNat, by omega, by omega⟩
theorem ok_l_pour (mi : mg "int" = none) (F : Fun K "_law_pour" "_law_pour" s_l_pour f fd) : FnOk P w K mg base CX0 (k + 1) f fd ["_law_jug_here", "_law_many"] spPour := by
  refine F.ok sc_l_pour (fun vs H Q E h => ?_) (fun cdv A outer s H vs Q E hr h => ?_)
  · obtain ⟨J, m, rfl, _⟩ := h
    rfl
  · obtain ⟨J, m, rfl, ⟨x, y, z, hJ⟩, h0, hm, q⟩ := h
    refine ⟨_, pss_cons (ps_if (pt_cmpR op_gt (pe_ix ix_list (pv 0) pe_int (fun _ _ => rfl)) pe_int (nomark _))
        (pss_cons (ps_set (i := 2) sc_l_pour.nd rfl (.inl rfl) (pe_op op_mod (pe_callTy call_int1 (by rfl) mi (by decide +kernel) (pa_cons (pe_ix ix_list (pv 0) pe_int (fun _ _ => rfl)) pa_nil)) (pv 1)))
        (pss_cons (ps_asg (pe_op op_fdiv (pe_ix ix_list (pv 0) pe_int (fun _ _ => rfl)) (pv 1)) (pg_sub (pv 0) pe_int set_list))
        (pss_one (ps_ret (pv 2))))) pss_nil)
      (pss_cons (ps_asg (pe_op op_add (pe_ix ix_list (pv 0) pe_int (fun _ _ => rfl)) pe_int) (pg_sub (pv 0) pe_int set_list))
      (pss_cons (ps_set (i := 3) sc_l_pour.nd rfl (.inl rfl) (pe_op op_mod (pe_callTy call_int1 (by rfl) mi (by decide +kernel) (pa_cons (pe_op op_add (pe_ix ix_list (pv 0) pe_int (fun _ _ => rfl)) (pe_op op_mul pe_int (pe_ix ix_list (pv 0) pe_int (fun _ _ => rfl)))) pa_nil)) pe_int))
      (pss_cons (ps_set (i := 4) sc_l_pour.nd rfl (.inl rfl) (pe_op op_add (pe_op op_add (pe_op op_mul (pe_op op_mod (pe_callTy call_int1 (by rfl) mi (by decide +kernel) (pa_cons (pe_op op_mul (pv 3) (pv 3)) pa_nil)) pe_int) pe_int) (pv 3)) (pe_op op_mul pe_int (pe_ix ix_list (pv 0) pe_int (fun _ _ => rfl)))))
      (pss_one (ps_ret (pe_op op_mod (pe_callTy call_int1 (by rfl) mi (by decide +kernel) (pa_cons (pe_op op_fdiv (pv 4) pe_int) pa_nil)) (pv 1))))))), ?_⟩
    refine ⟨_, rfl, J, _, _, _, rfl, rfl, .inl (.inl hJ), atI_nat (j := 0) rfl, _, _, rfl, rfl, _, rfl, ite2 (fun h => ?_) (fun h => ?_)⟩
    · refine ⟨_, rfl, J, _, _, _, rfl, rfl, .inl (.inl hJ), atI_nat (j := 0) rfl, .inl ⟨_, rfl, _, rfl, _, _, rfl, rfl, by omega, ?_⟩⟩
      refine ⟨_, rfl, J, _, _, _, rfl, rfl, .inl (.inl hJ), atI_nat (j := 0) rfl, _, rfl, _, _, rfl, rfl, ⟨by omega, by omega⟩, ?_⟩
      refine ⟨_, rfl, J, _, _, 0, rfl, rfl, hJ, rfl, _, rfl, ?_⟩
      obtain ⟨r, hr, e⟩ := mod_nat x h0
      have q' := q r _ hr (Jg.set (a := x / (m : Int)) (b := y) (c := z))
      rw [show vN r = V.int (x % (m : Int)) from congrArg V.int e.symm] at q'
      exact q'
    · refine ⟨_, rfl, J, _, _, _, rfl, rfl, .inl (.inl hJ), atI_nat (j := 2) rfl, _, _, rfl, rfl, _, rfl, J, _, _, 2, rfl, rfl, hJ, rfl, ?_⟩
      have h2 : upd H J (.lst [.int x, .int y, .int (z + 1)]) J = some (.lst [.int x, .int y, .int (z + 1)]) := upd_same
      refine ⟨_, rfl, J, _, _, _, rfl, rfl, .inl (.inl h2), atI_nat (j := 1) rfl, _, rfl, J, _, _, _, rfl, rfl, .inl (.inl h2), atI_nat (j := 2) rfl, _, _, rfl, rfl, .inl ⟨by decide, by decide⟩, _, _, rfl, rfl, .inl ⟨_, rfl, _, _, rfl, rfl, (by show (0 : Int) < 2305843009213693967; decide), ?_⟩⟩
      have b1 := Int.emod_nonneg (y + 15486277 * (z + 1)) (by decide : (2305843009213693967 : Int) ≠ 0)
      have b2 := Int.emod_lt_of_pos (y + 15486277 * (z + 1)) (by decide : (0 : Int) < 2305843009213693967)
      refine ⟨_, rfl, _, rfl, _, _, rfl, rfl, .inl ⟨Int.lt_of_lt_of_le (by decide) b1, Int.lt_trans b2 (by decide)⟩, .inl ⟨_, rfl, _, _, rfl, rfl, (by show (0 : Int) < 2305843009213693951; decide), _, _, rfl, rfl, .inr ⟨by decide, by decide⟩, _, rfl, _, _, rfl, rfl, _, rfl, J, _, _, _, rfl, rfl, .inl (.inl h2), atI_nat (j := 2) rfl, _, _, rfl, rfl, .inl ⟨by decide, by decide⟩, _, _, rfl, rfl, ?_⟩⟩
      refine ⟨_, rfl, _, _, rfl, rfl, ⟨by decide, by decide⟩, .inl ⟨_, rfl, _, rfl, _, _, rfl, rfl, by omega, ?_⟩⟩
      generalize ((((y + 15486277 * (z + 1)) % 2305843009213693967 * ((y + 15486277 * (z + 1)) % 2305843009213693967)) % 2305843009213693951 * 32453003 + (y + 15486277 * (z + 1)) % 2305843009213693967 + 7 * (z + 1)) / 131072) = t
      obtain ⟨r, hr, e⟩ := mod_nat t h0
      have q' := q r _ hr (Jg.set (a := x) (b := y) (c := z + 1))
      rw [show vN r = V.int (t % (m : Int)) from congrArg V.int e.symm] at q'
      exact q'
end
end Sq
set_option Elab.async false
set_option linter.all false
set_option maxRecDepth 100000
set_option maxHeartbeats 4000000
namespace Sq
open PySem PySem.Spec PyProof.Rows L2
/-! ### the weight, by steps that can be run -/
def wtf : Nat → Nat → Nat
  | 0, _ => 0
  | k + 1, n => n % 2 + wtf k (n / 2)
theorem wt_wtf : ∀ (k n : Nat), n < 2 ^ k → wt n = wtf k n
  | 0, n, h => by
    have e : n = 0 := by
      rw [Nat.pow_zero] at h
      omega
    rw [e, wt_zero]
    rfl
  | k + 1, n, h => by
    have h2 : n / 2 < 2 ^ k := by
      rw [Nat.pow_succ] at h
      omega
    have ih := wt_wtf k (n / 2) h2
    by_cases z : n = 0
    · subst z
      rw [wt_zero]
      show 0 = 0 % 2 + wtf k (0 / 2)
      rw [← ih]
      show 0 = 0 % 2 + wt 0
      rw [wt_zero]
    · rw [wt_pos (by omega), ih]
      rfl
theorem few_light : ∀ m, m ≤ 7 → ((List.range (2 ^ m)).filter fun x => decide (wt x < 3)).length ≤ 30 := fun m hm => by
  have e : ((List.range (2 ^ m)).filter fun x => decide (wt x < 3)) = ((List.range (2 ^ m)).filter fun x => decide (wtf 7 x < 3)) := by
    refine List.filter_congr fun x hx => ?_
    rw [wt_wtf 7 x (Nat.lt_of_lt_of_le (List.mem_range.mp hx) (Nat.pow_le_pow_right (by decide) hm))]
  rw [e]
  exact match m, hm with
  | 0, _ => by decide +kernel
  | 1, _ => by decide +kernel
  | 2, _ => by decide +kernel
  | 3, _ => by decide +kernel
  | 4, _ => by decide +kernel
  | 5, _ => by decide +kernel
  | 6, _ => by decide +kernel
  | 7, _ => by decide +kernel
  | m + 8, h => by omega
theorem range_lot {m t : Nat} (h1 : 0 < t) (h2 : t ≤ 2 ^ m) (h3 : t ≤ 40) : LotOk m (List.range t) :=
  ⟨fun z => by
    have := congrArg List.length z
    rw [List.length_range] at this
    simp at this
    omega, fun x hx => Nat.lt_of_lt_of_le (List.mem_range.mp hx) h2, List.pairwise_lt_range, by rw [List.length_range]; exact h3⟩
section
variable {P : Program} {w : World} {K : PySem.W.Frag} {mg : Str → Option Value} {base : Heap} {f : Addr} {fd : FuncData} {k : Nat}
/-! ### _law_of -/
def spOf (K : PySem.W.Frag) : Sp := fun vs H Q _ => ∃ (J p : Addr) (xs : List V), vs = [.ref J, .ref p] ∧ IsJug H J ∧ ((SqL K H p xs ∧ p ≠ J) ∨ SqT K H p xs) ∧ xs ≠ [] ∧ xs.length < 1073741824 ∧ ∀ x ∈ xs, ∀ H', Jg J H H' → Q x H'
theorem ok_l_of {fP : Addr} {fdP : FuncData} (ml : mg "len" = none) (gP : mg "_law_pour" = some (.ref fP)) (FP : Fun K "_law_pour" "_law_pour" s_l_pour fP fdP) (bP : Binds K fdP ["_law_jug_here", "_law_many"] [])
    (GP : FnOk P w K mg base CX0 (k + 1) fP fdP ["_law_jug_here", "_law_many"] spPour) (F : Fun K "_law_of" "_law_of" s_l_of f fd) : FnOk P w K mg base CX0 (k + 2) f fd ["_law_jug_here", "_law_items"] (spOf K) := by
  refine F.ok sc_l_of (fun vs H Q E h => ?_) (fun cdv A outer s H vs Q E hr h => ?_)
  · obtain ⟨J, p, xs, rfl, _⟩ := h
    rfl
  · obtain ⟨J, p, xs, rfl, hJ, hS, hne, hlen, q⟩ := h
    refine ⟨_, pss_one (ps_ret (pe_ix ix_seq (pv 1) (pe_call GP hr (by rfl) gP FP.kp bP .nil pass0 (pa_cons (pv 0) (pa_cons (pe_callB call_len_seq (by rfl) ml PySem.boot_len (pa_cons (pv 1) pa_nil)) pa_nil))) (fun _ _ => rfl))), ?_⟩
    have hpos : 0 < xs.length := List.length_pos_iff.mpr hne
    refine ⟨_, rfl, _, rfl, _, rfl, p, xs, rfl, hS.imp (fun h => h.1) id, J, xs.length, rfl, hJ, hpos, hlen, fun r H1 hr1 j1 => ?_⟩
    have hx : xs[r]? = some xs[r] := List.getElem?_eq_getElem hr1
    rcases hS with hS | hS
    · exact .inl ⟨p, xs, _, _, rfl, rfl, j1.l hS.2 hS.1, atI_nat hx, q _ (List.mem_of_getElem? hx) H1 j1⟩
    · exact .inr (.inl ⟨p, xs, _, _, rfl, rfl, j1.t hJ hS, atI_nat hx, q _ (List.mem_of_getElem? hx) H1 j1⟩)
/-! ### _law_part -/
def spPart (K : PySem.W.Frag) : Sp := fun vs H Q _ => ∃ (J a : Addr) (A : List Nat) (m : Nat), vs = [.ref J, .ref a] ∧ IsJug H J ∧ SqT K H a (A.map vN) ∧ LotOk m A ∧
  ∀ (A' : List Nat) p H', Jg J H H' → SqT K H' p (A'.map vN) → LotOk m A' → (∀ x ∈ A', x ∈ A) → Q (.ref p) H'
theorem lot_sub {m : Nat} {A B : List Nat} (h : LotOk m A) (s : B.Sublist A) (ne : B ≠ []) : LotOk m B := ⟨ne, fun x hx => h.lt x (s.subset hx), h.asc.sublist s, Nat.le_trans s.length_le h.len⟩
theorem ok_l_part {fP : Addr} {fdP : FuncData} (mt : mg "tuple" = none) (gP : mg "_law_pour" = some (.ref fP)) (FP : Fun K "_law_pour" "_law_pour" s_l_pour fP fdP) (bP : Binds K fdP ["_law_jug_here", "_law_many"] [])
    (GP : FnOk P w K mg base CX0 (k + 1) fP fdP ["_law_jug_here", "_law_many"] spPour) (F : Fun K "_law_part" "_law_part" s_l_part f fd) : FnOk P w K mg base CX0 (k + 2) f fd ["_law_jug_here", "_law_lot_here"] (spPart K) := by
  refine F.ok sc_l_part (fun vs H Q E h => ?_) (fun cdv A0 outer s H vs Q E hr h => ?_)
  · obtain ⟨J, a, A, m, rfl, _⟩ := h
    rfl
  · obtain ⟨J, a, A, m, rfl, hJ, hA, lot, q⟩ := h
    refine ⟨_, pss_cons (ps_setLc (i := 2) (own := [("_law_word", 3)]) (g := gName 3) rfl sc_l_part.nd rfl rfl (sw_true rfl rfl rfl (by decide +kernel)) (pi_tup (pv 1))
          (blkOk_by (own := [("_law_word", 3)]) (N := ["_law_jug_here", "_law_lot_here", "_law_found", "_law_word"]) (sc := defScope s_l_part) (by decide +kernel)) (fun _ _ _ _ _ => pg_name (i := 3) sc_l_part.nd rfl (Or.inl rfl))
          (fun _ _ _ _ _ => pts_one (pt_cmpR op_gt (pe_call GP hr (by rfl) gP FP.kp bP .nil pass0 (pa_cons (pv 0) (pa_cons pe_int pa_nil))) pe_int (nomark _))) (fun _ _ _ _ _ => pv 3))
      (pss_one (ps_ret (pe_ifExp (pt_cmpR (op_neD hr.units) (pv 2) (pe_lst pa_nil) (nomark _)) (pe_callTy call_tuple_of (by rfl) mt (by decide +kernel) (pa_cons (pv 2) pa_nil)) (pe_slice sl_tupA (pv 1) po_none (po_some pe_int))))), ?_⟩
    obtain ⟨x0, y0, z0, eJ⟩ := hJ
    have ll := lot.len
    refine ⟨_, rfl, a, rfl, ⟨_, hA⟩, fun D nD => ?_⟩
    have nDJ : D ≠ J := fun z => by
      rw [z, eJ] at nD
      cases nD
    refine lc_tup (xs := A.map vN) (fun i H' => Jg J H H' ∧ ∃ B : List Nat, B.Sublist (A.take i) ∧ H' D = some (.lst (B.map vN))) ⟨Jg.same ⟨_, _, _, eJ⟩ (same_new nD), [], List.nil_sublist _, upd_same⟩ (fun i H' _ p => p.1.t ⟨_, _, _, eJ⟩ hA) (fun i x H' hx p => ?_) (fun H2 p2 => ?_)
    · obtain ⟨j1, B, sb, eD⟩ := p
      obtain ⟨n, hn, rfl⟩ := get_vN hx
      have et : A.take (i + 1) = A.take i ++ [n] := by
        rw [List.take_add_one, hn]
        rfl
      have lB : B.length ≤ 40 := Nat.le_trans sb.length_le (by rw [List.length_take]; omega)
      refine ⟨rfl, _, rfl, J, 3, rfl, j1.jug, by decide, by decide, fun r H3 hr3 j3 => ⟨_, _, rfl, rfl, _, rfl, ?_⟩⟩
      have eD3 := j3.keep _ _ nDJ eD
      refine ite2 (fun _ => ?_) (fun _ => ?_)
      · refine ⟨_, rfl, _, eD3, by rw [List.length_map]; exact Nat.lt_of_le_of_lt lB (by decide), (j1.trans j3).put nD nDJ, B ++ [n], ?_, ?_⟩
        · rw [et]
          exact sb.append (List.Sublist.refl _)
        · rw [upd_same, List.map_append]
          rfl
      · refine ⟨j1.trans j3, B, ?_, eD3⟩
        rw [et]
        exact sb.trans (List.sublist_append_left _ _)
    · obtain ⟨j1, B, sb, eD⟩ := p2
      rw [List.length_map, List.take_length] at sb
      have hA2 := j1.t ⟨_, _, _, eJ⟩ hA
      refine ⟨_, rfl, Nat.zero_le _, fun t0 nt => ?_⟩
      have s3 : Same H2 (upd H2 t0 (.lst [])) := same_new nt
      refine ⟨.list ((B.map vN).map scD), .list [], .lst (.inl (.inl (s3 _ _ eD))) (dpAll_sc (sc_N B)), .lst (.inl (.inl upd_same)) .nil, shaped_l (sc_layAll (sc_N B)).1 (by rw [(sc_layAll (sc_N B)).2]; omega), shaped_l rfl (Nat.zero_le _), _, rfl, ?_⟩
      rw [eqv_nilL, List.isEmpty_map, List.isEmpty_map]
      cases B with
      | nil =>
        refine iteF ⟨_, rfl, 1, rfl, a, _, rfl, seqT s3 hA2, fun _ => ?_, fun _ p np => ?_⟩
        · exact q A a _ (j1.then s3) (seqT s3 hA2) lot (fun x hx => hx)
        · have s4 := same_new (o := .tup (cutV (A.map vN) none (some 1))) np
          refine q (A.take 1) p _ ((j1.then s3).then s4) (.inl (.inl (by rw [upd_same, cut_first, List.map_take]))) (lot_sub lot (List.take_sublist _ _) (fun z => ?_)) (fun x hx => List.mem_of_mem_take hx)
          rcases List.take_eq_nil_iff.mp z with z | z
          · cases z
          · exact lot.ne z
      | cons b B =>
        refine iteT ⟨_, rfl, D, _, rfl, .inl ⟨.inl (.inl (s3 _ _ eD)), fun p np => ?_⟩⟩
        exact q (b :: B) p _ ((j1.then s3).then (same_new np)) (.inl (.inl upd_same)) (lot_sub lot sb (by simp)) (fun x hx => sb.subset hx)
end
end Sq
set_option Elab.async false
set_option linter.all false
set_option maxRecDepth 100000
set_option maxHeartbeats 4000000
namespace Sq
open PySem PySem.Spec PyProof.Rows L2
theorem vN_range (t : Nat) : (List.range t).map vN = rgV 0 (t : Int) := (rgV_nat t).symm
theorem erase_cons : ∀ {L : List Nat} {r y : Nat}, L[r]? = some y → (y :: L.eraseIdx r).Perm L
  | x :: L, 0, y, h => by
    obtain rfl : x = y := Option.some.inj h
    exact List.Perm.refl _
  | x :: L, r + 1, y, h => by
    have h2 : L[r]? = some y := h
    exact (List.Perm.swap x y (L.eraseIdx r)).trans ((erase_cons h2).cons x)
theorem erase_perm {F L L0 : List Nat} {r y : Nat} (h : (F ++ L).Perm L0) (hy : L[r]? = some y) : ((F ++ [y]) ++ L.eraseIdx r).Perm L0 := by
  rw [List.append_assoc]
  exact ((erase_cons hy).append_left F).trans h
theorem eraseIdx_map (L : List Nat) (r : Nat) : (L.map vN).eraseIdx r = (L.eraseIdx r).map vN := by
  induction L generalizing r with
  | nil => rfl
  | cons x L ih =>
    cases r with
    | zero => rfl
    | succ r =>
      show vN x :: (L.map vN).eraseIdx r = vN x :: (L.eraseIdx r).map vN
      rw [ih]
theorem seqIx {n r : Nat} (h : r < n) : seqIndex? (r : Int) n = some r := by
  have e : ixN n (r : Int) = some r := by
    unfold ixN
    rw [if_pos (by omega), if_pos (by omega)]
    simp
  exact (ixN_seq e).1
theorem light_len {S : Nat} (h : ∃ m, m ≤ 7 ∧ 2 ^ m = S) : ((List.range S).filter fun x => decide (wt x < 3)).length ≤ 30 := by
  obtain ⟨m, h1, rfl⟩ := h
  exact few_light m h1
section
variable {P : Program} {w : World} {K : PySem.W.Frag} {mg : Str → Option Value} {base : Heap} {f : Addr} {fd : FuncData} {k : Nat}
def spLot (K : PySem.W.Frag) : Sp := fun vs H Q _ => ∃ (J : Addr) (m mo : Nat), vs = [.ref J, vN m, vN mo] ∧ IsJug H J ∧ 1 ≤ m ∧ m ≤ 7 ∧ 1 ≤ mo ∧ mo ≤ 9 ∧
  ∀ (A : List Nat) p H', Jg J H H' → SqT K H' p (A.map vN) → LotOk m A → A.length ≤ 9 → Q (.ref p) H'
theorem ok_l_lot {fP fX fG : Addr} {fdP fdX fdG : FuncData} (mr : mg "range" = none) (mm : mg "min" = none) (mt : mg "tuple" = none) (ml : mg "list" = none) (me : mg "len" = none) (mS : mg "sorted" = none) (ms : mg "set" = none)
    (gP : mg "_law_pour" = some (.ref fP)) (FP : Fun K "_law_pour" "_law_pour" s_l_pour fP fdP) (bP : Binds K fdP ["_law_jug_here", "_law_many"] []) (GP : FnOk P w K mg base CX0 (k + 1) fP fdP ["_law_jug_here", "_law_many"] spPour)
    (gX : mg "_law_xor" = some (.ref fX)) (FX : Fun K "_law_xor" "_law_xor" s_l_xor fX fdX) (bX : Binds K fdX ["_law_x", "_law_y"] []) (GX : FnOk P w K mg base CX0 (k + 1) fX fdX ["_law_x", "_law_y"] spXor)
    (gG : mg "_law_weight" = some (.ref fG)) (FG : Fun K "_law_weight" "_law_weight" s_l_weight fG fdG) (bG : Binds K fdG ["_law_x"] []) (GG : FnOk P w K mg base CX0 (k + 1) fG fdG ["_law_x"] spWeight)
    (F : Fun K "_law_lot" "_law_lot" s_l_lot f fd) : FnOk P w K mg base CX0 (k + 2) f fd ["_law_jug_here", "_law_many", "_law_most"] (spLot K) := by
  refine F.ok sc_l_lot (fun vs H Q E h => ?_) (fun cdv A0 outer s H vs Q E hr h => ?_)
  · obtain ⟨J, m, mo, rfl, _⟩ := h
    rfl
  · obtain ⟨J, m, mo, rfl, hJ, h1, h7, ho1, ho9, q⟩ := h
    refine ⟨_, pss_cons (ps_par (i := 3) (j := 4) (by rfl) sc_l_lot.nd rfl rfl (by decide) rfl rfl (pa_cons pe_int (pa_cons (pe_call GP hr (by rfl) gP FP.kp bP .nil pass0 (pa_cons (pv 0) (pa_cons pe_int pa_nil))) pa_nil)) (by rfl))
      (pss_cons (ps_for PassesOwn.never rfl (pi_range1 (by rfl) mr (pa_cons (pv 1) pa_nil)) (pg_name (i := 5) sc_l_lot.nd rfl (.inl rfl)) (pss_one (ps_set (i := 3) sc_l_lot.nd rfl (.inl rfl) (pe_op op_mul (pv 3) pe_int))))
      (pss_cons (ps_if (pt_cmpR op_eq (pv 4) pe_int (nomark _)) (pss_one (ps_ret (pe_tupRg rfl (by rfl) mt (prg_1 (by rfl) mr (pe_callB (call_min2 rfl) (by rfl) mm (by decide +kernel) (pa_cons (pv 3) (pa_cons pe_int pa_nil))))))) pss_nil)
      (pss_cons (ps_par3 (i := 6) (j := 7) (l := 8) (by rfl) sc_l_lot.nd rfl rfl rfl (by decide) (by decide) (by decide) rfl rfl rfl
        (pa_cons (pe_op op_add pe_int (pe_call GP hr (by rfl) gP FP.kp bP .nil pass0 (pa_cons (pv 0) (pa_cons (pv 2) pa_nil)))) (pa_cons (pe_listRg rfl (by rfl) ml (prg_1 (by rfl) mr (pv 3))) (pa_cons (pe_lst pa_nil) pa_nil))) (by rfl))
      (pss_cons (ps_if (pt_cmpR op_eq (pv 4) pe_int (nomark _)) (pss_one (ps_set (i := 7) sc_l_lot.nd rfl (.inl rfl) (pe_callB (cr_sortedSet rfl) (by rfl) mS (by decide +kernel) (pa_cons (pe_callTy (SqS.cr_setI rfl) (by rfl) ms (by decide +kernel) (pa_cons
          (pe_op op_cat (pe_lst (pa_cons pe_int pa_nil)) (pe_lc (own := [("_law_word", 9)]) (g := gName 9) (by rfl) sc_l_lot.nd (pi_list (pv 7))
            (blkOk_by (own := [("_law_word", 9)]) (N := ["_law_jug_here", "_law_many", "_law_most", "_law_size", "_law_way", "_law_turn", "_law_wanted", "_law_left", "_law_found", "_law_word"]) (sc := defScope s_l_lot) (by decide +kernel)) (fun _ _ _ _ _ => pg_name (i := 9) sc_l_lot.nd rfl (Or.inl rfl))
            (fun _ _ _ _ _ => pts_one (pt_cmpR op_lt (pe_call GG hr (by rfl) gG FG.kp bG .nil pass0 (pa_cons (pv 9) pa_nil)) pe_int (nomark _)))
            (fun _ _ _ _ _ => pe_call GX hr (by rfl) gX FX.kp bX .nil pass0 (pa_cons pe_int (pa_cons (pv 9) pa_nil))))) pa_nil)) pa_nil)))) pss_nil)
      (pss_cons (ps_for PassesOwn.never rfl (pi_range1 (by rfl) mr (pa_cons (pe_callB (call_min2 rfl) (by rfl) mm (by decide +kernel) (pa_cons (pv 6) (pa_cons (pe_callB call_len_seq (by rfl) me PySem.boot_len (pa_cons (pv 7) pa_nil)) pa_nil))) pa_nil)) (pg_name (i := 5) sc_l_lot.nd rfl (.inl rfl))
          (pss_one (ps_expr (pe_bm PySem.F.plainAttrs_list PySem.F.slot_list_append PySem.F.type_list_append mt_append (pv 8) (pa_cons (pe_bm PySem.F.plainAttrs_list PySem.F.slot_list_pop PySem.F.type_list_pop mt_popAt (pv 7)
            (pa_cons (pe_call GP hr (by rfl) gP FP.kp bP .nil pass0 (pa_cons (pv 0) (pa_cons (pe_callB call_len_seq (by rfl) me PySem.boot_len (pa_cons (pv 7) pa_nil)) pa_nil))) pa_nil)) pa_nil)))))
      (pss_one (ps_ret (pe_callTy call_tuple_of (by rfl) mt (by decide +kernel) (pa_cons (pe_callB cr_sorted (by rfl) mS (by decide +kernel) (pa_cons (pv 8) pa_nil)) pa_nil))))))))), ?_⟩
    have hpow : 2 ^ m ≤ 2 ^ 7 := Nat.pow_le_pow_right (by decide) h7
    have hpos : 0 < 2 ^ m := Nat.pow_pos (by decide)
    have hone : (1 : Nat) < 2 ^ m := Nat.one_lt_two_pow (by omega)
    refine ⟨_, rfl, J, 4, rfl, hJ, by decide, by decide, fun way H1 hway j1 => ⟨_, _, rfl, ?_⟩⟩
    refine ⟨_, rfl, m, rfl, by omega, by omega, ?_⟩
    refine for_range (lo := 0) (n := (m : Int).toNat) (fun i σ H' => ∃ y5, σ = [some (.ref J), some (vN m), some (vN mo), some (.int ((2 ^ i : Nat) : Int)), some (vN way), y5, none, none, none, none] ∧ H' = H1) ⟨none, rfl, rfl⟩ (fun i σ H' hi p => ?_) (fun σ H' p => ?_)
    · obtain ⟨y5, rfl, rfl⟩ := p
      refine ⟨_, rfl, _, _, rfl, rfl, .inr ⟨by decide, by decide⟩, some (.int (0 + (i : Int))), ?_, rfl⟩
      have e : (((2 ^ i : Nat) : Int) * 2) = ((2 ^ (i + 1) : Nat) : Int) := by
        rw [Nat.pow_succ]
        omega
      rw [← e]
      rfl
    obtain ⟨y5, rfl, rfl⟩ := p
    rw [Int.toNat_natCast]
    obtain ⟨S, hS⟩ : ∃ S : Nat, 2 ^ m = S := ⟨_, rfl⟩
    have hlight := light_len ⟨m, h7, hS⟩
    rw [hS] at hpow hpos hone ⊢
    refine ⟨_, rfl, rfl, _, rfl, ite2 (fun _ => ?_) (fun _ => ?_)⟩
    · refine ⟨_, rfl, _, _, rfl, ?_⟩
      have e : (if (8 : Int) < (S : Int) then (8 : Int) else (S : Int)) = ((min S 8 : Nat) : Int) := by
        split <;> omega
      rw [e]
      refine ⟨_, rfl, RgOk.of_le (by decide) (by omega) (by decide) (by omega), fun p np => ?_⟩
      rw [rgV_nat]
      exact q _ p _ (j1.then (same_new np)) (.inl (.inl upd_same)) (range_lot (by omega) (by omega) (by omega)) (by rw [List.length_range]; omega)
    obtain ⟨x0, y0, z0, eJ⟩ := hJ
    refine ⟨_, rfl, _, rfl, J, mo, rfl, j1.jug, by omega, by omega, fun r H2 hr2 j2 => ⟨_, _, rfl, rfl, _, rfl, _, rfl, RgOk.of_le (by decide) (by omega) (by decide) (by omega), fun lf nlf => ⟨Nat.zero_le _, fun fo nfo => ⟨_, _, _, rfl, ?_⟩⟩⟩⟩
    rw [rgV_nat] at nfo ⊢
    have j12 := j1.trans j2
    have s3 : Same H2 (upd H2 lf (.lst ((List.range S).map vN))) := same_new nlf
    have s4 := same_new (o := .lst []) nfo
    have freshH : ∀ b : Addr, H2 b = none → H b = none := fun b hb => by
      cases e : H b with
      | none => rfl
      | some o =>
        by_cases z : b = J
        · obtain ⟨a1, a2, a3, e9⟩ := j12.jug
          rw [z, e9] at hb
          cases hb
        · have := j12.keep b o z e
          rw [this] at hb
          cases hb
    have nlH : H lf = none := freshH lf nlf
    have nfH : H fo = none := freshH fo (Same.fresh s3 nfo)
    have j3 := (j12.then s3).then s4
    have e3 : upd (upd H2 lf (.lst ((List.range S).map vN))) fo (.lst []) lf = some (.lst ((List.range S).map vN)) := s4 _ _ upd_same
    have ef : upd (upd H2 lf (.lst ((List.range S).map vN))) fo (.lst []) fo = some (.lst (([] : List Nat).map vN)) := upd_same
    have nlf2 : lf ≠ fo := fun z => by
      rw [← z, upd_same] at nfo
      cases nfo
    refine ⟨_, rfl, rfl, _, rfl, ite2 (fun _ => ?_) (fun _ => ?_)⟩
    · refine ⟨(by show 1 ≤ sizeLine; decide), fun z nz => ?_⟩
      have s5 := same_new (o := .lst [V.int 0]) nz
      refine ⟨_, rfl, lf, rfl, ⟨_, .inl (.inl (s5 _ _ e3))⟩, fun D nD => ?_⟩
      refine lc_list (xs := (List.range S).map vN) (fun i H' => Same (upd (upd (upd H2 lf (.lst ((List.range S).map vN))) fo (.lst [])) z (.lst [V.int 0])) H' ∧ H' D = some (.lst (((((List.range S).take i).filter fun x => decide (wt x < 3)).map fun x => 1 ^^^ x).map vN)))
        ⟨same_new nD, upd_same⟩ (fun i H' _ p => .inl (.inl (p.1 _ _ (s5 _ _ e3)))) (fun i x H' hx p => ?_) (fun H5 p => ?_)
      · obtain ⟨n, hn, rfl⟩ := get_vN hx
        have hi := (List.getElem?_eq_some_iff.mp hn).1
        rw [List.length_range] at hi
        have et : (List.range S).take (i + 1) = (List.range S).take i ++ [n] := by
          rw [List.take_add_one, hn]
          rfl
        refine ⟨rfl, _, rfl, n, rfl, _, _, rfl, rfl, _, rfl, ite2 (fun hw => ?_) (fun hw => ?_)⟩
        · have hw2 : wt n < 3 := by
            have := of_decide_eq_true hw
            omega
          refine ⟨_, rfl, 1, n, rfl, fun H6 s6 => ⟨_, s6 _ _ p.2, ?_, same_mut (p.1.trans s6) nD, ?_⟩⟩
          · rw [List.length_map, List.length_map]
            refine Nat.lt_of_le_of_lt (Nat.le_trans (List.length_filter_le _ _) (by rw [List.length_take, List.length_range]; omega : _ ≤ 200)) (by decide)
          · rw [upd_same, et, List.filter_append, List.map_append, List.map_append, List.filter_cons_of_pos (by exact decide_eq_true hw2)]
            rfl
        · have hw2 : ¬ wt n < 3 := fun z => hw (decide_eq_true (by omega))
          refine ⟨p.1, ?_⟩
          rw [et, List.filter_append, List.filter_cons_of_neg (by simp only [decide_eq_true_eq]; exact hw2), List.filter_nil, List.append_nil]
          exact p.2
      · obtain ⟨s6, eD⟩ := p
        rw [List.length_map, List.take_length] at eD
        obtain ⟨B, hB⟩ : ∃ B, B = ((List.range S).filter fun x => decide (wt x < 3)).map fun x => 1 ^^^ x := ⟨_, rfl⟩
        rw [← hB] at eD
        have lB : B.length ≤ 30 := by
          rw [hB, List.length_map]
          exact hlight
        have ltB : ∀ x ∈ B, x < S := fun x hx => by
          rw [hB] at hx
          obtain ⟨y, hy, rfl⟩ := List.mem_map.mp hx
          have := List.mem_range.mp (List.mem_filter.mp hy).1
          rw [← hS] at this hone ⊢
          exact Nat.xor_lt_two_pow hone this
        refine ⟨z, D, _, _, rfl, rfl, s6 _ _ upd_same, eD, Nat.le_trans (by rw [List.length_map, List.length_singleton]; omega : _ ≤ 100) (by decide), fun p np => ?_⟩
        have s7 := same_new (o := .lst ([V.int 0] ++ B.map vN)) np
        refine ⟨p, natI (0 :: B), rfl, .inl (.inl (.inl (by rw [upd_same, ← vN_map]; rfl))), by unfold natI; rw [List.length_map, List.length_cons]; omega, fun p2 c np2 hc => ?_⟩
        have s8 := same_new (o := SetO w p2 (fun j => decide (j ∈ natI (0 :: B))) c) np2
        refine ⟨p2, _, c, rfl, upd_same, by unfold natI at hc; rw [List.length_map, List.length_cons] at hc; omega, fun ns lf asc mem ln nlf3 => ?_⟩
        obtain ⟨L0, rfl⟩ := toNats ns fun x hx => by
          have := of_decide_eq_true ((mem x).mp hx)
          obtain ⟨n, _, e⟩ := List.mem_map.mp (show x ∈ (0 :: B).map fun (n : Nat) => (n : Int) from this)
          exact ⟨n, e.symm⟩
        have s9 := same_new (o := .lst ((natI L0).map V.int)) nlf3
        have memL : ∀ x, x ∈ L0 ↔ x ∈ 0 :: B := fun x => by
          have h := mem (x : Int)
          rw [decide_eq_true_eq] at h
          have inj : ∀ L : List Nat, (x : Int) ∈ natI L ↔ x ∈ L := fun L => by
            constructor
            · intro hx
              obtain ⟨n, hn, e⟩ := List.mem_map.mp (show (x : Int) ∈ L.map fun (n : Nat) => (n : Int) from hx)
              obtain rfl : n = x := by omega
              exact hn
            · intro hx
              exact List.mem_map.mpr ⟨x, hx, rfl⟩
          rw [inj, inj] at h
          exact h
        have s59 := (((s5.trans s6).trans s7).trans s8).trans s9
        have neL : L0 ≠ [] := fun z => by
          have := (memL 0).mpr List.mem_cons_self
          rw [z] at this
          cases this
        have ndL : L0.Nodup := by
          have h := asc
          unfold natI at h
          rw [List.pairwise_map] at h
          exact h.imp fun z e => by omega
        have ltL : ∀ x ∈ L0, x < S := fun x hx => by
          rcases List.mem_cons.mp ((memL x).mp hx) with e | e
          · rw [e]
            exact hpos
          · exact ltB x e
        have bL : L0.length ≤ 200 := by
          have h1 : (natI L0).length = L0.length := by
            unfold natI
            exact List.length_map _
          unfold natI at hc
          rw [List.length_map, List.length_cons] at hc
          omega
        have j3b := j3.then s59
        have ef2 := s59 _ _ ef
        have nlH2 : H lf = none := freshH lf (Same.fresh s3 (Same.fresh s4 (Same.fresh (((s5.trans s6).trans s7).trans s8) nlf3)))
        have nlf4 : lf ≠ fo := fun z => by
          have h9 := (((s5.trans s6).trans s7).trans s8) _ _ ef
          rw [z] at nlf3
          exact absurd (nlf3.symm.trans h9) (by intro q; cases q)
        have e3b : upd (upd (upd H5 p (.lst ([V.int 0] ++ B.map vN))) p2 (SetO w p2 (fun j => decide (j ∈ natI (0 :: B))) c)) lf (.lst ((natI L0).map V.int)) lf = some (.lst (L0.map vN)) := by
          rw [upd_same, vN_map]
        clear e3 nlf2 nlH j3 ef
        have e3 := e3b
        have nlf2 := nlf4
        have nlH := nlH2
        have j3 := j3b
        have ef := ef2
        refine ⟨_, rfl, _, rfl, lf, _, rfl, .inl (.inl (.inl e3)), _, _, rfl, ?_⟩
        have eT : (if (((L0.map vN).length : Nat) : Int) < 1 + (r : Int) then (((L0.map vN).length : Nat) : Int) else 1 + (r : Int)) = ((min (1 + r) L0.length : Nat) : Int) := by
          rw [List.length_map]
          split <;> omega
        rw [eT]
        obtain ⟨T, hT⟩ : ∃ T : Nat, min (1 + r) L0.length = T := ⟨_, rfl⟩
        rw [hT]
        have nLf : lf ≠ J := fun z => by
          rw [z, eJ] at nlH
          cases nlH
        have nFo : fo ≠ J := fun z => by
          rw [z, eJ] at nfH
          cases nfH
        have T0 : 0 < T := by
          have := List.length_pos_iff.mpr neL
          omega
        refine ⟨_, rfl, by omega, by omega, ?_⟩
        refine for_range (lo := 0) (n := (T : Int).toNat) (fun i σ H' => ∃ (y5 : Option V) (F L : List Nat), σ = [some (.ref J), some (vN m), some (vN mo), some (.int (S : Int)), some (vN way), y5, some (.int (1 + (r : Int))), some (.ref lf), some (.ref fo), none] ∧ Jg J H H' ∧ H' lf = some (.lst (L.map vN)) ∧ H' fo = some (.lst (F.map vN)) ∧ F.length = i ∧ (F ++ L).Perm L0)
          ⟨_, [], L0, rfl, j3, e3, ef, rfl, List.Perm.refl _⟩ (fun i σ H' hi p => ?_) (fun σ H' p => ?_)
        · obtain ⟨y5, F, L, rfl, j5, el, eo, hF, pm⟩ := p
          have hlen := pm.length_eq
          rw [List.length_append] at hlen
          have hL : 0 < L.length := by omega
          refine ⟨_, rfl, .inl ⟨rfl, _, .inl (.inl eo)⟩, _, rfl, .inl ⟨rfl, _, .inl (.inl el)⟩, _, rfl, _, rfl, lf, _, rfl, .inl (.inl (.inl el)), J, (L.map vN).length, rfl, j5.jug, by rw [List.length_map]; exact hL, by rw [List.length_map]; omega, fun r4 H4 hr4 j4 => ?_⟩
          have hr5 : r4 < L.length := by
            rw [List.length_map] at hr4
            exact hr4
          have hy : L[r4]? = some L[r4] := List.getElem?_eq_getElem hr5
          have el4 := j4.keep _ _ nLf el
          have eo4 := j4.keep _ _ nFo eo
          refine ⟨lf, _, _, r4, vN L[r4], rfl, rfl, el4, by omega, by omega, seqIx hr4, by rw [List.getElem?_map, hy]; rfl, ?_⟩
          rw [eraseIdx_map]
          have j6 : Jg J H (upd H4 lf (.lst ((L.eraseIdx r4).map vN))) := (j5.trans j4).put nlH nLf
          have eo6 : upd H4 lf (.lst ((L.eraseIdx r4).map vN)) fo = some (.lst (F.map vN)) := by
            rw [upd_ne (Ne.symm nlf2)]
            exact eo4
          refine ⟨fo, _, _, rfl, rfl, eo6, by rw [List.length_map]; exact Nat.lt_of_le_of_lt (by omega : _ ≤ 200) (by decide), _, F ++ [L[r4]], L.eraseIdx r4, rfl, j6.put nfH nFo, ?_, ?_, by rw [List.length_append, List.length_singleton, hF], erase_perm pm hy⟩
          · rw [upd_ne nlf2, upd_same]
          · rw [upd_same, List.map_append]
            rfl
        · obtain ⟨y5, F, L, rfl, j5, el, eo, hF, pm⟩ := p
          rw [Int.toNat_natCast] at hF
          refine ⟨_, rfl, fo, natI F, rfl, .inl (.inl (by rw [eo, vN_map])), by unfold natI; rw [List.length_map]; omega, fun ns' p perm ris np => ?_⟩
          obtain ⟨A', rfl, pm2, rs⟩ := sorted_nats perm ris
          refine ⟨p, _, rfl, .inl ⟨.inl (.inl upd_same), fun l hl => ?_⟩⟩
          have nd : F.Nodup := (List.nodup_append.mp (pm.nodup_iff.mpr ndL)).1
          refine q A' l _ ((j5.then (same_new np)).then (same_new hl)) (by rw [vN_map]; exact .inl (.inl upd_same)) ⟨fun z => ?_, fun x hx => ?_, strict_of rs (pm2.nodup_iff.mpr nd), by rw [pm2.length_eq]; omega⟩ (by rw [pm2.length_eq]; omega)
          · have := pm2.length_eq
            rw [z] at this
            simp at this
            omega
          · rw [hS]
            exact ltL x (pm.subset (List.mem_append_left _ (pm2.mem_iff.mp hx)))
    · obtain ⟨L0, hL0⟩ : ∃ L0, L0 = List.range S := ⟨_, rfl⟩
      have neL : L0 ≠ [] := fun z => by
        rw [hL0] at z
        have := congrArg List.length z
        rw [List.length_range] at this
        simp at this
        omega
      have ndL : L0.Nodup := by
        rw [hL0]
        exact List.nodup_range
      have ltL : ∀ x ∈ L0, x < S := fun x hx => by
        rw [hL0] at hx
        exact List.mem_range.mp hx
      have bL : L0.length ≤ 200 := by
        rw [hL0, List.length_range]
        omega
      rw [← hL0] at e3 ef j3 ⊢
      refine ⟨_, rfl, _, rfl, lf, _, rfl, .inl (.inl (.inl e3)), _, _, rfl, ?_⟩
      have eT : (if (((L0.map vN).length : Nat) : Int) < 1 + (r : Int) then (((L0.map vN).length : Nat) : Int) else 1 + (r : Int)) = ((min (1 + r) L0.length : Nat) : Int) := by
        rw [List.length_map]
        split <;> omega
      rw [eT]
      obtain ⟨T, hT⟩ : ∃ T : Nat, min (1 + r) L0.length = T := ⟨_, rfl⟩
      rw [hT]
      have nLf : lf ≠ J := fun z => by
        rw [z, eJ] at nlH
        cases nlH
      have nFo : fo ≠ J := fun z => by
        rw [z, eJ] at nfH
        cases nfH
      have T0 : 0 < T := by
        have := List.length_pos_iff.mpr neL
        omega
      refine ⟨_, rfl, by omega, by omega, ?_⟩
      refine for_range (lo := 0) (n := (T : Int).toNat) (fun i σ H' => ∃ (y5 : Option V) (F L : List Nat), σ = [some (.ref J), some (vN m), some (vN mo), some (.int (S : Int)), some (vN way), y5, some (.int (1 + (r : Int))), some (.ref lf), some (.ref fo), none] ∧ Jg J H H' ∧ H' lf = some (.lst (L.map vN)) ∧ H' fo = some (.lst (F.map vN)) ∧ F.length = i ∧ (F ++ L).Perm L0)
        ⟨_, [], L0, rfl, j3, e3, ef, rfl, List.Perm.refl _⟩ (fun i σ H' hi p => ?_) (fun σ H' p => ?_)
      · obtain ⟨y5, F, L, rfl, j5, el, eo, hF, pm⟩ := p
        have hlen := pm.length_eq
        rw [List.length_append] at hlen
        have hL : 0 < L.length := by omega
        refine ⟨_, rfl, .inl ⟨rfl, _, .inl (.inl eo)⟩, _, rfl, .inl ⟨rfl, _, .inl (.inl el)⟩, _, rfl, _, rfl, lf, _, rfl, .inl (.inl (.inl el)), J, (L.map vN).length, rfl, j5.jug, by rw [List.length_map]; exact hL, by rw [List.length_map]; omega, fun r4 H4 hr4 j4 => ?_⟩
        have hr5 : r4 < L.length := by
          rw [List.length_map] at hr4
          exact hr4
        have hy : L[r4]? = some L[r4] := List.getElem?_eq_getElem hr5
        have el4 := j4.keep _ _ nLf el
        have eo4 := j4.keep _ _ nFo eo
        refine ⟨lf, _, _, r4, vN L[r4], rfl, rfl, el4, by omega, by omega, seqIx hr4, by rw [List.getElem?_map, hy]; rfl, ?_⟩
        rw [eraseIdx_map]
        have j6 : Jg J H (upd H4 lf (.lst ((L.eraseIdx r4).map vN))) := (j5.trans j4).put nlH nLf
        have eo6 : upd H4 lf (.lst ((L.eraseIdx r4).map vN)) fo = some (.lst (F.map vN)) := by
          rw [upd_ne (Ne.symm nlf2)]
          exact eo4
        refine ⟨fo, _, _, rfl, rfl, eo6, by rw [List.length_map]; exact Nat.lt_of_le_of_lt (by omega : _ ≤ 200) (by decide), _, F ++ [L[r4]], L.eraseIdx r4, rfl, j6.put nfH nFo, ?_, ?_, by rw [List.length_append, List.length_singleton, hF], erase_perm pm hy⟩
        · rw [upd_ne nlf2, upd_same]
        · rw [upd_same, List.map_append]
          rfl
      · obtain ⟨y5, F, L, rfl, j5, el, eo, hF, pm⟩ := p
        rw [Int.toNat_natCast] at hF
        refine ⟨_, rfl, fo, natI F, rfl, .inl (.inl (by rw [eo, vN_map])), by unfold natI; rw [List.length_map]; omega, fun ns' p perm ris np => ?_⟩
        obtain ⟨A', rfl, pm2, rs⟩ := sorted_nats perm ris
        refine ⟨p, _, rfl, .inl ⟨.inl (.inl upd_same), fun l hl => ?_⟩⟩
        have nd : F.Nodup := (List.nodup_append.mp (pm.nodup_iff.mpr ndL)).1
        refine q A' l _ ((j5.then (same_new np)).then (same_new hl)) (by rw [vN_map]; exact .inl (.inl upd_same)) ⟨fun z => ?_, fun x hx => ?_, strict_of rs (pm2.nodup_iff.mpr nd), by rw [pm2.length_eq]; omega⟩ (by rw [pm2.length_eq]; omega)
        · have := pm2.length_eq
          rw [z] at this
          simp at this
          omega
        · rw [hS]
          exact ltL x (pm.subset (List.mem_append_left _ (pm2.mem_iff.mp hx)))
end
end Sq
set_option Elab.async false
set_option linter.all false
set_option maxRecDepth 100000
set_option maxHeartbeats 4000000
namespace Sq
open PySem PySem.Spec PyProof.Rows L2
theorem ok_text : ∀ d : Nat, d < 128 → PyData.canLay0 (.str (toString (d : Int) : String)) = true := by decide +kernel
theorem log_small {n : Nat} (h : n < 128) : ((n : Int)).natAbs.log2 < 1920 := by
  have e : ((n : Int)).natAbs = n := Int.natAbs_natCast n
  rw [e]
  by_cases z : n = 0
  · subst z
    decide
  · exact Nat.lt_trans ((Nat.log2_lt z).mpr (show n < 2 ^ 7 from h)) (by decide)
theorem allN {ns : List Nat} (v : V) (h : v ∈ ns.map vN) : Sc v := sc_N ns v h
theorem all4 {a b c d : V} (h1 : Sc a) (h2 : Sc b) (h3 : Sc c) (h4 : Sc d) (v : V) (h : v ∈ [a, b, c, d]) : Sc v := by
  simp at h
  rcases h with rfl | rfl | rfl | rfl <;> assumption
section
variable {K : PySem.W.Frag} {H H' : Hp}
def Okv (K : PySem.W.Frag) (H : Hp) (v : V) : Prop := ∃ o, ValOk K H v o
def AllOk (K : PySem.W.Frag) (H : Hp) (xs : List V) : Prop := ∀ x ∈ xs, Okv K H x
theorem AllOk.same {xs : List V} (s : Same H H') (h : AllOk K H xs) : AllOk K H' xs := fun x hx => let ⟨o, e⟩ := h x hx; ⟨o, e.same s⟩
theorem AllOk.app {xs ys : List V} (h : AllOk K H xs) (g : AllOk K H ys) : AllOk K H (xs ++ ys) := fun x hx => (List.mem_append.mp hx).elim (h x) (g x)
theorem AllOk.tup {xs vs : List V} {t : Addr} (h : AllOk K H xs) (n : H t = none) (hs : ∀ v ∈ vs, Sc v) (hl : vs.length ≤ 100) : AllOk K (upd H t (.tup vs)) (xs ++ [.ref t]) :=
  (h.same (same_new n)).app fun x hx => by
    rw [List.mem_singleton.mp hx]
    exact ⟨_, .tup (.inl (.inl upd_same)) hs hl⟩
theorem AllOk.lst {xs vs : List V} {t : Addr} (h : AllOk K H xs) (n : H t = none) : AllOk K (upd H t (.lst vs)) (xs ++ [.ref t]) :=
  (h.same (same_new n)).app fun x hx => by
    rw [List.mem_singleton.mp hx]
    exact ⟨_, .lst upd_same⟩
theorem AllOk.sc {xs : List V} {v : V} (h : AllOk K H xs) (s : Sc v) : AllOk K H (xs ++ [v]) := h.app fun x hx => by
  rw [List.mem_singleton.mp hx]
  exact ⟨_, .sc s⟩
theorem ValOk.jg {J : Addr} {v : V} {o : Option (List V)} (j : IsJug H J) (e : Jg J H H') (h : ValOk K H v o) : ValOk K H' v o := by
  cases h with
  | sc h => exact .sc h
  | @lst p xs h =>
    by_cases z : p = J
    · subst z
      obtain ⟨a, b, c, q⟩ := e.jug
      exact .lst q
    · exact .lst (e.keep _ _ z h)
  | tup h hs hl => exact .tup (e.t j h) hs hl
theorem scN (n : Nat) : Sc (vN n) := .inr (.inr (.inl ⟨_, rfl⟩))
theorem sc_dp {rs : List V} {A B : List Nat} : (∀ r ∈ rs, QuadAt A B H r) → ∃ ds, DpAll K H rs ds ∧ PyData.canLayAll0 ds = true ∧ PyData.depthAll ds ≤ 1 ∧ ds.isEmpty = rs.isEmpty := by
  induction rs with
  | nil => exact fun _ => ⟨[], .nil, rfl, Nat.zero_le _, rfl⟩
  | cons r rs ih =>
    intro h
    obtain ⟨ds, h1, h2, h3, _⟩ := ih fun x hx => h x (List.mem_cons_of_mem _ hx)
    obtain ⟨t, x, y, u, v, rfl, ht, _⟩ := h r List.mem_cons_self
    refine ⟨.tuple [.int x, .int y, .int u, .int v] :: ds, .cons (.tup (.inl (.inl ht)) (.cons (.int _) (.cons (.int _) (.cons (.int _) (.cons (.int _) .nil))))) h1, ?_, ?_, rfl⟩
    · show (true && PyData.canLayAll0 ds) = true
      rw [h2]
      rfl
    · show max (PyData.depth (.tuple [.int x, .int y, .int u, .int v])) (PyData.depthAll ds) ≤ 1
      exact Nat.max_le.mpr ⟨Nat.le_refl 1, h3⟩
end
section
variable {P : Program} {w : World} {K : PySem.W.Frag} {mg : Str → Option Value} {base : Heap} {f : Addr} {fd : FuncData} {k : Nat}
def spNear (K : PySem.W.Frag) : Sp := fun vs H Q _ => ∃ (J a b e : Addr) (A B : List Nat) (rs : List V), vs = [.ref J, .ref a, .ref b, .ref e] ∧ IsJug H J ∧ SqT K H a (A.map vN) ∧ SqT K H b (B.map vN) ∧ LotOk 7 A ∧ LotOk 7 B ∧
  H e = some (.lst rs) ∧ e ≠ J ∧ rs.length ≤ 4000000 ∧ (∀ r ∈ rs, QuadAt A B H r) ∧ ∀ v o H', Jg J H H' → ValOk K H' v o → Q v H'
theorem ok_l_near {fO : Addr} {fdO : FuncData} (mt : mg "tuple" = none) (ms : mg "str" = none)
    (gO : mg "_law_of" = some (.ref fO)) (FO : Fun K "_law_of" "_law_of" s_l_of fO fdO) (bO : Binds K fdO ["_law_jug_here", "_law_items"] []) (GO : FnOk P w K mg base CX0 (k + 2) fO fdO ["_law_jug_here", "_law_items"] (spOf K))
    (F : Fun K "_law_near" "_law_near" s_l_near f fd) : FnOk P w K mg base CX0 (k + 3) f fd ["_law_jug_here", "_law_firsts", "_law_seconds", "_law_due"] (spNear K) := by
  refine F.ok sc_l_near (fun vs H Q E h => ?_) (fun cdv A0 outer s H vs Q E hr h => ?_)
  · obtain ⟨J, a, b, e, A, B, rs, rfl, _⟩ := h
    rfl
  · obtain ⟨J, a, b, e, A, B, rs, rfl, hJ, hA, hB, la, lb, hE, nE, hlen, qd, q⟩ := h
    refine ⟨_, pss_cons (ps_set (i := 4) sc_l_near.nd rfl (.inl rfl) (pe_lst (pa_cons (pe_callTy call_tuple_of (by rfl) mt (by decide +kernel) (pa_cons (pe_lst (pa_cons (pe_call GO hr (by rfl) gO FO.kp bO .nil pass0 (pa_cons (pv 0) (pa_cons (pv 1) pa_nil))) (pa_cons (pe_call GO hr (by rfl) gO FO.kp bO .nil pass0 (pa_cons (pv 0) (pa_cons (pv 1) pa_nil))) (pa_cons (pe_call GO hr (by rfl) gO FO.kp bO .nil pass0 (pa_cons (pv 0) (pa_cons (pv 2) pa_nil))) (pa_cons (pe_call GO hr (by rfl) gO FO.kp bO .nil pass0 (pa_cons (pv 0) (pa_cons (pv 2) pa_nil))) pa_nil))))) pa_nil)) pa_nil)))
      (pss_cons (ps_set (i := 5) sc_l_near.nd rfl (.inl rfl) (pe_ifExp (pt_cmpR (op_neD hr.units) (pv 3) (pe_lst pa_nil) (nomark _)) (pe_call GO hr (by rfl) gO FO.kp bO .nil pass0 (pa_cons (pv 0) (pa_cons (pv 3) pa_nil))) (pe_ix ix_list (pv 4) pe_int (fun _ _ => rfl))))
      (pss_cons (ps_asg (pv 5) (pg_tup (by rfl) (pgs_cons (pg_name (i := 6) sc_l_near.nd rfl (.inl rfl)) (pgs_cons (pg_name (i := 7) sc_l_near.nd rfl (.inl rfl)) (pgs_cons (pg_name (i := 8) sc_l_near.nd rfl (.inl rfl)) (pgs_cons (pg_name (i := 9) sc_l_near.nd rfl (.inl rfl)) pgs_nil))))))
      (pss_cons (ps_set (i := 4) sc_l_near.nd rfl (.inl rfl) (pe_op op_cat (pe_op op_cat (pv 4) (pe_op op_rep (pe_lst (pa_cons (pv 5) pa_nil)) pe_int))
        (pe_lst (pa_cons (pe_tup (pa_cons (pv 7) (pa_cons (pv 6) (pa_cons (pv 8) (pa_cons (pv 9) pa_nil))))) (pa_cons (pe_tup (pa_cons (pv 6) (pa_cons (pv 7) (pa_cons (pv 9) (pa_cons (pv 8) pa_nil))))) (pa_cons (pe_tup (pa_cons (pv 8) (pa_cons (pv 9) (pa_cons (pv 6) (pa_cons (pv 7) pa_nil))))) (pa_cons (pe_tup (pa_cons (pv 6) (pa_cons (pv 7) (pa_cons (pv 8) pa_nil)))) (pa_cons (pe_tup (pa_cons (pv 6) (pa_cons (pv 7) (pa_cons (pv 8) (pa_cons (pv 9) (pa_cons (pv 6) pa_nil)))))) (pa_cons (pe_lst (pa_cons (pv 6) (pa_cons (pv 7) (pa_cons (pv 8) (pa_cons (pv 9) pa_nil))))) (pa_cons pe_non (pa_cons pe_int (pa_cons (pe_tup pa_nil) pa_nil))))))))))))
      (pss_one (ps_ret (pe_call GO hr (by rfl) gO FO.kp bO .nil pass0 (pa_cons (pv 0) (pa_cons (pe_op op_cat (pv 4) (pe_lst (pa_cons (pe_tup (pa_cons (pv 6) (pa_cons (pv 7) (pa_cons (pv 8) (pa_cons pe_non pa_nil))))) (pa_cons (pe_tup (pa_cons pe_bl (pa_cons (pv 7) (pa_cons (pv 8) (pa_cons (pv 9) pa_nil))))) (pa_cons (pe_tup (pa_cons (pv 6) (pa_cons (pv 7) (pa_cons (pv 8) (pa_cons (pe_callTy call_str_int (by rfl) ms (by decide +kernel) (pa_cons (pv 9) pa_nil)) pa_nil))))) (pa_cons (pe_tup (pa_cons (pv 6) (pa_cons (pv 7) (pa_cons (pv 8) (pa_cons (pe_op op_pow pe_int pe_int) pa_nil))))) (pa_cons (pe_tup (pa_cons (pv 6) (pa_cons (pv 7) (pa_cons (pv 6) (pa_cons (pv 7) pa_nil))))) pa_nil))))))) pa_nil)))))))), ?_⟩
    have lenA : (A.map vN).length < 1073741824 := by
      rw [List.length_map]
      have := la.len
      omega
    have lenB : (B.map vN).length < 1073741824 := by
      rw [List.length_map]
      have := lb.len
      omega
    have neA : A.map vN ≠ [] := fun z => la.ne (List.map_eq_nil_iff.mp z)
    have neB : B.map vN ≠ [] := fun z => lb.ne (List.map_eq_nil_iff.mp z)
    have gA : ∀ x ∈ A.map vN, ∃ n : Nat, n < 128 ∧ x = vN n := fun x hx => by
      obtain ⟨n, hn, rfl⟩ := List.mem_map.mp hx
      exact ⟨n, la.lt n hn, rfl⟩
    have gB : ∀ x ∈ B.map vN, ∃ n : Nat, n < 128 ∧ x = vN n := fun x hx => by
      obtain ⟨n, hn, rfl⟩ := List.mem_map.mp hx
      exact ⟨n, lb.lt n hn, rfl⟩
    refine ⟨_, rfl, _, rfl, J, a, _, rfl, hJ, .inr hA, neA, lenA, fun v1 m1 H1 j1 => ?_⟩
    refine ⟨_, rfl, _, rfl, J, a, _, rfl, j1.jug, .inr (j1.t hJ hA), neA, lenA, fun v2 m2 H2 j2 => ?_⟩
    have j12 := j1.trans j2
    refine ⟨_, rfl, _, rfl, J, b, _, rfl, j2.jug, .inr (j12.t hJ hB), neB, lenB, fun v3 m3 H3 j3 => ?_⟩
    have j13 := j12.trans j3
    refine ⟨_, rfl, _, rfl, J, b, _, rfl, j3.jug, .inr (j13.t hJ hB), neB, lenB, fun v4 m4 H4 j4 => ?_⟩
    have j14 := j13.trans j4
    obtain ⟨n1, b1, rfl⟩ := gA _ m1
    obtain ⟨n2, b2, rfl⟩ := gA _ m2
    obtain ⟨n3, b3, rfl⟩ := gB _ m3
    obtain ⟨n4, b4, rfl⟩ := gB _ m4
    refine ⟨(by show 4 ≤ sizeLine; decide), fun l1 nl1 => ⟨l1, _, rfl, .inl ⟨.inl (.inl upd_same), fun t0 nt0 => ⟨(by show 1 ≤ sizeLine; decide), fun so nso => ?_⟩⟩⟩⟩
    have s1 := same_new (o := .lst [vN n1, vN n2, vN n3, vN n4]) nl1
    have s2 := same_new (o := .tup [vN n1, vN n2, vN n3, vN n4]) nt0
    have s3 := same_new (o := .lst [V.ref t0]) nso
    have s13 := (s1.trans s2).trans s3
    have j5 := j14.then s13
    have et0 := s3 _ _ (upd_same (H := upd H4 l1 (.lst [vN n1, vN n2, vN n3, vN n4])) (a := t0) (o := .tup [vN n1, vN n2, vN n3, vN n4]))
    have eso : upd (upd (upd H4 l1 (.lst [vN n1, vN n2, vN n3, vN n4])) t0 (.tup [vN n1, vN n2, vN n3, vN n4])) so (.lst [V.ref t0]) so = some (.lst [V.ref t0]) := upd_same
    have eE := j5.keep _ _ nE hE
    have qd5 : ∀ r ∈ rs, QuadAt A B (upd (upd (upd H4 l1 (.lst [vN n1, vN n2, vN n3, vN n4])) t0 (.tup [vN n1, vN n2, vN n3, vN n4])) so (.lst [V.ref t0])) r := fun r hr => by
      obtain ⟨t, x, y, u, v, e1, ht, cl⟩ := qd r hr
      obtain ⟨a1, a2, a3, eJ⟩ := hJ
      exact ⟨t, x, y, u, v, e1, j5.keep _ _ (ne_of ht eJ (by intro z; cases z)) ht, cl⟩
    have nsoJ : so ≠ J := fun z => by
      obtain ⟨a1, a2, a3, eJ⟩ := (j14.then (s1.trans s2)).jug
      rw [z, eJ] at nso
      cases nso
    refine ⟨_, rfl, Nat.zero_le _, fun z0 nz0 => ?_⟩
    have s5 := same_new (o := .lst []) nz0
    obtain ⟨ds, dp, cl1, dp1, em⟩ := sc_dp (K := K) fun r hr => (qd5 r hr).same s5
    refine ⟨.list ds, .list [], .lst (.inl (.inl (s5 _ _ eE))) dp, .lst (.inl (.inl upd_same)) .nil, shaped_l cl1 (by omega), shaped_l rfl (Nat.zero_le _), _, rfl, ?_⟩
    rw [eqv_nilL, em]
    have j6 := j5.then s5
    cases rs with
    | nil =>
      refine iteF ⟨_, rfl, so, _, _, _, rfl, rfl, .inl (.inl (s5 _ _ eso)), atI_nat (j := 0) rfl, ?_⟩
      have eq' := s5 _ _ et0
      have esx := s5 _ _ eso
      refine ⟨_, rfl, t0, _, rfl, .inl (.inl eq'), rfl, _, _, rfl, _, _, rfl, _, _, rfl, _, _, rfl, rfl, ?_⟩
      refine ⟨_, rfl, _, rfl, (by show 1 ≤ sizeLine; decide), fun p1 np1 => ?_⟩
      have q1 := same_new (o := .lst [V.ref t0]) np1
      refine ⟨p1, 3, _, rfl, rfl, upd_same, by decide, by decide, (by show 1 * 3 ≤ sizeLine; decide), fun p2 np2 => ?_⟩
      have q2 := same_new (o := .lst (List.replicate (3 : Int).toNat [V.ref t0]).flatten) np2
      refine ⟨so, p2, _, _, rfl, rfl, (q1.trans q2) _ _ esx, upd_same, (by show 1 + 3 ≤ sizeLine; decide), fun p3 np3 => ?_⟩
      have q3 := same_new (o := .lst ([V.ref t0] ++ (List.replicate (3 : Int).toNat [V.ref t0]).flatten)) np3
      have q13 := (q1.trans q2).trans q3
      have ok0 : AllOk K _ ([V.ref t0] ++ [V.ref t0, V.ref t0, V.ref t0]) := AllOk.same q13 (fun z hz => by
        have kt : ∀ {t : Addr} {n1 n2 n3 n4 : Nat}, (upd (upd (upd (upd H4 l1 (.lst [vN n1, vN n2, vN n3, vN n4])) t0 (.tup [vN n1, vN n2, vN n3, vN n4])) so (.lst [V.ref t0])) z0 (.lst [])) t = some (.tup [vN n1, vN n2, vN n3, vN n4]) → Okv K (upd (upd (upd (upd H4 l1 (.lst [vN n1, vN n2, vN n3, vN n4])) t0 (.tup [vN n1, vN n2, vN n3, vN n4])) so (.lst [V.ref t0])) z0 (.lst [])) (.ref t) := fun {t n1 n2 n3 n4} h => ⟨_, .tup (.inl (.inl h)) (by intro v hv; simp at hv; rcases hv with rfl | rfl | rfl | rfl <;> exact scN _) (by show 4 ≤ 100; decide)⟩
        simp at hz
        rcases hz with rfl | rfl
        all_goals exact kt eq')
      have e3 := upd_same (H := upd (upd (upd (upd (upd (upd H4 l1 (.lst [vN n1, vN n2, vN n3, vN n4])) t0 (.tup [vN n1, vN n2, vN n3, vN n4])) so (.lst [V.ref t0])) z0 (.lst [])) p1 (.lst [V.ref t0])) p2 (.lst (List.replicate (3 : Int).toNat [V.ref t0]).flatten)) (a := p3) (o := .lst ([V.ref t0] ++ (List.replicate (3 : Int).toNat [V.ref t0]).flatten))
      refine ⟨_, rfl, _, rfl, _, rfl, _, rfl, (by show 4 ≤ sizeLine; decide), fun t1_x nt1 => ?_⟩
      have k1x := AllOk.tup (vs := [vN n2, vN n1, vN n3, vN n4]) ok0 nt1 (by intro zz hzz; exact allN (ns := [n2, n1, n3, n4]) zz hzz) (by show 4 ≤ 100; decide)
      have g1 := same_new (o := .tup [vN n2, vN n1, vN n3, vN n4]) nt1
      refine ⟨_, rfl, _, rfl, _, rfl, _, rfl, (by show 4 ≤ sizeLine; decide), fun t2_x nt2 => ?_⟩
      have k2x := AllOk.tup (vs := [vN n1, vN n2, vN n4, vN n3]) k1x nt2 (by intro zz hzz; exact allN (ns := [n1, n2, n4, n3]) zz hzz) (by show 4 ≤ 100; decide)
      have g2 := same_new (o := .tup [vN n1, vN n2, vN n4, vN n3]) nt2
      refine ⟨_, rfl, _, rfl, _, rfl, _, rfl, (by show 4 ≤ sizeLine; decide), fun t3_x nt3 => ?_⟩
      have k3x := AllOk.tup (vs := [vN n3, vN n4, vN n1, vN n2]) k2x nt3 (by intro zz hzz; exact allN (ns := [n3, n4, n1, n2]) zz hzz) (by show 4 ≤ 100; decide)
      have g3 := same_new (o := .tup [vN n3, vN n4, vN n1, vN n2]) nt3
      refine ⟨_, rfl, _, rfl, _, rfl, (by show 3 ≤ sizeLine; decide), fun t4_x nt4 => ?_⟩
      have k4x := AllOk.tup (vs := [vN n1, vN n2, vN n3]) k3x nt4 (by intro zz hzz; exact allN (ns := [n1, n2, n3]) zz hzz) (by show 3 ≤ 100; decide)
      have g4 := same_new (o := .tup [vN n1, vN n2, vN n3]) nt4
      refine ⟨_, rfl, _, rfl, _, rfl, _, rfl, _, rfl, (by show 5 ≤ sizeLine; decide), fun t5_x nt5 => ?_⟩
      have k5x := AllOk.tup (vs := [vN n1, vN n2, vN n3, vN n4, vN n1]) k4x nt5 (by intro zz hzz; exact allN (ns := [n1, n2, n3, n4, n1]) zz hzz) (by show 5 ≤ 100; decide)
      have g5 := same_new (o := .tup [vN n1, vN n2, vN n3, vN n4, vN n1]) nt5
      refine ⟨_, rfl, _, rfl, _, rfl, _, rfl, (by show 4 ≤ sizeLine; decide), fun t6_x nt6 => ?_⟩
      have k6x := AllOk.lst (vs := [vN n1, vN n2, vN n3, vN n4]) k5x nt6
      have g6 := same_new (o := .lst [vN n1, vN n2, vN n3, vN n4]) nt6
      have k7x := AllOk.sc k6x (.inl rfl)
      have k8x := AllOk.sc k7x (scN 0)
      refine ⟨Nat.zero_le _, fun t9_x nt9 => ?_⟩
      have k9x := AllOk.tup (vs := []) k8x nt9 (by intro v hv; cases hv) (Nat.zero_le _)
      have g9 := same_new (o := .tup []) nt9
      refine ⟨(by show 9 ≤ sizeLine; decide), fun p4 np4 => ?_⟩
      have q4 := same_new (o := .lst [.ref t1_x, .ref t2_x, .ref t3_x, .ref t4_x, .ref t5_x, .ref t6_x, .non, .int 0, .ref t9_x]) np4
      have q34 := ((((((g1.trans g2).trans g3).trans g4).trans g5).trans g6).trans g9).trans q4
      refine ⟨p3, p4, _, _, rfl, rfl, q34 _ _ e3, upd_same, (by show 4 + 9 ≤ sizeLine; decide), fun p5 np5 => ?_⟩
      have q5 := same_new (o := .lst (([V.ref t0] ++ (List.replicate (3 : Int).toNat [V.ref t0]).flatten) ++ [.ref t1_x, .ref t2_x, .ref t3_x, .ref t4_x, .ref t5_x, .ref t6_x, .non, .int 0, .ref t9_x])) np5
      have okA := AllOk.same (q4.trans q5) k9x
      refine ⟨_, rfl, _, rfl, ?_⟩
      refine ⟨_, rfl, _, rfl, _, rfl, (by show 4 ≤ sizeLine; decide), fun t11_x nt11 => ?_⟩
      have k11x := AllOk.tup (vs := [vN n1, vN n2, vN n3, .non]) okA nt11 (by intro v hv; exact all4 (by first | exact scN _ | exact .inl rfl | exact .inr (.inl ⟨_, rfl⟩)) (scN _) (scN _) (by first | exact scN _ | exact .inl rfl | exact .inr (.inr (.inl ⟨_, rfl⟩)) | exact .inr (.inr (.inr ⟨_, rfl, ok_text _ b4⟩))) v hv) (by show 4 ≤ 100; decide)
      have g11 := same_new (o := .tup [vN n1, vN n2, vN n3, .non]) nt11
      refine ⟨_, rfl, _, rfl, _, rfl, (by show 4 ≤ sizeLine; decide), fun t12_x nt12 => ?_⟩
      have k12x := AllOk.tup (vs := [.bl false, vN n2, vN n3, vN n4]) k11x nt12 (by intro v hv; exact all4 (by first | exact scN _ | exact .inl rfl | exact .inr (.inl ⟨_, rfl⟩)) (scN _) (scN _) (by first | exact scN _ | exact .inl rfl | exact .inr (.inr (.inl ⟨_, rfl⟩)) | exact .inr (.inr (.inr ⟨_, rfl, ok_text _ b4⟩))) v hv) (by show 4 ≤ 100; decide)
      have g12 := same_new (o := .tup [.bl false, vN n2, vN n3, vN n4]) nt12
      refine ⟨_, rfl, _, rfl, _, rfl, _, rfl, _, rfl, (log_small b4), (by show 4 ≤ sizeLine; decide), fun t13_x nt13 => ?_⟩
      have k13x := AllOk.tup (vs := [vN n1, vN n2, vN n3, .str (toString ((n4 : Nat) : Int) : String)]) k12x nt13 (by intro v hv; exact all4 (by first | exact scN _ | exact .inl rfl | exact .inr (.inl ⟨_, rfl⟩)) (scN _) (scN _) (by first | exact scN _ | exact .inl rfl | exact .inr (.inr (.inl ⟨_, rfl⟩)) | exact .inr (.inr (.inr ⟨_, rfl, ok_text _ b4⟩))) v hv) (by show 4 ≤ 100; decide)
      have g13 := same_new (o := .tup [vN n1, vN n2, vN n3, .str (toString ((n4 : Nat) : Int) : String)]) nt13
      refine ⟨_, rfl, _, rfl, _, rfl, _, _, rfl, rfl, ⟨by decide, by decide, by decide⟩, (by show 4 ≤ sizeLine; decide), fun t14_x nt14 => ?_⟩
      have k14x := AllOk.tup (vs := [vN n1, vN n2, vN n3, .int (10 ^ (60 : Int).toNat)]) k13x nt14 (by intro v hv; exact all4 (by first | exact scN _ | exact .inl rfl | exact .inr (.inl ⟨_, rfl⟩)) (scN _) (scN _) (by first | exact scN _ | exact .inl rfl | exact .inr (.inr (.inl ⟨_, rfl⟩)) | exact .inr (.inr (.inr ⟨_, rfl, ok_text _ b4⟩))) v hv) (by show 4 ≤ 100; decide)
      have g14 := same_new (o := .tup [vN n1, vN n2, vN n3, .int (10 ^ (60 : Int).toNat)]) nt14
      refine ⟨_, rfl, _, rfl, _, rfl, _, rfl, (by show 4 ≤ sizeLine; decide), fun t15_x nt15 => ?_⟩
      have k15x := AllOk.tup (vs := [vN n1, vN n2, vN n1, vN n2]) k14x nt15 (by intro v hv; exact all4 (by first | exact scN _ | exact .inl rfl | exact .inr (.inl ⟨_, rfl⟩)) (scN _) (scN _) (by first | exact scN _ | exact .inl rfl | exact .inr (.inr (.inl ⟨_, rfl⟩)) | exact .inr (.inr (.inr ⟨_, rfl, ok_text _ b4⟩))) v hv) (by show 4 ≤ 100; decide)
      have g15 := same_new (o := .tup [vN n1, vN n2, vN n1, vN n2]) nt15
      refine ⟨(by show 5 ≤ sizeLine; decide), fun p6 np6 => ?_⟩
      have q6 := same_new (o := .lst [.ref t11_x, .ref t12_x, .ref t13_x, .ref t14_x, .ref t15_x]) np6
      have q56 := ((((g11.trans g12).trans g13).trans g14).trans g15).trans q6
      refine ⟨p5, p6, _, _, rfl, rfl, q56 _ _ upd_same, upd_same, (by show 13 + 5 ≤ sizeLine; decide), fun p7 np7 => ?_⟩
      have q7 := same_new (o := .lst ((([V.ref t0] ++ (List.replicate (3 : Int).toNat [V.ref t0]).flatten) ++ [.ref t1_x, .ref t2_x, .ref t3_x, .ref t4_x, .ref t5_x, .ref t6_x, .non, .int 0, .ref t9_x]) ++ [.ref t11_x, .ref t12_x, .ref t13_x, .ref t14_x, .ref t15_x])) np7
      have okB := AllOk.same (q6.trans q7) k15x
      have jf := j6.then (((q13.trans q34).trans q5).trans (q56.trans q7))
      have n7J : p7 ≠ J := fun z => by
        obtain ⟨a1, a2, a3, eJ⟩ := (j6.then (((q13.trans q34).trans q5).trans q56)).jug
        rw [z, eJ] at np7
        cases np7
      refine ⟨J, p7, _, rfl, jf.jug, .inl ⟨.inl (.inl upd_same), n7J⟩, (by intro z; cases z), (by show 18 < 1073741824; decide), fun zv hz H9 j9 => ?_⟩
      obtain ⟨o, ho⟩ := okB zv hz
      exact q zv o H9 (jf.trans j9) (ho.jg jf.jug j9)
    | cons r0 rs =>
      refine iteT ⟨_, rfl, _, rfl, J, e, _, rfl, j6.jug, .inl ⟨.inl (.inl (s5 _ _ eE)), nE⟩, by simp, by omega, fun v5 m5 H5 j7 => ?_⟩
      obtain ⟨t9, x, y, u, v, rfl, ht, cl⟩ := (qd5 v5 m5).same s5
      have eq9 : H5 t9 = some (.tup [vN x, vN y, vN u, vN v]) := by
        obtain ⟨a1, a2, a3, eJ⟩ := j6.jug
        exact j7.keep _ _ (ne_of ht eJ (by intro z; cases z)) ht
      have esx9 := j7.keep _ _ nsoJ (s5 _ _ eso)
      have et9 : H5 t0 = some (.tup [vN n1, vN n2, vN n3, vN n4]) := by
        obtain ⟨a1, a2, a3, eJ⟩ := j6.jug
        exact j7.keep _ _ (ne_of (s5 _ _ et0) eJ (by intro z; cases z)) (s5 _ _ et0)
      have c1 := la.lt _ cl.ha
      have c2 := la.lt _ cl.hb
      have c3 := lb.lt _ cl.hc
      have c4 := lb.lt _ cl.hd
      have j8 := j6.trans j7
      refine ⟨_, rfl, t9, _, rfl, .inl (.inl eq9), rfl, _, _, rfl, _, _, rfl, _, _, rfl, _, _, rfl, rfl, ?_⟩
      refine ⟨_, rfl, _, rfl, (by show 1 ≤ sizeLine; decide), fun p1 np1 => ?_⟩
      have q1 := same_new (o := .lst [V.ref t9]) np1
      refine ⟨p1, 3, _, rfl, rfl, upd_same, by decide, by decide, (by show 1 * 3 ≤ sizeLine; decide), fun p2 np2 => ?_⟩
      have q2 := same_new (o := .lst (List.replicate (3 : Int).toNat [V.ref t9]).flatten) np2
      refine ⟨so, p2, _, _, rfl, rfl, (q1.trans q2) _ _ esx9, upd_same, (by show 1 + 3 ≤ sizeLine; decide), fun p3 np3 => ?_⟩
      have q3 := same_new (o := .lst ([V.ref t0] ++ (List.replicate (3 : Int).toNat [V.ref t9]).flatten)) np3
      have q13 := (q1.trans q2).trans q3
      have ok0 : AllOk K _ ([V.ref t0] ++ [V.ref t9, V.ref t9, V.ref t9]) := AllOk.same q13 (fun z hz => by
        have kt : ∀ {t : Addr} {n1 n2 n3 n4 : Nat}, H5 t = some (.tup [vN n1, vN n2, vN n3, vN n4]) → Okv K H5 (.ref t) := fun {t n1 n2 n3 n4} h => ⟨_, .tup (.inl (.inl h)) (by intro v hv; simp at hv; rcases hv with rfl | rfl | rfl | rfl <;> exact scN _) (by show 4 ≤ 100; decide)⟩
        simp at hz
        rcases hz with rfl | rfl
        · exact kt et9
        · exact kt eq9)
      have e3 := upd_same (H := upd (upd H5 p1 (.lst [V.ref t9])) p2 (.lst (List.replicate (3 : Int).toNat [V.ref t9]).flatten)) (a := p3) (o := .lst ([V.ref t0] ++ (List.replicate (3 : Int).toNat [V.ref t9]).flatten))
      refine ⟨_, rfl, _, rfl, _, rfl, _, rfl, (by show 4 ≤ sizeLine; decide), fun t1_x nt1 => ?_⟩
      have k1x := AllOk.tup (vs := [vN y, vN x, vN u, vN v]) ok0 nt1 (by intro zz hzz; exact allN (ns := [y, x, u, v]) zz hzz) (by show 4 ≤ 100; decide)
      have g1 := same_new (o := .tup [vN y, vN x, vN u, vN v]) nt1
      refine ⟨_, rfl, _, rfl, _, rfl, _, rfl, (by show 4 ≤ sizeLine; decide), fun t2_x nt2 => ?_⟩
      have k2x := AllOk.tup (vs := [vN x, vN y, vN v, vN u]) k1x nt2 (by intro zz hzz; exact allN (ns := [x, y, v, u]) zz hzz) (by show 4 ≤ 100; decide)
      have g2 := same_new (o := .tup [vN x, vN y, vN v, vN u]) nt2
      refine ⟨_, rfl, _, rfl, _, rfl, _, rfl, (by show 4 ≤ sizeLine; decide), fun t3_x nt3 => ?_⟩
      have k3x := AllOk.tup (vs := [vN u, vN v, vN x, vN y]) k2x nt3 (by intro zz hzz; exact allN (ns := [u, v, x, y]) zz hzz) (by show 4 ≤ 100; decide)
      have g3 := same_new (o := .tup [vN u, vN v, vN x, vN y]) nt3
      refine ⟨_, rfl, _, rfl, _, rfl, (by show 3 ≤ sizeLine; decide), fun t4_x nt4 => ?_⟩
      have k4x := AllOk.tup (vs := [vN x, vN y, vN u]) k3x nt4 (by intro zz hzz; exact allN (ns := [x, y, u]) zz hzz) (by show 3 ≤ 100; decide)
      have g4 := same_new (o := .tup [vN x, vN y, vN u]) nt4
      refine ⟨_, rfl, _, rfl, _, rfl, _, rfl, _, rfl, (by show 5 ≤ sizeLine; decide), fun t5_x nt5 => ?_⟩
      have k5x := AllOk.tup (vs := [vN x, vN y, vN u, vN v, vN x]) k4x nt5 (by intro zz hzz; exact allN (ns := [x, y, u, v, x]) zz hzz) (by show 5 ≤ 100; decide)
      have g5 := same_new (o := .tup [vN x, vN y, vN u, vN v, vN x]) nt5
      refine ⟨_, rfl, _, rfl, _, rfl, _, rfl, (by show 4 ≤ sizeLine; decide), fun t6_x nt6 => ?_⟩
      have k6x := AllOk.lst (vs := [vN x, vN y, vN u, vN v]) k5x nt6
      have g6 := same_new (o := .lst [vN x, vN y, vN u, vN v]) nt6
      have k7x := AllOk.sc k6x (.inl rfl)
      have k8x := AllOk.sc k7x (scN 0)
      refine ⟨Nat.zero_le _, fun t9_x nt9 => ?_⟩
      have k9x := AllOk.tup (vs := []) k8x nt9 (by intro v hv; cases hv) (Nat.zero_le _)
      have g9 := same_new (o := .tup []) nt9
      refine ⟨(by show 9 ≤ sizeLine; decide), fun p4 np4 => ?_⟩
      have q4 := same_new (o := .lst [.ref t1_x, .ref t2_x, .ref t3_x, .ref t4_x, .ref t5_x, .ref t6_x, .non, .int 0, .ref t9_x]) np4
      have q34 := ((((((g1.trans g2).trans g3).trans g4).trans g5).trans g6).trans g9).trans q4
      refine ⟨p3, p4, _, _, rfl, rfl, q34 _ _ e3, upd_same, (by show 4 + 9 ≤ sizeLine; decide), fun p5 np5 => ?_⟩
      have q5 := same_new (o := .lst (([V.ref t0] ++ (List.replicate (3 : Int).toNat [V.ref t9]).flatten) ++ [.ref t1_x, .ref t2_x, .ref t3_x, .ref t4_x, .ref t5_x, .ref t6_x, .non, .int 0, .ref t9_x])) np5
      have okA := AllOk.same (q4.trans q5) k9x
      refine ⟨_, rfl, _, rfl, ?_⟩
      refine ⟨_, rfl, _, rfl, _, rfl, (by show 4 ≤ sizeLine; decide), fun t11_x nt11 => ?_⟩
      have k11x := AllOk.tup (vs := [vN x, vN y, vN u, .non]) okA nt11 (by intro v hv; exact all4 (by first | exact scN _ | exact .inl rfl | exact .inr (.inl ⟨_, rfl⟩)) (scN _) (scN _) (by first | exact scN _ | exact .inl rfl | exact .inr (.inr (.inl ⟨_, rfl⟩)) | exact .inr (.inr (.inr ⟨_, rfl, ok_text _ c4⟩))) v hv) (by show 4 ≤ 100; decide)
      have g11 := same_new (o := .tup [vN x, vN y, vN u, .non]) nt11
      refine ⟨_, rfl, _, rfl, _, rfl, (by show 4 ≤ sizeLine; decide), fun t12_x nt12 => ?_⟩
      have k12x := AllOk.tup (vs := [.bl false, vN y, vN u, vN v]) k11x nt12 (by intro v hv; exact all4 (by first | exact scN _ | exact .inl rfl | exact .inr (.inl ⟨_, rfl⟩)) (scN _) (scN _) (by first | exact scN _ | exact .inl rfl | exact .inr (.inr (.inl ⟨_, rfl⟩)) | exact .inr (.inr (.inr ⟨_, rfl, ok_text _ c4⟩))) v hv) (by show 4 ≤ 100; decide)
      have g12 := same_new (o := .tup [.bl false, vN y, vN u, vN v]) nt12
      refine ⟨_, rfl, _, rfl, _, rfl, _, rfl, _, rfl, (log_small c4), (by show 4 ≤ sizeLine; decide), fun t13_x nt13 => ?_⟩
      have k13x := AllOk.tup (vs := [vN x, vN y, vN u, .str (toString ((v : Nat) : Int) : String)]) k12x nt13 (by intro v hv; exact all4 (by first | exact scN _ | exact .inl rfl | exact .inr (.inl ⟨_, rfl⟩)) (scN _) (scN _) (by first | exact scN _ | exact .inl rfl | exact .inr (.inr (.inl ⟨_, rfl⟩)) | exact .inr (.inr (.inr ⟨_, rfl, ok_text _ c4⟩))) v hv) (by show 4 ≤ 100; decide)
      have g13 := same_new (o := .tup [vN x, vN y, vN u, .str (toString ((v : Nat) : Int) : String)]) nt13
      refine ⟨_, rfl, _, rfl, _, rfl, _, _, rfl, rfl, ⟨by decide, by decide, by decide⟩, (by show 4 ≤ sizeLine; decide), fun t14_x nt14 => ?_⟩
      have k14x := AllOk.tup (vs := [vN x, vN y, vN u, .int (10 ^ (60 : Int).toNat)]) k13x nt14 (by intro v hv; exact all4 (by first | exact scN _ | exact .inl rfl | exact .inr (.inl ⟨_, rfl⟩)) (scN _) (scN _) (by first | exact scN _ | exact .inl rfl | exact .inr (.inr (.inl ⟨_, rfl⟩)) | exact .inr (.inr (.inr ⟨_, rfl, ok_text _ c4⟩))) v hv) (by show 4 ≤ 100; decide)
      have g14 := same_new (o := .tup [vN x, vN y, vN u, .int (10 ^ (60 : Int).toNat)]) nt14
      refine ⟨_, rfl, _, rfl, _, rfl, _, rfl, (by show 4 ≤ sizeLine; decide), fun t15_x nt15 => ?_⟩
      have k15x := AllOk.tup (vs := [vN x, vN y, vN x, vN y]) k14x nt15 (by intro v hv; exact all4 (by first | exact scN _ | exact .inl rfl | exact .inr (.inl ⟨_, rfl⟩)) (scN _) (scN _) (by first | exact scN _ | exact .inl rfl | exact .inr (.inr (.inl ⟨_, rfl⟩)) | exact .inr (.inr (.inr ⟨_, rfl, ok_text _ c4⟩))) v hv) (by show 4 ≤ 100; decide)
      have g15 := same_new (o := .tup [vN x, vN y, vN x, vN y]) nt15
      refine ⟨(by show 5 ≤ sizeLine; decide), fun p6 np6 => ?_⟩
      have q6 := same_new (o := .lst [.ref t11_x, .ref t12_x, .ref t13_x, .ref t14_x, .ref t15_x]) np6
      have q56 := ((((g11.trans g12).trans g13).trans g14).trans g15).trans q6
      refine ⟨p5, p6, _, _, rfl, rfl, q56 _ _ upd_same, upd_same, (by show 13 + 5 ≤ sizeLine; decide), fun p7 np7 => ?_⟩
      have q7 := same_new (o := .lst ((([V.ref t0] ++ (List.replicate (3 : Int).toNat [V.ref t9]).flatten) ++ [.ref t1_x, .ref t2_x, .ref t3_x, .ref t4_x, .ref t5_x, .ref t6_x, .non, .int 0, .ref t9_x]) ++ [.ref t11_x, .ref t12_x, .ref t13_x, .ref t14_x, .ref t15_x])) np7
      have okB := AllOk.same (q6.trans q7) k15x
      have jf := j8.then (((q13.trans q34).trans q5).trans (q56.trans q7))
      have n7J : p7 ≠ J := fun z => by
        obtain ⟨a1, a2, a3, eJ⟩ := (j8.then (((q13.trans q34).trans q5).trans q56)).jug
        rw [z, eJ] at np7
        cases np7
      refine ⟨J, p7, _, rfl, jf.jug, .inl ⟨.inl (.inl upd_same), n7J⟩, (by intro z; cases z), (by show 18 < 1073741824; decide), fun zv hz H9 j9 => ?_⟩
      obtain ⟨o, ho⟩ := okB zv hz
      exact q zv o H9 (jf.trans j9) (ho.jg jf.jug j9)
end
end Sq
set_option Elab.async false
set_option linter.all false
set_option maxRecDepth 100000
set_option maxHeartbeats 8000000
namespace Sq
open PySem PySem.Spec PyProof.Rows L2
/-! ### everything but the jug and the table -/
structure Rt (J Pt : Addr) (H H' : Hp) : Prop where
  jug : IsJug H' J
  tab : GxR.TabG H' Pt
  keep : ∀ b o, b ≠ J → (∀ ps, o ≠ .tbl ps) → H b = some o → H' b = some o
theorem Rt.trans {J Pt : Addr} {H H1 H2 : Hp} (a : Rt J Pt H H1) (b : Rt J Pt H1 H2) : Rt J Pt H H2 := ⟨b.jug, b.tab, fun c o n m e => b.keep c o n m (a.keep c o n m e)⟩
theorem Rt.jg {J Pt : Addr} {H H1 H2 : Hp} (a : Rt J Pt H H1) (b : Jg J H1 H2) : Rt J Pt H H2 := a.trans ⟨b.jug, by
  obtain ⟨x, y, z, ej⟩ := a.jug
  obtain ⟨ps, e, h⟩ := a.tab
  exact ⟨ps, b.keep _ _ (ne_of e ej (by intro q; cases q)) e, h⟩, fun c o n _ e => b.keep c o n e⟩
theorem Rt.kp {J Pt : Addr} {H H1 H2 : Hp} (a : Rt J Pt H H1) (b : Kp Pt H1 H2) : Rt J Pt H H2 := a.trans ⟨by
  obtain ⟨x, y, z, ej⟩ := a.jug
  exact ⟨x, y, z, b.keep _ _ (by intro ps q; cases q) ej⟩, b.tab, fun c o _ m e => b.keep c o m e⟩
theorem Rt.sm {J Pt : Addr} {H H1 H2 : Hp} (a : Rt J Pt H H1) (b : Same H1 H2) : Rt J Pt H H2 := a.kp (Kp.same a.tab b)
theorem Rt.refl {J Pt : Addr} {H : Hp} (j : IsJug H J) (t : GxR.TabG H Pt) : Rt J Pt H H := ⟨j, t, fun _ _ _ _ e => e⟩
theorem Rt.l {J Pt e : Addr} {H H' : Hp} {xs : List V} (r : Rt J Pt H H') (n : e ≠ J) (h : H e = some (.lst xs)) : H' e = some (.lst xs) := r.keep _ _ n (by intro ps q; cases q) h
theorem Rt.t {K : PySem.W.Frag} {J Pt a : Addr} {H H' : Hp} {xs : List V} (j : IsJug H J) (r : Rt J Pt H H') (h : SqT K H a xs) : SqT K H' a xs := by
  obtain ⟨x, y, z, ej⟩ := j
  rcases h with (h | ⟨o, h⟩) | h
  · exact .inl (.inl (r.keep _ _ (ne_of h ej (by intro q; cases q)) (by intro ps q; cases q) h))
  · exact .inl (.inr ⟨o, r.keep _ _ (ne_of h ej (by intro q; cases q)) (by intro ps q; cases q) h⟩)
  · exact .inr h
theorem QuadAt.rt {A B : List Nat} {J Pt : Addr} {H H' : Hp} {r : V} (j : IsJug H J) (e : Rt J Pt H H') (h : QuadAt A B H r) : QuadAt A B H' r := by
  obtain ⟨t, x, y, u, v, e1, ht, cl⟩ := h
  obtain ⟨a1, a2, a3, eJ⟩ := j
  exact ⟨t, x, y, u, v, e1, e.keep _ _ (ne_of ht eJ (by intro z; cases z)) (by intro ps q; cases q) ht, cl⟩
theorem LotOk.seven {m : Nat} {A : List Nat} (h : LotOk m A) (hm : m ≤ 7) : LotOk 7 A := ⟨h.ne, fun x hx => Nat.lt_of_lt_of_le (h.lt x hx) (Nat.pow_le_pow_right (by decide) hm), h.asc, h.len⟩
/-- due == []: what is read -/
theorem due_dp {K : PySem.W.Frag} {A B : List Nat} {H : Hp} {rs : List V} {e t : Addr} (qd : ∀ r ∈ rs, QuadAt A B H r) (he : H e = some (.lst rs)) (nt : H t = none) :
    ∃ ds, Dp K (upd H t (.lst [])) (.ref e) (.list ds) ∧ SeqAt.shaped (.list ds) = true ∧ PyData.eqv (.list ds) (.list []) = rs.isEmpty := by
  have s := same_new (o := .lst []) nt
  obtain ⟨ds, dp, cl1, dp1, em⟩ := sc_dp (K := K) fun r hr => (qd r hr).same s
  exact ⟨ds, .lst (.inl (.inl (s _ _ he))) dp, shaped_l cl1 (by omega), by rw [eqv_nilL, em]⟩
theorem emp_iff {b : Bool} {rs : List V} {p : Prop} (h : b = true ↔ p) (g : rs = [] ↔ p) : b = rs.isEmpty := by
  have e : rs.isEmpty = true ↔ rs = [] := List.isEmpty_iff
  cases b with
  | true =>
    have := g.mpr (h.mp rfl)
    rw [this]
    rfl
  | false =>
    cases z : rs.isEmpty with
    | false => rfl
    | true =>
      have := h.mpr (g.mp (e.mp z))
      cases this
section
variable {P : Program} {w : World} {K : PySem.W.Frag} {mg : Str → Option Value} {base : Heap} {f : Addr} {fd : FuncData} {k : Nat}
def spRight (Pt : Addr) : Sp := fun vs H Q _ => ∃ (J : Addr), vs = [.ref J] ∧ IsJug H J ∧ GxR.TabG H Pt ∧ ∀ H', Rt J Pt H H' → Q (.bl true) H'
theorem ok_l_right {Pt fP fL fC fO fM fA fH fD fR fN fI : Addr} {fdP fdL fdC fdO fdM fdA fdH fdD fdR fdN fdI : FuncData} (me : mg "list" = none) (mr : mg "range" = none) (mp : mg "repr" = none)
    (gP : mg "_law_pour" = some (.ref fP)) (FP : Fun K "_law_pour" "_law_pour" s_l_pour fP fdP) (bP : Binds K fdP ["_law_jug_here", "_law_many"] []) (GP : FnOk P w K mg base CX0 (k + 5) fP fdP ["_law_jug_here", "_law_many"] spPour)
    (gL : mg "_law_lot" = some (.ref fL)) (FL : Fun K "_law_lot" "_law_lot" s_l_lot fL fdL) (bL : Binds K fdL ["_law_jug_here", "_law_many", "_law_most"] []) (GL : FnOk P w K mg base CX0 (k + 5) fL fdL ["_law_jug_here", "_law_many", "_law_most"] (spLot K))
    (gC : mg "_law_clashes" = some (.ref fC)) (FC : Fun K "_law_clashes" "_law_clashes" s_l_clashes fC fdC) (bC : Binds K fdC ["_law_firsts", "_law_seconds"] []) (GC : FnOk P w K mg base CX0 (k + 5) fC fdC ["_law_firsts", "_law_seconds"] (spClashes K))
    (gO : mg "_law_of" = some (.ref fO)) (FO : Fun K "_law_of" "_law_of" s_l_of fO fdO) (bO : Binds K fdO ["_law_jug_here", "_law_items"] []) (GO : FnOk P w K mg base CX0 (k + 5) fO fdO ["_law_jug_here", "_law_items"] (spOf K))
    (gM : mg "_law_moved" = some (.ref fM)) (FM : Fun K "_law_moved" "_law_moved" s_l_moved fM fdM) (bM : Binds K fdM ["_law_lot_here", "_law_word"] []) (GM : FnOk P w K mg base CX0 (k + 5) fM fdM ["_law_lot_here", "_law_word"] (spMoved K))
    (gA : mg "are_let" = some (.ref fA)) (FA : Fun K "are_let" "are_let" s_are_let fA fdA) (bA : Binds K fdA ["firsts", "seconds", "many"] []) (GA : FnOk P w K mg base CX0 (k + 5) fA fdA ["firsts", "seconds", "many"] (spAreLet K Pt))
    (gH : mg "clash" = some (.ref fH)) (FH : Fun K "clash" "clash" s_clash fH fdH) (bH : Binds K fdH ["firsts", "seconds", "many"] []) (GH : FnOk P w K mg base CX0 (k + 5) fH fdH ["firsts", "seconds", "many"] (spClash K Pt))
    (gD : mg "_law_is_due" = some (.ref fD)) (FD : Fun K "_law_is_due" "_law_is_due" s_l_is_due fD fdD) (bD : Binds K fdD ["_law_firsts", "_law_seconds", "_law_value"] []) (GD : FnOk P w K mg base CX0 (k + 5) fD fdD ["_law_firsts", "_law_seconds", "_law_value"] (spDue K))
    (gR : mg "_law_part" = some (.ref fR)) (FR : Fun K "_law_part" "_law_part" s_l_part fR fdR) (bR : Binds K fdR ["_law_jug_here", "_law_lot_here"] []) (GR : FnOk P w K mg base CX0 (k + 5) fR fdR ["_law_jug_here", "_law_lot_here"] (spPart K))
    (gN : mg "_law_near" = some (.ref fN)) (FN : Fun K "_law_near" "_law_near" s_l_near fN fdN) (bN : Binds K fdN ["_law_jug_here", "_law_firsts", "_law_seconds", "_law_due"] []) (GN : FnOk P w K mg base CX0 (k + 5) fN fdN ["_law_jug_here", "_law_firsts", "_law_seconds", "_law_due"] (spNear K))
    (gI : mg "is_clash" = some (.ref fI)) (FI : Fun K "is_clash" "is_clash" s_is_clash fI fdI) (bI : Binds K fdI ["firsts", "seconds", "many", "value"] []) (GI : FnOk P w K mg base CX0 (k + 5) fI fdI ["firsts", "seconds", "many", "value"] (spIsClash K))
    (F : Fun K "_law_right" "_law_right" s_l_right f fd) : FnOk P w K mg base CX0 (k + 6) f fd ["_law_jug_here"] (spRight Pt) := by
  refine F.ok sc_l_right (fun vs H Q E h => ?_) (fun cdv A0 outer s H vs Q E hr h => ?_)
  · obtain ⟨J, rfl, _⟩ := h
    rfl
  · obtain ⟨J, rfl, hJ, tab, q⟩ := h
    refine ⟨_, (pss_cons (ps_set (i := 1) sc_l_right.nd rfl (.inl rfl) (pe_op op_add pe_int (pe_call GP hr (by rfl) gP FP.kp bP .nil pass0 (pa_cons (pv 0) (pa_cons pe_int pa_nil)))))
      (pss_cons (ps_par (i := 2) (j := 3) (by rfl) sc_l_right.nd rfl rfl (by decide) rfl rfl (pa_cons (pe_call GL hr (by rfl) gL FL.kp bL .nil pass0 (pa_cons (pv 0) (pa_cons (pv 1) (pa_cons pe_int pa_nil)))) (pa_cons (pe_call GL hr (by rfl) gL FL.kp bL .nil pass0 (pa_cons (pv 0) (pa_cons (pv 1) (pa_cons pe_int pa_nil)))) pa_nil)) (by rfl))
      (pss_cons (ps_set (i := 4) sc_l_right.nd rfl (.inl rfl) (pe_call GC hr (by rfl) gC FC.kp bC .nil pass0 (pa_cons (pv 2) (pa_cons (pv 3) pa_nil))))
      (pss_cons (ps_set (i := 5) sc_l_right.nd rfl (.inl rfl) (pe_call GO hr (by rfl) gO FO.kp bO .nil pass0 (pa_cons (pv 0) (pa_cons (pe_op op_cat (pe_callTy call_list_of (by rfl) me (by decide +kernel) (pa_cons (pv 2) pa_nil)) (pe_callTy call_list_of (by rfl) me (by decide +kernel) (pa_cons (pv 3) pa_nil))) pa_nil))))
      (pss_cons (ps_if (PW.pt (pw_or (pt_cmpR op_ne (pe_call GA hr (by rfl) gA FA.kp bA .nil pass0 (pa_cons (pe_call GM hr (by rfl) gM FM.kp bM .nil pass0 (pa_cons (pv 2) (pa_cons (pv 5) pa_nil))) (pa_cons (pv 3) (pa_cons (pv 1) pa_nil)))) (pe_cmpR (op_eqD hr.units) (pv 4) (pe_lst pa_nil) (nomark _)) (nomark _)) (pw_or1 (pt_cmpR op_ne (pe_call GA hr (by rfl) gA FA.kp bA .nil pass0 (pa_cons (pv 3) (pa_cons (pv 2) (pa_cons (pv 1) pa_nil)))) (pe_cmpR (op_eqD hr.units) (pv 4) (pe_lst pa_nil) (nomark _)) (nomark _))))) (pss_one (ps_ret pe_bl)) pss_nil)
      (pss_cons (ps_set (i := 6) sc_l_right.nd rfl (.inl rfl) (pe_call GH hr (by rfl) gH FH.kp bH .nil pass0 (pa_cons (pv 2) (pa_cons (pv 3) (pa_cons (pv 1) pa_nil)))))
      (pss_cons (ps_if (PW.pt (pw_or (pt_cmpR op_ne (pe_cmpR op_isN (pv 6) pe_non (nomark _)) (pe_cmpR (op_eqD hr.units) (pv 4) (pe_lst pa_nil) (nomark _)) (nomark _)) (pw_or1 (PW.pt (pw_and (pt_cmpR op_notN (pv 6) pe_non (nomark _)) (pw_and1 (pt_not (pt_val (pe_call GD hr (by rfl) gD FD.kp bD .nil pass0 (pa_cons (pv 2) (pa_cons (pv 3) (pa_cons (pv 6) pa_nil)))))))))))) (pss_one (ps_ret pe_bl)) pss_nil)
      (pss_cons (ps_if (PW.pt (pw_and (pt_cmpR (op_eqD hr.units) (pv 4) (pe_lst pa_nil) (nomark _)) (pw_and1 (pt_not (pt_val (pe_call GA hr (by rfl) gA FA.kp bA .nil pass0 (pa_cons (pe_call GR hr (by rfl) gR FR.kp bR .nil pass0 (pa_cons (pv 0) (pa_cons (pv 2) pa_nil))) (pa_cons (pe_call GR hr (by rfl) gR FR.kp bR .nil pass0 (pa_cons (pv 0) (pa_cons (pv 3) pa_nil))) (pa_cons (pv 1) pa_nil))))))))) (pss_one (ps_ret pe_bl)) pss_nil)
      (pss_cons (ps_for PassesOwn.never rfl (pi_range1 (by rfl) mr (pa_cons pe_int pa_nil)) (pg_name (i := 7) sc_l_right.nd rfl (.inl rfl)) (pss_cons (ps_set (i := 8) sc_l_right.nd rfl (.inl rfl) (pe_call GN hr (by rfl) gN FN.kp bN .nil pass0 (pa_cons (pv 0) (pa_cons (pv 2) (pa_cons (pv 3) (pa_cons (pv 4) pa_nil)))))) (pss_one (ps_if (pt_cmpR op_ne (pe_callB SqS.call_repr_bool (by rfl) mp (by decide +kernel) (pa_cons (pe_call GI hr (by rfl) gI FI.kp bI .nil pass0 (pa_cons (pv 2) (pa_cons (pv 3) (pa_cons (pv 1) (pa_cons (pv 8) pa_nil))))) pa_nil)) (pe_callB SqS.call_repr_bool (by rfl) mp (by decide +kernel) (pa_cons (pe_call GD hr (by rfl) gD FD.kp bD .nil pass0 (pa_cons (pv 2) (pa_cons (pv 3) (pa_cons (pv 8) pa_nil)))) pa_nil)) (nomark _)) (pss_one (ps_ret pe_bl)) pss_nil))))
      (pss_one (ps_ret pe_bl))))))))))), ?_⟩
    refine ⟨_, rfl, J, 7, rfl, hJ, by decide, by decide, fun r H1 hr1 j1 => ⟨_, _, rfl, rfl, ?_⟩⟩
    have h17 : 1 ≤ 1 + r ∧ 1 + r ≤ 7 := ⟨by omega, by omega⟩
    have r1 := (Rt.refl hJ tab).jg j1
    refine ⟨_, rfl, _, rfl, J, 1 + r, 6, rfl, r1.jug, h17.1, h17.2, by decide, by decide, fun A pa H2 j2 hA la lA => ⟨_, rfl, _, rfl, J, 1 + r, 9, rfl, j2.jug, h17.1, h17.2, by decide, by decide, fun B pb H3 j3 hB lb lB => ⟨_, _, rfl, ?_⟩⟩⟩
    have r3 := (r1.jg j2).jg j3
    have hA3 := j3.t j2.jug hA
    refine ⟨_, rfl, _, rfl, pa, pb, A, B, 1 + r, rfl, hA3, hB, la, lb, fun H4 e rs s4 he hl qd emp => ?_⟩
    have r4 := r3.sm s4
    have hA4 := seqT s4 hA3
    have hB4 := seqT s4 hB
    have neJ : e ≠ J := fun z => by
      obtain ⟨a1, a2, a3, eJ⟩ := r4.jug
      rw [z, eJ] at he
      cases he
      obtain ⟨t, _, _, _, _, z2, _⟩ := qd (.int a1) (by simp)
      cases z2
    refine ⟨_, rfl, _, rfl, pa, _, rfl, .inr hA4, fun l1 n1 => ?_⟩
    have s5 := same_new (o := .lst (A.map vN)) n1
    refine ⟨_, rfl, pb, _, rfl, .inr (seqT s5 hB4), fun l2 n2 => ?_⟩
    have s6 := same_new (o := .lst (B.map vN)) n2
    refine ⟨l1, l2, _, _, rfl, rfl, s6 _ _ upd_same, upd_same, Nat.le_trans (by rw [List.length_map, List.length_map]; omega : _ ≤ 100) (by decide), fun l3 n3 => ?_⟩
    have s7 := same_new (o := .lst (A.map vN ++ B.map vN)) n3
    have r6 := r4.sm (s5.trans s6)
    have r7 := r6.sm s7
    have n3J : l3 ≠ J := fun z => by
      obtain ⟨a1, a2, a3, eJ⟩ := r6.jug
      rw [z, eJ] at n3
      cases n3
    refine ⟨J, l3, _, rfl, r7.jug, .inl ⟨.inl (.inl upd_same), n3J⟩, fun z => la.ne (List.map_eq_nil_iff.mp (List.append_eq_nil_iff.mp z).1), by rw [List.length_append, List.length_map, List.length_map]; omega, fun x hx H8 j8 => ?_⟩
    obtain ⟨wd, hwd, rfl⟩ : ∃ wd, wd < 2 ^ (1 + r) ∧ x = vN wd := by
      rcases List.mem_append.mp hx with h | h
      · obtain ⟨n, hn, rfl⟩ := List.mem_map.mp h
        exact ⟨n, la.lt n hn, rfl⟩
      · obtain ⟨n, hn, rfl⟩ := List.mem_map.mp h
        exact ⟨n, lb.lt n hn, rfl⟩
    have r48 := ((Rt.refl r4.jug r4.tab).sm ((s5.trans s6).trans s7)).jg j8
    have hA8 := r48.t r4.jug hA4
    have hB8 := r48.t r4.jug hB4
    -- are_let(moved, seconds) != (due == [])
    refine ⟨_, rfl, _, rfl, pa, A, wd, 1 + r, rfl, hA8, la, hwd, fun A' p6 H9 s9 hA' la' mem => ?_⟩
    have r9 := r48.sm s9
    refine ⟨_, rfl, _, rfl, p6, pb, A', B, 1 + r, rfl, hA', seqT s9 hB8, la', lb, h17.1, by omega, r9.tab, fun b1 H10 hb1 k10 => ?_⟩
    have r10 := r9.kp k10
    refine ⟨_, rfl, Nat.zero_le _, fun t1 nt1 => ?_⟩
    obtain ⟨d1, dp1, sh1, em1⟩ := due_dp (K := K) (fun r hr => (qd r hr).rt r4.jug r10) (r10.l neJ he) nt1
    refine ⟨.list d1, .list [], dp1, .lst (.inl (.inl upd_same)) .nil, sh1, shaped_l rfl (Nat.zero_le _), ?_⟩
    refine ⟨rfl, _, rfl, ?_⟩
    have ez1 : b1 = PyData.eqv (.list d1) (.list []) := by
      rw [em1]
      exact emp_iff (hb1.trans (not_congr (cl_moved mem))) emp
    rw [decide_eq_true (congrArg V.bl ez1)]
    have r11 := r10.sm (same_new (o := .lst []) nt1)
    refine iteF ⟨_, rfl, _, rfl, _, rfl, pb, pa, B, A, 1 + r, rfl, r11.t r4.jug hB4, r11.t r4.jug hA4, lb, la, h17.1, by omega, r11.tab, fun b2 H12 hb2 k12 => ?_⟩
    have r12 := r11.kp k12
    refine ⟨_, rfl, Nat.zero_le _, fun t2 nt2 => ?_⟩
    obtain ⟨d2, dp2, sh2, em2⟩ := due_dp (K := K) (fun r hr => (qd r hr).rt r4.jug r12) (r12.l neJ he) nt2
    refine ⟨.list d2, .list [], dp2, .lst (.inl (.inl upd_same)) .nil, sh2, shaped_l rfl (Nat.zero_le _), ?_⟩
    refine ⟨rfl, _, rfl, ?_⟩
    have ez2 : b2 = PyData.eqv (.list d2) (.list []) := by
      rw [em2]
      exact emp_iff (hb2.trans (not_congr cl_symm)) emp
    rw [decide_eq_true (congrArg V.bl ez2)]
    have r13 := r12.sm (same_new (o := .lst []) nt2)
    -- clash
    refine iteF ⟨_, rfl, _, rfl, _, rfl, pa, pb, A, B, 1 + r, rfl, r13.t r4.jug hA4, r13.t r4.jug hB4, la, lb, h17.1, by omega, r13.tab, fun ncl H14 k14 => ?_, fun x y u v cl H14 p14 k14 hp14 => ?_⟩
    · have r14 := r13.kp k14
      have ers : rs.isEmpty = true := by rw [emp.mpr ncl] <;> rfl
      refine ⟨_, rfl, rfl, _, rfl, Nat.zero_le _, fun t3 nt3 => ?_⟩
      obtain ⟨d3, dp3, sh3, em3⟩ := due_dp (K := K) (fun r hr => (qd r hr).rt r4.jug r14) (r14.l neJ he) nt3
      refine ⟨.list d3, .list [], dp3, .lst (.inl (.inl upd_same)) .nil, sh3, shaped_l rfl (Nat.zero_le _), ?_⟩
      refine ⟨rfl, _, rfl, ?_⟩
      rw [em3, ers]
      have r15 := r14.sm (same_new (o := .lst []) nt3)
      refine iteF ⟨_, rfl, rfl, _, rfl, ?_⟩
      refine iteF ⟨_, rfl, Nat.zero_le _, fun t4 nt4 => ?_⟩
      obtain ⟨d4, dp4, sh4, em4⟩ := due_dp (K := K) (fun r hr => (qd r hr).rt r4.jug r15) (r15.l neJ he) nt4
      refine ⟨.list d4, .list [], dp4, .lst (.inl (.inl upd_same)) .nil, sh4, shaped_l rfl (Nat.zero_le _), _, rfl, ?_⟩
      rw [em4, ers]
      have r16 := r15.sm (same_new (o := .lst []) nt4)
      refine iteT ⟨_, rfl, _, rfl, J, pa, A, 1 + r, rfl, r16.jug, r16.t r4.jug hA4, la, fun A2 q2 H17 j17 hA2 la2 sub2 => ?_⟩
      have r17 := r16.jg j17
      refine ⟨_, rfl, _, rfl, J, pb, B, 1 + r, rfl, r17.jug, r17.t r4.jug hB4, lb, fun B2 q3 H18 j18 hB2 lb2 sub3 => ?_⟩
      have r18 := r17.jg j18
      refine ⟨_, rfl, q2, q3, A2, B2, 1 + r, rfl, j18.t j17.jug hA2, hB2, la2, lb2, h17.1, by omega, r18.tab, fun b3 H19 hb3 k19 => ⟨_, rfl, ?_⟩⟩
      have r19 := r18.kp k19
      have eb3 : b3 = true := hb3.mpr fun cl => ncl (cl.sub sub2 sub3)
      subst eb3
      refine iteF ⟨8, rfl, by decide, by decide, ?_⟩
      refine for_range (lo := 0) (n := 8) (fun i σ H' => ∃ y5 y6 y7 y8, σ = [some (.ref J), some (vN (1 + r)), some (.ref pa), some (.ref pb), some (.ref e), y5, y6, y7, y8] ∧ Rt J Pt H4 H') ⟨_, _, _, _, rfl, r19⟩ (fun i σ H' hi p => ?_) (fun σ H' p => ?_)
      · obtain ⟨y5, y6, y7, y8, rfl, ri⟩ := p
        refine ⟨_, rfl, _, rfl, _, rfl, _, rfl, J, pa, pb, e, A, B, rs, rfl, ri.jug, ri.t r4.jug hA4, ri.t r4.jug hB4, la.seven h17.2, lb.seven h17.2, ri.l neJ he, neJ, hl, fun r hr => (qd r hr).rt r4.jug ri, fun v9 o9 H20 j20 ho9 => ?_⟩
        have r20 := ri.jg j20
        refine ⟨_, rfl, _, rfl, _, rfl, _, rfl, pa, pb, A, B, 1 + r, v9, o9, rfl, r20.t r4.jug hA4, r20.t r4.jug hB4, la, lb, h17.1, by omega, ho9, fun H21 s21 => ⟨_, rfl, ?_⟩⟩
        have r21 := r20.sm s21
        refine ⟨_, rfl, _, rfl, _, rfl, pa, pb, A, B, v9, o9, rfl, r21.t r4.jug hA4, r21.t r4.jug hB4, ho9.same s21, fun H22 s22 => ⟨_, rfl, rfl, _, rfl, ?_⟩⟩
        rw [decide_eq_true rfl]
        exact ⟨_, _, _, _, rfl, r21.sm s22⟩
      · obtain ⟨y5, y6, y7, y8, rfl, ri⟩ := p
        exact q _ (r4.trans ri)
    · have r14 := r13.kp k14
      have ers : rs.isEmpty = false := by
        cases z : rs with
        | nil => exact absurd ⟨x, y, u, v, cl⟩ (emp.mp z)
        | cons a b => rfl
      refine ⟨_, rfl, rfl, _, rfl, Nat.zero_le _, fun t3 nt3 => ?_⟩
      obtain ⟨d3, dp3, sh3, em3⟩ := due_dp (K := K) (fun r hr => (qd r hr).rt r4.jug r14) (r14.l neJ he) nt3
      refine ⟨.list d3, .list [], dp3, .lst (.inl (.inl upd_same)) .nil, sh3, shaped_l rfl (Nat.zero_le _), ?_⟩
      refine ⟨rfl, _, rfl, ?_⟩
      rw [em3, ers]
      have s15 := same_new (o := .lst []) nt3
      have r15 := r14.sm s15
      refine iteF ⟨_, rfl, rfl, _, rfl, ?_⟩
      refine iteT ⟨_, rfl, _, rfl, _, rfl, pa, pb, A, B, _, _, rfl, r15.t r4.jug hA4, r15.t r4.jug hB4, .tup (.inl (.inl (s15 _ _ hp14))) (by intro zz hzz; exact allN (ns := [x, y, u, v]) zz hzz) (by show 4 ≤ 100; decide), fun H16 s16 => ⟨_, rfl, ?_⟩⟩
      rw [due_cl cl]
      have r16 := r15.sm s16
      refine iteF ⟨_, rfl, Nat.zero_le _, fun t4 nt4 => ?_⟩
      obtain ⟨d4, dp4, sh4, em4⟩ := due_dp (K := K) (fun r hr => (qd r hr).rt r4.jug r16) (r16.l neJ he) nt4
      refine ⟨.list d4, .list [], dp4, .lst (.inl (.inl upd_same)) .nil, sh4, shaped_l rfl (Nat.zero_le _), _, rfl, ?_⟩
      rw [em4, ers]
      have r19 := r16.sm (same_new (o := .lst []) nt4)
      refine iteF ⟨8, rfl, by decide, by decide, ?_⟩
      refine for_range (lo := 0) (n := 8) (fun i σ H' => ∃ y5 y6 y7 y8, σ = [some (.ref J), some (vN (1 + r)), some (.ref pa), some (.ref pb), some (.ref e), y5, y6, y7, y8] ∧ Rt J Pt H4 H') ⟨_, _, _, _, rfl, r19⟩ (fun i σ H' hi p => ?_) (fun σ H' p => ?_)
      · obtain ⟨y5, y6, y7, y8, rfl, ri⟩ := p
        refine ⟨_, rfl, _, rfl, _, rfl, _, rfl, J, pa, pb, e, A, B, rs, rfl, ri.jug, ri.t r4.jug hA4, ri.t r4.jug hB4, la.seven h17.2, lb.seven h17.2, ri.l neJ he, neJ, hl, fun r hr => (qd r hr).rt r4.jug ri, fun v9 o9 H20 j20 ho9 => ?_⟩
        have r20 := ri.jg j20
        refine ⟨_, rfl, _, rfl, _, rfl, _, rfl, pa, pb, A, B, 1 + r, v9, o9, rfl, r20.t r4.jug hA4, r20.t r4.jug hB4, la, lb, h17.1, by omega, ho9, fun H21 s21 => ⟨_, rfl, ?_⟩⟩
        have r21 := r20.sm s21
        refine ⟨_, rfl, _, rfl, _, rfl, pa, pb, A, B, v9, o9, rfl, r21.t r4.jug hA4, r21.t r4.jug hB4, ho9.same s21, fun H22 s22 => ⟨_, rfl, rfl, _, rfl, ?_⟩⟩
        rw [decide_eq_true rfl]
        exact ⟨_, _, _, _, rfl, r21.sm s22⟩
      · obtain ⟨y5, y6, y7, y8, rfl, ri⟩ := p
        exact q _ (r4.trans ri)
end
end Sq
set_option Elab.async false
set_option linter.all false
set_option maxRecDepth 100000
set_option maxHeartbeats 8000000
namespace Sq
open PySem PySem.Spec PyProof.Rows L2
theorem asc_ext : ∀ {A B : List Nat}, A.Pairwise (· < ·) → B.Pairwise (· < ·) → (∀ x, x ∈ A ↔ x ∈ B) → A = B
  | [], [], _, _, _ => rfl
  | [], b :: B, _, _, h => by
    have := (h b).mpr List.mem_cons_self
    cases this
  | a :: A, [], _, _, h => by
    have := (h a).mp List.mem_cons_self
    cases this
  | a :: A, b :: B, hA, hB, h => by
    obtain ⟨a1, a2⟩ := List.pairwise_cons.mp hA
    obtain ⟨b1, b2⟩ := List.pairwise_cons.mp hB
    have e : a = b := by
      rcases List.mem_cons.mp ((h a).mp List.mem_cons_self) with z | z
      · exact z
      · rcases List.mem_cons.mp ((h b).mpr List.mem_cons_self) with y | y
        · exact y.symm
        · have q1 := b1 a z
          have q2 := a1 b y
          omega
    subst e
    rw [asc_ext a2 b2 fun x => ?_]
    constructor
    · intro hx
      have q1 := a1 x hx
      rcases List.mem_cons.mp ((h x).mp (List.mem_cons_of_mem _ hx)) with z | z
      · omega
      · exact z
    · intro hx
      have q1 := b1 x hx
      rcases List.mem_cons.mp ((h x).mpr (List.mem_cons_of_mem _ hx)) with z | z
      · omega
      · exact z
/-- what is to be known of the greatest lots -/
structure GlOk (n : Nat) : Prop where
  first : ∃ g, atI ((gl n).map vN) 0 = some (vN g)
  last : ∃ l, atI ((gl n).map vN) (-1) = some (vN l) ∧ l < 2 ^ n
  lot : LotOk n (gl n)
  few : (gl n).length ≤ 10
  ev : LotOk n (List.range (2 ^ n))
  no : ∀ x ∈ gl n, ∀ y ∈ gl n, x < y → wt (x ^^^ y) % 4 ≠ 0
theorem no_of {n : Nat} (hn : n ≤ 5) (h : ∀ x ∈ gl n, x < 2 ^ n) (d : ∀ x ∈ gl n, ∀ y ∈ gl n, x < y → wtf 5 (x ^^^ y) % 4 ≠ 0) : ∀ x ∈ gl n, ∀ y ∈ gl n, x < y → wt (x ^^^ y) % 4 ≠ 0 := fun x hx y hy lt => by
  have e := Nat.xor_lt_two_pow (h x hx) (h y hy)
  rw [wt_wtf 5 (x ^^^ y) (Nat.lt_of_lt_of_le e (Nat.pow_le_pow_right (by decide) hn))]
  exact d x hx y hy lt
theorem gl_ok : ∀ n, 1 ≤ n → n ≤ 5 → GlOk n
  | 1, _, h => ⟨⟨0, rfl⟩, ⟨1, rfl, by decide⟩, ⟨by decide, by decide, by decide, by decide⟩, by decide, range_lot (by decide) (by decide) (by decide), no_of h (by decide) (by decide)⟩
  | 2, _, h => ⟨⟨0, rfl⟩, ⟨3, rfl, by decide⟩, ⟨by decide, by decide, by decide, by decide⟩, by decide, range_lot (by decide) (by decide) (by decide), no_of h (by decide) (by decide)⟩
  | 3, _, h => ⟨⟨0, rfl⟩, ⟨7, rfl, by decide⟩, ⟨by decide, by decide, by decide, by decide⟩, by decide, range_lot (by decide) (by decide) (by decide), no_of h (by decide) (by decide +kernel)⟩
  | 4, _, h => ⟨⟨0, rfl⟩, ⟨7, rfl, by decide⟩, ⟨by decide, by decide, by decide, by decide⟩, by decide, range_lot (by decide) (by decide) (by decide), no_of h (by decide) (by decide +kernel)⟩
  | 5, _, h => ⟨⟨0, rfl⟩, ⟨17, rfl, by decide⟩, ⟨by decide, by decide, by decide, by decide⟩, by decide, range_lot (by decide) (by decide) (by decide), no_of h (by decide) (by decide +kernel)⟩
  | 0, h, _ => by omega
  | n + 6, _, h => by omega
theorem GlOk.ncl {n : Nat} (g : GlOk n) {B : List Nat} : ¬ Cl (gl n) B := fun ⟨a, b, c, d, q⟩ => g.no a q.ha b q.hb q.ab q.four
section
variable {P : Program} {w : World} {K : PySem.W.Frag} {mg : Str → Option Value} {base : Heap} {f : Addr} {fd : FuncData} {k : Nat}
def spIsGr (Pt : Addr) : Sp := fun vs H Q _ => ∃ n : Nat, vs = [vN n, vN (gl n).length] ∧ 1 ≤ n ∧ n ≤ 5 ∧ GxR.TabG H Pt ∧ ∀ H', Kp Pt H H' → Q (.bl true) H'
theorem ok_l_is_greatest {Pt fT fX fG fA : Addr} {fdT fdX fdG fdA : FuncData} (mr : mg "range" = none) (mt : mg "tuple" = none) (ml : mg "list" = none) (me : mg "len" = none) (mS : mg "sorted" = none) (ms : mg "set" = none) (mi : mg "isinstance" = none)
    (gT : mg "greatest_let" = some (.ref fT)) (FT : Fun K "greatest_let" "greatest_let" s_greatest_let fT fdT) (bT : Binds K fdT ["many"] []) (GT : FnOk P w K mg base CX0 (k + 5) fT fdT ["many"] (spGreat K))
    (gX : mg "_law_xor" = some (.ref fX)) (FX : Fun K "_law_xor" "_law_xor" s_l_xor fX fdX) (bX : Binds K fdX ["_law_x", "_law_y"] []) (GX : FnOk P w K mg base CX0 (k + 5) fX fdX ["_law_x", "_law_y"] spXor)
    (gG : mg "_law_weight" = some (.ref fG)) (FG : Fun K "_law_weight" "_law_weight" s_l_weight fG fdG) (bG : Binds K fdG ["_law_x"] []) (GG : FnOk P w K mg base CX0 (k + 5) fG fdG ["_law_x"] spWeight)
    (gA : mg "are_let" = some (.ref fA)) (FA : Fun K "are_let" "are_let" s_are_let fA fdA) (bA : Binds K fdA ["firsts", "seconds", "many"] []) (GA : FnOk P w K mg base CX0 (k + 5) fA fdA ["firsts", "seconds", "many"] (spAreLet K Pt))
    (F : Fun K "_law_is_greatest" "_law_is_greatest" s_l_is_greatest f fd) : FnOk P w K mg base CX0 (k + 6) f fd ["_law_many", "_law_size"] (spIsGr Pt) := by
  refine F.ok sc_l_is_greatest (fun vs H Q E h => ?_) (fun cdv A0 outer s H vs Q E hr h => ?_)
  · obtain ⟨n, rfl, _⟩ := h
    rfl
  · obtain ⟨n, rfl, h1, h5, tab, q⟩ := h
    refine ⟨_, pss_cons (ps_asg (pe_tup (pa_cons pe_int (pa_cons (pe_call GT hr (by rfl) gT FT.kp bT .nil pass0 (pa_cons (pv 0) pa_nil)) pa_nil))) (pg_tup (by rfl) (pgs_cons (pg_name (i := 2) sc_l_is_greatest.nd rfl (.inl rfl)) (pgs_cons (pg_name (i := 3) sc_l_is_greatest.nd rfl (.inr rfl)) pgs_nil))))
      (pss_cons (ps_for PassesOwn.never rfl (pi_range1 (by rfl) mr (pa_cons (pv 0) pa_nil)) (pg_name (i := 4) sc_l_is_greatest.nd rfl (.inl rfl)) (pss_one (ps_set (i := 2) sc_l_is_greatest.nd rfl (.inl rfl) (pe_op op_mul (pv 2) pe_int))))
      (pss_cons (ps_set (i := 5) sc_l_is_greatest.nd rfl (.inl rfl) (pe_tupRg rfl (by rfl) mt (prg_1 (by rfl) mr (pv 2))))
      (pss_cons (ps_if (PW.pt (pw_or (pt_not (pt_val (pe_callB call_isi (by rfl) mi boot_isinstance (pa_cons (pv 3) (pa_cons (pe_bltn (v := .ty "tuple") (by rfl) mt (by decide +kernel) rfl) pa_nil)))))
          (pw_or (pt_cmpR (op_neD hr.units) (pe_callTy call_list_of (by rfl) ml (by decide +kernel) (pa_cons (pv 3) pa_nil)) (pe_callB (cr_sortedSet rfl) (by rfl) mS (by decide +kernel) (pa_cons (pe_callTy (SqS.cr_setI rfl) (by rfl) ms (by decide +kernel) (pa_cons (pv 3) pa_nil)) pa_nil)) (nomark _))
          (pw_or (pt_cmpR op_ne (pe_callB call_len_seq (by rfl) me PySem.boot_len (pa_cons (pv 3) pa_nil)) (pv 1) (nomark _))
          (pw_or (pt_cmpR op_lt (pe_ix ix_tup (pv 3) pe_int (fun _ _ => rfl)) pe_int (nomark _))
          (pw_or1 (pt_cmpR op_ge (pe_ix ix_tup (pv 3) (pe_un un_neg pe_int) (fun _ _ => rfl)) (pv 2) (nomark _))))))))
          (pss_one (ps_ret pe_bl)) pss_nil)
      (pss_cons (ps_setLc (i := 6) (own := [("_law_x", 7)]) (g := gName 7) rfl sc_l_is_greatest.nd rfl rfl (sw_true rfl rfl rfl (by decide +kernel)) (pi_tup (pv 3))
          (blkOk_by (own := [("_law_x", 7)]) (N := ["_law_many", "_law_size", "_law_words", "_law_told", "_law_turn", "_law_every", "_law_wrong", "_law_x", "_law_y"]) (sc := defScope s_l_is_greatest) (by decide +kernel)) (fun _ _ _ _ _ => pg_name (i := 7) sc_l_is_greatest.nd rfl (Or.inr rfl))
          (fun _ _ _ _ _ => pts_one (pt_cmpR (show OpR _ (compareOp .NotEq) (rNeD K) from op_neD hr.units) (pe_lc (own := [("_law_y", 8)]) (g := gName 8) (by rfl) sc_l_is_greatest.nd (show PI _ _ _ (iTup K _) from pi_tup (pv 3))
            (blkOk_by (own := [("_law_y", 8)]) (N := ["_law_many", "_law_size", "_law_words", "_law_told", "_law_turn", "_law_every", "_law_wrong", "_law_x", "_law_y"]) (sc := { kind := .function, names := [(".0", .local), ("_law_x", .cell), ("_law_told", .cell)], isGenerator := false, isCoroutine := false }) (by decide +kernel)) (fun _ _ _ _ _ => pg_name (i := 8) sc_l_is_greatest.nd rfl (Or.inl rfl))
            (fun _ _ _ _ _ => pts_one (PW.pt (pw_and (pt_cmpR op_lt (pv 7) (pv 8) (nomark _)) (pw_and1 (pt_cmpR op_eq (pe_op op_mod (pe_call GG hr (by rfl) gG FG.kp bG .nil pass0 (pa_cons (pe_call GX hr (by rfl) gX FX.kp bX .nil pass0 (pa_cons (pv 7) (pa_cons (pv 8) pa_nil))) pa_nil)) pe_int) pe_int (nomark _))))))
            (fun _ _ _ _ _ => pv 8)) (pe_lst pa_nil) (nomark _)))
          (fun _ _ _ _ _ => pv 7))
      (pss_one (ps_ret (pe_and (pe_cmpR (op_eqD hr.units) (pv 6) (pe_lst pa_nil) (nomark _)) (pe_and (pe_call GA hr (by rfl) gA FA.kp bA .nil pass0 (pa_cons (pv 3) (pa_cons (pv 5) (pa_cons (pv 0) pa_nil)))) (pe_one (pe_call GA hr (by rfl) gA FA.kp bA .nil pass0 (pa_cons (pv 5) (pa_cons (pv 3) (pa_cons (pv 0) pa_nil))))))))))))), ?_⟩
    have ok := gl_ok n h1 h5
    have hpow : 2 ^ n ≤ 2 ^ 5 := Nat.pow_le_pow_right (by decide) h5
    refine ⟨_, rfl, n, rfl, h1, h5, fun H1 p s1 hp => ?_⟩
    obtain ⟨g0, hg0⟩ := ok.first
    obtain ⟨l0, hl0, hl1⟩ := ok.last
    have few := ok.few
    have natGl : (gl n).map vN = (natI (gl n)).map V.int := vN_map _
    refine ⟨(by show 2 ≤ sizeLine; decide), fun tp ntp => ?_⟩
    have s2 := same_new (o := .tup [V.int 1, V.ref p]) ntp
    refine ⟨tp, _, rfl, .inl (.inl upd_same), rfl, _, _, rfl, _, _, rfl, rfl, ?_⟩
    have s12 := s1.trans s2
    have hp2 := seqT s2 hp
    refine ⟨_, rfl, n, rfl, by omega, by omega, ?_⟩
    refine for_range (lo := 0) (n := (n : Int).toNat) (fun i σ H' => ∃ y4, σ = [some (vN n), some (vN (gl n).length), some (.int ((2 ^ i : Nat) : Int)), some (.ref p), y4, none, none, none, none] ∧ H' = upd H1 tp (.tup [V.int 1, V.ref p])) ⟨none, rfl, rfl⟩ (fun i σ H' hi pr => ?_) (fun σ H' pr => ?_)
    · obtain ⟨y4, rfl, rfl⟩ := pr
      refine ⟨_, rfl, _, _, rfl, rfl, .inr ⟨by decide, by decide⟩, some (.int (0 + (i : Int))), ?_, rfl⟩
      have e : (((2 ^ i : Nat) : Int) * 2) = ((2 ^ (i + 1) : Nat) : Int) := by
        rw [Nat.pow_succ]
        omega
      rw [← e]
      rfl
    obtain ⟨y4, rfl, rfl⟩ := pr
    rw [Int.toNat_natCast]
    have ev := ok.ev
    have ncl := ok.ncl (B := List.range (2 ^ n))
    obtain ⟨S, hS⟩ : ∃ S : Nat, 2 ^ n = S := ⟨_, rfl⟩
    rw [hS] at hpow hl1 ev ncl ⊢
    refine ⟨_, rfl, _, rfl, RgOk.of_le (by decide) (by omega) (by decide) (by omega), fun ep nep => ?_⟩
    rw [rgV_nat]
    have s3 := same_new (o := .tup ((List.range S).map vN)) nep
    have s13 := s12.trans s3
    have hp3 := seqT s3 hp2
    refine ⟨_, rfl, .ref p, .ty "tuple", .type "tuple", _, true, rfl, .ty "tuple", tyx_t hp3, kit_ty (by decide +kernel), true, rfl, iteF ?_⟩
    refine ⟨_, rfl, p, _, rfl, .inr hp3, fun l1 nl1 => ?_⟩
    have s4 := same_new (o := .lst ((gl n).map vN)) nl1
    refine ⟨_, rfl, p, natI (gl n), rfl, .inr (natGl ▸ seqT s4 hp3), by unfold natI; rw [List.length_map]; omega, fun sp c nsp hc => ?_⟩
    have s5 := same_new (o := SetO w sp (fun j => decide (j ∈ natI (gl n))) c) nsp
    refine ⟨sp, _, c, rfl, upd_same, by unfold natI at hc; rw [List.length_map] at hc; omega, fun ns lf asc mem ln nlf => ?_⟩
    have s6 := same_new (o := .lst (ns.map V.int)) nlf
    have ens : ns = natI (gl n) := by
      obtain ⟨L0, rfl⟩ := toNats ns fun x hx => by
        have := of_decide_eq_true ((mem x).mp hx)
        obtain ⟨n, _, e⟩ := List.mem_map.mp (show x ∈ (gl n).map fun (n : Nat) => (n : Int) from this)
        exact ⟨n, e.symm⟩
      have aL : L0.Pairwise (· < ·) := by
        have h := asc
        unfold natI at h
        rw [List.pairwise_map] at h
        exact h.imp fun z => by omega
      rw [asc_ext aL ok.lot.asc fun x => ?_]
      have h := mem (x : Int)
      rw [decide_eq_true_eq] at h
      have inj : ∀ L : List Nat, (x : Int) ∈ natI L ↔ x ∈ L := fun L => by
        constructor
        · intro hx
          obtain ⟨n, hn, e⟩ := List.mem_map.mp (show (x : Int) ∈ L.map fun (n : Nat) => (n : Int) from hx)
          obtain rfl : n = x := by omega
          exact hn
        · intro hx
          exact List.mem_map.mpr ⟨x, hx, rfl⟩
      rw [inj, inj] at h
      exact h
    subst ens
    have lay := sc_layAll (sc_N (gl n))
    refine ⟨.list (((gl n).map vN).map scD), .list (((gl n).map vN).map scD), .lst (.inl (.inl ((s5.trans s6) _ _ upd_same))) (dpAll_sc (sc_N _)), .lst (.inl (.inl (by rw [upd_same, natGl]))) (dpAll_sc (sc_N _)), shaped_l lay.1 (by rw [lay.2]; omega), shaped_l lay.1 (by rw [lay.2]; omega), _, rfl, ?_⟩
    rw [SeqAt.eqv_refl _ (show PyData.canLay0 (.list (((gl n).map vN).map scD)) = true from lay.1)]
    have s46 := (s4.trans s5).trans s6
    have hp6 := seqT s46 hp3
    refine iteF ⟨_, rfl, p, _, rfl, .inr hp6, _, rfl, rfl, _, rfl, ?_⟩
    rw [decide_eq_true (show V.int (((gl n).map vN).length : Int) = vN (gl n).length by rw [List.length_map])]
    refine iteF ⟨_, rfl, p, _, _, _, rfl, rfl, hp6, hg0, _, _, rfl, rfl, _, rfl, ?_⟩
    rw [decide_eq_false (by omega : ¬ (g0 : Int) < 0)]
    refine iteF ⟨_, rfl, _, rfl, p, _, _, _, rfl, rfl, hp6, hl0, _, rfl, _, _, rfl, rfl, _, rfl, ?_⟩
    rw [decide_eq_false (by omega : ¬ (l0 : Int) ≥ (S : Int))]
    have s16 := s13.trans s46
    -- [x for x in told if [y ..] != []]
    refine iteF ⟨_, rfl, p, rfl, ⟨_, hp6⟩, fun D nD => ?_⟩
    refine lc_tup (xs := (gl n).map vN) (fun i H' => Same H H' ∧ SqT K H' p ((gl n).map vN) ∧ SqT K H' ep ((List.range S).map vN) ∧ H' D = some (.lst [])) ⟨s16.trans (same_new nD), seqT (same_new nD) hp6, seqT (s46.trans (same_new nD)) (.inl (.inl upd_same)), upd_same⟩ (fun i H' _ pr => pr.2.1) (fun i x H' hx pr => ?_) (fun H' pr => ?_)
    · obtain ⟨sm, hp', he', eD⟩ := pr
      obtain ⟨a, ha, rfl⟩ := get_vN hx
      refine ⟨rfl, _, rfl, p, rfl, ⟨_, hp'⟩, fun D2 nD2 => ?_⟩
      refine lc_tup (xs := (gl n).map vN) (fun j H2 => Same H' H2 ∧ H2 D2 = some (.lst [])) ⟨same_new nD2, upd_same⟩ (fun j H2 _ pr => seqT pr.1 hp') (fun j y H2 hy pr => ?_) (fun H2 pr => ?_)
      · obtain ⟨b, hb, rfl⟩ := get_vN hy
        refine ⟨rfl, _, rfl, _, rfl, _, _, rfl, rfl, _, rfl, ite2 (fun hlt => ?_) (fun hlt => ?_)⟩
        · have lt : a < b := by
            have := of_decide_eq_true hlt
            omega
          refine ⟨_, rfl, _, rfl, a, b, rfl, fun H3 s3 => ⟨a ^^^ b, rfl, _, _, rfl, rfl, (by show (0 : Int) < 4; decide), rfl, _, rfl, ?_⟩⟩
          have nf := ok.no a (List.mem_of_getElem? ha) b (List.mem_of_getElem? hb) lt
          rw [decide_eq_false (fun z => nf (by have := V.int.inj z; omega))]
          exact ⟨pr.1.trans s3, s3 _ _ pr.2⟩
        · exact pr
      · obtain ⟨s2, e2⟩ := pr
        refine ⟨Nat.zero_le _, fun t nt => ?_⟩
        have s3 := same_new (o := .lst []) nt
        refine ⟨.list [], .list [], .lst (.inl (.inl (s3 _ _ e2))) .nil, .lst (.inl (.inl upd_same)) .nil, shaped_l rfl (Nat.zero_le _), shaped_l rfl (Nat.zero_le _), _, rfl, ?_⟩
        have s23 := s2.trans s3
        exact ⟨sm.trans s23, seqT s23 hp', seqT s23 he', s23 _ _ eD⟩
    · obtain ⟨sm, hp', he', eD⟩ := pr
      refine ⟨_, rfl, Nat.zero_le _, fun t nt => ?_⟩
      have s9 := same_new (o := .lst []) nt
      refine ⟨.list [], .list [], .lst (.inl (.inl (s9 _ _ eD))) .nil, .lst (.inl (.inl upd_same)) .nil, shaped_l rfl (Nat.zero_le _), shaped_l rfl (Nat.zero_le _), _, rfl, ?_⟩
      have s19 := sm.trans s9
      refine iteT ⟨_, rfl, _, rfl, _, rfl, p, ep, gl n, List.range S, n, rfl, seqT s9 hp', seqT s9 he', ok.lot, ev, h1, by omega, tab_same tab s19, fun b1 H10 hb1 k10 => ⟨_, rfl, ?_⟩⟩
      rw [hb1.mpr ncl]
      refine iteT ⟨_, rfl, _, rfl, _, rfl, ep, p, List.range S, gl n, n, rfl, k10.t (seqT s9 he'), k10.t (seqT s9 hp'), ev, ok.lot, h1, by omega, k10.tab, fun b2 H11 hb2 k11 => ?_⟩
      rw [hb2.mpr fun z => ncl z.symm]
      exact q _ (((Kp.same tab s19).trans k10).trans k11)
end
end Sq
set_option Elab.async false
set_option linter.all false
set_option maxRecDepth 100000
set_option maxHeartbeats 8000000
namespace Sq
open PySem PySem.Spec PyProof.Rows L2
theorem Rt.sl {K : PySem.W.Frag} {J Pt a : Addr} {H H' H0 : Hp} {xs : List V} (n : H0 J = none) (s : SqL K H0 a xs) (h : SqL K H a xs) (r : Rt J Pt H H') : SqL K H' a xs := by
  by_cases z : a = J
  · subst z
    rcases s with (s | ⟨o, s⟩) | s
    · rw [s] at n
      cases n
    · rw [s] at n
      cases n
    · exact .inr s
  · rcases h with (h | ⟨o, h⟩) | h
    · exact .inl (.inl (r.keep _ _ z (by intro ps q; cases q) h))
    · exact .inl (.inr ⟨o, r.keep _ _ z (by intro ps q; cases q) h⟩)
    · exact .inr h
theorem cl16 : IsCl (List.range 16) (List.range 16) 1 14 3 12 := ⟨by decide, by decide, by decide, by decide, by decide, by decide, by decide, by
  rw [wt_wtf 4 (1 ^^^ 14) (by decide)]
  decide⟩
theorem due16 : due (List.range 16) (List.range 16) (some [vN 1, vN 2, vN 4, vN 7]) = false := by
  show dueI (List.range 16) (List.range 16) ((1 : Nat) : Int) ((2 : Nat) : Int) ((4 : Nat) : Int) ((7 : Nat) : Int) = false
  unfold dueI
  have e : (wt (((1 : Nat) : Int).toNat ^^^ ((2 : Nat) : Int).toNat) % 4 == 0) = false := by
    rw [wt_wtf 4 _ (by decide)]
    decide
  rw [e, Bool.and_false]
section
variable {P : Program} {w : World} {K : PySem.W.Frag} {mg : Str → Option Value} {base : Heap} {f : Addr} {fd : FuncData} {k : Nat}
def spLaw (K : PySem.W.Frag) (Pt : Addr) : Sp := fun vs H Q _ => ∃ (a : Addr) (ns : List Int), vs = [.ref a] ∧ SqL K H a (ns.map V.int) ∧ GxR.TabG H Pt ∧ ∀ H', Q (.bl true) H'
theorem ok_law {Pt fJ fR fT fI fA : Addr} {fdJ fdR fdT fdI fdA : FuncData} (mr : mg "range" = none) (mx : mg "max" = none) (mm : mg "min" = none) (me : mg "len" = none) (mt : mg "tuple" = none)
    (gJ : mg "_law_jug" = some (.ref fJ)) (FJ : Fun K "_law_jug" "_law_jug" s_l_jug fJ fdJ) (bJ : Binds K fdJ ["_law_script", "_law_spot"] []) (GJ : FnOk P w K mg base CX0 (k + 6) fJ fdJ ["_law_script", "_law_spot"] (spJug K))
    (gR : mg "_law_right" = some (.ref fR)) (FR : Fun K "_law_right" "_law_right" s_l_right fR fdR) (bR : Binds K fdR ["_law_jug_here"] []) (GR : FnOk P w K mg base CX0 (k + 6) fR fdR ["_law_jug_here"] (spRight Pt))
    (gT : mg "_law_is_greatest" = some (.ref fT)) (FT : Fun K "_law_is_greatest" "_law_is_greatest" s_l_is_greatest fT fdT) (bT : Binds K fdT ["_law_many", "_law_size"] []) (GT : FnOk P w K mg base CX0 (k + 6) fT fdT ["_law_many", "_law_size"] (spIsGr Pt))
    (gI : mg "is_clash" = some (.ref fI)) (FI : Fun K "is_clash" "is_clash" s_is_clash fI fdI) (bI : Binds K fdI ["firsts", "seconds", "many", "value"] []) (GI : FnOk P w K mg base CX0 (k + 6) fI fdI ["firsts", "seconds", "many", "value"] (spIsClash K))
    (gA : mg "are_let" = some (.ref fA)) (FA : Fun K "are_let" "are_let" s_are_let fA fdA) (bA : Binds K fdA ["firsts", "seconds", "many"] []) (GA : FnOk P w K mg base CX0 (k + 6) fA fdA ["firsts", "seconds", "many"] (spAreLet K Pt))
    (F : Fun K "law" "law" s_law f fd) : FnOk P w K mg base CX0 (k + 7) f fd ["_law_script"] (spLaw K Pt) := by
  refine F.ok sc_law (fun vs H Q E h => ?_) (fun cdv A0 outer s H vs Q E hr h => ?_)
  · obtain ⟨a, ns, rfl, _⟩ := h
    rfl
  · obtain ⟨a, ns, rfl, hS, tab, q⟩ := h
    refine ⟨_, (pss_cons (ps_for PassesOwn.never rfl (pi_range1 (by rfl) mr (pa_cons (pe_callB (call_max2 rfl) (by rfl) mx (by decide +kernel) (pa_cons pe_int (pa_cons (pe_callB (call_min2 rfl) (by rfl) mm (by decide +kernel) (pa_cons pe_int (pa_cons (pe_callB call_len_seq (by rfl) me PySem.boot_len (pa_cons (pv 0) pa_nil)) pa_nil))) pa_nil))) pa_nil)) (pg_name (i := 1) sc_law.nd rfl (.inl rfl)) (pss_one (ps_if (pt_not (pt_val (pe_call GR hr (by rfl) gR FR.kp bR .nil pass0 (pa_cons (pe_call GJ hr (by rfl) gJ FJ.kp bJ .nil pass0 (pa_cons (pv 0) (pa_cons (pv 1) pa_nil))) pa_nil)))) (pss_one (ps_ret pe_bl)) pss_nil)))
      (pss_cons (ps_for PassesOwn.never rfl (pi_tup (pe_tup (pa_cons (pe_tup (pa_cons pe_int (pa_cons pe_int pa_nil))) (pa_cons (pe_tup (pa_cons pe_int (pa_cons pe_int pa_nil))) (pa_cons (pe_tup (pa_cons pe_int (pa_cons pe_int pa_nil))) (pa_cons (pe_tup (pa_cons pe_int (pa_cons pe_int pa_nil))) (pa_cons (pe_tup (pa_cons pe_int (pa_cons pe_int pa_nil))) pa_nil))))))) (pg_tup (by rfl) (pgs_cons (pg_name (i := 2) sc_law.nd rfl (.inl rfl)) (pgs_cons (pg_name (i := 3) sc_law.nd rfl (.inl rfl)) pgs_nil))) (pss_one (ps_if (pt_not (pt_val (pe_call GT hr (by rfl) gT FT.kp bT .nil pass0 (pa_cons (pv 2) (pa_cons (pv 3) pa_nil))))) (pss_one (ps_ret pe_bl)) pss_nil)))
      (pss_cons (ps_par (i := 4) (j := 5) (by rfl) sc_law.nd rfl rfl (by decide) rfl rfl (pa_cons (pe_tupRg rfl (by rfl) mt (prg_1 (by rfl) mr pe_int)) (pa_cons (pe_tup (pa_cons pe_int (pa_cons pe_int (pa_cons pe_int (pa_cons pe_int (pa_cons pe_int (pa_cons pe_int (pa_cons pe_int (pa_cons pe_int (pa_cons pe_int (pa_cons pe_int pa_nil))))))))))) pa_nil)) (by rfl))
      (pss_cons (ps_set (i := 6) sc_law.nd rfl (.inl rfl) (pe_lst (pa_cons (pe_call GI hr (by rfl) gI FI.kp bI .nil pass0 (pa_cons (pv 4) (pa_cons (pv 4) (pa_cons pe_int (pa_cons (pe_tup (pa_cons pe_int (pa_cons pe_int (pa_cons pe_int (pa_cons pe_int pa_nil))))) pa_nil))))) (pa_cons (pe_call GI hr (by rfl) gI FI.kp bI .nil pass0 (pa_cons (pv 4) (pa_cons (pv 4) (pa_cons pe_int (pa_cons (pe_tup (pa_cons pe_int (pa_cons pe_int (pa_cons pe_int (pa_cons pe_int pa_nil))))) pa_nil))))) (pa_cons (pe_call GA hr (by rfl) gA FA.kp bA .nil pass0 (pa_cons (pv 5) (pa_cons (pe_tup (pa_cons pe_int (pa_cons pe_int (pa_cons pe_int pa_nil)))) (pa_cons pe_int pa_nil)))) pa_nil)))))
      (pss_one (ps_ret (pe_and (pe_cmpR (op_eqD hr.units) (pv 6) (pe_lst (pa_cons pe_bl (pa_cons pe_bl (pa_cons pe_bl pa_nil)))) (nomark _)) (pe_and (pe_not (pe_call GA hr (by rfl) gA FA.kp bA .nil pass0 (pa_cons (pv 4) (pa_cons (pv 4) (pa_cons pe_int pa_nil))))) (pe_one (pe_call GA hr (by rfl) gA FA.kp bA .nil pass0 (pa_cons (pe_slice sl_tup (pv 4) po_none (po_some pe_int)) (pa_cons (pe_slice sl_tup (pv 4) po_none (po_some pe_int)) (pa_cons pe_int pa_nil))))))))))))), ?_⟩
    refine ⟨_, rfl, a, _, rfl, .inl hS, _, _, rfl, _, _, rfl, ?_⟩
    obtain ⟨t, ht, hlo, hhi⟩ : ∃ t : Nat, (if (if (((ns.map V.int).length : Nat) : Int) < 3 then (((ns.map V.int).length : Nat) : Int) else 3) > 1 then (if (((ns.map V.int).length : Nat) : Int) < 3 then (((ns.map V.int).length : Nat) : Int) else 3) else (1 : Int)) = (t : Int) ∧ 0 ≤ t ∧ t ≤ 3 := by
      refine ⟨max 1 (min 3 (ns.map V.int).length), ?_, by omega, by omega⟩
      split <;> split <;> omega
    rw [ht]
    refine ⟨_, rfl, by omega, by omega, ?_⟩
    refine for_range (lo := 0) (n := (t : Int).toNat) (fun i σ H' => ∃ y1, σ = [some (.ref a), y1, none, none, none, none, none] ∧ SqL K H' a (ns.map V.int) ∧ GxR.TabG H' Pt) ⟨none, rfl, hS, tab⟩ (fun i σ H' hi p => ?_) (fun σ H' p => ?_)
    · obtain ⟨y1, rfl, hS', tab'⟩ := p
      refine ⟨_, rfl, _, rfl, a, ns, 0 + i, rfl, hS', fun H2 J s2 nJ jJ => ⟨J, rfl, jJ, tab_same tab' s2, fun H3 r3 => ⟨_, rfl, ?_⟩⟩⟩
      refine ⟨_, rfl, ?_, r3.tab⟩
      refine Rt.sl nJ hS' ?_ r3
      rcases hS' with (h | ⟨o, h⟩) | h
      · exact .inl (.inl (s2 _ _ h))
      · exact .inl (.inr ⟨o, s2 _ _ h⟩)
      · exact .inr h
    obtain ⟨y1, rfl, hS', tab'⟩ := p
    clear hS' hS tab
    refine ⟨(by show 2 ≤ sizeLine; decide), fun t1 n1 => ⟨(by show 2 ≤ sizeLine; decide), fun t2 n2 => ⟨(by show 2 ≤ sizeLine; decide), fun t3 n3 => ⟨(by show 2 ≤ sizeLine; decide), fun t4 n4 => ⟨(by show 2 ≤ sizeLine; decide), fun t5 n5 => ⟨(by show 5 ≤ sizeLine; decide), fun tt nt => ?_⟩⟩⟩⟩⟩⟩
    have g1 := same_new (o := .tup [V.int 1, V.int 2]) n1
    have g2 := same_new (o := .tup [V.int 2, V.int 4]) n2
    have g3 := same_new (o := .tup [V.int 3, V.int 8]) n3
    have g4 := same_new (o := .tup [V.int 4, V.int 8]) n4
    have g5 := same_new (o := .tup [V.int 5, V.int 10]) n5
    have g6 := same_new (o := .tup [V.ref t1, V.ref t2, V.ref t3, V.ref t4, V.ref t5]) nt
    have g26 := (((g2.trans g3).trans g4).trans g5).trans g6
    have g36 := ((g3.trans g4).trans g5).trans g6
    have g46 := (g4.trans g5).trans g6
    have g56 := g5.trans g6
    refine ⟨tt, rfl, ⟨_, .inl (.inl upd_same)⟩, ?_⟩
    refine for_tup (xs := [V.ref t1, V.ref t2, V.ref t3, V.ref t4, V.ref t5]) (fun i σ H' => ∃ y1 y2 y3, σ = [some (.ref a), y1, y2, y3, none, none, none] ∧ GxR.TabG H' Pt ∧ H' tt = some (.tup [V.ref t1, V.ref t2, V.ref t3, V.ref t4, V.ref t5]) ∧
        H' t1 = some (.tup [V.int 1, V.int 2]) ∧ H' t2 = some (.tup [V.int 2, V.int 4]) ∧ H' t3 = some (.tup [V.int 3, V.int 8]) ∧ H' t4 = some (.tup [V.int 4, V.int 8]) ∧ H' t5 = some (.tup [V.int 5, V.int 10]))
      ⟨_, _, _, rfl, tab_same tab' (g1.trans g26), upd_same, g26 _ _ upd_same, g36 _ _ upd_same, g46 _ _ upd_same, g56 _ _ upd_same, g6 _ _ upd_same⟩ (fun i σ H' _ p => by
        obtain ⟨_, _, _, _, _, e, _⟩ := p
        exact .inl (.inl e)) (fun i x σ H' hx p => ?_) (fun σ H' p => ?_)
    · obtain ⟨y1, y2, y3, rfl, tb, e0, e1, e2, e3, e4, e5⟩ := p
      obtain ⟨n, t, rfl, et, h1, h5⟩ : ∃ (n : Nat) (t : Addr), x = .ref t ∧ H' t = some (.tup [vN n, vN (gl n).length]) ∧ 1 ≤ n ∧ n ≤ 5 := by
        have hm := List.mem_of_getElem? hx
        simp only [List.mem_cons, List.not_mem_nil, or_false] at hm
        rcases hm with rfl | rfl | rfl | rfl | rfl
        · exact ⟨1, t1, rfl, e1, by decide, by decide⟩
        · exact ⟨2, t2, rfl, e2, by decide, by decide⟩
        · exact ⟨3, t3, rfl, e3, by decide, by decide⟩
        · exact ⟨4, t4, rfl, e4, by decide, by decide⟩
        · exact ⟨5, t5, rfl, e5, by decide, by decide⟩
      refine ⟨t, _, rfl, .inl (.inl et), rfl, _, _, rfl, _, _, rfl, rfl, ?_⟩
      refine ⟨_, rfl, _, rfl, n, rfl, h1, h5, tb, fun H3 k3 => ⟨_, rfl, ?_⟩⟩
      have kk : ∀ {b : Addr} {xs : List V}, H' b = some (.tup xs) → H3 b = some (.tup xs) := fun h => k3.keep _ _ (by intro ps q; cases q) h
      exact ⟨_, _, _, rfl, k3.tab, kk e0, kk e1, kk e2, kk e3, kk e4, kk e5⟩
    obtain ⟨y1, y2, y3, rfl, tb, _⟩ := p
    have ok5 := gl_ok 5 (by decide) (by decide)
    have ok3 := gl_ok 3 (by decide) (by decide)
    have ev : LotOk 4 (List.range 16) := range_lot (by decide) (by decide) (by decide)
    have eg5 : gl 5 = [0, 1, 2, 3, 4, 5, 8, 9, 16, 17] := rfl
    refine ⟨_, rfl, RgOk.of_le (by decide) (by decide) (by decide) (by decide), fun ep nep => ⟨(by show 10 ≤ sizeLine; decide), fun wp nwp => ⟨_, _, rfl, ?_⟩⟩⟩
    have hr16 : rgV 0 16 = (List.range 16).map vN := rgV_nat 16
    rw [hr16] at nwp ⊢
    have s1 := same_new (o := .tup ((List.range 16).map vN)) nep
    have s2 := same_new (o := .tup [V.int 0, V.int 1, V.int 2, V.int 3, V.int 4, V.int 5, V.int 8, V.int 9, V.int 16, V.int 17]) nwp
    refine ⟨_, rfl, _, rfl, (by show 4 ≤ sizeLine; decide), fun c1 nc1 => ?_⟩
    have s3 := same_new (o := .tup [V.int 1, V.int 14, V.int 3, V.int 12]) nc1
    have hE : SqT K _ ep ((List.range 16).map vN) := .inl (.inl ((s2.trans s3) _ _ upd_same))
    have hW : SqT K _ wp ((gl 5).map vN) := .inl (.inl (s3 _ _ upd_same))
    refine ⟨ep, ep, List.range 16, List.range 16, 4, .ref c1, some [vN 1, vN 14, vN 3, vN 12], rfl, hE, hE, ev, ev, by decide, by decide, .tup (.inl (.inl upd_same)) (by intro zz hzz; exact allN (ns := [1, 14, 3, 12]) zz hzz) (by show 4 ≤ 100; decide), fun H4 s4 => ?_⟩
    rw [due_cl cl16]
    refine ⟨_, rfl, _, rfl, (by show 4 ≤ sizeLine; decide), fun c2 nc2 => ?_⟩
    have s5 := same_new (o := .tup [V.int 1, V.int 2, V.int 4, V.int 7]) nc2
    have s45 := s4.trans s5
    refine ⟨ep, ep, List.range 16, List.range 16, 4, .ref c2, some [vN 1, vN 2, vN 4, vN 7], rfl, seqT s45 hE, seqT s45 hE, ev, ev, by decide, by decide, .tup (.inl (.inl upd_same)) (by intro zz hzz; exact allN (ns := [1, 2, 4, 7]) zz hzz) (by show 4 ≤ 100; decide), fun H6 s6 => ?_⟩
    rw [due16]
    refine ⟨_, rfl, (by show 3 ≤ sizeLine; decide), fun c3 nc3 => ?_⟩
    have s7 := same_new (o := .tup [V.int 0, V.int 15, V.int 30]) nc3
    have s47 := (s45.trans s6).trans s7
    have tb7 := tab_same tb (((s1.trans s2).trans s3).trans s47)
    refine ⟨wp, c3, gl 5, [0, 15, 30], 5, rfl, seqT s47 hW, .inl (.inl upd_same), ok5.lot, ⟨by decide, by decide, by decide, by decide⟩, by decide, by decide, tb7, fun b1 H8 hb1 k8 => ?_⟩
    rw [hb1.mpr ok5.ncl]
    refine ⟨(by show 3 ≤ sizeLine; decide), fun lp nlp => ?_⟩
    have s9 := same_new (o := .lst [V.bl true, V.bl false, V.bl true]) nlp
    refine ⟨_, rfl, (by show 3 ≤ sizeLine; decide), fun lq nlq => ?_⟩
    have s10 := same_new (o := .lst [V.bl true, V.bl false, V.bl true]) nlq
    refine ⟨.list [.bool true, .bool false, .bool true], .list [.bool true, .bool false, .bool true], .lst (.inl (.inl (s10 _ _ upd_same))) (.cons (.bl _) (.cons (.bl _) (.cons (.bl _) .nil))), .lst (.inl (.inl upd_same)) (.cons (.bl _) (.cons (.bl _) (.cons (.bl _) .nil))), shaped_l rfl (Nat.zero_le _), shaped_l rfl (Nat.zero_le _), _, rfl, ?_⟩
    rw [SeqAt.eqv_refl _ rfl]
    have k10 := (k8.trans (Kp.same k8.tab (s9.trans s10)))
    have hE10 := k10.t (seqT s47 hE)
    refine iteT ⟨_, rfl, _, rfl, ep, ep, List.range 16, List.range 16, 4, rfl, hE10, hE10, ev, ev, by decide, by decide, k10.tab, fun b2 H11 hb2 k11 => ?_⟩
    have eb2 : b2 = false := by
      cases b2 with
      | false => rfl
      | true => exact absurd ⟨_, _, _, _, cl16⟩ (hb2.mp rfl)
    subst eb2
    have hE11 := k11.t hE10
    refine ⟨_, rfl, _, rfl, iteT ⟨_, rfl, 8, rfl, ep, _, rfl, hE11, fun z => ?_, fun c8 nc8 => ?_⟩⟩
    · exact absurd z.2 (by decide)
    have ec8 : cutV ((List.range 16).map vN) none (some 8) = (gl 3).map vN := rfl
    rw [ec8]
    have s12 := same_new (o := .tup ((gl 3).map vN)) nc8
    refine ⟨_, rfl, 8, rfl, ep, _, rfl, seqT s12 hE11, fun z => ?_, fun c9 nc9 => ?_⟩
    · exact absurd z.2 (by decide)
    rw [ec8]
    have s13 := same_new (o := .tup ((gl 3).map vN)) nc9
    refine ⟨c8, c9, gl 3, gl 3, 3, rfl, .inl (.inl (s13 _ _ upd_same)), .inl (.inl upd_same), ok3.lot, ok3.lot, by decide, by decide, tab_same k11.tab (s12.trans s13), fun b3 H14 hb3 k14 => ?_⟩
    rw [hb3.mpr ok3.ncl]
    exact q H14
end
end Sq
set_option Elab.async false
set_option linter.all false
set_option maxRecDepth 100000
set_option maxHeartbeats 8000000
namespace Sq
open PySem PySem.Spec PyProof.Rows L2
/-- where a def of the text stands, with its code object and the code's table, still empty -/
def TabAt (mg : Str → Option Value) (h : Heap) (x : Str) : Prop := ∃ (a : Addr) (o : Obj) (fd : FuncData) (c Pt : Addr), mg x = some (.ref a) ∧ h.get? a = some o ∧ o.data = .func fd ∧ fd.code = .ref c ∧ PySem.W.CodeHd h c Pt ∧ h.get? Pt = some { cls := .none, data := .fields #[] }
theorem walk_sq {l : PySem.W.OpenLaw} {n k : Nat} {q : Program} {loose : List Str} {lv : List (Str × PySem.W.WData)} {YP : World → Heap → Prop} {d : DefRec} {K : Params → PySem.W.Frag} {x : Str} (y : Str)
    (hn : l.most = some n) (hn2 : n ≤ sizeLine) (hdf : d.params.defaults = []) (hr : Room k callerA) (hrec : ((recsOf q).any fun e => e.name == y) = true) (hY : ∀ (w : World) (h : Heap), YP w h → (K w.params).In h)
    (F : ∀ (w : World) (mg : Str → Option Value) (fa : Addr) (h : Heap), (K w.params).In h → h.Ns mainGlobals mg → mg d.name = some (.ref fa) → TabAt mg h y → PySem.W.LooseAre lv mg h → LamX.LawAtS l w (K w.params) CX0 k n x mg fa h) :
    PySem.W.WalkO q loose (PySem.W.XL q lv) YP l.row.toRowW d [] (fun f vs => PySem.call f vs) := by
  refine Att.attach_callB hn hdf fun w s₀ s₁ mg mb fa o pm cd doc a vs ns G Y ho hd hcd hmg hobj hints hlen hbits hg => ?_
  have KX := hY w _ Y
  have at' : TabAt mg s₁.heap y := by
    obtain ⟨dL, hm, hn1⟩ := List.any_eq_true.mp hrec
    have hn3 : dL.name = y := beq_iff_eq.mp hn1
    obtain ⟨a', o', fd', c', P', h1, h2, h3, h4, h5, h6⟩ := G.T.tab dL hm
    rw [hn3] at h1
    exact ⟨a', o', fd', c', P', h1, h2, h3, h4, PySem.W.CodeHd.of h5 h6, h6.2⟩
  obtain ⟨fd, cs, sp, hT, nT, C, hb, hsp, hF⟩ := F w mg fa _ KX G.T.g hmg at' G.X.2
  exact LamX.law_callTs KX G.T.g G.T.b G.T.builtins G.T.nolimit hg hT nT C G.T.bmain hobj hints (Nat.le_trans hlen hn2) hr hF hb (fun H hH hS => hsp H a ns hlen hbits hH hS) fun H e s' h => h
theorem all_mk {l : PySem.W.OpenLaw} {w : World} {K : PySem.W.Frag} {h : Heap} {mg : Str → Option Value} {lv : List (Str × PySem.W.WData)} {fa gA c0 P0 : Addr} {f_wo f_lw f_lx f_iw f_ii f_iwd f_rm f_rl f_rls f_pw f_ci f_al f_cl f_ic f_gr f_lj f_lp f_lo f_lc f_ll f_lm f_lpt f_ld f_ln f_lr f_lg f_law : Addr} (X : K.In h) (G : h.Ns mainGlobals mg) (hfa : mg "law" = some (.ref fa)) (hP : TabAt mg h "pair_with") (V : PySem.W.LooseAre lv mg h)
    (hB : (("BEYOND" : Str), PySem.W.WData.int 1000000000000000000000000000000000000000000000000000000000000) ∈ lv)
    {od_wo an_wo od_lw an_lw od_lx an_lx od_iw an_iw od_ii an_ii od_iwd an_iwd od_rm an_rm od_rl an_rl od_rls an_rls od_pw an_pw od_ci an_ci od_al an_al od_cl an_cl od_ic an_ic od_gr an_gr od_lj an_lj od_lp an_lp od_lo an_lo od_lc an_lc od_ll an_ll od_lm an_lm od_lpt an_lpt od_ld an_ld od_ln an_ln od_lr an_lr od_lg an_lg od_law an_law : Option Addr} {sl_wo sl_lw sl_lx sl_iw sl_ii sl_iwd sl_rm sl_rl sl_rls sl_pw sl_ci sl_al sl_cl sl_ic sl_gr sl_lj sl_lp sl_lo sl_lc sl_ll sl_lm sl_lpt sl_ld sl_ln sl_lr sl_lg sl_law : Array (Option Value)} {oc_wo kV_wo dc_wo pm_wo cd_wo ct_wo oc_lw kV_lw dc_lw pm_lw cd_lw ct_lw oc_lx kV_lx dc_lx pm_lx cd_lx ct_lx oc_iw kV_iw dc_iw pm_iw cd_iw ct_iw oc_ii kV_ii dc_ii pm_ii cd_ii ct_ii oc_iwd kV_iwd dc_iwd pm_iwd cd_iwd ct_iwd oc_rm kV_rm dc_rm pm_rm cd_rm ct_rm oc_rl kV_rl dc_rl pm_rl cd_rl ct_rl oc_rls kV_rls dc_rls pm_rls cd_rls ct_rls oc_pw kV_pw dc_pw pm_pw ct_pw oc_ci kV_ci dc_ci pm_ci cd_ci ct_ci oc_al kV_al dc_al pm_al cd_al ct_al oc_cl kV_cl dc_cl pm_cl cd_cl ct_cl oc_ic kV_ic dc_ic pm_ic cd_ic ct_ic oc_gr kV_gr dc_gr pm_gr cd_gr ct_gr oc_lj kV_lj dc_lj pm_lj cd_lj ct_lj oc_lp kV_lp dc_lp pm_lp cd_lp ct_lp oc_lo kV_lo dc_lo pm_lo cd_lo ct_lo oc_lc kV_lc dc_lc pm_lc cd_lc ct_lc oc_ll kV_ll dc_ll pm_ll cd_ll ct_ll oc_lm kV_lm dc_lm pm_lm cd_lm ct_lm oc_lpt kV_lpt dc_lpt pm_lpt cd_lpt ct_lpt oc_ld kV_ld dc_ld pm_ld cd_ld ct_ld oc_ln kV_ln dc_ln pm_ln cd_ln ct_ln oc_lr kV_lr dc_lr pm_lr cd_lr ct_lr oc_lg kV_lg dc_lg pm_lg cd_lg ct_lg oc_law kV_law dc_law pm_law cd_law ct_law : Value}
    (a_wo : PySem.W.nsIn K mainGlobals "weight_of" = some (some (.ref f_wo))) (l_wo : K.lookup f_wo = some ⟨oc_wo, od_wo, .func (PySem.W.fnOf "weight_of" "weight_of" (defArgs s_weight_of) (defBody s_weight_of) (defScope s_weight_of) .none kV_wo dc_wo pm_wo an_wo cd_wo ct_wo), sl_wo⟩) (c_wo : PySem.W.codeIn K cd_wo "weight_of" = true) (k_wo : PySem.W.keepIn K (.ref f_wo) = true)
    (a_lw : PySem.W.nsIn K mainGlobals "_law_weight" = some (some (.ref f_lw))) (l_lw : K.lookup f_lw = some ⟨oc_lw, od_lw, .func (PySem.W.fnOf "_law_weight" "_law_weight" (defArgs s_l_weight) (defBody s_l_weight) (defScope s_l_weight) .none kV_lw dc_lw pm_lw an_lw cd_lw ct_lw), sl_lw⟩) (c_lw : PySem.W.codeIn K cd_lw "_law_weight" = true) (k_lw : PySem.W.keepIn K (.ref f_lw) = true)
    (a_lx : PySem.W.nsIn K mainGlobals "_law_xor" = some (some (.ref f_lx))) (l_lx : K.lookup f_lx = some ⟨oc_lx, od_lx, .func (PySem.W.fnOf "_law_xor" "_law_xor" (defArgs s_l_xor) (defBody s_l_xor) (defScope s_l_xor) .none kV_lx dc_lx pm_lx an_lx cd_lx ct_lx), sl_lx⟩) (c_lx : PySem.W.codeIn K cd_lx "_law_xor" = true) (k_lx : PySem.W.keepIn K (.ref f_lx) = true)
    (a_iw : PySem.W.nsIn K mainGlobals "is_whole" = some (some (.ref f_iw))) (l_iw : K.lookup f_iw = some ⟨oc_iw, od_iw, .func (PySem.W.fnOf "is_whole" "is_whole" (defArgs s_is_whole) (defBody s_is_whole) (defScope s_is_whole) .none kV_iw dc_iw pm_iw an_iw cd_iw ct_iw), sl_iw⟩) (c_iw : PySem.W.codeIn K cd_iw "is_whole" = true) (k_iw : PySem.W.keepIn K (.ref f_iw) = true)
    (a_ii : PySem.W.nsIn K mainGlobals "is_integer" = some (some (.ref f_ii))) (l_ii : K.lookup f_ii = some ⟨oc_ii, od_ii, .func (PySem.W.fnOf "is_integer" "is_integer" (defArgs s_is_integer) (defBody s_is_integer) (defScope s_is_integer) .none kV_ii dc_ii pm_ii an_ii cd_ii ct_ii), sl_ii⟩) (c_ii : PySem.W.codeIn K cd_ii "is_integer" = true) (k_ii : PySem.W.keepIn K (.ref f_ii) = true)
    (a_iwd : PySem.W.nsIn K mainGlobals "is_word" = some (some (.ref f_iwd))) (l_iwd : K.lookup f_iwd = some ⟨oc_iwd, od_iwd, .func (PySem.W.fnOf "is_word" "is_word" (defArgs s_is_word) (defBody s_is_word) (defScope s_is_word) .none kV_iwd dc_iwd pm_iwd an_iwd cd_iwd ct_iwd), sl_iwd⟩) (c_iwd : PySem.W.codeIn K cd_iwd "is_word" = true) (k_iwd : PySem.W.keepIn K (.ref f_iwd) = true)
    (a_rm : PySem.W.nsIn K mainGlobals "require_many" = some (some (.ref f_rm))) (l_rm : K.lookup f_rm = some ⟨oc_rm, od_rm, .func (PySem.W.fnOf "require_many" "require_many" (defArgs s_require_many) (defBody s_require_many) (defScope s_require_many) .none kV_rm dc_rm pm_rm an_rm cd_rm ct_rm), sl_rm⟩) (c_rm : PySem.W.codeIn K cd_rm "require_many" = true) (k_rm : PySem.W.keepIn K (.ref f_rm) = true)
    (a_rl : PySem.W.nsIn K mainGlobals "require_lot" = some (some (.ref f_rl))) (l_rl : K.lookup f_rl = some ⟨oc_rl, od_rl, .func (PySem.W.fnOf "require_lot" "require_lot" (defArgs s_require_lot) (defBody s_require_lot) (defScope s_require_lot) .none kV_rl dc_rl pm_rl an_rl cd_rl ct_rl), sl_rl⟩) (c_rl : PySem.W.codeIn K cd_rl "require_lot" = true) (k_rl : PySem.W.keepIn K (.ref f_rl) = true)
    (a_rls : PySem.W.nsIn K mainGlobals "require_lots" = some (some (.ref f_rls))) (l_rls : K.lookup f_rls = some ⟨oc_rls, od_rls, .func (PySem.W.fnOf "require_lots" "require_lots" (defArgs s_require_lots) (defBody s_require_lots) (defScope s_require_lots) .none kV_rls dc_rls pm_rls an_rls cd_rls ct_rls), sl_rls⟩) (c_rls : PySem.W.codeIn K cd_rls "require_lots" = true) (k_rls : PySem.W.keepIn K (.ref f_rls) = true)
    (a_pw : PySem.W.nsIn K mainGlobals "pair_with" = some (some (.ref f_pw))) (l_pw : K.lookup f_pw = some ⟨oc_pw, od_pw, .func (PySem.W.fnOf "pair_with" "pair_with" (defArgs s_pair_with) (defBody s_pair_with) (defScope s_pair_with) .none kV_pw dc_pw pm_pw an_pw (.ref c0) ct_pw), sl_pw⟩) (c_pw : PySem.W.codeIn K (.ref c0) "pair_with" = true) (k_pw : PySem.W.keepIn K (.ref f_pw) = true)
    (a_ci : PySem.W.nsIn K mainGlobals "clash_in" = some (some (.ref f_ci))) (l_ci : K.lookup f_ci = some ⟨oc_ci, od_ci, .func (PySem.W.fnOf "clash_in" "clash_in" (defArgs s_clash_in) (defBody s_clash_in) (defScope s_clash_in) .none kV_ci dc_ci pm_ci an_ci cd_ci ct_ci), sl_ci⟩) (c_ci : PySem.W.codeIn K cd_ci "clash_in" = true) (k_ci : PySem.W.keepIn K (.ref f_ci) = true)
    (a_al : PySem.W.nsIn K mainGlobals "are_let" = some (some (.ref f_al))) (l_al : K.lookup f_al = some ⟨oc_al, od_al, .func (PySem.W.fnOf "are_let" "are_let" (defArgs s_are_let) (defBody s_are_let) (defScope s_are_let) .none kV_al dc_al pm_al an_al cd_al ct_al), sl_al⟩) (c_al : PySem.W.codeIn K cd_al "are_let" = true) (k_al : PySem.W.keepIn K (.ref f_al) = true)
    (a_cl : PySem.W.nsIn K mainGlobals "clash" = some (some (.ref f_cl))) (l_cl : K.lookup f_cl = some ⟨oc_cl, od_cl, .func (PySem.W.fnOf "clash" "clash" (defArgs s_clash) (defBody s_clash) (defScope s_clash) .none kV_cl dc_cl pm_cl an_cl cd_cl ct_cl), sl_cl⟩) (c_cl : PySem.W.codeIn K cd_cl "clash" = true) (k_cl : PySem.W.keepIn K (.ref f_cl) = true)
    (a_ic : PySem.W.nsIn K mainGlobals "is_clash" = some (some (.ref f_ic))) (l_ic : K.lookup f_ic = some ⟨oc_ic, od_ic, .func (PySem.W.fnOf "is_clash" "is_clash" (defArgs s_is_clash) (defBody s_is_clash) (defScope s_is_clash) .none kV_ic dc_ic pm_ic an_ic cd_ic ct_ic), sl_ic⟩) (c_ic : PySem.W.codeIn K cd_ic "is_clash" = true) (k_ic : PySem.W.keepIn K (.ref f_ic) = true)
    (a_gr : PySem.W.nsIn K mainGlobals "greatest_let" = some (some (.ref f_gr))) (l_gr : K.lookup f_gr = some ⟨oc_gr, od_gr, .func (PySem.W.fnOf "greatest_let" "greatest_let" (defArgs s_greatest_let) (defBody s_greatest_let) (defScope s_greatest_let) .none kV_gr dc_gr pm_gr an_gr cd_gr ct_gr), sl_gr⟩) (c_gr : PySem.W.codeIn K cd_gr "greatest_let" = true) (k_gr : PySem.W.keepIn K (.ref f_gr) = true)
    (a_lj : PySem.W.nsIn K mainGlobals "_law_jug" = some (some (.ref f_lj))) (l_lj : K.lookup f_lj = some ⟨oc_lj, od_lj, .func (PySem.W.fnOf "_law_jug" "_law_jug" (defArgs s_l_jug) (defBody s_l_jug) (defScope s_l_jug) .none kV_lj dc_lj pm_lj an_lj cd_lj ct_lj), sl_lj⟩) (c_lj : PySem.W.codeIn K cd_lj "_law_jug" = true) (k_lj : PySem.W.keepIn K (.ref f_lj) = true)
    (a_lp : PySem.W.nsIn K mainGlobals "_law_pour" = some (some (.ref f_lp))) (l_lp : K.lookup f_lp = some ⟨oc_lp, od_lp, .func (PySem.W.fnOf "_law_pour" "_law_pour" (defArgs s_l_pour) (defBody s_l_pour) (defScope s_l_pour) .none kV_lp dc_lp pm_lp an_lp cd_lp ct_lp), sl_lp⟩) (c_lp : PySem.W.codeIn K cd_lp "_law_pour" = true) (k_lp : PySem.W.keepIn K (.ref f_lp) = true)
    (a_lo : PySem.W.nsIn K mainGlobals "_law_of" = some (some (.ref f_lo))) (l_lo : K.lookup f_lo = some ⟨oc_lo, od_lo, .func (PySem.W.fnOf "_law_of" "_law_of" (defArgs s_l_of) (defBody s_l_of) (defScope s_l_of) .none kV_lo dc_lo pm_lo an_lo cd_lo ct_lo), sl_lo⟩) (c_lo : PySem.W.codeIn K cd_lo "_law_of" = true) (k_lo : PySem.W.keepIn K (.ref f_lo) = true)
    (a_lc : PySem.W.nsIn K mainGlobals "_law_clashes" = some (some (.ref f_lc))) (l_lc : K.lookup f_lc = some ⟨oc_lc, od_lc, .func (PySem.W.fnOf "_law_clashes" "_law_clashes" (defArgs s_l_clashes) (defBody s_l_clashes) (defScope s_l_clashes) .none kV_lc dc_lc pm_lc an_lc cd_lc ct_lc), sl_lc⟩) (c_lc : PySem.W.codeIn K cd_lc "_law_clashes" = true) (k_lc : PySem.W.keepIn K (.ref f_lc) = true)
    (a_ll : PySem.W.nsIn K mainGlobals "_law_lot" = some (some (.ref f_ll))) (l_ll : K.lookup f_ll = some ⟨oc_ll, od_ll, .func (PySem.W.fnOf "_law_lot" "_law_lot" (defArgs s_l_lot) (defBody s_l_lot) (defScope s_l_lot) .none kV_ll dc_ll pm_ll an_ll cd_ll ct_ll), sl_ll⟩) (c_ll : PySem.W.codeIn K cd_ll "_law_lot" = true) (k_ll : PySem.W.keepIn K (.ref f_ll) = true)
    (a_lm : PySem.W.nsIn K mainGlobals "_law_moved" = some (some (.ref f_lm))) (l_lm : K.lookup f_lm = some ⟨oc_lm, od_lm, .func (PySem.W.fnOf "_law_moved" "_law_moved" (defArgs s_l_moved) (defBody s_l_moved) (defScope s_l_moved) .none kV_lm dc_lm pm_lm an_lm cd_lm ct_lm), sl_lm⟩) (c_lm : PySem.W.codeIn K cd_lm "_law_moved" = true) (k_lm : PySem.W.keepIn K (.ref f_lm) = true)
    (a_lpt : PySem.W.nsIn K mainGlobals "_law_part" = some (some (.ref f_lpt))) (l_lpt : K.lookup f_lpt = some ⟨oc_lpt, od_lpt, .func (PySem.W.fnOf "_law_part" "_law_part" (defArgs s_l_part) (defBody s_l_part) (defScope s_l_part) .none kV_lpt dc_lpt pm_lpt an_lpt cd_lpt ct_lpt), sl_lpt⟩) (c_lpt : PySem.W.codeIn K cd_lpt "_law_part" = true) (k_lpt : PySem.W.keepIn K (.ref f_lpt) = true)
    (a_ld : PySem.W.nsIn K mainGlobals "_law_is_due" = some (some (.ref f_ld))) (l_ld : K.lookup f_ld = some ⟨oc_ld, od_ld, .func (PySem.W.fnOf "_law_is_due" "_law_is_due" (defArgs s_l_is_due) (defBody s_l_is_due) (defScope s_l_is_due) .none kV_ld dc_ld pm_ld an_ld cd_ld ct_ld), sl_ld⟩) (c_ld : PySem.W.codeIn K cd_ld "_law_is_due" = true) (k_ld : PySem.W.keepIn K (.ref f_ld) = true)
    (a_ln : PySem.W.nsIn K mainGlobals "_law_near" = some (some (.ref f_ln))) (l_ln : K.lookup f_ln = some ⟨oc_ln, od_ln, .func (PySem.W.fnOf "_law_near" "_law_near" (defArgs s_l_near) (defBody s_l_near) (defScope s_l_near) .none kV_ln dc_ln pm_ln an_ln cd_ln ct_ln), sl_ln⟩) (c_ln : PySem.W.codeIn K cd_ln "_law_near" = true) (k_ln : PySem.W.keepIn K (.ref f_ln) = true)
    (a_lr : PySem.W.nsIn K mainGlobals "_law_right" = some (some (.ref f_lr))) (l_lr : K.lookup f_lr = some ⟨oc_lr, od_lr, .func (PySem.W.fnOf "_law_right" "_law_right" (defArgs s_l_right) (defBody s_l_right) (defScope s_l_right) .none kV_lr dc_lr pm_lr an_lr cd_lr ct_lr), sl_lr⟩) (c_lr : PySem.W.codeIn K cd_lr "_law_right" = true) (k_lr : PySem.W.keepIn K (.ref f_lr) = true)
    (a_lg : PySem.W.nsIn K mainGlobals "_law_is_greatest" = some (some (.ref f_lg))) (l_lg : K.lookup f_lg = some ⟨oc_lg, od_lg, .func (PySem.W.fnOf "_law_is_greatest" "_law_is_greatest" (defArgs s_l_is_greatest) (defBody s_l_is_greatest) (defScope s_l_is_greatest) .none kV_lg dc_lg pm_lg an_lg cd_lg ct_lg), sl_lg⟩) (c_lg : PySem.W.codeIn K cd_lg "_law_is_greatest" = true) (k_lg : PySem.W.keepIn K (.ref f_lg) = true)
    (a_law : PySem.W.nsIn K mainGlobals "law" = some (some (.ref f_law))) (l_law : K.lookup f_law = some ⟨oc_law, od_law, .func (PySem.W.fnOf "law" "law" (defArgs s_law) (defBody s_law) (defScope s_law) .none kV_law dc_law pm_law an_law cd_law ct_law), sl_law⟩) (c_law : PySem.W.codeIn K cd_law "law" = true) (k_law : PySem.W.keepIn K (.ref f_law) = true)
    (z_next : PySem.W.nsIn K mainGlobals "next" = some none)
    (z_int : PySem.W.nsIn K mainGlobals "int" = some none)
    (z_isinstance : PySem.W.nsIn K mainGlobals "isinstance" = some none)
    (z_bool : PySem.W.nsIn K mainGlobals "bool" = some none)
    (z_tuple : PySem.W.nsIn K mainGlobals "tuple" = some none)
    (z_all : PySem.W.nsIn K mainGlobals "all" = some none)
    (z_zip : PySem.W.nsIn K mainGlobals "zip" = some none)
    (z_range : PySem.W.nsIn K mainGlobals "range" = some none)
    (z_min : PySem.W.nsIn K mainGlobals "min" = some none)
    (z_list : PySem.W.nsIn K mainGlobals "list" = some none)
    (z_len : PySem.W.nsIn K mainGlobals "len" = some none)
    (z_enumerate : PySem.W.nsIn K mainGlobals "enumerate" = some none)
    (z_sorted : PySem.W.nsIn K mainGlobals "sorted" = some none)
    (z_sum : PySem.W.nsIn K mainGlobals "sum" = some none)
    (z_abs : PySem.W.nsIn K mainGlobals "abs" = some none)
    (z_max : PySem.W.nsIn K mainGlobals "max" = some none)
    (z_set : PySem.W.nsIn K mainGlobals "set" = some none)
    (z_str : PySem.W.nsIn K mainGlobals "str" = some none)
    (z_repr : PySem.W.nsIn K mainGlobals "repr" = some none)
    {tM tK : Tok} (a_MM : PySem.W.nsIn K mainGlobals "MAX_LETTERS" = some (some (.int 10 tM))) (a_MK : PySem.W.nsIn K mainGlobals "MAX_MADE" = some (some (.int 5 tK)))
    {dT : Option Addr} {its : Array Value} {nT : Nat} {slT : Array (Option Value)} (a_GR : PySem.W.nsIn K mainGlobals "GREATEST" = some (some (.ref gA))) (l_GR : K.lookup gA = some ⟨.type "tuple", dT, .seq its nT, slT⟩) (v_GR : Vals ((gl 5).map vN) its.toList)
    {e0 : Value} {d0 : Option Addr} {vs0 : Array Value} {sl0 : Array (Option Value)} (l_c0 : K.lookup c0 = some ⟨e0, d0, .fields vs0, sl0⟩) (v_c0 : vs0[11]? = some (.ref P0)) (n_P0 : K.lookup P0 = none) :
    LamX.LawAtS l w K CX0 7 63 "_law_script" mg fa h := by
  have e := hfa.symm.trans (PySem.W.mg_of X G a_law)
  cases e
  obtain ⟨aP, o, fdP, c, Pt, m1, m2, m3, m4, hC, hT⟩ := hP
  have e2 := m1.symm.trans (PySem.W.mg_of X G a_pw)
  cases e2
  have g1 := X _ _ l_pw
  rw [g1] at m2
  cases m2
  cases m3
  have m5 : Value.ref c0 = Value.ref c := m4
  cases m5
  have hP0 : P0 = Pt := by
    obtain ⟨oc, vc, file, tf, flags, tg, inF, text, tt, e1, _, e3, e4, _⟩ := hC
    have g2 := X _ _ l_c0
    rw [g2] at e1
    cases e1
    cases e3
    rw [v_c0] at e4
    cases e4
    rfl
  subst hP0
  obtain ⟨vB, mB, rB⟩ := V.val _ hB
  obtain ⟨tB, rfl, -⟩ := PySem.W.readsW_int_inv rB
  have mB' : mg "BEYOND" = some (.int (10 ^ 60) tB) := mB
  have hG5 : ∀ H : Hp, SqT K H gA ((gl 5).map vN) := fun H => .inr ⟨_, its, nT, l_GR, rfl, rfl, by
    have e := v_GR.length
    rw [List.length_map] at e
    rw [← Array.length_toList, ← e]
    decide, v_GR⟩
  have F_wo := fun_mk (st := s_weight_of) l_wo c_wo k_wo
  have b_wo := F_wo.binds (ps := ["x"]) fun _ _ _ _ _ _ us hl => match us, hl with | [_], _ => rfl
  have g_wo : mg "weight_of" = some (.ref f_wo) := PySem.W.mg_of X G a_wo
  have F_lw := fun_mk (st := s_l_weight) l_lw c_lw k_lw
  have b_lw := F_lw.binds (ps := ["_law_x"]) fun _ _ _ _ _ _ us hl => match us, hl with | [_], _ => rfl
  have g_lw : mg "_law_weight" = some (.ref f_lw) := PySem.W.mg_of X G a_lw
  have F_lx := fun_mk (st := s_l_xor) l_lx c_lx k_lx
  have b_lx := F_lx.binds (ps := ["_law_x", "_law_y"]) fun _ _ _ _ _ _ us hl => match us, hl with | [_, _], _ => rfl
  have g_lx : mg "_law_xor" = some (.ref f_lx) := PySem.W.mg_of X G a_lx
  have F_iw := fun_mk (st := s_is_whole) l_iw c_iw k_iw
  have b_iw := F_iw.binds (ps := ["value"]) fun _ _ _ _ _ _ us hl => match us, hl with | [_], _ => rfl
  have g_iw : mg "is_whole" = some (.ref f_iw) := PySem.W.mg_of X G a_iw
  have F_ii := fun_mk (st := s_is_integer) l_ii c_ii k_ii
  have b_ii := F_ii.binds (ps := ["value"]) fun _ _ _ _ _ _ us hl => match us, hl with | [_], _ => rfl
  have g_ii : mg "is_integer" = some (.ref f_ii) := PySem.W.mg_of X G a_ii
  have F_iwd := fun_mk (st := s_is_word) l_iwd c_iwd k_iwd
  have b_iwd := F_iwd.binds (ps := ["value", "many"]) fun _ _ _ _ _ _ us hl => match us, hl with | [_, _], _ => rfl
  have g_iwd : mg "is_word" = some (.ref f_iwd) := PySem.W.mg_of X G a_iwd
  have F_rm := fun_mk (st := s_require_many) l_rm c_rm k_rm
  have b_rm := F_rm.binds (ps := ["value", "most"]) fun _ _ _ _ _ _ us hl => match us, hl with | [_, _], _ => rfl
  have g_rm : mg "require_many" = some (.ref f_rm) := PySem.W.mg_of X G a_rm
  have F_rl := fun_mk (st := s_require_lot) l_rl c_rl k_rl
  have b_rl := F_rl.binds (ps := ["value", "many"]) fun _ _ _ _ _ _ us hl => match us, hl with | [_, _], _ => rfl
  have g_rl : mg "require_lot" = some (.ref f_rl) := PySem.W.mg_of X G a_rl
  have F_rls := fun_mk (st := s_require_lots) l_rls c_rls k_rls
  have b_rls := F_rls.binds (ps := ["firsts", "seconds", "many"]) fun _ _ _ _ _ _ us hl => match us, hl with | [_, _, _], _ => rfl
  have g_rls : mg "require_lots" = some (.ref f_rls) := PySem.W.mg_of X G a_rls
  have F_pw := fun_mk (st := s_pair_with) l_pw c_pw k_pw
  have b_pw := F_pw.binds (ps := ["lot", "members", "apart"]) fun _ _ _ _ _ _ us hl => match us, hl with | [_, _, _], _ => rfl
  have g_pw : mg "pair_with" = some (.ref f_pw) := PySem.W.mg_of X G a_pw
  have F_ci := fun_mk (st := s_clash_in) l_ci c_ci k_ci
  have b_ci := F_ci.binds (ps := ["firsts", "seconds", "many"]) fun _ _ _ _ _ _ us hl => match us, hl with | [_, _, _], _ => rfl
  have g_ci : mg "clash_in" = some (.ref f_ci) := PySem.W.mg_of X G a_ci
  have F_al := fun_mk (st := s_are_let) l_al c_al k_al
  have b_al := F_al.binds (ps := ["firsts", "seconds", "many"]) fun _ _ _ _ _ _ us hl => match us, hl with | [_, _, _], _ => rfl
  have g_al : mg "are_let" = some (.ref f_al) := PySem.W.mg_of X G a_al
  have F_cl := fun_mk (st := s_clash) l_cl c_cl k_cl
  have b_cl := F_cl.binds (ps := ["firsts", "seconds", "many"]) fun _ _ _ _ _ _ us hl => match us, hl with | [_, _, _], _ => rfl
  have g_cl : mg "clash" = some (.ref f_cl) := PySem.W.mg_of X G a_cl
  have F_ic := fun_mk (st := s_is_clash) l_ic c_ic k_ic
  have b_ic := F_ic.binds (ps := ["firsts", "seconds", "many", "value"]) fun _ _ _ _ _ _ us hl => match us, hl with | [_, _, _, _], _ => rfl
  have g_ic : mg "is_clash" = some (.ref f_ic) := PySem.W.mg_of X G a_ic
  have F_gr := fun_mk (st := s_greatest_let) l_gr c_gr k_gr
  have b_gr := F_gr.binds (ps := ["many"]) fun _ _ _ _ _ _ us hl => match us, hl with | [_], _ => rfl
  have g_gr : mg "greatest_let" = some (.ref f_gr) := PySem.W.mg_of X G a_gr
  have F_lj := fun_mk (st := s_l_jug) l_lj c_lj k_lj
  have b_lj := F_lj.binds (ps := ["_law_script", "_law_spot"]) fun _ _ _ _ _ _ us hl => match us, hl with | [_, _], _ => rfl
  have g_lj : mg "_law_jug" = some (.ref f_lj) := PySem.W.mg_of X G a_lj
  have F_lp := fun_mk (st := s_l_pour) l_lp c_lp k_lp
  have b_lp := F_lp.binds (ps := ["_law_jug_here", "_law_many"]) fun _ _ _ _ _ _ us hl => match us, hl with | [_, _], _ => rfl
  have g_lp : mg "_law_pour" = some (.ref f_lp) := PySem.W.mg_of X G a_lp
  have F_lo := fun_mk (st := s_l_of) l_lo c_lo k_lo
  have b_lo := F_lo.binds (ps := ["_law_jug_here", "_law_items"]) fun _ _ _ _ _ _ us hl => match us, hl with | [_, _], _ => rfl
  have g_lo : mg "_law_of" = some (.ref f_lo) := PySem.W.mg_of X G a_lo
  have F_lc := fun_mk (st := s_l_clashes) l_lc c_lc k_lc
  have b_lc := F_lc.binds (ps := ["_law_firsts", "_law_seconds"]) fun _ _ _ _ _ _ us hl => match us, hl with | [_, _], _ => rfl
  have g_lc : mg "_law_clashes" = some (.ref f_lc) := PySem.W.mg_of X G a_lc
  have F_ll := fun_mk (st := s_l_lot) l_ll c_ll k_ll
  have b_ll := F_ll.binds (ps := ["_law_jug_here", "_law_many", "_law_most"]) fun _ _ _ _ _ _ us hl => match us, hl with | [_, _, _], _ => rfl
  have g_ll : mg "_law_lot" = some (.ref f_ll) := PySem.W.mg_of X G a_ll
  have F_lm := fun_mk (st := s_l_moved) l_lm c_lm k_lm
  have b_lm := F_lm.binds (ps := ["_law_lot_here", "_law_word"]) fun _ _ _ _ _ _ us hl => match us, hl with | [_, _], _ => rfl
  have g_lm : mg "_law_moved" = some (.ref f_lm) := PySem.W.mg_of X G a_lm
  have F_lpt := fun_mk (st := s_l_part) l_lpt c_lpt k_lpt
  have b_lpt := F_lpt.binds (ps := ["_law_jug_here", "_law_lot_here"]) fun _ _ _ _ _ _ us hl => match us, hl with | [_, _], _ => rfl
  have g_lpt : mg "_law_part" = some (.ref f_lpt) := PySem.W.mg_of X G a_lpt
  have F_ld := fun_mk (st := s_l_is_due) l_ld c_ld k_ld
  have b_ld := F_ld.binds (ps := ["_law_firsts", "_law_seconds", "_law_value"]) fun _ _ _ _ _ _ us hl => match us, hl with | [_, _, _], _ => rfl
  have g_ld : mg "_law_is_due" = some (.ref f_ld) := PySem.W.mg_of X G a_ld
  have F_ln := fun_mk (st := s_l_near) l_ln c_ln k_ln
  have b_ln := F_ln.binds (ps := ["_law_jug_here", "_law_firsts", "_law_seconds", "_law_due"]) fun _ _ _ _ _ _ us hl => match us, hl with | [_, _, _, _], _ => rfl
  have g_ln : mg "_law_near" = some (.ref f_ln) := PySem.W.mg_of X G a_ln
  have F_lr := fun_mk (st := s_l_right) l_lr c_lr k_lr
  have b_lr := F_lr.binds (ps := ["_law_jug_here"]) fun _ _ _ _ _ _ us hl => match us, hl with | [_], _ => rfl
  have g_lr : mg "_law_right" = some (.ref f_lr) := PySem.W.mg_of X G a_lr
  have F_lg := fun_mk (st := s_l_is_greatest) l_lg c_lg k_lg
  have b_lg := F_lg.binds (ps := ["_law_many", "_law_size"]) fun _ _ _ _ _ _ us hl => match us, hl with | [_, _], _ => rfl
  have g_lg : mg "_law_is_greatest" = some (.ref f_lg) := PySem.W.mg_of X G a_lg
  have F_law := fun_mk (st := s_law) l_law c_law k_law
  have b_law := F_law.binds (ps := ["_law_script"]) fun _ _ _ _ _ _ us hl => match us, hl with | [_], _ => rfl
  have m_next : mg "next" = none := PySem.W.mg_none_of X G z_next
  have m_int : mg "int" = none := PySem.W.mg_none_of X G z_int
  have m_isinstance : mg "isinstance" = none := PySem.W.mg_none_of X G z_isinstance
  have m_bool : mg "bool" = none := PySem.W.mg_none_of X G z_bool
  have m_tuple : mg "tuple" = none := PySem.W.mg_none_of X G z_tuple
  have m_all : mg "all" = none := PySem.W.mg_none_of X G z_all
  have m_zip : mg "zip" = none := PySem.W.mg_none_of X G z_zip
  have m_range : mg "range" = none := PySem.W.mg_none_of X G z_range
  have m_min : mg "min" = none := PySem.W.mg_none_of X G z_min
  have m_list : mg "list" = none := PySem.W.mg_none_of X G z_list
  have m_len : mg "len" = none := PySem.W.mg_none_of X G z_len
  have m_enumerate : mg "enumerate" = none := PySem.W.mg_none_of X G z_enumerate
  have m_sorted : mg "sorted" = none := PySem.W.mg_none_of X G z_sorted
  have m_sum : mg "sum" = none := PySem.W.mg_none_of X G z_sum
  have m_abs : mg "abs" = none := PySem.W.mg_none_of X G z_abs
  have m_max : mg "max" = none := PySem.W.mg_none_of X G z_max
  have m_set : mg "set" = none := PySem.W.mg_none_of X G z_set
  have m_str : mg "str" = none := PySem.W.mg_none_of X G z_str
  have m_repr : mg "repr" = none := PySem.W.mg_none_of X G z_repr
  have FC : FunC K "pair_with" "pair_with" s_pair_with f_pw (PySem.W.fnOf "pair_with" "pair_with" (defArgs s_pair_with) (defBody s_pair_with) (defScope s_pair_with) .none kV_pw dc_pw pm_pw an_pw (.ref c0) ct_pw) c0 := ⟨⟨oc_pw, od_pw, kV_pw, dc_pw, pm_pw, an_pw, ct_pw, sl_pw, rfl, l_pw, c_pw⟩, k_pw⟩
  refine ⟨PySem.W.fnOf "law" "law" (defArgs s_law) (defBody s_law) (defScope s_law) .none kV_law dc_law pm_law an_law cd_law ct_law, [(c0, P0)], spLaw K P0, ?_, ?_, ?_, fun s u => .of_eq rfl, ?_, ?_⟩
  · intro p hp
    rw [List.mem_singleton.mp hp]
    exact hT
  · intro p hp
    rw [List.mem_singleton.mp hp]
    exact n_P0
  · intro p hp
    rw [List.mem_singleton.mp hp]
    exact hC
  · intro H a ns hl _ hH hS
    exact ⟨a, ns, rfl, hS, ⟨#[], hH (c0, P0) (List.mem_singleton.mpr rfl), (show TriplesOk [] from trivial)⟩, fun _ => rfl⟩
  · intro base hKb hNs hTB
    have tb0 := hTB (c0, P0) (List.mem_singleton.mpr rfl)
    have TB : GxR.TabB base mg c0 P0 := ⟨tb0.code, tb0.bm, tb0.gP⟩
    have G_wo : FnOk l.prog w K mg base CX0 1 f_wo (PySem.W.fnOf "weight_of" "weight_of" (defArgs s_weight_of) (defBody s_weight_of) (defScope s_weight_of) .none kV_wo dc_wo pm_wo an_wo cd_wo ct_wo) ["x"] spWeight := ok_weight_of (k := 0) F_wo
    have G_lw : FnOk l.prog w K mg base CX0 1 f_lw (PySem.W.fnOf "_law_weight" "_law_weight" (defArgs s_l_weight) (defBody s_l_weight) (defScope s_l_weight) .none kV_lw dc_lw pm_lw an_lw cd_lw ct_lw) ["_law_x"] spWeight := ok_l_weight (k := 0) m_int F_lw
    have G_lx : FnOk l.prog w K mg base CX0 1 f_lx (PySem.W.fnOf "_law_xor" "_law_xor" (defArgs s_l_xor) (defBody s_l_xor) (defScope s_l_xor) .none kV_lx dc_lx pm_lx an_lx cd_lx ct_lx) ["_law_x", "_law_y"] spXor := ok_l_xor (k := 0) m_int F_lx
    have G_iw : FnOk l.prog w K mg base CX0 1 f_iw (PySem.W.fnOf "is_whole" "is_whole" (defArgs s_is_whole) (defBody s_is_whole) (defScope s_is_whole) .none kV_iw dc_iw pm_iw an_iw cd_iw ct_iw) ["value"] (spWhole K) := ok_is_whole (k := 0) m_isinstance m_int m_bool F_iw
    have G_ii : FnOk l.prog w K mg base CX0 2 f_ii (PySem.W.fnOf "is_integer" "is_integer" (defArgs s_is_integer) (defBody s_is_integer) (defScope s_is_integer) .none kV_ii dc_ii pm_ii an_ii cd_ii ct_ii) ["value"] spInteger := ok_is_integer (k := 0) mB' g_iw F_iw b_iw (G_iw.mono (by decide)) F_ii
    have G_iwd : FnOk l.prog w K mg base CX0 2 f_iwd (PySem.W.fnOf "is_word" "is_word" (defArgs s_is_word) (defBody s_is_word) (defScope s_is_word) .none kV_iwd dc_iwd pm_iwd an_iwd cd_iwd ct_iwd) ["value", "many"] spWord := ok_is_word (k := 0) g_iw F_iw b_iw (G_iw.mono (by decide)) F_iwd
    have G_rm : FnOk l.prog w K mg base CX0 3 f_rm (PySem.W.fnOf "require_many" "require_many" (defArgs s_require_many) (defBody s_require_many) (defScope s_require_many) .none kV_rm dc_rm pm_rm an_rm cd_rm ct_rm) ["value", "most"] spMany := ok_require_many (k := 0) g_ii F_ii b_ii (G_ii.mono (by decide)) F_rm
    have G_rl : FnOk l.prog w K mg base CX0 3 f_rl (PySem.W.fnOf "require_lot" "require_lot" (defArgs s_require_lot) (defBody s_require_lot) (defScope s_require_lot) .none kV_rl dc_rl pm_rl an_rl cd_rl ct_rl) ["value", "many"] (spReqLot K) := ok_require_lot (k := 0) m_isinstance m_tuple m_all m_zip g_iwd F_iwd b_iwd (G_iwd.mono (by decide)) F_rl
    have G_rls : FnOk l.prog w K mg base CX0 4 f_rls (PySem.W.fnOf "require_lots" "require_lots" (defArgs s_require_lots) (defBody s_require_lots) (defScope s_require_lots) .none kV_rls dc_rls pm_rls an_rls cd_rls ct_rls) ["firsts", "seconds", "many"] (spReqLots K) := ok_require_lots (k := 0) (PySem.W.mg_of X G a_MM) g_rm F_rm b_rm (G_rm.mono (by decide)) g_rl F_rl b_rl (G_rl.mono (by decide)) F_rls
    have G_pw : FnOk l.prog w K mg base CX0 1 f_pw (PySem.W.fnOf "pair_with" "pair_with" (defArgs s_pair_with) (defBody s_pair_with) (defScope s_pair_with) .none kV_pw dc_pw pm_pw an_pw (.ref c0) ct_pw) ["lot", "members", "apart"] (spPair K P0) := ok_pair_with (k := 0) m_next TB FC
    have G_ci : FnOk l.prog w K mg base CX0 2 f_ci (PySem.W.fnOf "clash_in" "clash_in" (defArgs s_clash_in) (defBody s_clash_in) (defScope s_clash_in) .none kV_ci dc_ci pm_ci an_ci cd_ci ct_ci) ["firsts", "seconds", "many"] (spClashIn K P0) := ok_clash_in (k := 0) (c := c0) m_range g_wo F_wo b_wo (G_wo.mono (by decide)) g_pw k_pw b_pw G_pw F_ci
    have G_al : FnOk l.prog w K mg base CX0 5 f_al (PySem.W.fnOf "are_let" "are_let" (defArgs s_are_let) (defBody s_are_let) (defScope s_are_let) .none kV_al dc_al pm_al an_al cd_al ct_al) ["firsts", "seconds", "many"] (spAreLet K P0) := ok_are_let (k := 0) g_rls F_rls b_rls (G_rls.mono (by decide)) g_ci F_ci b_ci (G_ci.mono (by decide)) F_al
    have G_cl : FnOk l.prog w K mg base CX0 5 f_cl (PySem.W.fnOf "clash" "clash" (defArgs s_clash) (defBody s_clash) (defScope s_clash) .none kV_cl dc_cl pm_cl an_cl cd_cl ct_cl) ["firsts", "seconds", "many"] (spClash K P0) := ok_clash (k := 0) g_rls F_rls b_rls (G_rls.mono (by decide)) g_ci F_ci b_ci (G_ci.mono (by decide)) F_cl
    have G_ic : FnOk l.prog w K mg base CX0 5 f_ic (PySem.W.fnOf "is_clash" "is_clash" (defArgs s_is_clash) (defBody s_is_clash) (defScope s_is_clash) .none kV_ic dc_ic pm_ic an_ic cd_ic ct_ic) ["firsts", "seconds", "many", "value"] (spIsClash K) := ok_is_clash (k := 0) m_isinstance m_tuple m_len m_all g_rls F_rls b_rls (G_rls.mono (by decide)) g_iw F_iw b_iw (G_iw.mono (by decide)) g_wo F_wo b_wo (G_wo.mono (by decide)) F_ic
    have G_gr : FnOk l.prog w K mg base CX0 4 f_gr (PySem.W.fnOf "greatest_let" "greatest_let" (defArgs s_greatest_let) (defBody s_greatest_let) (defScope s_greatest_let) .none kV_gr dc_gr pm_gr an_gr cd_gr ct_gr) ["many"] (spGreat K) := ok_greatest_let (k := 0) hG5 (PySem.W.mg_of X G a_GR) (PySem.W.mg_of X G a_MM) (PySem.W.mg_of X G a_MK) m_range m_min m_tuple m_list g_rm F_rm b_rm (G_rm.mono (by decide)) F_gr
    have G_lj : FnOk l.prog w K mg base CX0 1 f_lj (PySem.W.fnOf "_law_jug" "_law_jug" (defArgs s_l_jug) (defBody s_l_jug) (defScope s_l_jug) .none kV_lj dc_lj pm_lj an_lj cd_lj ct_lj) ["_law_script", "_law_spot"] (spJug K) := ok_l_jug (k := 0) m_int m_len m_sum m_abs m_max F_lj
    have G_lp : FnOk l.prog w K mg base CX0 1 f_lp (PySem.W.fnOf "_law_pour" "_law_pour" (defArgs s_l_pour) (defBody s_l_pour) (defScope s_l_pour) .none kV_lp dc_lp pm_lp an_lp cd_lp ct_lp) ["_law_jug_here", "_law_many"] spPour := ok_l_pour (k := 0) m_int F_lp
    have G_lo : FnOk l.prog w K mg base CX0 2 f_lo (PySem.W.fnOf "_law_of" "_law_of" (defArgs s_l_of) (defBody s_l_of) (defScope s_l_of) .none kV_lo dc_lo pm_lo an_lo cd_lo ct_lo) ["_law_jug_here", "_law_items"] (spOf K) := ok_l_of (k := 0) m_len g_lp F_lp b_lp (G_lp.mono (by decide)) F_lo
    have G_lc : FnOk l.prog w K mg base CX0 2 f_lc (PySem.W.fnOf "_law_clashes" "_law_clashes" (defArgs s_l_clashes) (defBody s_l_clashes) (defScope s_l_clashes) .none kV_lc dc_lc pm_lc an_lc cd_lc ct_lc) ["_law_firsts", "_law_seconds"] (spClashes K) := ok_l_clashes (k := 0) m_enumerate g_lx F_lx b_lx (G_lx.mono (by decide)) g_lw F_lw b_lw (G_lw.mono (by decide)) F_lc
    have G_ll : FnOk l.prog w K mg base CX0 2 f_ll (PySem.W.fnOf "_law_lot" "_law_lot" (defArgs s_l_lot) (defBody s_l_lot) (defScope s_l_lot) .none kV_ll dc_ll pm_ll an_ll cd_ll ct_ll) ["_law_jug_here", "_law_many", "_law_most"] (spLot K) := ok_l_lot (k := 0) m_range m_min m_tuple m_list m_len m_sorted m_set g_lp F_lp b_lp (G_lp.mono (by decide)) g_lx F_lx b_lx (G_lx.mono (by decide)) g_lw F_lw b_lw (G_lw.mono (by decide)) F_ll
    have G_lm : FnOk l.prog w K mg base CX0 2 f_lm (PySem.W.fnOf "_law_moved" "_law_moved" (defArgs s_l_moved) (defBody s_l_moved) (defScope s_l_moved) .none kV_lm dc_lm pm_lm an_lm cd_lm ct_lm) ["_law_lot_here", "_law_word"] (spMoved K) := ok_l_moved (k := 0) m_tuple m_sorted g_lx F_lx b_lx (G_lx.mono (by decide)) F_lm
    have G_lpt : FnOk l.prog w K mg base CX0 2 f_lpt (PySem.W.fnOf "_law_part" "_law_part" (defArgs s_l_part) (defBody s_l_part) (defScope s_l_part) .none kV_lpt dc_lpt pm_lpt an_lpt cd_lpt ct_lpt) ["_law_jug_here", "_law_lot_here"] (spPart K) := ok_l_part (k := 0) m_tuple g_lp F_lp b_lp (G_lp.mono (by decide)) F_lpt
    have G_ld : FnOk l.prog w K mg base CX0 2 f_ld (PySem.W.fnOf "_law_is_due" "_law_is_due" (defArgs s_l_is_due) (defBody s_l_is_due) (defScope s_l_is_due) .none kV_ld dc_ld pm_ld an_ld cd_ld ct_ld) ["_law_firsts", "_law_seconds", "_law_value"] (spDue K) := ok_l_is_due (k := 0) m_isinstance m_tuple m_len m_int m_bool g_lx F_lx b_lx (G_lx.mono (by decide)) g_lw F_lw b_lw (G_lw.mono (by decide)) F_ld
    have G_ln : FnOk l.prog w K mg base CX0 3 f_ln (PySem.W.fnOf "_law_near" "_law_near" (defArgs s_l_near) (defBody s_l_near) (defScope s_l_near) .none kV_ln dc_ln pm_ln an_ln cd_ln ct_ln) ["_law_jug_here", "_law_firsts", "_law_seconds", "_law_due"] (spNear K) := ok_l_near (k := 0) m_tuple m_str g_lo F_lo b_lo (G_lo.mono (by decide)) F_ln
    have G_lr : FnOk l.prog w K mg base CX0 6 f_lr (PySem.W.fnOf "_law_right" "_law_right" (defArgs s_l_right) (defBody s_l_right) (defScope s_l_right) .none kV_lr dc_lr pm_lr an_lr cd_lr ct_lr) ["_law_jug_here"] (spRight P0) := ok_l_right (k := 0) m_list m_range m_repr g_lp F_lp b_lp (G_lp.mono (by decide)) g_ll F_ll b_ll (G_ll.mono (by decide)) g_lc F_lc b_lc (G_lc.mono (by decide)) g_lo F_lo b_lo (G_lo.mono (by decide)) g_lm F_lm b_lm (G_lm.mono (by decide)) g_al F_al b_al (G_al.mono (by decide)) g_cl F_cl b_cl (G_cl.mono (by decide)) g_ld F_ld b_ld (G_ld.mono (by decide)) g_lpt F_lpt b_lpt (G_lpt.mono (by decide)) g_ln F_ln b_ln (G_ln.mono (by decide)) g_ic F_ic b_ic (G_ic.mono (by decide)) F_lr
    have G_lg : FnOk l.prog w K mg base CX0 6 f_lg (PySem.W.fnOf "_law_is_greatest" "_law_is_greatest" (defArgs s_l_is_greatest) (defBody s_l_is_greatest) (defScope s_l_is_greatest) .none kV_lg dc_lg pm_lg an_lg cd_lg ct_lg) ["_law_many", "_law_size"] (spIsGr P0) := ok_l_is_greatest (k := 0) m_range m_tuple m_list m_len m_sorted m_set m_isinstance g_gr F_gr b_gr (G_gr.mono (by decide)) g_lx F_lx b_lx (G_lx.mono (by decide)) g_lw F_lw b_lw (G_lw.mono (by decide)) g_al F_al b_al (G_al.mono (by decide)) F_lg
    exact ok_law (k := 0) m_range m_max m_min m_len m_tuple g_lj F_lj b_lj (G_lj.mono (by decide)) g_lr F_lr b_lr (G_lr.mono (by decide)) g_lg F_lg b_lg (G_lg.mono (by decide)) g_ic F_ic b_ic (G_ic.mono (by decide)) g_al F_al b_al (G_al.mono (by decide)) F_law
end Sq
set_option Elab.async false
set_option linter.all false
set_option maxRecDepth 100000
open PySem PySem.W PyProof.Rows
set_option maxHeartbeats 0 in
theorem PySem.Challenge.cw_squaretimes_k75_whole_lots_that_are_let_holds : PySem.Challenge.rw_squaretimes_k75_whole_lots_that_are_let.Holds := by
  w_on; o_law; k_head; (case hw => w_witness2)
  k_fill
  refine Sq.walk_sq (l := PySem.Challenge.rw_squaretimes_k75_whole_lots_that_are_let) (n := 63) (k := 7) (x := "_law_script") "pair_with" rfl (by decide) rfl ⟨rfl, by decide, by decide⟩ (by rfl) (fun w h Y => PySem.W.kIn_of Y) ?F
  case F =>
    intro w mg fa h KX G hmg hT hV
    refine' Sq.all_mk KX G hmg hT hV (List.mem_singleton.mpr rfl) ?a_wo ?l_wo ?c_wo ?k_wo ?a_lw ?l_lw ?c_lw ?k_lw ?a_lx ?l_lx ?c_lx ?k_lx ?a_iw ?l_iw ?c_iw ?k_iw ?a_ii ?l_ii ?c_ii ?k_ii ?a_iwd ?l_iwd ?c_iwd ?k_iwd ?a_rm ?l_rm ?c_rm ?k_rm ?a_rl ?l_rl ?c_rl ?k_rl ?a_rls ?l_rls ?c_rls ?k_rls ?a_pw ?l_pw ?c_pw ?k_pw ?a_ci ?l_ci ?c_ci ?k_ci ?a_al ?l_al ?c_al ?k_al ?a_cl ?l_cl ?c_cl ?k_cl ?a_ic ?l_ic ?c_ic ?k_ic ?a_gr ?l_gr ?c_gr ?k_gr ?a_lj ?l_lj ?c_lj ?k_lj ?a_lp ?l_lp ?c_lp ?k_lp ?a_lo ?l_lo ?c_lo ?k_lo ?a_lc ?l_lc ?c_lc ?k_lc ?a_ll ?l_ll ?c_ll ?k_ll ?a_lm ?l_lm ?c_lm ?k_lm ?a_lpt ?l_lpt ?c_lpt ?k_lpt ?a_ld ?l_ld ?c_ld ?k_ld ?a_ln ?l_ln ?c_ln ?k_ln ?a_lr ?l_lr ?c_lr ?k_lr ?a_lg ?l_lg ?c_lg ?k_lg ?a_law ?l_law ?c_law ?k_law ?z_next ?z_int ?z_isinstance ?z_bool ?z_tuple ?z_all ?z_zip ?z_range ?z_min ?z_list ?z_len ?z_enumerate ?z_sorted ?z_sum ?z_abs ?z_max ?z_set ?z_str ?z_repr ?a_MM ?a_MK ?a_GR ?l_GR ?v_GR ?l_c0 ?v_c0 ?n_P0
    (case a_wo => k_is)
    (case l_wo => k_is)
    (case c_wo => k_is)
    (case k_wo => k_is)
    (case a_lw => k_is)
    (case l_lw => k_is)
    (case c_lw => k_is)
    (case k_lw => k_is)
    (case a_lx => k_is)
    (case l_lx => k_is)
    (case c_lx => k_is)
    (case k_lx => k_is)
    (case a_iw => k_is)
    (case l_iw => k_is)
    (case c_iw => k_is)
    (case k_iw => k_is)
    (case a_ii => k_is)
    (case l_ii => k_is)
    (case c_ii => k_is)
    (case k_ii => k_is)
    (case a_iwd => k_is)
    (case l_iwd => k_is)
    (case c_iwd => k_is)
    (case k_iwd => k_is)
    (case a_rm => k_is)
    (case l_rm => k_is)
    (case c_rm => k_is)
    (case k_rm => k_is)
    (case a_rl => k_is)
    (case l_rl => k_is)
    (case c_rl => k_is)
    (case k_rl => k_is)
    (case a_rls => k_is)
    (case l_rls => k_is)
    (case c_rls => k_is)
    (case k_rls => k_is)
    (case a_pw => k_is)
    (case l_pw => k_is)
    (case c_pw => k_is)
    (case k_pw => k_is)
    (case a_ci => k_is)
    (case l_ci => k_is)
    (case c_ci => k_is)
    (case k_ci => k_is)
    (case a_al => k_is)
    (case l_al => k_is)
    (case c_al => k_is)
    (case k_al => k_is)
    (case a_cl => k_is)
    (case l_cl => k_is)
    (case c_cl => k_is)
    (case k_cl => k_is)
    (case a_ic => k_is)
    (case l_ic => k_is)
    (case c_ic => k_is)
    (case k_ic => k_is)
    (case a_gr => k_is)
    (case l_gr => k_is)
    (case c_gr => k_is)
    (case k_gr => k_is)
    (case a_lj => k_is)
    (case l_lj => k_is)
    (case c_lj => k_is)
    (case k_lj => k_is)
    (case a_lp => k_is)
    (case l_lp => k_is)
    (case c_lp => k_is)
    (case k_lp => k_is)
    (case a_lo => k_is)
    (case l_lo => k_is)
    (case c_lo => k_is)
    (case k_lo => k_is)
    (case a_lc => k_is)
    (case l_lc => k_is)
    (case c_lc => k_is)
    (case k_lc => k_is)
    (case a_ll => k_is)
    (case l_ll => k_is)
    (case c_ll => k_is)
    (case k_ll => k_is)
    (case a_lm => k_is)
    (case l_lm => k_is)
    (case c_lm => k_is)
    (case k_lm => k_is)
    (case a_lpt => k_is)
    (case l_lpt => k_is)
    (case c_lpt => k_is)
    (case k_lpt => k_is)
    (case a_ld => k_is)
    (case l_ld => k_is)
    (case c_ld => k_is)
    (case k_ld => k_is)
    (case a_ln => k_is)
    (case l_ln => k_is)
    (case c_ln => k_is)
    (case k_ln => k_is)
    (case a_lr => k_is)
    (case l_lr => k_is)
    (case c_lr => k_is)
    (case k_lr => k_is)
    (case a_lg => k_is)
    (case l_lg => k_is)
    (case c_lg => k_is)
    (case k_lg => k_is)
    (case a_law => k_is)
    (case l_law => k_is)
    (case c_law => k_is)
    (case k_law => k_is)
    (case z_next => k_is)
    (case z_int => k_is)
    (case z_isinstance => k_is)
    (case z_bool => k_is)
    (case z_tuple => k_is)
    (case z_all => k_is)
    (case z_zip => k_is)
    (case z_range => k_is)
    (case z_min => k_is)
    (case z_list => k_is)
    (case z_len => k_is)
    (case z_enumerate => k_is)
    (case z_sorted => k_is)
    (case z_sum => k_is)
    (case z_abs => k_is)
    (case z_max => k_is)
    (case z_set => k_is)
    (case z_str => k_is)
    (case z_repr => k_is)
    (case a_MM => k_is)
    (case a_MK => k_is)
    (case a_GR => k_is)
    (case l_GR => k_is)
    (case v_GR => exact .cons ⟨_, rfl⟩ (.cons ⟨_, rfl⟩ (.cons ⟨_, rfl⟩ (.cons ⟨_, rfl⟩ (.cons ⟨_, rfl⟩ (.cons ⟨_, rfl⟩ (.cons ⟨_, rfl⟩ (.cons ⟨_, rfl⟩ (.cons ⟨_, rfl⟩ (.cons ⟨_, rfl⟩ .nil))))))))))
    (case l_c0 => k_is)
    (case v_c0 => exact rfl)
    (case n_P0 => exact rfl)
