import PyProof.Rows.All
import Wide.All
import OpenK.AllK
import Wide.FinOn
import HandS.ForMost
import HandS.Wide
import HandS.WideBits
import HandS.IsInst
import HandS.Codes
import PySem.Challenge.RW_pulseshare_k08_whole_never_a_pulse_apart
set_option Elab.async false
set_option linter.all false
set_option maxRecDepth 100000
set_option maxHeartbeats 4000000
namespace My
open PySem L2
def top (i : Nat) : Stmt := PySem.Challenge.pw_pulseshare_k08_whole_never_a_pulse_apart.main.body.getD i (.Pass ⟨0, 0, 0, 0⟩)
/-! ### calls in short -/
/-- a def of the text, where it stands, and how its arguments bind -/
structure FunG (K : PySem.W.Frag) (mg : Str → Option Value) (x : Str) (st : Stmt) (f : Addr) (fd : FuncData) (ps : List Str) : Prop where
  fn : Fun K x x st f fd
  mgf : mg x = some (.ref f)
  b : Binds K fd ps []
/-- a def that may be called by its name -/
structure Cl (P : Program) (w : World) (K : PySem.W.Frag) (mg : Str → Option Value) (base : Heap) (CX : CXT) (k : Nat) (x : Str) (sp : Sp) : Prop where
  ex : ∃ (f : Addr) (fd : FuncData) (ps : List Str), FnOk P w K mg base CX k f fd ps sp ∧ mg x = some (.ref f) ∧ PySem.W.keepIn K (.ref f) = true ∧ Binds K fd ps []
theorem FunG.cl {P : Program} {w : World} {K : PySem.W.Frag} {mg : Str → Option Value} {base : Heap} {CX : CXT} {k : Nat} {x : Str} {st : Stmt} {f : Addr} {fd : FuncData} {ps : List Str} {sp : Sp} (F : FunG K mg x st f fd ps) (h : FnOk P w K mg base CX k f fd ps sp) :
    Cl P w K mg base CX k x sp := ⟨f, fd, ps, h, F.mgf, F.fn.kp, F.b⟩
section
variable {X : Cx} {k j : Nat} {x : Str} {p pos : Pos} {e : Expr} {es : List Expr} {t : TA} {sp : Sp}
theorem pe_cl (c : Cl X.prog X.w X.K X.mg X.base CX0 k x sp) (hr : Room j X.A) (hk : k ≤ j) (hg : Gl X x) (ha : PA X (e :: es) t)
    (hdb : (x == ("__debug__" : Str)) = false := by decide) (he : starEach (e :: es) X.env = (false, eval e X.env) :: starEach es X.env := by rfl) (hpl : (backTo pos (starEach es X.env)).any (·.1) = false := by rfl) :
    PE X (.Call (.Name x p) (e :: es) [] pos) (tCall sp [] E0 t) := by
  obtain ⟨f, fd, ps, F, hm, kp, b⟩ := c.ex
  exact pe_call F (hr.mono hk) hg hm kp b .nil pass0 ha hdb he hpl
end
/-! ### rules with the written part said (within a comprehension's block it can't be found by unification) -/
section
variable (K : PySem.W.Frag) {X : Cx}
theorem ixL (h : X.K = K := by rfl) : IxR X (rIxL K) := h ▸ ix_list
theorem ixT (h : X.K = K := by rfl) : IxR X (rIxT K) := h ▸ ix_tup
theorem ixQ (h : X.K = K := by rfl) : IxR X (rIx K) := h ▸ ix_seq
theorem slL (h : X.K = K := by rfl) : SlR X (rSlL K) := h ▸ sl_list
theorem opEqD (hu : X.A.units + 64 < cLine) (h : X.K = K := by rfl) : OpR X (compareOp .Eq) (rEqD K) := h ▸ op_eqD hu
theorem opNeD (hu : X.A.units + 64 < cLine) (h : X.K = K := by rfl) : OpR X (compareOp .NotEq) (rNeD K) := h ▸ op_neD hu
theorem opInQ (h : X.K = K := by rfl) : OpR X (compareOp .In) (rIn K false) := h ▸ op_in_seq
theorem opNotInQ (h : X.K = K := by rfl) : OpR X (compareOp .NotIn) (rIn K true) := h ▸ op_notIn_seq
theorem clLen (h : X.K = K := by rfl) : CallR X (.builtin "len") (fun xs H Q => ∃ p ys, xs = [.ref p] ∧ (SqL K H p ys ∨ SqT K H p ys) ∧ Q (.int ys.length) H) := h ▸ call_len_seq
theorem clList (h : X.K = K := by rfl) : CallR X (.type "list") (fun xs H Q => ∃ p ys, xs = [.ref p] ∧ (SqL K H p ys ∨ SqT K H p ys) ∧ ∀ l, H l = none → Q (.ref l) (upd H l (.lst ys))) := h ▸ call_list_of
theorem clSum (hc : X.calm = true) (h : X.K = K := by rfl) : CallR X (.builtin "sum") (rSum K) := h ▸ cr_sum hc
theorem clMax (hc : X.calm = true) (h : X.K = K := by rfl) : CallR X (.builtin "max") (rMax K) := h ▸ cr_max hc
theorem clMin (hc : X.calm = true) (h : X.K = K := by rfl) : CallR X (.builtin "min") (rMin K) := h ▸ cr_min hc
end
/-! ### the drawing state -/
/-- [script, cells begun, mixed, left of a cell] -/
def StO (a : Addr) (i m c : Int) : HO := .lst [.ref a, .int i, .int m, .int c]
structure Drw (i m c : Int) : Prop where
  i0 : 0 ≤ i
  m0 : 0 ≤ m
  m1 : m < 2147483647
  c0 : 0 ≤ c
/-- all but the state is kept -/
def Keep (st : Addr) (H H' : Hp) : Prop := ∀ b o, b ≠ st → H b = some o → H' b = some o
/-- the state at st is good: its script is the list at a of the ints ns -/
structure SOk (K : PySem.W.Frag) (a : Addr) (ns : List Int) (st : Addr) (H : Hp) : Prop where
  len : ns.length ≤ 63
  sq : ∀ H', Keep st H H' → SqL K H' a (ns.map V.int)
  at_ : ∃ i m c, Drw i m c ∧ H st = some (StO a i m c)
section
variable {K : PySem.W.Frag} {a st p : Addr} {ns : List Int} {H H1 H2 : Hp} {o u : HO} {xs : List V}
theorem Keep.refl (st : Addr) (H : Hp) : Keep st H H := fun _ _ _ h => h
theorem Keep.trans (h : Keep st H H1) (h' : Keep st H1 H2) : Keep st H H2 := fun b o hb e => h' b o hb (h b o hb e)
theorem Keep.new (h : Keep st H H1) (hp : H1 p = none) : Keep st H (upd H1 p o) := fun b u hb e => by
  rw [upd_ne (ne_of_none (h b u hb e) hp)]; exact h b u hb e
theorem Keep.mut (h : Keep st H H1) (hp : H p = none) : Keep st H (upd H1 p o) := fun b u hb e => by
  rw [upd_ne (ne_of_none e hp)]; exact h b u hb e
theorem Keep.atSt (h : Keep st H H1) : Keep st H (upd H1 st o) := fun b u hb e => by
  rw [upd_ne hb]; exact h b u hb e
theorem Keep.free (h : Keep st H H1) (hp : p ≠ st) (e : H1 p = none) : H p = none := by
  cases q : H p with
  | none => rfl
  | some o => rw [h p o hp q] at e; cases e
theorem _root_.L2.Same.keep (h : Same H H1) : Keep st H H1 := fun b u _ e => h b u e
theorem _root_.L2.Same.new (h : Same H H1) (hp : H1 p = none) : Same H (upd H1 p o) := fun b u e => by
  rw [upd_ne (ne_of_none (h b u e) hp)]; exact h b u e
theorem _root_.L2.Same.mut (h : Same H H1) (hp : H p = none) : Same H (upd H1 p o) := fun b u e => by
  rw [upd_ne (ne_of_none e hp)]; exact h b u e
theorem _root_.L2.Same.upd (hp : H p = none) : Same H (upd H p o) := (Same.refl H).new hp
/-- the base heap, in which the state does not stand, is kept -/
theorem _root_.L2.Same.keepAll (h : Same H H1) (hst : H st = none) (k : Keep st H1 H2) : Same H H2 := fun b u e => k b u (ne_of_none e hst) (h b u e)
theorem SOk.now (s : SOk K a ns st H) : SqL K H a (ns.map V.int) := s.sq H (Keep.refl st H)
/-- a script that stood in H stands where all but the state is kept -/
theorem SOk.keep (s : SOk K a ns st H) (k : Keep st H H1) {i m c : Int} (d : Drw i m c) (h : H1 st = some (StO a i m c)) : SOk K a ns st H1 := ⟨s.len, fun H' k' => s.sq H' (k.trans k'), i, m, c, d, h⟩
theorem SOk.same (s : SOk K a ns st H) (k : Same H H1) : SOk K a ns st H1 := by
  obtain ⟨i, m, c, d, h⟩ := s.at_
  exact s.keep k.keep d (k _ _ h)
theorem SOk.new (s : SOk K a ns st H) (hp : H p = none) : SOk K a ns st (L2.upd H p o) := s.same (Same.upd hp)
/-- the state's making -/
theorem SOk.make (hl : ns.length ≤ 63) (hq : SqL K H a (ns.map V.int)) (hst : H st = none) {i m c : Int} (d : Drw i m c) : SOk K a ns st (L2.upd H st (StO a i m c)) :=
  ⟨hl, fun _ k' => ((Same.upd hst).keepAll hst k').seq hq, i, m, c, d, upd_same⟩
/-- a list that did not stand in the base heap H0 is changed -/
theorem SOk.mut {H0 : Hp} (s : SOk K a ns st H) (hq : SqL K H0 a (ns.map V.int)) (hst : H0 st = none) (k : Same H0 H) (hp : H0 p = none) (hps : p ≠ st) : SOk K a ns st (L2.upd H p o) := by
  obtain ⟨i, m, c, d, h⟩ := s.at_
  exact ⟨s.len, fun _ k' => ((k.mut hp).keepAll hst k').seq hq, i, m, c, d, by rw [upd_ne hps.symm]; exact h⟩
theorem SOk.ne_of (s : SOk K a ns st H) (hp : H p = none) : p ≠ st := by
  obtain ⟨i, m, c, d, h⟩ := s.at_
  exact (ne_of_none h hp).symm
/-- .. that did not stand in a heap with a good state -/
theorem SOk.mutK {H0 : Hp} (s : SOk K a ns st H) (s0 : SOk K a ns st H0) (k : Keep st H0 H) (hp : H0 p = none) : SOk K a ns st (L2.upd H p o) := by
  obtain ⟨i, m, c, d, h⟩ := s.at_
  have hps : p ≠ st := s0.ne_of hp
  exact ⟨s.len, fun H' k' => s0.sq H' ((k.mut hp).trans k'), i, m, c, d, by rw [upd_ne hps.symm]; exact h⟩
end
/-! ### lists of ints -/
theorem getV {ns : List Int} {i : Nat} {y : V} (h : (ns.map V.int)[i]? = some y) : ∃ z, ns[i]? = some z ∧ y = V.int z := by
  rw [List.getElem?_map] at h
  cases e : ns[i]? with
  | none => rw [e] at h; cases h
  | some z => rw [e] at h; exact ⟨z, rfl, (Option.some.inj h).symm⟩
theorem atV {ns : List Int} {z : Int} {j : Nat} (e : z = (j : Int)) (h : j < ns.length) : atI (ns.map V.int) z = some (V.int (ns.getD j 0)) := by
  refine at_of e ?_
  rw [List.getElem?_map, List.getElem?_eq_getElem h]
  simp [List.getD, List.getElem?_eq_getElem h]
theorem small_of {n m : Nat} (h : n ≤ m) (hm : m < 16000000 := by decide) : n < sizeLine := by rw [sizeLine_eq]; omega
theorem small_le {n m : Nat} (h : n ≤ m) (hm : m < 16000000 := by decide) : n ≤ sizeLine := by rw [sizeLine_eq]; omega
theorem nat_pow {z : Int} {n : Nat} (h0 : 0 ≤ z) (h1 : z < 2 ^ n) : z.natAbs < 2 ^ n := by
  have e : ((2 ^ n : Nat) : Int) = (2 : Int) ^ n := by simp
  omega
/-! ### even frames -/
/-- beat k of the even frame of a share by a turn -/
def evB (b p t : Int) (k : Nat) : Int := ((k : Int) + 1 + t) * p / b - ((k : Int) + t) * p / b
def evL (b p t : Int) : List Int := (List.range b.toNat).map (evB b p t)
theorem evL_len (b p t : Int) : (evL b p t).length = b.toNat := by simp [evL]
/-- what is left beside wholes ahead of beat k -/
def evR (b p t : Int) (k : Nat) : Int := ((k : Int) + t) * p % b
theorem evR_range {b : Int} (hb : 0 < b) (p t : Int) (k : Nat) : 0 ≤ evR b p t k ∧ evR b p t k < b := ⟨Int.emod_nonneg _ (by omega), Int.emod_lt_of_pos _ hb⟩
theorem ev_step (b p t : Int) (k : Nat) : ((k : Int) + 1 + t) * p = ((k : Int) + t) * p + p := by
  rw [show (k : Int) + 1 + t = ((k : Int) + t) + 1 by omega, Int.add_mul, Int.one_mul]
/-- the beat by what is left -/
theorem evB_eq {b p : Int} (hb : 0 < b) (h0 : 0 ≤ p) (h1 : p ≤ b) (t : Int) (k : Nat) : evB b p t k = if b ≤ evR b p t k + p then 1 else 0 := by
  unfold evB evR
  rw [ev_step b]
  generalize ((k : Int) + t) * p = z
  have e := Int.mul_ediv_add_emod z b
  have r0 := Int.emod_nonneg z (show b ≠ 0 by omega)
  have r1 := Int.emod_lt_of_pos z hb
  have q : z + p = (z % b + p) + z / b * b := by rw [Int.mul_comm]; omega
  rw [q, Int.add_mul_ediv_right _ _ (show b ≠ 0 by omega)]
  by_cases c : b ≤ z % b + p
  · rw [if_pos c]
    have : (z % b + p) / b = 1 := by
      have e1 : z % b + p = (z % b + p - b) + 1 * b := by omega
      rw [e1, Int.add_mul_ediv_right _ _ (show b ≠ 0 by omega), Int.ediv_eq_zero_of_lt (by omega) (by omega)]
      omega
    omega
  · rw [if_neg c, Int.ediv_eq_zero_of_lt (by omega) (by omega)]
    omega
theorem evR_next {b p : Int} (hb : 0 < b) (h0 : 0 ≤ p) (h1 : p ≤ b) (t : Int) (k : Nat) : evR b p t (k + 1) = evR b p t k + p - b * evB b p t k := by
  rw [evB_eq hb h0 h1]
  unfold evR
  have e0 : (((k + 1 : Nat) : Int) + t) * p = ((k : Int) + t) * p + p := by
    have e1 : (((k + 1 : Nat) : Int) + t) = (k : Int) + 1 + t := by omega
    rw [e1, ev_step b]
  rw [e0]
  generalize ((k : Int) + t) * p = z
  have e := Int.mul_ediv_add_emod z b
  have r0 := Int.emod_nonneg z (show b ≠ 0 by omega)
  have r1 := Int.emod_lt_of_pos z hb
  have q : z + p = (z % b + p) + z / b * b := by rw [Int.mul_comm]; omega
  rw [q, Int.add_mul_emod_self_right]
  by_cases c : b ≤ z % b + p
  · rw [if_pos c]
    have e1 : z % b + p = (z % b + p - b) + 1 * b := by omega
    rw [e1, Int.add_mul_emod_self_right]
    by_cases c2 : z % b + p - b < b
    · rw [Int.emod_eq_of_lt (by omega) c2]; omega
    · omega
  · rw [if_neg c, Int.emod_eq_of_lt (by omega) (by omega)]; omega
theorem evB_01 {b p : Int} (hb : 0 < b) (h0 : 0 ≤ p) (h1 : p ≤ b) (t : Int) (k : Nat) : evB b p t k = 0 ∨ evB b p t k = 1 := by
  rw [evB_eq hb h0 h1]; split <;> simp
theorem evL_get {b p t : Int} {k : Nat} (h : k < b.toNat) : (evL b p t)[k]? = some (evB b p t k) := by
  unfold evL; simp [h]
theorem evL_take_sum (b p t : Int) : ∀ n : Nat, (((List.range n).map (evB b p t)).sum : Int) = ((n : Int) + t) * p / b - t * p / b
  | 0 => by simp
  | n + 1 => by
    rw [List.range_succ, List.map_append, List.sum_append, evL_take_sum b p t n]
    simp only [List.map_cons, List.map_nil, List.sum_cons, List.sum_nil, evB]
    have : (((n + 1 : Nat) : Int) + t) = (n : Int) + 1 + t := by omega
    rw [this]; omega
theorem evL_sum {b : Int} (hb : 0 < b) (p t : Int) : (evL b p t).sum = p := by
  unfold evL
  rw [evL_take_sum, Int.toNat_of_nonneg (by omega), Int.add_mul, Int.add_comm, Int.mul_comm b p, Int.add_mul_ediv_right _ _ (show b ≠ 0 by omega)]
  omega
/-! ### windows of frames -/
/-- beat k of a frame that goes round -/
def cyc (fs : List Int) (k : Nat) : Int := fs.getD (k % fs.length) 0
/-- the first k beats together, going round -/
def psum (fs : List Int) : Nat → Int
  | 0 => 0
  | k + 1 => psum fs k + cyc fs k
/-- how many are on in the window of w beats from k on -/
def win (fs : List Int) (w k : Nat) : Int := psum fs (k + w) - psum fs k
theorem cyc_add (fs : List Int) (k : Nat) : cyc fs (k + fs.length) = cyc fs k := by simp [cyc]
theorem cyc_lt {fs : List Int} {k : Nat} (h : k < fs.length) : cyc fs k = fs.getD k 0 := by simp [cyc, Nat.mod_eq_of_lt h]
theorem psum_take (fs : List Int) : ∀ k, k ≤ fs.length → psum fs k = (fs.take k).sum
  | 0, _ => by simp [psum]
  | k + 1, h => by
    have hk : k < fs.length := by omega
    rw [psum, psum_take fs k (by omega), cyc_lt hk, List.take_succ_eq_append_getElem hk, List.sum_append]
    simp [List.getD, List.getElem?_eq_getElem hk]
theorem psum_len (fs : List Int) : psum fs fs.length = fs.sum := by rw [psum_take fs _ (Nat.le_refl _), List.take_length]
theorem psum_add_len (fs : List Int) : ∀ k, psum fs (k + fs.length) = psum fs k + fs.sum
  | 0 => by rw [Nat.zero_add, psum_len]; simp [psum]
  | k + 1 => by
    rw [show k + 1 + fs.length = (k + fs.length) + 1 by omega, psum, psum_add_len fs k, cyc_add, psum]; omega
theorem psum_mul (fs : List Int) (r : Nat) : ∀ q : Nat, psum fs (q * fs.length + r) = fs.sum * q + psum fs r
  | 0 => by simp
  | q + 1 => by
    rw [show (q + 1) * fs.length + r = (q * fs.length + r) + fs.length by rw [Nat.add_mul]; omega, psum_add_len, psum_mul fs r q, Int.natCast_add, Int.mul_add]; simp; omega
theorem win_zero (fs : List Int) (w : Nat) : win fs w 0 = psum fs w := by simp [win, psum]
theorem win_next (fs : List Int) (w k : Nat) : win fs w (k + 1) = win fs w k - cyc fs k + cyc fs (k + w) := by
  unfold win
  rw [show k + 1 + w = (k + w) + 1 by omega, psum, psum]; omega
theorem win_first {fs : List Int} (w : Nat) : fs.sum * ((w / fs.length : Nat) : Int) + (fs.take (w % fs.length)).sum = win fs w 0 := by
  rw [win_zero]
  by_cases hn : fs.length = 0
  · have : fs = [] := List.eq_nil_of_length_eq_zero hn
    subst this
    have z : ∀ k, psum [] k = 0 := fun k => by
      induction k with
      | zero => rfl
      | succ k ih => rw [psum, ih]; simp [cyc]
    simp [z]
  · have e : w = (w / fs.length) * fs.length + w % fs.length := by rw [Nat.mul_comm]; exact (Nat.div_add_mod w fs.length).symm
    have hr : w % fs.length ≤ fs.length := Nat.le_of_lt (Nat.mod_lt _ (by omega))
    have h1 := psum_mul fs (w % fs.length) (w / fs.length)
    rw [← e] at h1
    rw [h1, psum_take fs _ hr]
theorem win_round (fs : List Int) (w k : Nat) : win fs w (k + fs.length) = win fs w k := by
  unfold win
  rw [show k + fs.length + w = (k + w) + fs.length by omega, psum_add_len, psum_add_len]; omega
theorem win_mod {fs : List Int} (w : Nat) : ∀ k, win fs w k = win fs w (k % fs.length) := by
  intro k
  have e := Nat.div_add_mod k fs.length
  have h : ∀ q r, win fs w (q * fs.length + r) = win fs w r := fun q r => by
    induction q with
    | zero => simp
    | succ q ih => rw [show (q + 1) * fs.length + r = (q * fs.length + r) + fs.length by rw [Nat.add_mul]; omega, win_round, ih]
  conv => lhs; rw [← e, Nat.mul_comm]
  exact h _ _
/-- all windows of a width -/
def wins (fs : List Int) (w : Nat) : List Int := (List.range fs.length).map (win fs w)
theorem wins_len (fs : List Int) (w : Nat) : (wins fs w).length = fs.length := by simp [wins]
theorem mem_wins {fs : List Int} {w : Nat} {x : Int} : x ∈ wins fs w ↔ ∃ k, k < fs.length ∧ win fs w k = x := by simp [wins]
theorem win_mem {fs : List Int} (h : 0 < fs.length) (w k : Nat) : win fs w k ∈ wins fs w := by
  rw [win_mod]
  exact mem_wins.mpr ⟨_, Nat.mod_lt _ h, rfl⟩
/-! sums over a round -/
def tsum (f : Nat → Int) (n : Nat) : Int := ((List.range n).map f).sum
theorem tsum_zero (f : Nat → Int) : tsum f 0 = 0 := rfl
theorem tsum_succ (f : Nat → Int) (n : Nat) : tsum f (n + 1) = tsum f n + f n := by
  unfold tsum; rw [List.range_succ, List.map_append, List.sum_append]; simp
theorem tsum_add (f g : Nat → Int) : ∀ n, tsum (fun k => f k + g k) n = tsum f n + tsum g n
  | 0 => rfl
  | n + 1 => by rw [tsum_succ, tsum_succ, tsum_succ, tsum_add f g n]; omega
theorem tsum_le {f g : Nat → Int} : ∀ n, (∀ k, k < n → f k ≤ g k) → tsum f n ≤ tsum g n
  | 0, _ => Int.le_refl _
  | n + 1, h => by
    rw [tsum_succ, tsum_succ]
    have := tsum_le n fun k hk => h k (by omega)
    have := h n (by omega)
    omega
theorem tsum_lt {f g : Nat → Int} : ∀ n, (∀ k, k < n → f k ≤ g k) → (∃ k, k < n ∧ f k < g k) → tsum f n < tsum g n
  | 0, _, ⟨k, hk, _⟩ => by omega
  | n + 1, h, ⟨k, hk, hl⟩ => by
    rw [tsum_succ, tsum_succ]
    have h1 := h n (by omega)
    by_cases e : k = n
    · subst e
      have := tsum_le k fun j hj => h j (by omega)
      omega
    · have := tsum_lt n (fun j hj => h j (by omega)) ⟨k, by omega, hl⟩
      omega
theorem tsum_const (c : Int) : ∀ n : Nat, tsum (fun _ => c) n = n * c
  | 0 => by simp [tsum_zero]
  | n + 1 => by rw [tsum_succ, tsum_const c n, Int.natCast_add, Int.add_mul]; simp
theorem tsum_congr {f g : Nat → Int} (n : Nat) (h : ∀ k, k < n → f k = g k) : tsum f n = tsum g n := by
  have h1 := tsum_le n fun k hk => Int.le_of_eq (h k hk)
  have h2 := tsum_le n fun k hk => Int.le_of_eq (h k hk).symm
  omega
theorem psum_tsum (fs : List Int) : ∀ k, psum fs k = tsum (cyc fs) k
  | 0 => rfl
  | k + 1 => by rw [psum, tsum_succ, psum_tsum fs k]
theorem tsum_shift (fs : List Int) : ∀ d, tsum (fun k => cyc fs (k + d)) fs.length = fs.sum := by
  intro d
  have h : ∀ n, tsum (fun k => cyc fs (k + d)) n = psum fs (n + d) - psum fs d := fun n => by
    induction n with
    | zero => simp [tsum_zero]
    | succ n ih => rw [tsum_succ, ih, show n + 1 + d = (n + d) + 1 by omega, psum]; omega
  rw [h, Nat.add_comm, psum_add_len]; omega
/-- all windows of a width together -/
theorem wins_sum (fs : List Int) : ∀ w : Nat, tsum (win fs w) fs.length = w * fs.sum
  | 0 => by
    have h : tsum (win fs 0) fs.length = tsum (fun _ => (0 : Int)) fs.length := tsum_congr _ fun k _ => by simp [win]
    rw [h, tsum_const]; simp
  | w + 1 => by
    have h : tsum (win fs (w + 1)) fs.length = tsum (fun k => win fs w k + cyc fs (k + w)) fs.length := tsum_congr _ fun k _ => by
      unfold win
      rw [show k + (w + 1) = (k + w) + 1 by omega, psum]; omega
    rw [h, tsum_add, wins_sum fs w, tsum_shift, Int.natCast_add, Int.add_mul]; simp
/-! ### spread -/
/-- windows of each width up to the beats are at most one apart -/
def Spread (fs : List Int) : Prop := ∀ w, 1 ≤ w → w ≤ fs.length → ∀ i j, i < fs.length → j < fs.length → win fs w i - win fs w j ≤ 1
theorem Spread.near {fs : List Int} (h : Spread fs) (h0 : 0 < fs.length) (w i : Nat) (hw : w ≤ fs.length) : (fs.length : Int) * win fs w i - w * fs.sum < fs.length ∧ -(fs.length : Int) < (fs.length : Int) * win fs w i - w * fs.sum := by
  rcases Nat.eq_zero_or_pos w with e | hw0
  · subst e
    have : win fs 0 i = 0 := by simp [win]
    rw [this]; simp; omega
  rw [win_mod]
  have hi : i % fs.length < fs.length := Nat.mod_lt _ h0
  generalize i % fs.length = k at hi
  have s := wins_sum fs w
  have up : tsum (win fs w) fs.length < tsum (fun _ => win fs w k + 1) fs.length := tsum_lt _ (fun j hj => by have := h w hw0 hw j k hj hi; omega) ⟨k, hi, by omega⟩
  have dn : tsum (fun _ => win fs w k - 1) fs.length < tsum (win fs w) fs.length := tsum_lt _ (fun j hj => by have := h w hw0 hw k j hi hj; omega) ⟨k, hi, by omega⟩
  rw [tsum_const] at up dn
  rw [s] at up dn
  rw [Int.mul_add] at up
  rw [Int.mul_sub] at dn
  constructor <;> omega
/-- the least, the greatest of finitely many -/
theorem exists_max (f : Nat → Int) : ∀ n, 0 < n → ∃ k, k < n ∧ ∀ j, j < n → f j ≤ f k
  | 1, _ => ⟨0, by omega, fun j hj => by have : j = 0 := by omega
                                         subst this; exact Int.le_refl _⟩
  | n + 2, _ => by
    obtain ⟨k, hk, h⟩ := exists_max f (n + 1) (by omega)
    by_cases c : f k ≤ f (n + 1)
    · refine ⟨n + 1, by omega, fun j hj => ?_⟩
      by_cases e : j = n + 1
      · subst e; exact Int.le_refl _
      · exact Int.le_trans (h j (by omega)) c
    · refine ⟨k, by omega, fun j hj => ?_⟩
      by_cases e : j = n + 1
      · subst e; omega
      · exact h j (by omega)
/-- a spread frame is an even one -/
theorem Spread.even {fs : List Int} (h : Spread fs) (h0 : 0 < fs.length) : ∃ t : Nat, t < fs.length ∧ evL (fs.length : Int) fs.sum (t : Int) = fs := by
  obtain ⟨k0, hk0, hmax⟩ := exists_max (fun k => (fs.length : Int) * psum fs k - k * fs.sum) fs.length h0
  -- the greatest lies less than the beats above any
  have key : ∀ k, (fs.length : Int) * psum fs k - k * fs.sum ≤ (fs.length : Int) * psum fs k0 - k0 * fs.sum ∧ (fs.length : Int) * psum fs k0 - k0 * fs.sum < (fs.length : Int) * psum fs k - k * fs.sum + fs.length := by
    have base : ∀ k, k < fs.length → (fs.length : Int) * psum fs k - k * fs.sum ≤ (fs.length : Int) * psum fs k0 - k0 * fs.sum ∧ (fs.length : Int) * psum fs k0 - k0 * fs.sum < (fs.length : Int) * psum fs k - k * fs.sum + fs.length := by
      intro k hk
      refine ⟨hmax k hk, ?_⟩
      by_cases c : k ≤ k0
      · obtain ⟨d, rfl⟩ : ∃ d, k0 = k + d := ⟨k0 - k, by omega⟩
        have n := (h.near h0 d k (by omega)).1
        unfold win at n
        rw [Int.mul_sub] at n
        rw [Int.natCast_add, Int.add_mul]
        omega
      · obtain ⟨d, rfl⟩ : ∃ d, k = k0 + d := ⟨k - k0, by omega⟩
        have n := (h.near h0 d k0 (by omega)).2
        unfold win at n
        rw [Int.mul_sub] at n
        rw [Int.natCast_add, Int.add_mul]
        omega
    intro k
    have e := Nat.div_add_mod k fs.length
    have hk := base (k % fs.length) (Nat.mod_lt _ h0)
    have h1 := psum_mul fs (k % fs.length) (k / fs.length)
    rw [Nat.mul_comm, ] at e
    rw [e] at h1
    have e2 : (k : Int) = (k / fs.length : Nat) * (fs.length : Int) + (k % fs.length : Nat) := by
      have := congrArg (fun z : Nat => (z : Int)) e
      simp only [Int.natCast_add, Int.natCast_mul] at this
      omega
    have e3 : (fs.length : Int) * psum fs k - k * fs.sum = (fs.length : Int) * psum fs (k % fs.length) - (k % fs.length : Nat) * fs.sum := by
      rw [h1]
      have : (k : Int) * fs.sum = (k / fs.length : Nat) * (fs.length : Int) * fs.sum + (k % fs.length : Nat) * fs.sum := by
        rw [← Int.add_mul]; congr 1
      rw [this, Int.mul_add, show (fs.length : Int) * (fs.sum * ((k / fs.length : Nat) : Int)) = ((k / fs.length : Nat) : Int) * (fs.length : Int) * fs.sum by
        rw [Int.mul_comm fs.sum, ← Int.mul_assoc, Int.mul_comm (fs.length : Int)]]
      omega
    rw [e3]; exact hk
  -- so the sums are floors
  have floor : ∀ k : Nat, psum fs k = ((k : Int) - k0) * fs.sum / fs.length + psum fs k0 := by
    intro k
    obtain ⟨a, b⟩ := key k
    have hn : (0 : Int) < fs.length := by omega
    have e : ((k : Int) - k0) * fs.sum = (fs.length : Int) * (psum fs k - psum fs k0) + (((fs.length : Int) * psum fs k0 - k0 * fs.sum) - ((fs.length : Int) * psum fs k - k * fs.sum)) := by
      rw [Int.sub_mul, Int.mul_sub]; omega
    rw [e, Int.add_comm ((fs.length : Int) * _), Int.add_mul_ediv_left _ _ (by omega), Int.ediv_eq_zero_of_lt (by omega) (by omega)]
    omega
  refine ⟨(fs.length - k0) % fs.length, Nat.mod_lt _ h0, ?_⟩
  -- the turn: less k0, going round
  have turn : ∀ k : Nat, evB (fs.length : Int) fs.sum (((fs.length - k0) % fs.length : Nat) : Int) k = evB (fs.length : Int) fs.sum (-(k0 : Int)) k := by
    intro k
    by_cases c : k0 = 0
    · subst c; simp
    · rw [Nat.mod_eq_of_lt (by omega)]
      have hn : (fs.length : Int) ≠ 0 := by omega
      unfold evB
      have e1 : ((k : Int) + 1 + ((fs.length - k0 : Nat) : Int)) * fs.sum = ((k : Int) + 1 + -(k0 : Int)) * fs.sum + fs.length * fs.sum := by
        rw [← Int.add_mul]; congr 1; omega
      have e2 : ((k : Int) + ((fs.length - k0 : Nat) : Int)) * fs.sum = ((k : Int) + -(k0 : Int)) * fs.sum + fs.length * fs.sum := by
        rw [← Int.add_mul]; congr 1; omega
      rw [e1, e2, Int.add_mul_ediv_left _ _ hn, Int.add_mul_ediv_left _ _ hn]
      omega
  apply List.ext_getElem
  · rw [evL_len]; simp
  · intro k h1 h2
    have hk : k < ((fs.length : Nat) : Int).toNat := by simpa [evL_len] using h1
    have g : (evL (fs.length : Int) fs.sum (((fs.length - k0) % fs.length : Nat) : Int))[k]? = some (evB (fs.length : Int) fs.sum (((fs.length - k0) % fs.length : Nat) : Int) k) := evL_get hk
    rw [List.getElem?_eq_getElem h1] at g
    rw [Option.some.inj g, turn]
    unfold evB
    have f1 := floor (k + 1)
    have f0 := floor k
    rw [psum, cyc_lt h2] at f1
    have e1 : ((k + 1 : Nat) : Int) - k0 = (k : Int) + 1 + -(k0 : Int) := by omega
    have e0 : (k : Int) - k0 = (k : Int) + -(k0 : Int) := by omega
    rw [e1] at f1
    rw [e0] at f0
    have : fs.getD k 0 = fs[k] := by simp [List.getD, List.getElem?_eq_getElem h2]
    omega
/-! ### windows cut out of a frame laid several times -/
def around (fs : List Int) (m : Nat) : List Int := (List.replicate m fs).flatten
theorem around_len (fs : List Int) (m : Nat) : (around fs m).length = m * fs.length := by simp [around]
theorem around_succ (fs : List Int) (m : Nat) : around fs (m + 1) = fs ++ around fs m := by simp [around, List.replicate_succ]
theorem around_take (fs : List Int) : ∀ (m k : Nat), k ≤ m * fs.length → ((around fs m).take k).sum = psum fs k
  | 0, k, h => by
    have : k = 0 := by omega
    subst this; simp [psum]
  | m + 1, k, h => by
    rw [around_succ]
    by_cases c : k ≤ fs.length
    · rw [List.take_append_of_le_length c, psum_take fs k c]
    · obtain ⟨d, rfl⟩ : ∃ d, k = fs.length + d := ⟨k - fs.length, by omega⟩
      rw [List.take_append, List.sum_append, List.take_of_length_le (by omega), show fs.length + d - fs.length = d by omega, around_take fs m d (by rw [Nat.add_mul] at h; omega), Nat.add_comm fs.length d, psum_add_len]
      omega
theorem drop_take_sum (l : List Int) (k w : Nat) : ((l.drop k).take w).sum = (l.take (k + w)).sum - (l.take k).sum := by
  rw [List.take_add, List.sum_append]; omega
theorem around_win {fs : List Int} {m k w : Nat} (h : k + w ≤ m * fs.length) : (((around fs m).drop k).take w).sum = win fs w k := by
  rw [drop_take_sum, around_take fs m _ h, around_take fs m k (by omega)]; rfl
/-! ### data of ints -/
def dI (ns : List Int) : PyData := .list (ns.map PyData.int)
theorem dI_layA : ∀ ns : List Int, PyData.canLayAll0 (ns.map PyData.int) = true
  | [] => by simp [PyData.canLayAll0]
  | z :: zs => by simp [PyData.canLayAll0, PyData.canLay0, dI_layA zs]
theorem dI_depthA : ∀ ns : List Int, PyData.depthAll (ns.map PyData.int) ≤ 1
  | [] => by simp [PyData.depthAll]
  | z :: zs => by
    have h1 := dI_depthA zs
    simp only [List.map_cons, PyData.depthAll, PyData.depth]
    omega
theorem dI_shaped (ns : List Int) : SeqAt.shaped (dI ns) = true := by
  have h1 := dI_depthA ns
  have h2 : PyData.depth (dI ns) ≤ 64 := by
    unfold dI
    simp only [PyData.depth]
    omega
  show (PyData.canLay0 (dI ns) && decide (PyData.depth (dI ns) ≤ 64)) = true
  rw [Bool.and_eq_true]
  exact ⟨by unfold dI; simp only [PyData.canLay0]; exact dI_layA ns, decide_eq_true h2⟩
theorem dI_eqvA : ∀ ns ms : List Int, PyData.eqvAll (ns.map PyData.int) (ms.map PyData.int) = decide (ns = ms)
  | [], [] => by simp [PyData.eqvAll]
  | [], _ :: _ => by simp [PyData.eqvAll]
  | _ :: _, [] => by simp [PyData.eqvAll]
  | n :: ns, m :: ms => by
    rw [List.map_cons, List.map_cons, PyData.eqvAll, dI_eqvA ns ms]
    by_cases e : n = m
    · subst e; simp [PyData.eqv]
    · simp [PyData.eqv, e]
theorem dI_eqv (ns ms : List Int) : PyData.eqv (dI ns) (dI ms) = decide (ns = ms) := by
  unfold dI
  simp only [PyData.eqv]
  exact dI_eqvA ns ms
theorem dpA_ints {K : PySem.W.Frag} {H : Hp} : ∀ ns : List Int, DpAll K H (ns.map V.int) (ns.map PyData.int)
  | [] => .nil
  | n :: ns => .cons (.int n) (dpA_ints ns)
theorem dp_ints {K : PySem.W.Frag} {H : Hp} {a : Addr} {ns : List Int} (h : SqL K H a (ns.map V.int)) : Dp K H (.ref a) (dI ns) := .lst h (dpA_ints ns)
theorem dp_nil {K : PySem.W.Frag} {H : Hp} {a : Addr} (h : SqL K H a []) : Dp K H (.ref a) (dI []) := dp_ints (ns := []) h
/-! ### cuts of lists of ints -/
theorem cut_to {ns : List Int} {k : Nat} (hk : k ≤ ns.length) : cutV (ns.map V.int) none (some (k : Int)) = (ns.take k).map V.int := by
  unfold cutV
  rw [HT.sIx_none, HT.sIx_nat, List.length_map, Nat.min_eq_left hk, List.drop_zero, Nat.sub_zero, List.map_take]
theorem cut_from {ns : List Int} {k : Nat} (hk : k ≤ ns.length) : cutV (ns.map V.int) (some (k : Int)) none = (ns.drop k).map V.int := by
  unfold cutV
  rw [HT.sIx_none, HT.sIx_nat, List.length_map, Nat.min_eq_left hk, List.map_drop]
  exact List.take_of_length_le (by rw [List.length_drop, List.length_map]; exact Nat.le_refl _)
theorem cut_mid {ns : List Int} {i j : Nat} (hi : i ≤ j) (hj : j ≤ ns.length) : cutV (ns.map V.int) (some (i : Int)) (some (j : Int)) = ((ns.drop i).take (j - i)).map V.int := by
  unfold cutV
  rw [HT.sIx_nat, HT.sIx_nat, List.length_map, Nat.min_eq_left (show i ≤ ns.length by omega), Nat.min_eq_left hj, List.map_take, List.map_drop]
/-! ### frames -/
structure Frm (fs : List Int) : Prop where
  pos : 0 < fs.length
  le : fs.length ≤ 64
  bit : ∀ f ∈ fs, f = 0 ∨ f = 1
theorem bits_sum : ∀ {fs : List Int}, (∀ f ∈ fs, f = 0 ∨ f = 1) → 0 ≤ fs.sum ∧ fs.sum ≤ fs.length
  | [], _ => by simp
  | f :: fs, h => by
    have h1 := bits_sum (fs := fs) fun g hg => h g (List.mem_cons_of_mem _ hg)
    have h2 := h f List.mem_cons_self
    rw [List.sum_cons, List.length_cons]
    omega
theorem Frm.sum {fs : List Int} (h : Frm fs) : 0 ≤ fs.sum ∧ fs.sum ≤ fs.length := bits_sum h.bit
theorem Frm.getD {fs : List Int} (h : Frm fs) (k : Nat) : fs.getD k 0 = 0 ∨ fs.getD k 0 = 1 := by
  by_cases c : k < fs.length
  · have e : fs.getD k 0 = fs[k] := by simp [List.getD, List.getElem?_eq_getElem c]
    rw [e]
    exact h.bit _ (List.getElem_mem c)
  · left
    simp [List.getD, List.getElem?_eq_none (Nat.le_of_not_lt c)]
theorem evL_frm {b p : Int} (b0 : 1 ≤ b) (b1 : b ≤ 64) (p0 : 0 ≤ p) (p1 : p ≤ b) (t : Int) : Frm (evL b p t) := by
  refine ⟨by rw [evL_len]; omega, by rw [evL_len]; omega, fun f hf => ?_⟩
  unfold evL at hf
  obtain ⟨k, _, rfl⟩ := List.mem_map.mp hf
  exact evB_01 (by omega) p0 p1 t k
def Lo (ws : List Int) (m : Int) : Prop := m ∈ ws ∧ ∀ y, y ∈ ws → m ≤ y
def Hi (ws : List Int) (m : Int) : Prop := m ∈ ws ∧ ∀ y, y ∈ ws → y ≤ m
theorem divP {i j : Int} {b : Nat} (h : 0 < j) (hb : j.natAbs < 2 ^ b) (h0 : 0 < b) (h9 : b ≤ 9000) : CDivP i j := ⟨h, PyProof.noPylong_of_log2 (Nat.lt_of_lt_of_le (PySem.Flt.log2_lt_of h0 hb) h9)⟩
/-! ### classes of the text -/
structure FunM (K : PySem.W.Frag) (m qual : Str) (st : Stmt) (f : Addr) (fd : FuncData) (ps : List Str) : Prop where
  fn : Fun K m qual st f fd
  b : Binds K fd ps []
/-- a class that may be made by its name; sp: its __init__ -/
structure ClI (P : Program) (w : World) (K : PySem.W.Frag) (mg : Str → Option Value) (base : Heap) (CX : CXT) (k : Nat) (x : Str) (C : Addr) (sp : Sp) : Prop where
  ex : ∃ (f : Addr) (fd : FuncData) (ps : List Str), Mk K C f ∧ FnOk P w K mg base CX k f fd ps sp ∧ mg x = some (.ref C) ∧ Binds K fd ps []
/-- a method of the class at C, at f -/
structure MtAt (P : Program) (w : World) (K : PySem.W.Frag) (mg : Str → Option Value) (base : Heap) (CX : CXT) (k : Nat) (C : Addr) (m : Str) (sp : Sp) (f : Addr) (fd : FuncData) (ps : List Str) : Prop where
  cl : Cls K C
  me : Meth K C m f
  ok : FnOk P w K mg base CX k f fd ps sp
  b : Binds K fd ps []
structure ClMt (P : Program) (w : World) (K : PySem.W.Frag) (mg : Str → Option Value) (base : Heap) (CX : CXT) (k : Nat) (C : Addr) (m : Str) (sp : Sp) : Prop where
  ex : ∃ (f : Addr) (fd : FuncData) (ps : List Str), MtAt P w K mg base CX k C m sp f fd ps
section
variable {X : Cx} {k j : Nat} {x m : Str} {p pos apos : Pos} {e o : Expr} {es : List Expr} {t : TA} {ta : TE} {sp : Sp} {C : Addr}
theorem pe_mkl (c : ClI X.prog X.w X.K X.mg X.base CX0 k x C sp) (hr : Room j X.A) (hk : k + 1 ≤ j) (hg : Gl X x) (ha : PA X (e :: es) t)
    (hdb : (x == ("__debug__" : Str)) = false := by decide) (he : starEach (e :: es) X.env = (false, eval e X.env) :: starEach es X.env := by rfl) (hpl : (backTo pos (starEach es X.env)).any (·.1) = false := by rfl) :
    PE X (.Call (.Name x p) (e :: es) [] pos) (tMake C sp [] E0 t) := by
  obtain ⟨f, fd, ps, M, F, hm, b⟩ := c.ex
  exact pe_make M F (hr.mono hk) hg hm b .nil pass0 ha hdb he hpl
/-- o.f = .. as a target -/
def gFld (K : PySem.W.Frag) (to : TE) (f : Str) : TG := fun v σ H Q => to σ H fun x H1 => ∃ a C dx fs, x = .ref a ∧ H1 a = some (.ins C dx fs) ∧ Cls K C ∧ NoAttr K C f ∧ fs.length < 1000 ∧ Q σ (upd H1 a (.ins C dx (putF f v fs)))
theorem pg_fld {f : Str} {to : TE} (ho : PE X o to) : PG X (.Attribute o f pos) (gFld X.K to f) := by
  refine ⟨fun pins s σ H v u Q I r h => ?_⟩
  rw [assign_Attribute]
  refine wpAny_bind (wpAny_holding (thn (ho.run pins s σ H _ I h) fun ov s1 ⟨x, H1, I1, r1, a, C, dx, fs, ex, ea, c, n, l, q⟩ => ?_))
  subst ex
  obtain rfl : ov = Value.ref a := r1
  refine wpAny_bind (wpAny_standAt (wpAny_bind (wpAny_holding (setattr_ok I1 ea c n l r fun s3 I3 => ?_))))
  exact wpAny_release ⟨σ, _, I3, q⟩
end
/-! ### streams -/
structure StreamF (K : PySem.W.Frag) (C : Addr) : Prop where
  cl : Cls K C
  nW : NoAttr K C "whole"
  nL : NoAttr K C "left"
  nT : NoAttr K C "told"
def sFs (wh l t : Int) : List (Str × V) := [(("whole" : Str), V.int wh), (("left" : Str), V.int l), (("told" : Str), V.int t)]
/-- a stream: whole, what is left, how many were told -/
def StrmO (C dx : Addr) (wh l t : Int) : HO := .ins C dx (sFs wh l t)
theorem k_wl : ¬ (("whole" : Str) = "left") := by decide +kernel
theorem k_wt : ¬ (("whole" : Str) = "told") := by decide +kernel
theorem k_lt : ¬ (("left" : Str) = "told") := by decide +kernel
theorem sFs_make (wh l t : Int) : putF "told" (.int t) (putF "left" (.int l) (putF "whole" (.int wh) [])) = sFs wh l t := by
  show (if ("whole" : Str) = "told" then _ else (("whole" : Str), V.int wh) :: putF "told" (.int t) [(("left" : Str), V.int l)]) = _
  rw [if_neg k_wt]
  show (("whole" : Str), V.int wh) :: (if ("left" : Str) = "told" then _ else (("left" : Str), V.int l) :: [(("told" : Str), V.int t)]) = _
  rw [if_neg k_lt]
  rfl
theorem sFs_make2 (wh l : Int) : putF "left" (.int l) (putF "whole" (.int wh) []) = [(("whole" : Str), V.int wh), (("left" : Str), V.int l)] := by
  show (if ("whole" : Str) = "left" then _ else (("whole" : Str), V.int wh) :: [(("left" : Str), V.int l)]) = _
  rw [if_neg k_wl]
theorem sFs_left (wh l t z : Int) : putF "left" (.int z) (sFs wh l t) = sFs wh z t := by
  show (if ("whole" : Str) = "left" then _ else (("whole" : Str), V.int wh) :: (if ("left" : Str) = "left" then (("left" : Str), V.int z) :: [(("told" : Str), V.int t)] else _)) = _
  rw [if_neg k_wl, if_pos rfl]
  rfl
theorem sFs_told (wh l t z : Int) : putF "told" (.int z) (sFs wh l t) = sFs wh l z := by
  show (if ("whole" : Str) = "told" then _ else (("whole" : Str), V.int wh) :: (if ("left" : Str) = "told" then _ else (("left" : Str), V.int l) :: (if ("told" : Str) = "told" then (("told" : Str), V.int z) :: [] else _))) = _
  rw [if_neg k_wt, if_neg k_lt, if_pos rfl]
  rfl
theorem sFs_no {wh l t : Int} {m : Str} (h1 : ¬ m = "whole") (h2 : ¬ m = "left") (h3 : ¬ m = "told") : (sFs wh l t).lookup m = none := by
  rw [← sFs_make, lookup_putF, if_neg h3, lookup_putF, if_neg h2, lookup_putF, if_neg h1]
  rfl
theorem sFs_gw {wh l t : Int} : (sFs wh l t).lookup ("whole" : Str) = some (.int wh) := by
  rw [← sFs_make, lookup_putF, if_neg k_wt, lookup_putF, if_neg k_wl, lookup_putF, if_pos rfl]
theorem sFs_gl {wh l t : Int} : (sFs wh l t).lookup ("left" : Str) = some (.int l) := by
  rw [← sFs_make, lookup_putF, if_neg k_lt, lookup_putF, if_pos rfl]
theorem sFs_gt {wh l t : Int} : (sFs wh l t).lookup ("told" : Str) = some (.int t) := by
  rw [← sFs_make, lookup_putF, if_pos rfl]
/-- pulses of a list of shares -/
def plB (wh : Int) (ss : List Int) (k : Nat) : Int := (ss.take (k + 1)).sum / wh - (ss.take k).sum / wh
def plL (wh : Int) (ss : List Int) : List Int := (List.range ss.length).map (plB wh ss)
theorem plL_len (wh : Int) (ss : List Int) : (plL wh ss).length = ss.length := by simp [plL]
theorem plB_next {wh : Int} (hw : 0 < wh) {ss : List Int} {k : Nat} {z : Int} (h : ss[k]? = some z) : plB wh ss k = ((ss.take k).sum % wh + z) / wh ∧ ((ss.take k).sum % wh + z) % wh = (ss.take (k + 1)).sum % wh := by
  unfold plB
  rw [sum_take h]
  generalize (ss.take k).sum = S
  have e := Int.mul_ediv_add_emod S wh
  have q : S + z = (S % wh + z) + wh * (S / wh) := by omega
  rw [q, Int.add_mul_ediv_left _ _ (show wh ≠ 0 by omega), Int.add_mul_emod_self_left]
  exact ⟨by omega, rfl⟩
theorem plL_take (wh : Int) (ss : List Int) : ∀ n : Nat, n ≤ ss.length → ((plL wh ss).take n).sum = (ss.take n).sum / wh
  | 0, _ => by simp
  | n + 1, h => by
    have hl : n < (plL wh ss).length := by rw [plL_len]; omega
    have hg : (plL wh ss)[n] = plB wh ss n := by simp [plL]
    rw [List.take_succ_eq_append_getElem hl, List.sum_append, plL_take wh ss n (by omega), hg]
    simp [plB]; omega
/-- over any stretch less than one apart -/
theorem apart {wh : Int} (hw : 0 < wh) (ss : List Int) {b e : Nat} (h1 : b ≤ e) (h2 : e ≤ ss.length) :
    0 - wh < wh * (((plL wh ss).drop b).take (e - b)).sum - ((ss.drop b).take (e - b)).sum ∧ wh * (((plL wh ss).drop b).take (e - b)).sum - ((ss.drop b).take (e - b)).sum < wh := by
  have d : ∀ l : List Int, ((l.drop b).take (e - b)).sum = (l.take e).sum - (l.take b).sum := fun l => by
    have := drop_take_sum l b (e - b)
    rw [show b + (e - b) = e by omega] at this
    exact this
  rw [d, d, plL_take wh ss e h2, plL_take wh ss b (by omega)]
  generalize (ss.take e).sum = x
  generalize (ss.take b).sum = y
  have ex := Int.mul_ediv_add_emod x wh
  have ey := Int.mul_ediv_add_emod y wh
  have x0 := Int.emod_nonneg x (show wh ≠ 0 by omega)
  have x1 := Int.emod_lt_of_pos x hw
  have y0 := Int.emod_nonneg y (show wh ≠ 0 by omega)
  have y1 := Int.emod_lt_of_pos y hw
  rw [Int.mul_sub]
  omega
theorem rep_take_sum (p : Int) (m : Nat) : ∀ n : Nat, n ≤ m → ((List.replicate m p).take n).sum = (n : Int) * p := fun n h => by
  rw [List.take_replicate, Nat.min_eq_left h]
  have : ∀ k : Nat, (List.replicate k p).sum = (k : Int) * p := fun k => by
    induction k with
    | zero => simp
    | succ k ih => rw [List.replicate_succ, List.sum_cons, ih, Int.natCast_add, Int.add_mul]; simp; omega
  exact this n
/-- one share throughout: the even frame of turn 0, round after round -/
theorem plL_even {b p : Int} (hb : 0 < b) (m : Nat) : plL b (List.replicate (m * b.toNat) p) = around (evL b p 0) m := by
  have key : ∀ n, n ≤ m → (List.range (n * b.toNat)).map (fun k : Nat => ((k : Int) + 1) * p / b - (k : Int) * p / b) = around (evL b p 0) n := by
    intro n
    induction n with
    | zero => intro _; simp [around]
    | succ n ih =>
      intro h
      rw [around_succ, ← ih (by omega), Nat.add_mul, Nat.one_mul, Nat.add_comm, List.range_add, List.map_append]
      have h1 : (List.range b.toNat).map (fun k : Nat => ((k : Int) + 1) * p / b - (k : Int) * p / b) = evL b p 0 := by
        unfold evL
        refine List.map_congr_left fun k _ => ?_
        unfold evB
        rw [Int.add_zero, Int.add_zero]
      have h2 : ((List.range (n * b.toNat)).map (b.toNat + ·)).map (fun k : Nat => ((k : Int) + 1) * p / b - (k : Int) * p / b) = (List.range (n * b.toNat)).map (fun k : Nat => ((k : Int) + 1) * p / b - (k : Int) * p / b) := by
        rw [List.map_map]
        refine List.map_congr_left fun k _ => ?_
        show (((b.toNat + k : Nat) : Int) + 1) * p / b - ((b.toNat + k : Nat) : Int) * p / b = _
        have e : ((b.toNat + k : Nat) : Int) = (k : Int) + b := by omega
        rw [e, show (k : Int) + b + 1 = ((k : Int) + 1) + b by omega, Int.add_mul _ b p, Int.add_mul _ b p, Int.add_mul_ediv_left _ _ (show b ≠ 0 by omega), Int.add_mul_ediv_left _ _ (show b ≠ 0 by omega)]
        omega
      rw [h1, h2]
  rw [← key m (Nat.le_refl m)]
  unfold plL
  rw [List.length_replicate]
  refine List.map_congr_left fun k hk => ?_
  have hk := List.mem_range.mp hk
  unfold plB
  rw [rep_take_sum p _ (k + 1) (by omega), rep_take_sum p _ k (by omega)]
  rw [Int.natCast_add]; rfl
structure Txt (K : PySem.W.Frag) (mg : Str → Option Value) : Prop where
  k_MOST_BEATS : ∃ u, mg "MOST_BEATS" = some u ∧ RelV (.int 64) u
  k_MOST_WHOLE : ∃ u, mg "MOST_WHOLE" = some u ∧ RelV (.int 1000000000000) u
  b_divmod : mg "divmod" = none
  b_len : mg "len" = none
  b_range : mg "range" = none
  b_sum : mg "sum" = none
section
variable {P : Program} {w : World} {K : PySem.W.Frag} {mg : Str → Option Value} {base : Heap}
abbrev s_law_start : Stmt := top 14
theorem sc_law_start : FnScope ["_law_script", "_law_mixed", "_law_cell"] ["_law_script"] (defScope s_law_start) := ⟨rfl, rfl, rfl, by decide +kernel, rfl, by decide +kernel, by decide +kernel⟩
/-- _law_start(script): a new good state -/
def spStart (K : PySem.W.Frag) : Sp := fun vs H Q _ => ∃ (a : Addr) (ns : List Int), vs = [.ref a] ∧ SqL K H a (ns.map V.int) ∧ ∀ (st : Addr) (m : Int), H st = none → Drw 0 m 0 → Q (.ref st) (upd H st (StO a 0 m 0))
theorem ok_law_start {f : Addr} {fd : FuncData} (F : FunG K mg "_law_start" s_law_start f fd ["_law_script"]) : FnOk P w K mg base CX0 1 f fd ["_law_script"] (spStart K) := by
  refine F.fn.ok sc_law_start (fun vs H Q E h => ?_) (fun cdv A outer s H vs Q E hr h => ?_)
  · obtain ⟨a, ns, rfl, _⟩ := h
    rfl
  · obtain ⟨a, ns, rfl, hS, k⟩ := h
    refine ⟨_, (pss_cons (ps_set (i := 1) sc_law_start.nd rfl (.inl rfl) pe_int)
      (pss_cons (ps_for PassesOwn.never (by rfl) (pi_list (pv 0)) (pg_name (i := 2) sc_law_start.nd rfl (.inl rfl)) (pss_one (ps_set (i := 1) sc_law_start.nd rfl (.inl rfl) (pe_op op_mod (pe_op op_add (pe_op op_add (pe_op op_mulW (pv 1) pe_int) (pv 2)) pe_int) pe_int))))
      (pss_one (ps_ret (pe_lst (pa_cons (pv 0) (pa_cons pe_int (pa_cons (pv 1) (pa_cons pe_int pa_nil))))))))), ?_⟩
    refine ⟨_, rfl, a, rfl, ⟨_, hS⟩, for_list (K := K) (a := a) (xs := ns.map V.int) (fun i σ H' => ∃ (m : Int) (v : Option V), σ = [some (.ref a), some (.int m), v] ∧ H' = H ∧ 0 ≤ m ∧ m < 2147483647)
      ⟨1, none, rfl, rfl, by decide, by decide⟩ (fun i σ H' _ ⟨_, _, _, e, _⟩ => e ▸ hS) ?_ ?_⟩
    · rintro i y σ H' hi ⟨m, v, rfl, rfl, m0, m1⟩
      obtain ⟨z, hz, rfl⟩ := getV hi
      refine ⟨_, rfl, _, _, rfl, rfl, wide_mul (a := 31) (b := 17) (by omega) (by decide) (by decide) (by decide) (by decide), _, rfl, _, _, rfl, rfl, _, _, rfl, rfl, _, _, rfl, rfl, (by show (0 : Int) < 2147483647; decide), ?_⟩
      exact ⟨_, _, rfl, rfl, Int.emod_nonneg _ (by decide), Int.emod_lt_of_pos _ (by decide)⟩
    · rintro σ H' ⟨m, v, rfl, rfl, m0, m1⟩
      refine ⟨_, rfl, _, rfl, (by show 4 ≤ sizeLine; decide), fun p hp => ?_⟩
      exact k p m hp ⟨Int.le_refl _, m0, m1, Int.le_refl _⟩
abbrev s_law_drawn : Stmt := top 15
theorem sc_law_drawn : FnScope ["_law_state", "_law_many", "_law_found", "_law_cell"] ["_law_state", "_law_many"] (defScope s_law_drawn) := ⟨rfl, rfl, rfl, by decide +kernel, rfl, by decide +kernel, by decide +kernel⟩
/-- _law_drawn(state, many): some number from 0 on below many; the state is good behind it, all else as it was -/
def spDrawn (K : PySem.W.Frag) : Sp := fun vs H Q _ => ∃ (st a : Addr) (ns : List Int) (many : Int), vs = [.ref st, .int many] ∧ SOk K a ns st H ∧ 0 < many ∧ many < 2 ^ 200 ∧
  ∀ r i m c : Int, 0 ≤ r → r < many → Drw i m c → Q (.int r) (upd H st (StO a i m c))
theorem SOk.drawn {K : PySem.W.Frag} {a st : Addr} {ns : List Int} {H : Hp} (s : SOk K a ns st H) {i m c : Int} (d : Drw i m c) : SOk K a ns st (upd H st (StO a i m c)) := s.keep (Keep.refl st H).atSt d upd_same
theorem ok_law_drawn {f : Addr} {fd : FuncData} (F : FunG K mg "_law_drawn" s_law_drawn f fd ["_law_state", "_law_many"]) (T : Txt K mg) : FnOk P w K mg base CX0 1 f fd ["_law_state", "_law_many"] (spDrawn K) := by
  refine F.fn.ok sc_law_drawn (fun vs H Q E h => ?_) (fun cdv A outer s H vs Q E hr h => ?_)
  · obtain ⟨st, a, ns, many, rfl, _⟩ := h
    rfl
  · obtain ⟨st, a, ns, many, rfl, hs, m0, m1, k⟩ := h
    obtain ⟨i, m, c, d, hst⟩ := hs.at_
    have hdiv : ∀ x : Int, CDivW x many := fun x => wide_div (b := 200) m0 (by omega) (by decide) (by decide)
    have hl : H st = some (.lst [.ref a, .int i, .int m, .int c]) := hst
    refine ⟨_, (pss_cons (ps_if (pt_cmpR op_gt (pe_ix (ixL K) (pv 0) pe_int (fun _ _ => rfl)) pe_int (nomark _)) (pss_cons (ps_set (i := 2) sc_law_drawn.nd rfl (.inl rfl) (pe_op op_mod (pe_ix (ixL K) (pv 0) pe_int (fun _ _ => rfl)) (pv 1)))
      (pss_cons (ps_asg (pe_op op_fdivW (pe_ix (ixL K) (pv 0) pe_int (fun _ _ => rfl)) (pv 1)) (pg_sub (pv 0) pe_int set_list))
      (pss_one (ps_ret (pv 2))))) pss_nil)
      (pss_cons (ps_asg (pe_op op_add (pe_ix (ixL K) (pv 0) pe_int (fun _ _ => rfl)) pe_int) (pg_sub (pv 0) pe_int set_list))
      (pss_cons (ps_if (pt_cmpR op_le (pe_ix (ixL K) (pv 0) pe_int (fun _ _ => rfl)) (pe_callB (clLen K) (by rfl) T.b_len (by decide +kernel) (pa_cons (pe_ix (ixL K) (pv 0) pe_int (fun _ _ => rfl)) pa_nil)) (nomark _)) (pss_cons (ps_set (i := 3) sc_law_drawn.nd rfl (.inl rfl) (pe_ix (ixL K) (pe_ix (ixL K) (pv 0) pe_int (fun _ _ => rfl)) (pe_op op_sub (pe_ix (ixL K) (pv 0) pe_int (fun _ _ => rfl)) pe_int) (fun _ _ => rfl)))
      (pss_cons (ps_asg (pe_ifExp (pt_cmpR op_ge (pv 3) (pe_op op_pow pe_int pe_int) (nomark _)) (pe_op op_fdivW (pv 3) (pv 1)) pe_int) (pg_sub (pv 0) pe_int set_list))
      (pss_one (ps_ret (pe_op op_mod (pv 3) (pv 1)))))) pss_nil)
      (pss_cons (ps_asg (pe_op op_mod (pe_op op_add (pe_op op_mulW (pe_ix (ixL K) (pv 0) pe_int (fun _ _ => rfl)) pe_int) pe_int) pe_int) (pg_sub (pv 0) pe_int set_list))
      (pss_one (ps_ret (pe_op op_mod (pe_op op_fdivW (pe_ix (ixL K) (pv 0) pe_int (fun _ _ => rfl)) pe_int) (pv 1)))))))), ?_⟩
    refine ⟨_, rfl, _, _, _, _, rfl, rfl, SqL.of hl, rfl, _, _, rfl, rfl, _, rfl, ?_⟩
    refine ite2 (fun hc => ?_) (fun hc => ?_)
    · have hc : 0 < c := of_decide_eq_true hc
      refine ⟨_, rfl, _, _, _, _, rfl, rfl, SqL.of hl, rfl, _, rfl, _, _, rfl, rfl, m0, ?_⟩
      refine ⟨_, rfl, _, _, _, _, rfl, rfl, SqL.of hl, rfl, _, rfl, _, _, rfl, rfl, hdiv _, _, rfl, st, _, _, 3, rfl, rfl, hl, rfl, ?_⟩
      refine ⟨_, rfl, ?_⟩
      exact k (c % many) i m (c / many) (Int.emod_nonneg _ (by omega)) (Int.emod_lt_of_pos _ m0) ⟨d.i0, d.m0, d.m1, Int.ediv_nonneg d.c0 (by omega)⟩
    · refine ⟨_, rfl, _, _, _, _, rfl, rfl, SqL.of hl, rfl, _, _, rfl, rfl, _, rfl, st, _, _, 1, rfl, rfl, hl, rfl, ?_⟩
      have hl1 : (upd H st (.lst [.ref a, .int (i + 1), .int m, .int c])) st = some (.lst [.ref a, .int (i + 1), .int m, .int c]) := upd_same
      have hS1 : SqL K (upd H st (.lst [.ref a, .int (i + 1), .int m, .int c])) a (ns.map V.int) := hs.sq _ (Keep.refl st H).atSt
      refine ⟨_, rfl, _, _, _, _, rfl, rfl, SqL.of hl1, rfl, _, rfl, _, _, _, _, rfl, rfl, SqL.of hl1, rfl, _, _, rfl, .inl hS1, _, _, rfl, rfl, _, rfl, ?_⟩
      refine ite2 (fun hb => ?_) (fun hb => ?_)
      · have hb : i + 1 ≤ ((ns.map V.int).length : Int) := of_decide_eq_true hb
        rw [List.length_map] at hb
        have i0 := d.i0
        refine ⟨_, rfl, _, _, _, _, rfl, rfl, SqL.of hl1, rfl, _, rfl, _, _, _, _, rfl, rfl, SqL.of hl1, rfl, _, _, rfl, rfl, _, _, _, _, rfl, rfl, hS1, atV (j := i.toNat) (by omega) (by omega), ?_⟩
        refine ⟨_, rfl, _, _, rfl, rfl, ⟨by decide, by decide, by decide⟩, _, _, rfl, rfl, _, rfl, ?_⟩
        generalize ns.getD i.toNat 0 = z
        refine ite2 (fun hz => ?_) (fun hz => ?_)
        · have hz : (10 : Int) ^ (18 : Int).toNat ≤ z := of_decide_eq_true hz
          have z0 : 0 ≤ z := Int.le_trans (by decide) hz
          refine ⟨_, rfl, _, rfl, _, _, rfl, rfl, hdiv _, _, rfl, st, _, _, 3, rfl, rfl, hl1, rfl, ?_⟩
          refine ⟨_, rfl, _, rfl, _, _, rfl, rfl, m0, ?_⟩
          rw [upd_upd]
          exact k (z % many) (i + 1) m (z / many) (Int.emod_nonneg _ (by omega)) (Int.emod_lt_of_pos _ m0) ⟨by omega, d.m0, d.m1, Int.ediv_nonneg z0 (by omega)⟩
        · refine ⟨_, rfl, st, _, _, 3, rfl, rfl, hl1, rfl, ?_⟩
          refine ⟨_, rfl, _, rfl, _, _, rfl, rfl, m0, ?_⟩
          rw [upd_upd]
          exact k (z % many) (i + 1) m 0 (Int.emod_nonneg _ (by omega)) (Int.emod_lt_of_pos _ m0) ⟨by omega, d.m0, d.m1, Int.le_refl _⟩
      · refine ⟨_, rfl, _, _, _, _, rfl, rfl, SqL.of hl1, rfl, _, _, rfl, rfl, wide_mul (a := 31) (b := 17) (by have := d.m0; have := d.m1; omega) (by decide) (by decide) (by decide) (by decide), _, _, rfl, rfl, _, _, rfl, rfl, (by show (0 : Int) < 2147483647; decide), _, rfl, st, _, _, 2, rfl, rfl, hl1, rfl, ?_⟩
        rw [upd_upd]
        have n0 := Int.emod_nonneg (m * 48271 + 11) (show (2147483647 : Int) ≠ 0 by decide)
        have n1 := Int.emod_lt_of_pos (m * 48271 + 11) (show (0 : Int) < 2147483647 by decide)
        have hl2 : (upd H st (.lst [.ref a, .int (i + 1), .int ((m * 48271 + 11) % 2147483647), .int c])) st = some (.lst [.ref a, .int (i + 1), .int ((m * 48271 + 11) % 2147483647), .int c]) := upd_same
        refine ⟨_, rfl, _, _, _, _, rfl, rfl, SqL.of hl2, rfl, _, _, rfl, rfl, wide_div (b := 3) (by decide) (by decide) (by decide) (by decide), _, rfl, _, _, rfl, rfl, m0, ?_⟩
        have i0 := d.i0
        exact k ((m * 48271 + 11) % 2147483647 / 7 % many) (i + 1) ((m * 48271 + 11) % 2147483647) c (Int.emod_nonneg _ (by omega)) (Int.emod_lt_of_pos _ m0) ⟨by omega, n0, n1, d.c0⟩
abbrev s_law_share : Stmt := top 16
theorem sc_law_share : FnScope ["_law_state", "_law_beats"] ["_law_state"] (defScope s_law_share) := ⟨rfl, rfl, rfl, by decide +kernel, rfl, by decide +kernel, by decide +kernel⟩
/-- _law_share(state): a new pair of beats and pulses -/
def spShare (K : PySem.W.Frag) : Sp := fun vs H Q _ => ∃ (st a : Addr) (ns : List Int), vs = [.ref st] ∧ SOk K a ns st H ∧
  ∀ (b p : Int) (t : Addr) (H' : Hp), 1 ≤ b → b ≤ 64 → 0 ≤ p → p ≤ b → H t = none → Keep st H H' → SOk K a ns st H' → H' t = some (.tup [.int b, .int p]) → Q (.ref t) H'
theorem pick3 {r : Int} (h0 : 0 ≤ r) (h1 : r < 3) : r = 0 ∨ r = 1 ∨ r = 2 := by omega
theorem pick4 {r : Int} (h0 : 0 ≤ r) (h1 : r < 4) : r = 0 ∨ r = 1 ∨ r = 2 ∨ r = 3 := by omega
theorem pick5 {r : Int} (h0 : 0 ≤ r) (h1 : r < 5) : r = 0 ∨ r = 1 ∨ r = 2 ∨ r = 3 ∨ r = 4 := by omega
theorem ok_law_share {f : Addr} {fd : FuncData} (F : FunG K mg "_law_share" s_law_share f fd ["_law_state"]) (c_law_drawn : Cl P w K mg base CX0 1 "_law_drawn" (spDrawn K)) : FnOk P w K mg base CX0 2 f fd ["_law_state"] (spShare K) := by
  refine F.fn.ok sc_law_share (fun vs H Q E h => ?_) (fun cdv A outer s H vs Q E hr h => ?_)
  · obtain ⟨st, a, ns, rfl, _⟩ := h
    rfl
  · obtain ⟨st, a, ns, rfl, hs, k⟩ := h
    refine ⟨_, (pss_cons (ps_set (i := 1) sc_law_share.nd rfl (.inl rfl) (pe_op op_add pe_int (pe_cl c_law_drawn hr (by decide) (by rfl) (pa_cons (pv 0) (pa_cons (pe_ix (ixL K) (pe_lst (pa_cons pe_int (pa_cons pe_int (pa_cons pe_int pa_nil)))) (pe_cl c_law_drawn hr (by decide) (by rfl) (pa_cons (pv 0) (pa_cons pe_int pa_nil))) (fun _ _ => rfl)) pa_nil)))))
      (pss_one (ps_ret (pe_tup (pa_cons (pv 1) (pa_cons (pe_ix (ixL K) (pe_lst (pa_cons pe_int (pa_cons (pv 1) (pa_cons (pe_cl c_law_drawn hr (by decide) (by rfl) (pa_cons (pv 0) (pa_cons (pe_op op_add (pv 1) pe_int) pa_nil))) (pa_cons (pe_cl c_law_drawn hr (by decide) (by rfl) (pa_cons (pv 0) (pa_cons (pe_op op_add (pv 1) pe_int) pa_nil))) pa_nil))))) (pe_cl c_law_drawn hr (by decide) (by rfl) (pa_cons (pv 0) (pa_cons pe_int pa_nil))) (fun _ _ => rfl)) pa_nil)))))), ?_⟩
    -- beats = 1 + drawn(state, [6, 16, 64][drawn(state, 3)])
    refine ⟨_, rfl, (by show 3 ≤ sizeLine; decide), fun p1 hp1 => ?_⟩
    have s1 := hs.new (o := .lst [.int 6, .int 16, .int 64]) hp1
    refine ⟨_, rfl, st, a, ns, 3, rfl, s1, by decide, by decide, fun r i m c r0 r1 d => ?_⟩
    have s2 := s1.drawn d
    have n1 := hs.ne_of hp1
    have k2 : Keep st H (upd (upd H p1 (.lst [.int 6, .int 16, .int 64])) st (StO a i m c)) := ((Keep.refl st H).new hp1).atSt
    have hp2 : (upd (upd H p1 (.lst [.int 6, .int 16, .int 64])) st (StO a i m c)) p1 = some (.lst [.int 6, .int 16, .int 64]) := by rw [upd_ne n1, upd_same]
    generalize upd (upd H p1 (.lst [.int 6, .int 16, .int 64])) st (StO a i m c) = H2 at s2 k2 hp2
    have hat : ∃ v : Int, atI [V.int 6, V.int 16, V.int 64] r = some (.int v) ∧ 1 ≤ v ∧ v ≤ 64 := by
      rcases pick3 r0 r1 with e | e | e <;> subst e <;> exact ⟨_, rfl, by decide, by decide⟩
    obtain ⟨v, hv, v0, v1⟩ := hat
    refine ⟨_, _, _, _, rfl, rfl, SqL.of hp2, hv, st, a, ns, v, rfl, s2, by omega, Int.lt_of_le_of_lt v1 (by decide), fun r2 i2 m2 c2 r20 r21 d2 => ?_⟩
    have s3 := s2.drawn d2
    have k3 := k2.atSt (o := StO a i2 m2 c2)
    generalize upd H2 st (StO a i2 m2 c2) = H3 at s3 k3
    -- (beats, [0, beats, drawn(state, beats + 1), drawn(state, beats + 1)][drawn(state, 4)])
    refine ⟨_, _, rfl, rfl, _, rfl, _, rfl, _, rfl, _, rfl, _, _, rfl, rfl, st, a, ns, _, rfl, s3, by omega, Int.lt_of_le_of_lt (show 1 + r2 + 1 ≤ 66 by omega) (by decide), fun r4 i4 m4 c4 r40 r41 d4 => ?_⟩
    have s4 := s3.drawn d4
    have k4 := k3.atSt (o := StO a i4 m4 c4)
    generalize upd H3 st (StO a i4 m4 c4) = H4 at s4 k4
    refine ⟨_, rfl, _, rfl, _, _, rfl, rfl, st, a, ns, _, rfl, s4, by omega, Int.lt_of_le_of_lt (show 1 + r2 + 1 ≤ 66 by omega) (by decide), fun r5 i5 m5 c5 r50 r51 d5 => ?_⟩
    have s5 := s4.drawn d5
    have k5 := k4.atSt (o := StO a i5 m5 c5)
    generalize upd H4 st (StO a i5 m5 c5) = H5 at s5 k5
    refine ⟨(by show 4 ≤ sizeLine; decide), fun p6 hp6 => ?_⟩
    have s6 := s5.new (o := .lst [.int 0, .int (1 + r2), .int r4, .int r5]) hp6
    have k6 := k5.new (o := .lst [.int 0, .int (1 + r2), .int r4, .int r5]) hp6
    have n6 := s5.ne_of hp6
    refine ⟨_, rfl, st, a, ns, 4, rfl, s6, by decide, by decide, fun r7 i7 m7 c7 r70 r71 d7 => ?_⟩
    have s7 := s6.drawn d7
    have k7 := k6.atSt (o := StO a i7 m7 c7)
    have hp7 : (upd (upd H5 p6 (.lst [.int 0, .int (1 + r2), .int r4, .int r5])) st (StO a i7 m7 c7)) p6 = some (.lst [.int 0, .int (1 + r2), .int r4, .int r5]) := by rw [upd_ne n6, upd_same]
    generalize upd (upd H5 p6 (.lst [.int 0, .int (1 + r2), .int r4, .int r5])) st (StO a i7 m7 c7) = H7 at s7 k7 hp7
    have hat : ∃ v : Int, atI [V.int 0, V.int (1 + r2), V.int r4, V.int r5] r7 = some (.int v) ∧ 0 ≤ v ∧ v ≤ 1 + r2 := by
      rcases pick4 r70 r71 with e | e | e | e <;> subst e
      · exact ⟨_, rfl, by omega, by omega⟩
      · exact ⟨_, rfl, by omega, by omega⟩
      · exact ⟨_, rfl, by omega, by omega⟩
      · exact ⟨_, rfl, by omega, by omega⟩
    obtain ⟨q, hq, q0, q1⟩ := hat
    refine ⟨_, _, _, _, rfl, rfl, SqL.of hp7, hq, (by show 2 ≤ sizeLine; decide), fun t ht => ?_⟩
    refine k (1 + r2) q t _ (by omega) (by omega) q0 q1 ?_ (k7.new ht) (s7.new ht) upd_same
    cases e : H t with
    | none => rfl
    | some o =>
      have e2 := k7 t o (s7.ne_of ht) e
      rw [ht] at e2
      cases e2
end
end My

namespace My
open PySem L2
section
variable {P : Program} {w : World} {K : PySem.W.Frag} {mg : Str → Option Value} {base : Heap}
abbrev s_need_beats : Stmt := top 9
theorem sc_need_beats : FnScope ["beats"] ["beats"] (defScope s_need_beats) := ⟨rfl, rfl, rfl, by decide +kernel, rfl, by decide +kernel, by decide +kernel⟩
/-- need_beats(beats), good ones -/
def spNeedBeats : Sp := fun vs H Q _ => ∃ b : Int, vs = [.int b] ∧ 1 ≤ b ∧ b ≤ 64 ∧ Q .non H
theorem ok_need_beats {f : Addr} {fd : FuncData} (F : FunG K mg "need_beats" s_need_beats f fd ["beats"]) (T : Txt K mg) : FnOk P w K mg base CX0 1 f fd ["beats"] spNeedBeats := by
  refine F.fn.ok sc_need_beats (fun vs H Q E h => ?_) (fun cdv A outer s H vs Q E hr h => ?_)
  · obtain ⟨b, rfl, _⟩ := h
    rfl
  · obtain ⟨b, rfl, b0, b1, k⟩ := h
    refine ⟨_, (pss_one (ps_if (pt_not (pt_chain op_le op_le pe_int (pv 0) (C8.pe_gc (by rfl) T.k_MOST_BEATS))) (pss_one ps_never) pss_nil)), ?_⟩
    refine ⟨_, rfl, _, _, rfl, rfl, _, rfl, ?_⟩
    rw [decide_eq_true b0]
    refine iteT ⟨_, _, rfl, rfl, _, rfl, ?_⟩
    rw [decide_eq_true b1]
    exact iteF k
abbrev s_need_share : Stmt := top 10
theorem sc_need_share : FnScope ["beats", "pulses"] ["beats", "pulses"] (defScope s_need_share) := ⟨rfl, rfl, rfl, by decide +kernel, rfl, by decide +kernel, by decide +kernel⟩
/-- need_share(beats, pulses), a good one -/
def spNeedShare : Sp := fun vs H Q _ => ∃ b p : Int, vs = [.int b, .int p] ∧ 1 ≤ b ∧ b ≤ 64 ∧ 0 ≤ p ∧ p ≤ b ∧ Q .non H
theorem ok_need_share {f : Addr} {fd : FuncData} (F : FunG K mg "need_share" s_need_share f fd ["beats", "pulses"]) (c_need_beats : Cl P w K mg base CX0 1 "need_beats" spNeedBeats) : FnOk P w K mg base CX0 2 f fd ["beats", "pulses"] spNeedShare := by
  refine F.fn.ok sc_need_share (fun vs H Q E h => ?_) (fun cdv A outer s H vs Q E hr h => ?_)
  · obtain ⟨b, p, rfl, _⟩ := h
    rfl
  · obtain ⟨b, p, rfl, b0, b1, p0, p1, k⟩ := h
    refine ⟨_, (pss_cons (ps_expr (pe_cl c_need_beats hr (by decide) (by rfl) (pa_cons (pv 0) pa_nil)))
      (pss_one (ps_if (pt_not (pt_chain op_le op_le pe_int (pv 1) (pv 0))) (pss_one ps_never) pss_nil))), ?_⟩
    refine ⟨_, rfl, b, rfl, b0, b1, ?_⟩
    refine ⟨_, rfl, _, _, rfl, rfl, _, rfl, ?_⟩
    rw [decide_eq_true p0]
    refine iteT ⟨_, rfl, _, _, rfl, rfl, _, rfl, ?_⟩
    rw [decide_eq_true p1]
    exact iteF k
abbrev s_even_frame : Stmt := top 11
theorem sc_even_frame : FnScope ["beats", "pulses", "turn", "k"] ["beats", "pulses", "turn"] (defScope s_even_frame) := ⟨rfl, rfl, rfl, by decide +kernel, rfl, by decide +kernel, by decide +kernel⟩
/-- even_frame(beats, pulses, turn): a new list -/
def spEven : Sp := fun vs H Q _ => ∃ b p t : Int, vs = [.int b, .int p, .int t] ∧ 1 ≤ b ∧ b ≤ 64 ∧ 0 ≤ p ∧ p ≤ b ∧ t.natAbs < 2 ^ 300 ∧
  ∀ l, H l = none → Q (.ref l) (upd H l (.lst ((evL b p t).map V.int)))
theorem ok_even_frame {f : Addr} {fd : FuncData} (F : FunG K mg "even_frame" s_even_frame f fd ["beats", "pulses", "turn"]) (T : Txt K mg) : FnOk P w K mg base CX0 1 f fd ["beats", "pulses", "turn"] spEven := by
  refine F.fn.ok sc_even_frame (fun vs H Q E h => ?_) (fun cdv A outer s H vs Q E hr h => ?_)
  · obtain ⟨b, p, t, rfl, _⟩ := h
    rfl
  · obtain ⟨b, p, t, rfl, b0, b1, p0, p1, ht, k⟩ := h
    refine ⟨_, (pss_one (ps_ret (pe_lc (own := [("k", 3)]) (g := gName 3) (tt := tYes) (by rfl) sc_even_frame.nd (pi_range1 (by rfl) T.b_range (pa_cons (pv 0) pa_nil)) (blkOk_by (own := [("k", 3)]) (N := ["beats", "pulses", "turn", "k"]) (sc := defScope s_even_frame) (by decide +kernel)) (fun _ _ _ _ _ => (pg_name (i := 3) sc_even_frame.nd rfl (.inl rfl))) (fun _ _ _ _ _ => pts_nil) (fun _ _ _ _ _ => (pe_op op_sub (pe_op op_fdivW (pe_op op_mulW (pe_op op_add (pe_op op_add (pv 3) pe_int) (pv 2)) (pv 1)) (pv 0)) (pe_op op_fdivW (pe_op op_mulW (pe_op op_add (pv 3) (pv 2)) (pv 1)) (pv 0))))))), ?_⟩
    refine ⟨_, rfl, _, rfl, by omega, by omega, fun D hD => lc_range (lo := 0) (n := b.toNat) (fun i H' => H' = upd H D (.lst (((List.range i).map (evB b p t)).map V.int))) rfl ?_ ?_⟩
    · rintro i H' hi rfl
      have hbd : b.natAbs < 2 ^ 7 := by omega
      have hp : p.natAbs < 2 ^ 7 := by omega
      have h301 : ∀ z : Int, 0 ≤ z → z < 100 → (z + t).natAbs < 2 ^ 301 := fun z z0 z1 => by
        have e : (2 : Nat) ^ 301 = 2 ^ 300 + 2 ^ 300 := by rw [Nat.pow_succ]; omega
        have e2 : (100 : Nat) ≤ 2 ^ 300 := by decide
        rw [e]; omega
      have hi' : (i : Int) < 64 := by omega
      have hd : ∀ x : Int, CDivW x b := fun x => wide_div (b := 7) (by omega) hbd (by decide) (by decide)
      refine ⟨rfl, _, rfl, _, _, rfl, rfl, _, rfl, _, _, rfl, rfl, _, rfl, _, _, rfl, rfl, wide_mul (a := 301) (b := 7) (h301 _ (by omega) (by omega)) hp (by decide) (by decide) (by decide), _, rfl, _, _, rfl, rfl, hd _, _, rfl, _, rfl, _, _, rfl, rfl, _, rfl, _, _, rfl, rfl,
        wide_mul (a := 301) (b := 7) (h301 _ (by omega) (by omega)) hp (by decide) (by decide) (by decide), _, rfl, _, _, rfl, rfl, hd _, _, _, rfl, rfl, _, upd_same, small_of (m := 64) (by simp; omega), ?_⟩
      rw [upd_upd, List.range_succ, List.map_append, List.map_append]
      simp only [Int.zero_add]
      rfl
    · rintro H' rfl
      exact k D hD
abbrev s_even : Stmt := top 12
theorem sc_even : FnScope ["beats", "pulses", "turn"] ["beats", "pulses", "turn"] (defScope s_even) := ⟨rfl, rfl, rfl, by decide +kernel, rfl, by decide +kernel, by decide +kernel⟩
/-- even(beats, pulses, turn) -/
theorem ok_even {f : Addr} {fd : FuncData} (F : FunG K mg "even" s_even f fd ["beats", "pulses", "turn"]) (c_need_share : Cl P w K mg base CX0 2 "need_share" spNeedShare) (c_even_frame : Cl P w K mg base CX0 1 "even_frame" spEven) : FnOk P w K mg base CX0 3 f fd ["beats", "pulses", "turn"] spEven := by
  refine F.fn.ok sc_even (fun vs H Q E h => ?_) (fun cdv A outer s H vs Q E hr h => ?_)
  · obtain ⟨b, p, t, rfl, _⟩ := h
    rfl
  · obtain ⟨b, p, t, rfl, b0, b1, p0, p1, ht, k⟩ := h
    refine ⟨_, (pss_cons (ps_expr (pe_cl c_need_share hr (by decide) (by rfl) (pa_cons (pv 0) (pa_cons (pv 1) pa_nil))))
      (pss_one (ps_ret (pe_cl c_even_frame hr (by decide) (by rfl) (pa_cons (pv 0) (pa_cons (pv 1) (pa_cons (pv 2) pa_nil))))))), ?_⟩
    refine ⟨_, rfl, _, rfl, b, p, rfl, b0, b1, p0, p1, ?_⟩
    exact ⟨_, rfl, _, rfl, _, rfl, b, p, t, rfl, b0, b1, p0, p1, ht, k⟩
abbrev s_Stream_init__ : Stmt := inClass (top 5) 0
theorem sc_Stream_init__ : FnScope ["self", "whole"] ["self", "whole"] (defScope s_Stream_init__) := ⟨rfl, rfl, rfl, by decide +kernel, rfl, by decide +kernel, by decide +kernel⟩
/-- Stream(whole), a good one -/
def spSInit (C : Addr) : Sp := fun vs H Q _ => ∃ (p dx : Addr) (wh : Int), vs = [.ref p, .int wh] ∧ H p = some (.ins C dx []) ∧ 1 ≤ wh ∧ wh ≤ 1000000000000 ∧ Q .non (upd H p (StrmO C dx wh 0 0))
theorem ok_Stream_init {C f : Addr} {fd : FuncData} (F : FunM K "__init__" "Stream.__init__" s_Stream_init__ f fd ["self", "whole"]) (T : Txt K mg) (S : StreamF K C) : FnOk P w K mg base CX0 1 f fd ["self", "whole"] (spSInit C) := by
  refine F.fn.ok sc_Stream_init__ (fun vs H Q E h => ?_) (fun cdv A outer s H vs Q E hr h => ?_)
  · obtain ⟨p, dx, wh, rfl, _⟩ := h
    rfl
  · obtain ⟨p, dx, wh, rfl, hp, w0, w1, k⟩ := h
    refine ⟨_, (pss_cons (ps_if (pt_not (pt_chain op_le op_le pe_int (pv 1) (C8.pe_gc (by rfl) T.k_MOST_WHOLE))) (pss_one ps_never) pss_nil)
      (pss_cons (ps_fld (pv 0) (pv 1) rfl)
      (pss_cons (ps_fld (pv 0) pe_int rfl)
      (pss_one (ps_fld (pv 0) pe_int rfl))))), ?_⟩
    refine ⟨_, rfl, _, _, rfl, rfl, _, rfl, ?_⟩
    rw [decide_eq_true w0]
    refine iteT ⟨_, _, rfl, rfl, _, rfl, ?_⟩
    rw [decide_eq_true w1]
    refine iteF ⟨_, rfl, _, rfl, p, C, dx, _, rfl, hp, S.cl, S.nW, (by show 0 < 1000; decide), ?_⟩
    refine ⟨_, rfl, p, C, dx, _, rfl, upd_same, S.cl, S.nL, (by show 1 < 1000; decide), ?_⟩
    rw [upd_upd]
    refine ⟨_, rfl, p, C, dx, _, rfl, upd_same, S.cl, S.nT, (by rw [sFs_make2]; show 2 < 1000; decide), ?_⟩
    rw [upd_upd, sFs_make]
    exact k
abbrev s_Stream_next : Stmt := inClass (top 5) 1
theorem sc_Stream_next : FnScope ["self", "share", "pulse"] ["self", "share"] (defScope s_Stream_next) := ⟨rfl, rfl, rfl, by decide +kernel, rfl, by decide +kernel, by decide +kernel⟩
/-- stream.next(share), a good one -/
def spSNext (C : Addr) : Sp := fun vs H Q _ => ∃ (p dx : Addr) (wh l t sh : Int), vs = [.ref p, .int sh] ∧ H p = some (StrmO C dx wh l t) ∧ 1 ≤ wh ∧ wh ≤ 1000000000000 ∧ 0 ≤ sh ∧ sh ≤ wh ∧
  ∀ H', Keep p H H' → H' p = some (StrmO C dx wh ((l + sh) % wh) (t + (l + sh) / wh)) → Q (.int ((l + sh) / wh)) H'
theorem ok_Stream_next {C f : Addr} {fd : FuncData} (F : FunM K "next" "Stream.next" s_Stream_next f fd ["self", "share"]) (T : Txt K mg) (S : StreamF K C) : FnOk P w K mg base CX0 1 f fd ["self", "share"] (spSNext C) := by
  refine F.fn.ok sc_Stream_next (fun vs H Q E h => ?_) (fun cdv A outer s H vs Q E hr h => ?_)
  · obtain ⟨p, dx, wh, l, t, sh, rfl, _⟩ := h
    rfl
  · obtain ⟨p, dx, wh, l, t, sh, rfl, hp, w0, w1, s0, s1, k⟩ := h
    have hp : H p = some (.ins C dx (sFs wh l t)) := hp
    refine ⟨_, (pss_cons (ps_if (pt_not (pt_chain op_le op_le pe_int (pv 1) (pe_fld (pv 0) rfl))) (pss_one ps_never) pss_nil)
      (pss_cons (ps_asg (pe_callB call_divmodW (by rfl) T.b_divmod (by decide +kernel) (pa_cons (pe_op op_add (pe_fld (pv 0) rfl) (pv 1)) (pa_cons (pe_fld (pv 0) rfl) pa_nil))) (pg_tup (by rfl) (pgs_cons (pg_name (i := 2) sc_Stream_next.nd rfl (.inl rfl)) (pgs_cons (pg_fld (pv 0)) pgs_nil))))
      (pss_cons (ps_fld (pv 0) (pe_op op_add (pe_fld (pv 0) rfl) (pv 2)) rfl)
      (pss_one (ps_ret (pv 2)))))), ?_⟩
    refine ⟨_, rfl, _, _, rfl, rfl, _, rfl, ?_⟩
    rw [decide_eq_true s0]
    refine iteT ⟨_, rfl, p, C, dx, _, _, rfl, hp, S.cl, S.nW, sFs_gw, _, _, rfl, rfl, _, rfl, ?_⟩
    rw [decide_eq_true s1]
    refine iteF ⟨_, rfl, p, C, dx, _, _, rfl, hp, S.cl, S.nL, sFs_gl, _, rfl, _, _, rfl, rfl, _, rfl, p, C, dx, _, _, rfl, hp, S.cl, S.nW, sFs_gw, _, _, rfl, divP (b := 41) (by omega) (by omega) (by decide) (by decide), fun q hq => ⟨_, _, rfl, SqT.of upd_same, rfl, ?_⟩⟩
    have npq : p ≠ q := ne_of_none hp hq
    have hp1 : upd H q (.tup [.int ((l + sh) / wh), .int ((l + sh) % wh)]) p = some (.ins C dx (sFs wh l t)) := by rw [upd_ne npq]; exact hp
    have k1 : Keep p H (upd H q (.tup [.int ((l + sh) / wh), .int ((l + sh) % wh)])) := (Keep.refl p H).new hq
    generalize upd H q (.tup [.int ((l + sh) / wh), .int ((l + sh) % wh)]) = H1 at hp1 k1
    refine ⟨_, _, rfl, _, _, rfl, _, rfl, p, C, dx, _, rfl, hp1, S.cl, S.nL, (by show 3 < 1000; decide), rfl, ?_⟩
    rw [sFs_left]
    have hp2 : upd H1 p (.ins C dx (sFs wh ((l + sh) % wh) t)) p = some (.ins C dx (sFs wh ((l + sh) % wh) t)) := upd_same
    refine ⟨_, rfl, p, C, dx, _, _, rfl, hp2, S.cl, S.nT, sFs_gt, _, rfl, _, _, rfl, rfl, _, rfl, p, C, dx, _, rfl, hp2, S.cl, S.nT, (by show 3 < 1000; decide), ?_⟩
    rw [sFs_told, upd_upd]
    exact ⟨_, rfl, k _ k1.atSt upd_same⟩
abbrev s_pulsed : Stmt := top 6
theorem sc_pulsed : FnScope ["whole", "shares", "stream", "share"] ["whole", "shares"] (defScope s_pulsed) := ⟨rfl, rfl, rfl, by decide +kernel, rfl, by decide +kernel, by decide +kernel⟩
/-- pulsed(whole, shares), good ones: a new list -/
def spPulsed (K : PySem.W.Frag) : Sp := fun vs H Q _ => ∃ (wh : Int) (a : Addr) (ss : List Int), vs = [.int wh, .ref a] ∧ SqL K H a (ss.map V.int) ∧ ss.length ≤ 100000 ∧ 1 ≤ wh ∧ wh ≤ 1000000000000 ∧ (∀ s ∈ ss, 0 ≤ s ∧ s ≤ wh) ∧
  ∀ p H', Same H H' → H p = none → H' p = some (.lst ((plL wh ss).map V.int)) → Q (.ref p) H'
theorem ok_pulsed {C f : Addr} {fd : FuncData} (F : FunG K mg "pulsed" s_pulsed f fd ["whole", "shares"]) (T : Txt K mg) (S : StreamF K C) (c_Stream : ClI P w K mg base CX0 1 "Stream" C (spSInit C)) (c_Stream_next : ClMt P w K mg base CX0 1 C "next" (spSNext C)) : FnOk P w K mg base CX0 3 f fd ["whole", "shares"] (spPulsed K) := by
  obtain ⟨fn_, fdn, psn, M_Stream_next⟩ := c_Stream_next.ex
  refine F.fn.ok sc_pulsed (fun vs H Q E h => ?_) (fun cdv A outer s H vs Q E hr h => ?_)
  · obtain ⟨wh, a, ss, rfl, _⟩ := h
    rfl
  · obtain ⟨wh, a, ss, rfl, hS, hl, w0, w1, hss, k⟩ := h
    refine ⟨_, (pss_cons (ps_set (i := 2) sc_pulsed.nd rfl (.inr rfl) (pe_mkl c_Stream hr (by decide) (by rfl) (pa_cons (pv 0) pa_nil)))
      (pss_one (ps_ret (pe_lc (own := [("share", 3)]) (g := gName 3) (tt := tYes) (by rfl) sc_pulsed.nd (pi_list (pv 1)) (blkOk_by (own := [("share", 3)]) (N := ["whole", "shares", "stream", "share"]) (sc := defScope s_pulsed) (by decide +kernel)) (fun _ _ _ _ _ => (pg_name (i := 3) sc_pulsed.nd rfl (.inl rfl))) (fun _ _ _ _ _ => pts_nil) (fun _ _ _ _ _ => (pe_meth (pv 2) M_Stream_next.cl M_Stream_next.me M_Stream_next.ok (hr.mono (by decide)) M_Stream_next.b .nil pass0 (pa_cons (pv 3) pa_nil))))))), ?_⟩
    refine ⟨_, rfl, fun x dx nx ndx nex => ?_⟩
    refine ⟨x, dx, wh, rfl, upd_same, w0, w1, rfl, ?_⟩
    rw [upd_upd]
    have e1 : Same H (upd (upd H dx (.own x)) x (StrmO C dx wh 0 0)) := ((Same.refl H).mut ndx).mut nx
    have hx1 : upd (upd H dx (.own x)) x (StrmO C dx wh 0 0) x = some (StrmO C dx wh 0 0) := upd_same
    generalize upd (upd H dx (.own x)) x (StrmO C dx wh 0 0) = H1 at e1 hx1
    refine ⟨_, rfl, a, rfl, ⟨_, e1.seq hS⟩, fun D hD => ?_⟩
    have hDn : H D = none := e1.free hD
    have nxD : x ≠ D := ne_of_none hx1 hD
    refine lc_list (K := K) (a := a) (xs := ss.map V.int) (fun i H' => Same H H' ∧ (∃ t, H' x = some (StrmO C dx wh ((ss.take i).sum % wh) t)) ∧ H' D = some (.lst (((List.range i).map (plB wh ss)).map V.int))) ⟨e1.new hD, ⟨0, by rw [upd_ne nxD, hx1]; simp⟩, upd_same⟩ (fun i H' _ h => h.1.seq hS) ?_ ?_
    · rintro i y H' hi ⟨e2, ⟨t, hx2⟩, hd2⟩
      obtain ⟨z, hz, rfl⟩ := getV hi
      have hi' : i < ss.length := (List.getElem?_eq_some_iff.mp hz).1
      obtain ⟨z0, z1⟩ := hss z (List.mem_of_getElem? hz)
      obtain ⟨p1, p2⟩ := plB_next (wh := wh) (by omega) hz
      have hx2' : H' x = some (.ins C dx (sFs wh ((ss.take i).sum % wh) t)) := hx2
      refine ⟨rfl, _, rfl, x, dx, _, rfl, hx2', sFs_no (by decide +kernel) (by decide +kernel) (by decide +kernel), _, rfl, x, dx, wh, _, t, z, rfl, hx2, w0, w1, z0, z1, fun H3 k3 hx3 => ?_⟩
      have hd3 : H3 D = some (.lst (((List.range i).map (plB wh ss)).map V.int)) := k3 D _ nxD.symm hd2
      refine ⟨_, hd3, small_of (m := 100000) (by simp; omega), (e2.keepAll nx k3).mut hDn, ⟨_, by rw [upd_ne nxD, hx3, p2]⟩, ?_⟩
      rw [upd_same, List.range_succ, List.map_append, List.map_append, ← p1]
      rfl
    · rintro H' ⟨e2, _, hd2⟩
      rw [List.length_map] at hd2
      exact k D H' e2 hDn hd2
end
end My

namespace My
open PySem L2
section
variable {P : Program} {w : World} {K : PySem.W.Frag} {mg : Str → Option Value} {base : Heap}
abbrev s_law : Stmt := top 19
theorem sc_law : FnScope ["_law_script", "_law_state", "_law_turn", "_law_whole", "_law_often", "_law_share_here", "_law_shares", "_law_k", "_law_told", "_law_again", "_law_begin", "_law_end", "_law_apart", "_law_beats", "_law_pulses"] ["_law_script"] (defScope s_law) := ⟨rfl, rfl, rfl, by decide +kernel, rfl, by decide +kernel, by decide +kernel⟩
def spLaw (K : PySem.W.Frag) : Sp := fun vs H Q _ => ∃ (a : Addr) (ns : List Int), vs = [.ref a] ∧ SqL K H a (ns.map V.int) ∧ ns.length ≤ 63 ∧ ∀ H', Q (.bl true) H'
theorem ok_law {f : Addr} {fd : FuncData} (F : FunG K mg "law" s_law f fd ["_law_script"]) (T : Txt K mg) (c_law_start : Cl P w K mg base CX0 1 "_law_start" (spStart K)) (c_law_drawn : Cl P w K mg base CX0 1 "_law_drawn" (spDrawn K)) (c_law_share : Cl P w K mg base CX0 2 "_law_share" (spShare K))
    (c_pulsed : Cl P w K mg base CX0 3 "pulsed" (spPulsed K)) (c_even : Cl P w K mg base CX0 3 "even" spEven) : FnOk P w K mg base CX0 4 f fd ["_law_script"] (spLaw K) := by
  refine F.fn.ok sc_law (fun vs H Q E h => ?_) (fun cdv A outer s H vs Q E hr h => ?_)
  · obtain ⟨a, ns, rfl, _⟩ := h
    rfl
  · obtain ⟨a, ns, rfl, hS, hlen, k⟩ := h
    refine ⟨_, (pss_cons (ps_set (i := 1) sc_law.nd rfl (.inl rfl) (pe_cl c_law_start hr (by decide) (by rfl) (pa_cons (pv 0) pa_nil)))
      (pss_cons (ps_for PassesOwn.never (by rfl) (pi_range1 (by rfl) T.b_range (pa_cons pe_int pa_nil)) (pg_name (i := 2) sc_law.nd rfl (.inl rfl)) (pss_cons (ps_set (i := 3) sc_law.nd rfl (.inl rfl) (pe_op op_add pe_int (pe_cl c_law_drawn hr (by decide) (by rfl) (pa_cons (pv 1) (pa_cons (pe_ix (ixL K) (pe_lst (pa_cons pe_int (pa_cons pe_int (pa_cons (pe_op op_pow pe_int pe_int) pa_nil)))) (pe_cl c_law_drawn hr (by decide) (by rfl) (pa_cons (pv 1) (pa_cons pe_int pa_nil))) (fun _ _ => rfl)) pa_nil)))))
      (pss_cons (ps_set (i := 4) sc_law.nd rfl (.inl rfl) (pe_op op_add pe_int (pe_cl c_law_drawn hr (by decide) (by rfl) (pa_cons (pv 1) (pa_cons pe_int pa_nil)))))
      (pss_cons (ps_set (i := 5) sc_law.nd rfl (.inl rfl) (pe_cl c_law_drawn hr (by decide) (by rfl) (pa_cons (pv 1) (pa_cons (pe_op op_add (pv 3) pe_int) pa_nil))))
      (pss_cons (ps_set (i := 6) sc_law.nd rfl (.inl rfl) (pe_lst pa_nil))
      (pss_cons (ps_for PassesOwn.never (by rfl) (pi_range1 (by rfl) T.b_range (pa_cons (pe_cl c_law_drawn hr (by decide) (by rfl) (pa_cons (pv 1) (pa_cons (pe_ix (ixL K) (pe_lst (pa_cons pe_int (pa_cons pe_int (pa_cons pe_int (pa_cons pe_int pa_nil))))) (pe_cl c_law_drawn hr (by decide) (by rfl) (pa_cons (pv 1) (pa_cons pe_int pa_nil))) (fun _ _ => rfl)) pa_nil))) pa_nil)) (pg_name (i := 7) sc_law.nd rfl (.inl rfl)) (pss_cons (ps_if (pt_cmpR op_eq (pe_cl c_law_drawn hr (by decide) (by rfl) (pa_cons (pv 1) (pa_cons (pv 4) pa_nil))) pe_int (nomark _)) (pss_one (ps_set (i := 5) sc_law.nd rfl (.inl rfl) (pe_cl c_law_drawn hr (by decide) (by rfl) (pa_cons (pv 1) (pa_cons (pe_op op_add (pv 3) pe_int) pa_nil))))) pss_nil)
      (pss_one (ps_expr (pe_bm PySem.F.plainAttrs_list PySem.F.slot_list_append PySem.F.type_list_append mt_append (pv 6) (pa_cons (pv 5) pa_nil))))))
      (pss_cons (ps_set (i := 8) sc_law.nd rfl (.inl rfl) (pe_cl c_pulsed hr (by decide) (by rfl) (pa_cons (pv 3) (pa_cons (pv 6) pa_nil))))
      (pss_cons (ps_for PassesOwn.never (by rfl) (pi_range1 (by rfl) T.b_range (pa_cons pe_int pa_nil)) (pg_name (i := 9) sc_law.nd rfl (.inl rfl)) (pss_cons (ps_set (i := 10) sc_law.nd rfl (.inl rfl) (pe_cl c_law_drawn hr (by decide) (by rfl) (pa_cons (pv 1) (pa_cons (pe_op op_add (pe_callB (clLen K) (by rfl) T.b_len (by decide +kernel) (pa_cons (pv 6) pa_nil)) pe_int) pa_nil))))
      (pss_cons (ps_set (i := 11) sc_law.nd rfl (.inl rfl) (pe_op op_add (pv 10) (pe_cl c_law_drawn hr (by decide) (by rfl) (pa_cons (pv 1) (pa_cons (pe_op op_add (pe_op op_sub (pe_callB (clLen K) (by rfl) T.b_len (by decide +kernel) (pa_cons (pv 6) pa_nil)) (pv 10)) pe_int) pa_nil)))))
      (pss_cons (ps_set (i := 12) sc_law.nd rfl (.inl rfl) (pe_op op_sub (pe_op op_mulW (pv 3) (pe_callB (clSum K rfl) (by rfl) T.b_sum (by decide +kernel) (pa_cons (pe_slice (slL K) (pv 8) (po_some (pv 10)) (po_some (pv 11))) pa_nil))) (pe_callB (clSum K rfl) (by rfl) T.b_sum (by decide +kernel) (pa_cons (pe_slice (slL K) (pv 6) (po_some (pv 10)) (po_some (pv 11))) pa_nil))))
      (pss_one (ps_if (pt_not (pt_chain op_lt op_lt (pe_op op_sub pe_int (pv 3)) (pv 12) (pv 3))) (pss_one (ps_ret pe_bl)) pss_nil))))))
      (pss_cons (ps_asg (pe_cl c_law_share hr (by decide) (by rfl) (pa_cons (pv 1) pa_nil)) (pg_tup (by rfl) (pgs_cons (pg_name (i := 13) sc_law.nd rfl (.inl rfl)) (pgs_cons (pg_name (i := 14) sc_law.nd rfl (.inl rfl)) pgs_nil))))
      (pss_one (ps_if (pt_cmpR (opNeD K hr.units) (pe_cl c_pulsed hr (by decide) (by rfl) (pa_cons (pv 13) (pa_cons (pe_op op_rep (pe_lst (pa_cons (pv 14) pa_nil)) (pe_op op_mulW pe_int (pv 13))) pa_nil))) (pe_op op_rep (pe_cl c_even hr (by decide) (by rfl) (pa_cons (pv 13) (pa_cons (pv 14) (pa_cons pe_int pa_nil)))) pe_int) (nomark _)) (pss_one (ps_ret pe_bl)) pss_nil)))))))))))
      (pss_one (ps_ret pe_bl)))), ?_⟩
    refine ⟨_, rfl, a, ns, rfl, hS, fun st m0 hst d0 => ?_⟩
    have s0 : SOk K a ns st (upd H st (StO a 0 m0 0)) := SOk.make hlen hS hst d0
    have e0 : Same H (upd H st (StO a 0 m0 0)) := Same.upd hst
    generalize upd H st (StO a 0 m0 0) = H0 at s0 e0
    refine ⟨_, rfl, by decide, by decide, for_range (lo := 0) (n := 4) (fun i σ H' => (∃ v2 v3 v4 v5 v6 v7 v8 v9 v10 v11 v12 v13 v14 : Option V, σ = [some (.ref a), some (.ref st), v2, v3, v4, v5, v6, v7, v8, v9, v10, v11, v12, v13, v14]) ∧ SOk K a ns st H' ∧ Same H H')
      ⟨⟨none, none, none, none, none, none, none, none, none, none, none, none, none, rfl⟩, s0, e0⟩ ?_ ?_⟩
    · rintro i σ H1 hi ⟨⟨v2, v3, v4, v5, v6, v7, v8, v9, v10, v11, v12, v13, v14, rfl⟩, s1, e1⟩
      -- whole
      refine ⟨_, rfl, _, _, rfl, rfl, ⟨by decide, by decide, by decide⟩, (by show 3 ≤ sizeLine; decide), fun p3 hp3 => ?_⟩
      have s3 := s1.new (o := .lst [.int 10, .int 1000, .int (10 ^ (12 : Int).toNat)]) hp3
      have e3 := e1.new (o := .lst [.int 10, .int 1000, .int (10 ^ (12 : Int).toNat)]) hp3
      have n3 := s1.ne_of hp3
      refine ⟨_, rfl, st, a, ns, 3, rfl, s3, by decide, by decide, fun r i4 m4 c4 r0 r1 d4 => ?_⟩
      have s4 := s3.drawn d4
      have e4 := e3.mut (o := StO a i4 m4 c4) hst
      have hp4 : (upd (upd H1 p3 (.lst [.int 10, .int 1000, .int (10 ^ (12 : Int).toNat)])) st (StO a i4 m4 c4)) p3 = some (.lst [.int 10, .int 1000, .int (10 ^ (12 : Int).toNat)]) := by rw [upd_ne n3, upd_same]
      generalize upd (upd H1 p3 (.lst [.int 10, .int 1000, .int (10 ^ (12 : Int).toNat)])) st (StO a i4 m4 c4) = H4 at s4 e4 hp4
      have hat : ∃ v : Int, atI [V.int 10, V.int 1000, V.int (10 ^ (12 : Int).toNat)] r = some (.int v) ∧ 1 ≤ v ∧ v ≤ 1000000000000 := by
        rcases pick3 r0 r1 with e | e | e <;> subst e <;> exact ⟨_, rfl, by decide, by decide⟩
      obtain ⟨far, hfar, f0, f1⟩ := hat
      refine ⟨_, _, _, _, rfl, rfl, SqL.of hp4, hfar, st, a, ns, far, rfl, s4, by omega, Int.lt_of_le_of_lt f1 (by decide), fun r5 i5 m5 c5 r50 r51 d5 => ?_⟩
      have s5 := s4.drawn d5
      have e5 := e4.mut (o := StO a i5 m5 c5) hst
      generalize upd H4 st (StO a i5 m5 c5) = H5 at s5 e5
      refine ⟨_, _, rfl, rfl, ?_⟩
      have w0 : 1 ≤ 1 + r5 := by omega
      have w1 : 1 + r5 ≤ 1000000000000 := by omega
      -- often
      refine ⟨_, rfl, st, a, ns, 6, rfl, s5, by decide, by decide, fun r6 i6 m6 c6 r60 r61 d6 => ?_⟩
      have s6 := s5.drawn d6
      have e6 := e5.mut (o := StO a i6 m6 c6) hst
      generalize upd H5 st (StO a i6 m6 c6) = H6 at s6 e6
      refine ⟨_, _, rfl, rfl, ?_⟩
      -- share_here
      refine ⟨_, rfl, _, rfl, _, _, rfl, rfl, st, a, ns, _, rfl, s6, by omega, Int.lt_of_le_of_lt (show 1 + r5 + 1 ≤ 1000000000001 by omega) (by decide), fun r7 i7 m7 c7 r70 r71 d7 => ?_⟩
      have s7 := s6.drawn d7
      have e7 := e6.mut (o := StO a i7 m7 c7) hst
      generalize upd H6 st (StO a i7 m7 c7) = H7 at s7 e7
      -- shares
      refine ⟨Nat.zero_le _, fun L hL => ?_⟩
      have nL := s7.ne_of hL
      have hLn : H L = none := e7.free hL
      have s8 := s7.new (o := .lst []) hL
      have e8 := e7.new (o := .lst []) hL
      have hL8 : upd H7 L (.lst []) L = some (.lst []) := upd_same
      generalize upd H7 L (.lst []) = H8 at s8 e8 hL8
      refine ⟨_, rfl, (by show 4 ≤ sizeLine; decide), fun p9 hp9 => ?_⟩
      have s9 := s8.new (o := .lst [.int 101, .int 101, .int 101, .int 501]) hp9
      have e9 := e8.new (o := .lst [.int 101, .int 101, .int 101, .int 501]) hp9
      have n9 := s8.ne_of hp9
      have hL9 : upd H8 p9 (.lst [.int 101, .int 101, .int 101, .int 501]) L = some (.lst []) := by rw [upd_ne (ne_of_none hL8 hp9)]; exact hL8
      refine ⟨_, rfl, st, a, ns, 4, rfl, s9, by decide, by decide, fun r10 i10 m10 c10 r100 r101 d10 => ?_⟩
      have s10 := s9.drawn d10
      have e10 := e9.mut (o := StO a i10 m10 c10) hst
      have hp10 : (upd (upd H8 p9 (.lst [.int 101, .int 101, .int 101, .int 501])) st (StO a i10 m10 c10)) p9 = some (.lst [.int 101, .int 101, .int 101, .int 501]) := by rw [upd_ne n9, upd_same]
      have hL10 : (upd (upd H8 p9 (.lst [.int 101, .int 101, .int 101, .int 501])) st (StO a i10 m10 c10)) L = some (.lst []) := by rw [upd_ne nL]; exact hL9
      generalize upd (upd H8 p9 (.lst [.int 101, .int 101, .int 101, .int 501])) st (StO a i10 m10 c10) = H10 at s10 e10 hp10 hL10
      have hat : ∃ v : Int, atI [V.int 101, V.int 101, V.int 101, V.int 501] r10 = some (.int v) ∧ 1 ≤ v ∧ v ≤ 501 := by
        rcases pick4 r100 r101 with e | e | e | e <;> subst e <;> exact ⟨_, rfl, by decide, by decide⟩
      obtain ⟨mn, hmn, mn0, mn1⟩ := hat
      refine ⟨_, _, _, _, rfl, rfl, SqL.of hp10, hmn, st, a, ns, mn, rfl, s10, by omega, Int.lt_of_le_of_lt mn1 (by decide), fun r11 i11 m11 c11 r110 r111 d11 => ?_⟩
      have s11 := s10.drawn d11
      have e11 := e10.mut (o := StO a i11 m11 c11) hst
      have hL11 : upd H10 st (StO a i11 m11 c11) L = some (.lst []) := by rw [upd_ne nL]; exact hL10
      generalize upd H10 st (StO a i11 m11 c11) = H11 at s11 e11 hL11
      refine ⟨_, rfl, by omega, by omega, for_range (lo := 0) (n := r11.toNat) (fun j σ H' => (∃ (sh : Int) (v7 : Option V), σ = [some (.ref a), some (.ref st), some (.int (0 + (i : Int))), some (.int (1 + r5)), some (.int (1 + r6)), some (.int sh), some (.ref L), v7, v8, v9, v10, v11, v12, v13, v14] ∧ 0 ≤ sh ∧ sh ≤ 1 + r5) ∧ SOk K a ns st H' ∧ Same H H' ∧ ∃ ss : List Int, ss.length = j ∧ (∀ s ∈ ss, 0 ≤ s ∧ s ≤ 1 + r5) ∧ H' L = some (.lst (ss.map V.int)))
        ⟨⟨r7, v7, rfl, r70, by omega⟩, s11, e11, [], rfl, by simp, hL11⟩ ?_ ?_⟩
      · rintro j σ H12 hj ⟨⟨sh, v7, rfl, sh0, sh1⟩, s12, e12, ss, hss, hb, hL12⟩
        refine ⟨_, rfl, _, rfl, st, a, ns, _, rfl, s12, by omega, Int.lt_of_le_of_lt (show 1 + r6 ≤ 6 by omega) (by decide), fun r13 i13 m13 c13 r130 r131 d13 => ?_⟩
        have s13 := s12.drawn d13
        have e13 := e12.mut (o := StO a i13 m13 c13) hst
        have hL13 : upd H12 st (StO a i13 m13 c13) L = some (.lst (ss.map V.int)) := by rw [upd_ne nL]; exact hL12
        generalize upd H12 st (StO a i13 m13 c13) = H13 at s13 e13 hL13
        have fin : ∀ (z : Int) (H' : Hp), 0 ≤ z → z ≤ 1 + r5 → SOk K a ns st H' → Same H H' → H' L = some (.lst (ss.map V.int)) → SOk K a ns st (upd H' L (.lst (ss.map V.int ++ [.int z]))) ∧ Same H (upd H' L (.lst (ss.map V.int ++ [.int z]))) ∧ ∃ ss' : List Int, ss'.length = j + 1 ∧ (∀ s ∈ ss', 0 ≤ s ∧ s ≤ 1 + r5) ∧ upd H' L (.lst (ss.map V.int ++ [.int z])) L = some (.lst (ss'.map V.int)) := by
          intro z H' z0 z1 s' e' h'
          refine ⟨s'.mut hS hst e' hLn nL, e'.mut hLn, ss ++ [z], by rw [List.length_append, hss]; rfl, fun s hs => ?_, by rw [upd_same, List.map_append]; rfl⟩
          rcases List.mem_append.mp hs with m | m
          · exact hb s m
          · rw [List.mem_singleton.mp m]; exact ⟨z0, z1⟩
        have hsz : (ss.map V.int).length < sizeLine := small_of (m := 600) (by rw [List.length_map, hss]; omega)
        refine ⟨rfl, _, rfl, ite2 (fun hc => ?_) (fun hc => ?_)⟩
        · refine ⟨_, rfl, _, rfl, _, _, rfl, rfl, st, a, ns, _, rfl, s13, by omega, Int.lt_of_le_of_lt (show 1 + r5 + 1 ≤ 1000000000001 by omega) (by decide), fun r14 i14 m14 c14 r140 r141 d14 => ?_⟩
          have s14 := s13.drawn d14
          have e14 := e13.mut (o := StO a i14 m14 c14) hst
          have hL14 : upd H13 st (StO a i14 m14 c14) L = some (.lst (ss.map V.int)) := by rw [upd_ne nL]; exact hL13
          generalize upd H13 st (StO a i14 m14 c14) = H14 at s14 e14 hL14
          refine ⟨_, rfl, .inl ⟨rfl, _, SqL.of hL14⟩, _, rfl, L, _, _, rfl, rfl, hL14, hsz, ?_⟩
          exact ⟨⟨r14, _, rfl, r140, by omega⟩, fin r14 H14 r140 (by omega) s14 e14 hL14⟩
        · refine ⟨_, rfl, .inl ⟨rfl, _, SqL.of hL13⟩, _, rfl, L, _, _, rfl, rfl, hL13, hsz, ?_⟩
          exact ⟨⟨sh, _, rfl, sh0, sh1⟩, fin sh H13 sh0 sh1 s13 e13 hL13⟩
      · rintro σ H12 ⟨⟨sh, v7, rfl, sh0, sh1⟩, s12, e12, ss, hss, hb, hL12⟩
        have hsl : ss.length ≤ 501 := by omega
        -- told
        refine ⟨_, rfl, _, rfl, _, L, ss, rfl, SqL.of hL12, by omega, w0, w1, hb, fun D H13 e13 hDn hD13 => ?_⟩
        have hLm : (ss.map V.int).length = ss.length := List.length_map _
        refine ⟨_, rfl, by decide, by decide, for_range (lo := 0) (n := 6) (fun j σ H' => (∃ v9 v10 v11 v12 : Option V, σ = [some (.ref a), some (.ref st), some (.int (0 + (i : Int))), some (.int (1 + r5)), some (.int (1 + r6)), some (.int sh), some (.ref L), v7, some (.ref D), v9, v10, v11, v12, v13, v14]) ∧ SOk K a ns st H' ∧ Same H H' ∧ H' L = some (.lst (ss.map V.int)) ∧ H' D = some (.lst ((plL (1 + r5) ss).map V.int)))
          ⟨⟨v9, v10, v11, v12, rfl⟩, s12.same e13, e12.trans e13, e13 _ _ hL12, hD13⟩ ?_ ?_⟩
        · rintro j σ H14 hj ⟨⟨v9, v10, v11, v12, rfl⟩, s14, e14, hL14, hD14⟩
          have nD := ne_of hD14 (s14.at_.choose_spec.choose_spec.choose_spec.2) (by intro z; unfold StO at z; cases hq : plL (1 + r5) ss <;> rw [hq] at z <;> cases z)
          refine ⟨_, rfl, _, rfl, _, _, rfl, .inl (SqL.of hL14), _, _, rfl, rfl, st, a, ns, _, rfl, s14, by omega, Int.lt_of_le_of_lt (show ((ss.map V.int).length : Int) + 1 ≤ 502 by rw [hLm]; omega) (by decide), fun r15 i15 m15 c15 r150 r151 d15 => ?_⟩
          rw [hLm] at r151
          have s15 := s14.drawn d15
          have e15 := e14.mut (o := StO a i15 m15 c15) hst
          have hL15 : upd H14 st (StO a i15 m15 c15) L = some (.lst (ss.map V.int)) := by rw [upd_ne nL]; exact hL14
          have hD15 : upd H14 st (StO a i15 m15 c15) D = some (.lst ((plL (1 + r5) ss).map V.int)) := by rw [upd_ne nD]; exact hD14
          generalize upd H14 st (StO a i15 m15 c15) = H15 at s15 e15 hL15 hD15
          obtain ⟨b, rfl⟩ := Int.eq_ofNat_of_zero_le r150
          refine ⟨_, rfl, _, rfl, _, rfl, _, _, rfl, .inl (SqL.of hL15), _, rfl, _, _, rfl, rfl, _, _, rfl, rfl, st, a, ns, _, rfl, s15, by rw [hLm]; omega, Int.lt_of_le_of_lt (show ((ss.map V.int).length : Int) - (b : Int) + 1 ≤ 502 by rw [hLm]; omega) (by decide), fun r16 i16 m16 c16 r160 r161 d16 => ?_⟩
          rw [hLm] at r161
          have s16 := s15.drawn d16
          have e16 := e15.mut (o := StO a i16 m16 c16) hst
          have hL16 : upd H15 st (StO a i16 m16 c16) L = some (.lst (ss.map V.int)) := by rw [upd_ne nL]; exact hL15
          have hD16 : upd H15 st (StO a i16 m16 c16) D = some (.lst ((plL (1 + r5) ss).map V.int)) := by rw [upd_ne nD]; exact hD15
          generalize upd H15 st (StO a i16 m16 c16) = H16 at s16 e16 hL16 hD16
          obtain ⟨c, rfl⟩ := Int.eq_ofNat_of_zero_le r160
          refine ⟨_, _, rfl, rfl, ?_⟩
          have hbc : b + c ≤ ss.length := by omega
          have ebc : (b : Int) + (c : Int) = ((b + c : Nat) : Int) := (Int.natCast_add b c).symm
          have ct : cutV ((plL (1 + r5) ss).map V.int) (some (b : Int)) (some ((b : Int) + (c : Int))) = (((plL (1 + r5) ss).drop b).take (b + c - b)).map V.int := by
            rw [ebc]; exact cut_mid (by omega) (by rw [plL_len]; exact hbc)
          have cs : cutV (ss.map V.int) (some (b : Int)) (some ((b : Int) + (c : Int))) = ((ss.drop b).take (b + c - b)).map V.int := by
            rw [ebc]; exact cut_mid (by omega) hbc
          obtain ⟨a1, a2⟩ := apart (show 0 < 1 + r5 by omega) ss (show b ≤ b + c by omega) hbc
          refine ⟨_, rfl, _, rfl, _, rfl, _, rfl, _, rfl, _, rfl, _, _, rfl, SqL.of hD16, fun p17 hp17 => ⟨_, _, rfl, by rw [ct]; exact SqL.of upd_same, _, _, rfl, rfl, ?_, ?_⟩⟩
          · -- the product's size
            have t1 := plL_take (1 + r5) ss (b + c) hbc
            refine wide_mul (a := 41) (b := 100) (by omega) ?_ (by decide) (by decide) (by decide)
            have dd : ((((plL (1 + r5) ss).drop b).take (b + c - b)).sum).natAbs ≤ 2 ^ 60 := by
              have hsum : ∀ l : List Int, (∀ s ∈ l, 0 ≤ s ∧ s ≤ 1 + r5) → 0 ≤ l.sum ∧ l.sum ≤ l.length * 1000000000000 := fun l => by
                induction l with
                | nil => intro _; simp
                | cons x l ih =>
                  intro h
                  have := ih fun s hs => h s (List.mem_cons_of_mem _ hs)
                  have := h x List.mem_cons_self
                  rw [List.sum_cons, List.length_cons]
                  omega
              have h1 := hsum ((ss.drop b).take (b + c - b)) fun s hs => hb s (List.mem_of_mem_drop (List.mem_of_mem_take hs))
              have h2 : ((ss.drop b).take (b + c - b)).length ≤ 501 := by rw [List.length_take, List.length_drop]; omega
              generalize (((plL (1 + r5) ss).drop b).take (b + c - b)).sum = X at a1 a2 ⊢
              generalize ((ss.drop b).take (b + c - b)).sum = Y at a1 a2 h1
              have hY : Y ≤ 501000000000000 := by
                have : ((((ss.drop b).take (b + c - b)).length : Nat) : Int) ≤ 501 := by omega
                omega
              have xb : -1 ≤ X ∧ X ≤ 502000000000000 := by
                constructor
                · by_cases cX : X < -1
                  · have : (1 + r5) * X ≤ (1 + r5) * (-2) := Int.mul_le_mul_of_nonneg_left (by omega) (by omega)
                    omega
                  · omega
                · by_cases cX : 502000000000000 < X
                  · have : 1 * X ≤ (1 + r5) * X := Int.mul_le_mul_of_nonneg_right (by omega) (by omega)
                    omega
                  · omega
              have : (2 : Nat) ^ 60 = 1152921504606846976 := by decide
              omega
            exact Nat.lt_of_le_of_lt dd (by decide)
          · have e17 : Same H (upd H16 p17 (.lst (cutV ((plL (1 + r5) ss).map V.int) (some (b : Int)) (some ((b : Int) + (c : Int)))))) := e16.new hp17
            have s17 := s16.new (o := .lst (cutV ((plL (1 + r5) ss).map V.int) (some (b : Int)) (some ((b : Int) + (c : Int))))) hp17
            have hL17 : upd H16 p17 (.lst (cutV ((plL (1 + r5) ss).map V.int) (some (b : Int)) (some ((b : Int) + (c : Int))))) L = some (.lst (ss.map V.int)) := by rw [upd_ne (ne_of_none hL16 hp17)]; exact hL16
            have hD17 : upd H16 p17 (.lst (cutV ((plL (1 + r5) ss).map V.int) (some (b : Int)) (some ((b : Int) + (c : Int))))) D = some (.lst ((plL (1 + r5) ss).map V.int)) := by rw [upd_ne (ne_of_none hD16 hp17)]; exact hD16
            refine ⟨_, rfl, _, rfl, _, rfl, _, rfl, _, rfl, _, _, rfl, SqL.of hL17, fun p18 hp18 => ⟨_, _, rfl, by rw [cs]; exact SqL.of upd_same, _, _, rfl, rfl, ?_⟩⟩
            refine ⟨_, rfl, _, _, rfl, rfl, _, rfl, _, _, rfl, rfl, _, rfl, ?_⟩
            rw [decide_eq_true a1]
            refine iteT ⟨_, rfl, _, _, rfl, rfl, _, rfl, ?_⟩
            rw [decide_eq_true a2]
            exact iteF ⟨⟨_, _, _, _, rfl⟩, s17.new hp18, e17.new hp18, by rw [upd_ne (ne_of_none hL17 hp18)]; exact hL17, by rw [upd_ne (ne_of_none hD17 hp18)]; exact hD17⟩
        · rintro σ H14 ⟨⟨v9, v10, v11, v12, rfl⟩, s14, e14, hL14, hD14⟩
          refine ⟨_, rfl, st, a, ns, rfl, s14, fun b p t H15 b0 b1 p0 p1 ht k15 s15 ht15 => ⟨_, _, rfl, SqT.of ht15, rfl, ?_⟩⟩
          have e15 : Same H H15 := e14.keepAll hst k15
          refine ⟨_, _, rfl, _, _, rfl, rfl, ?_⟩
          -- pulsed(beats, [pulses] * (3 * beats)) != even(beats, pulses, 0) * 3
          refine ⟨_, rfl, _, rfl, (by show 1 ≤ sizeLine; decide), fun q1 hq1 => ?_⟩
          refine ⟨_, rfl, _, _, rfl, rfl, wide_mul (a := 2) (b := 7) (by decide) (by omega) (by decide) (by decide) (by decide), _, _, _, rfl, rfl, upd_same, by omega, by omega, ?_, fun q2 hq2 => ?_⟩
          · exact small_le (m := 200) (by show 1 * (3 * b).toNat ≤ 200; omega)
          have er : (List.replicate (3 * b).toNat [V.int p]).flatten = (List.replicate (3 * b.toNat) p).map V.int := by
            rw [show (3 * b).toNat = 3 * b.toNat by omega, List.map_replicate]
            generalize 3 * b.toNat = n
            induction n with
            | zero => rfl
            | succ n ih => rw [List.replicate_succ, List.flatten_cons, ih, List.replicate_succ]; rfl
          rw [er]
          have e17 : Same H15 (upd (upd H15 q1 (.lst [.int p])) q2 (.lst ((List.replicate (3 * b.toNat) p).map V.int))) := ((Same.refl H15).new hq1).new hq2
          have hq17 : upd (upd H15 q1 (.lst [.int p])) q2 (.lst ((List.replicate (3 * b.toNat) p).map V.int)) q2 = some (.lst ((List.replicate (3 * b.toNat) p).map V.int)) := upd_same
          generalize upd (upd H15 q1 (.lst [.int p])) q2 (.lst ((List.replicate (3 * b.toNat) p).map V.int)) = H17 at e17 hq17
          refine ⟨b, q2, _, rfl, SqL.of hq17, by rw [List.length_replicate]; omega, b0, Int.le_trans b1 (by decide), fun s hs => ?_, fun q3 H18 e18 hq3n hq3 => ?_⟩
          · rw [(List.mem_replicate.mp hs).2]; exact ⟨p0, p1⟩
          rw [plL_even (by omega)] at hq3
          refine ⟨_, rfl, _, rfl, b, p, 0, rfl, b0, b1, p0, p1, by decide, fun q4 hq4 => ?_⟩
          have hq319 : upd H18 q4 (.lst ((evL b p 0).map V.int)) q3 = some (.lst ((around (evL b p 0) 3).map V.int)) := by rw [upd_ne (ne_of_none hq3 hq4)]; exact hq3
          refine ⟨_, _, _, rfl, rfl, upd_same, by decide, by decide, ?_, fun q5 hq5 => ?_⟩
          · exact small_le (m := 200) (by rw [List.length_map, evL_len]; show b.toNat * 3 ≤ 200; omega)
          have er5 : (List.replicate (3 : Int).toNat ((evL b p 0).map V.int)).flatten = (around (evL b p 0) 3).map V.int := by
            rw [around, List.map_flatten, List.map_replicate]; rfl
          rw [er5]
          have hq320 := ne_of_none hq319 hq5
          refine ⟨_, _, dp_ints (SqL.of (by rw [upd_ne hq320]; exact hq319)), dp_ints (SqL.of upd_same), dI_shaped _, dI_shaped _, _, rfl, ?_⟩
          rw [dI_eqv]
          exact iteNS rfl ⟨⟨_, _, _, _, _, _, _, _, _, _, _, _, _, rfl⟩, (((s15.same e17).same e18).new hq4).new hq5, ((((e15.trans e17).trans e18).new hq4).new hq5)⟩
    · rintro σ H1 ⟨⟨v2, v3, v4, v5, v6, v7, v8, v9, v10, v11, v12, v13, v14, rfl⟩, s1, e1⟩
      exact k _
end
end My

namespace My
open PySem L2
theorem all_mk {P : Program} {w : World} {K : PySem.W.Frag} {h : Heap} {mg : Str → Option Value} {fa : Addr} (X : K.In h) (G : h.Ns mainGlobals mg) (hfa : mg "law" = some (.ref fa))
    {f_law_start : Addr} {od_law_start an_law_start : Option Addr} {sl_law_start : Array (Option Value)} {oc_law_start kV_law_start dc_law_start pm_law_start cd_law_start ct_law_start : Value}
    {f_law_drawn : Addr} {od_law_drawn an_law_drawn : Option Addr} {sl_law_drawn : Array (Option Value)} {oc_law_drawn kV_law_drawn dc_law_drawn pm_law_drawn cd_law_drawn ct_law_drawn : Value}
    {f_law_share : Addr} {od_law_share an_law_share : Option Addr} {sl_law_share : Array (Option Value)} {oc_law_share kV_law_share dc_law_share pm_law_share cd_law_share ct_law_share : Value}
    {f_need_beats : Addr} {od_need_beats an_need_beats : Option Addr} {sl_need_beats : Array (Option Value)} {oc_need_beats kV_need_beats dc_need_beats pm_need_beats cd_need_beats ct_need_beats : Value}
    {f_need_share : Addr} {od_need_share an_need_share : Option Addr} {sl_need_share : Array (Option Value)} {oc_need_share kV_need_share dc_need_share pm_need_share cd_need_share ct_need_share : Value}
    {f_even_frame : Addr} {od_even_frame an_even_frame : Option Addr} {sl_even_frame : Array (Option Value)} {oc_even_frame kV_even_frame dc_even_frame pm_even_frame cd_even_frame ct_even_frame : Value}
    {f_even : Addr} {od_even an_even : Option Addr} {sl_even : Array (Option Value)} {oc_even kV_even dc_even pm_even cd_even ct_even : Value}
    {f_pulsed : Addr} {od_pulsed an_pulsed : Option Addr} {sl_pulsed : Array (Option Value)} {oc_pulsed kV_pulsed dc_pulsed pm_pulsed cd_pulsed ct_pulsed : Value}
    {f_law : Addr} {od_law an_law : Option Addr} {sl_law : Array (Option Value)} {oc_law kV_law dc_law pm_law cd_law ct_law : Value}
    {C_Stream : Addr}
    {f_Stream___init__ : Addr} {od_Stream___init__ an_Stream___init__ : Option Addr} {sl_Stream___init__ : Array (Option Value)} {oc_Stream___init__ kV_Stream___init__ dc_Stream___init__ pm_Stream___init__ cd_Stream___init__ ct_Stream___init__ : Value}
    {f_Stream_next : Addr} {od_Stream_next an_Stream_next : Option Addr} {sl_Stream_next : Array (Option Value)} {oc_Stream_next kV_Stream_next dc_Stream_next pm_Stream_next cd_Stream_next ct_Stream_next : Value}
    {t_MOST_BEATS : Tok}
    {t_MOST_WHOLE : Tok}
    (a_law_start : PySem.W.nsIn K mainGlobals "_law_start" = some (some (.ref f_law_start)))
    (l_law_start : K.lookup f_law_start = some ⟨oc_law_start, od_law_start, .func (PySem.W.fnOf "_law_start" "_law_start" (defArgs s_law_start) (defBody s_law_start) (defScope s_law_start) .none kV_law_start dc_law_start pm_law_start an_law_start cd_law_start ct_law_start), sl_law_start⟩)
    (c_law_start : PySem.W.codeIn K cd_law_start "_law_start" = true)
    (k_law_start : PySem.W.keepIn K (.ref f_law_start) = true)
    (a_law_drawn : PySem.W.nsIn K mainGlobals "_law_drawn" = some (some (.ref f_law_drawn)))
    (l_law_drawn : K.lookup f_law_drawn = some ⟨oc_law_drawn, od_law_drawn, .func (PySem.W.fnOf "_law_drawn" "_law_drawn" (defArgs s_law_drawn) (defBody s_law_drawn) (defScope s_law_drawn) .none kV_law_drawn dc_law_drawn pm_law_drawn an_law_drawn cd_law_drawn ct_law_drawn), sl_law_drawn⟩)
    (c_law_drawn : PySem.W.codeIn K cd_law_drawn "_law_drawn" = true)
    (k_law_drawn : PySem.W.keepIn K (.ref f_law_drawn) = true)
    (a_law_share : PySem.W.nsIn K mainGlobals "_law_share" = some (some (.ref f_law_share)))
    (l_law_share : K.lookup f_law_share = some ⟨oc_law_share, od_law_share, .func (PySem.W.fnOf "_law_share" "_law_share" (defArgs s_law_share) (defBody s_law_share) (defScope s_law_share) .none kV_law_share dc_law_share pm_law_share an_law_share cd_law_share ct_law_share), sl_law_share⟩)
    (c_law_share : PySem.W.codeIn K cd_law_share "_law_share" = true)
    (k_law_share : PySem.W.keepIn K (.ref f_law_share) = true)
    (a_need_beats : PySem.W.nsIn K mainGlobals "need_beats" = some (some (.ref f_need_beats)))
    (l_need_beats : K.lookup f_need_beats = some ⟨oc_need_beats, od_need_beats, .func (PySem.W.fnOf "need_beats" "need_beats" (defArgs s_need_beats) (defBody s_need_beats) (defScope s_need_beats) .none kV_need_beats dc_need_beats pm_need_beats an_need_beats cd_need_beats ct_need_beats), sl_need_beats⟩)
    (c_need_beats : PySem.W.codeIn K cd_need_beats "need_beats" = true)
    (k_need_beats : PySem.W.keepIn K (.ref f_need_beats) = true)
    (a_need_share : PySem.W.nsIn K mainGlobals "need_share" = some (some (.ref f_need_share)))
    (l_need_share : K.lookup f_need_share = some ⟨oc_need_share, od_need_share, .func (PySem.W.fnOf "need_share" "need_share" (defArgs s_need_share) (defBody s_need_share) (defScope s_need_share) .none kV_need_share dc_need_share pm_need_share an_need_share cd_need_share ct_need_share), sl_need_share⟩)
    (c_need_share : PySem.W.codeIn K cd_need_share "need_share" = true)
    (k_need_share : PySem.W.keepIn K (.ref f_need_share) = true)
    (a_even_frame : PySem.W.nsIn K mainGlobals "even_frame" = some (some (.ref f_even_frame)))
    (l_even_frame : K.lookup f_even_frame = some ⟨oc_even_frame, od_even_frame, .func (PySem.W.fnOf "even_frame" "even_frame" (defArgs s_even_frame) (defBody s_even_frame) (defScope s_even_frame) .none kV_even_frame dc_even_frame pm_even_frame an_even_frame cd_even_frame ct_even_frame), sl_even_frame⟩)
    (c_even_frame : PySem.W.codeIn K cd_even_frame "even_frame" = true)
    (k_even_frame : PySem.W.keepIn K (.ref f_even_frame) = true)
    (a_even : PySem.W.nsIn K mainGlobals "even" = some (some (.ref f_even)))
    (l_even : K.lookup f_even = some ⟨oc_even, od_even, .func (PySem.W.fnOf "even" "even" (defArgs s_even) (defBody s_even) (defScope s_even) .none kV_even dc_even pm_even an_even cd_even ct_even), sl_even⟩)
    (c_even : PySem.W.codeIn K cd_even "even" = true)
    (k_even : PySem.W.keepIn K (.ref f_even) = true)
    (a_pulsed : PySem.W.nsIn K mainGlobals "pulsed" = some (some (.ref f_pulsed)))
    (l_pulsed : K.lookup f_pulsed = some ⟨oc_pulsed, od_pulsed, .func (PySem.W.fnOf "pulsed" "pulsed" (defArgs s_pulsed) (defBody s_pulsed) (defScope s_pulsed) .none kV_pulsed dc_pulsed pm_pulsed an_pulsed cd_pulsed ct_pulsed), sl_pulsed⟩)
    (c_pulsed : PySem.W.codeIn K cd_pulsed "pulsed" = true)
    (k_pulsed : PySem.W.keepIn K (.ref f_pulsed) = true)
    (a_law : PySem.W.nsIn K mainGlobals "law" = some (some (.ref f_law)))
    (l_law : K.lookup f_law = some ⟨oc_law, od_law, .func (PySem.W.fnOf "law" "law" (defArgs s_law) (defBody s_law) (defScope s_law) .none kV_law dc_law pm_law an_law cd_law ct_law), sl_law⟩)
    (c_law : PySem.W.codeIn K cd_law "law" = true)
    (k_law : PySem.W.keepIn K (.ref f_law) = true)
    (aC_Stream : PySem.W.nsIn K mainGlobals "Stream" = some (some (.ref C_Stream)))
    (pg_Stream : PySem.W.plainGet K C_Stream Str.empty = true)
    (hd_Stream : PySem.W.hasDictIn K C_Stream = true)
    (po_Stream : PySem.W.plainOver K C_Stream = true)
    (sa_Stream : PySem.W.findIn K (.ref C_Stream) "__setattr__" = some (some (.builtin "object.__setattr__")))
    (mk_Stream : PySem.W.makesIn K C_Stream = true)
    (kc_Stream : PySem.W.keepIn K (.ref C_Stream) = true)
    (no_Stream_whole : PySem.W.findIn K (.ref C_Stream) "whole" = some none)
    (no_Stream_left : PySem.W.findIn K (.ref C_Stream) "left" = some none)
    (no_Stream_told : PySem.W.findIn K (.ref C_Stream) "told" = some none)
    (a_Stream___init__ : PySem.W.findIn K (.ref C_Stream) "__init__" = some (some (.ref f_Stream___init__)))
    (i_Stream___init__ : PySem.W.isFn K (.ref f_Stream___init__) = true)
    (l_Stream___init__ : K.lookup f_Stream___init__ = some ⟨oc_Stream___init__, od_Stream___init__, .func (PySem.W.fnOf "__init__" "Stream.__init__" (defArgs s_Stream_init__) (defBody s_Stream_init__) (defScope s_Stream_init__) .none kV_Stream___init__ dc_Stream___init__ pm_Stream___init__ an_Stream___init__ cd_Stream___init__ ct_Stream___init__), sl_Stream___init__⟩)
    (c_Stream___init__ : PySem.W.codeIn K cd_Stream___init__ "Stream.__init__" = true)
    (k_Stream___init__ : PySem.W.keepIn K (.ref f_Stream___init__) = true)
    (a_Stream_next : PySem.W.findIn K (.ref C_Stream) "next" = some (some (.ref f_Stream_next)))
    (i_Stream_next : PySem.W.isFn K (.ref f_Stream_next) = true)
    (l_Stream_next : K.lookup f_Stream_next = some ⟨oc_Stream_next, od_Stream_next, .func (PySem.W.fnOf "next" "Stream.next" (defArgs s_Stream_next) (defBody s_Stream_next) (defScope s_Stream_next) .none kV_Stream_next dc_Stream_next pm_Stream_next an_Stream_next cd_Stream_next ct_Stream_next), sl_Stream_next⟩)
    (c_Stream_next : PySem.W.codeIn K cd_Stream_next "Stream.next" = true)
    (k_Stream_next : PySem.W.keepIn K (.ref f_Stream_next) = true)
    (g_MOST_BEATS : PySem.W.nsIn K mainGlobals "MOST_BEATS" = some (some (.int 64 t_MOST_BEATS)))
    (g_MOST_WHOLE : PySem.W.nsIn K mainGlobals "MOST_WHOLE" = some (some (.int 1000000000000 t_MOST_WHOLE)))
    (z_divmod : PySem.W.nsIn K mainGlobals "divmod" = some none)
    (z_len : PySem.W.nsIn K mainGlobals "len" = some none)
    (z_range : PySem.W.nsIn K mainGlobals "range" = some none)
    (z_sum : PySem.W.nsIn K mainGlobals "sum" = some none) :
    ∃ fd : FuncData, (∀ (s : Shared) (v : Value), BindsTo s fd ⟨[v], []⟩ [("_law_script", v)]) ∧ ∀ base : Heap, K.In base → base.Ns mainGlobals mg → FnOk P w K mg base CX0 4 fa fd ["_law_script"] (spLaw K) := by
  have e := hfa.symm.trans (PySem.W.mg_of X G a_law)
  cases e
  have T : Txt K mg := ⟨⟨_, PySem.W.mg_of X G g_MOST_BEATS, _, rfl⟩, ⟨_, PySem.W.mg_of X G g_MOST_WHOLE, _, rfl⟩, PySem.W.mg_none_of X G z_divmod, PySem.W.mg_none_of X G z_len, PySem.W.mg_none_of X G z_range, PySem.W.mg_none_of X G z_sum⟩
  have F_law_start := fun_mk (st := s_law_start) l_law_start c_law_start k_law_start
  have G_law_start : FunG K mg "_law_start" s_law_start _ _ ["_law_script"] := ⟨F_law_start, PySem.W.mg_of X G a_law_start, F_law_start.binds (ps := ["_law_script"]) fun _ _ _ _ _ _ us hl => match us, hl with | [_], _ => rfl⟩
  have F_law_drawn := fun_mk (st := s_law_drawn) l_law_drawn c_law_drawn k_law_drawn
  have G_law_drawn : FunG K mg "_law_drawn" s_law_drawn _ _ ["_law_state", "_law_many"] := ⟨F_law_drawn, PySem.W.mg_of X G a_law_drawn, F_law_drawn.binds (ps := ["_law_state", "_law_many"]) fun _ _ _ _ _ _ us hl => match us, hl with | [_, _], _ => rfl⟩
  have F_law_share := fun_mk (st := s_law_share) l_law_share c_law_share k_law_share
  have G_law_share : FunG K mg "_law_share" s_law_share _ _ ["_law_state"] := ⟨F_law_share, PySem.W.mg_of X G a_law_share, F_law_share.binds (ps := ["_law_state"]) fun _ _ _ _ _ _ us hl => match us, hl with | [_], _ => rfl⟩
  have F_need_beats := fun_mk (st := s_need_beats) l_need_beats c_need_beats k_need_beats
  have G_need_beats : FunG K mg "need_beats" s_need_beats _ _ ["beats"] := ⟨F_need_beats, PySem.W.mg_of X G a_need_beats, F_need_beats.binds (ps := ["beats"]) fun _ _ _ _ _ _ us hl => match us, hl with | [_], _ => rfl⟩
  have F_need_share := fun_mk (st := s_need_share) l_need_share c_need_share k_need_share
  have G_need_share : FunG K mg "need_share" s_need_share _ _ ["beats", "pulses"] := ⟨F_need_share, PySem.W.mg_of X G a_need_share, F_need_share.binds (ps := ["beats", "pulses"]) fun _ _ _ _ _ _ us hl => match us, hl with | [_, _], _ => rfl⟩
  have F_even_frame := fun_mk (st := s_even_frame) l_even_frame c_even_frame k_even_frame
  have G_even_frame : FunG K mg "even_frame" s_even_frame _ _ ["beats", "pulses", "turn"] := ⟨F_even_frame, PySem.W.mg_of X G a_even_frame, F_even_frame.binds (ps := ["beats", "pulses", "turn"]) fun _ _ _ _ _ _ us hl => match us, hl with | [_, _, _], _ => rfl⟩
  have F_even := fun_mk (st := s_even) l_even c_even k_even
  have G_even : FunG K mg "even" s_even _ _ ["beats", "pulses", "turn"] := ⟨F_even, PySem.W.mg_of X G a_even, F_even.binds (ps := ["beats", "pulses", "turn"]) fun _ _ _ _ _ _ us hl => match us, hl with | [_, _, _], _ => rfl⟩
  have F_pulsed := fun_mk (st := s_pulsed) l_pulsed c_pulsed k_pulsed
  have G_pulsed : FunG K mg "pulsed" s_pulsed _ _ ["whole", "shares"] := ⟨F_pulsed, PySem.W.mg_of X G a_pulsed, F_pulsed.binds (ps := ["whole", "shares"]) fun _ _ _ _ _ _ us hl => match us, hl with | [_, _], _ => rfl⟩
  have F_law := fun_mk (st := s_law) l_law c_law k_law
  have G_law : FunG K mg "law" s_law _ _ ["_law_script"] := ⟨F_law, PySem.W.mg_of X G a_law, F_law.binds (ps := ["_law_script"]) fun _ _ _ _ _ _ us hl => match us, hl with | [_], _ => rfl⟩
  have F_Stream___init__ := fun_mk (st := s_Stream_init__) l_Stream___init__ c_Stream___init__ k_Stream___init__
  have G_Stream___init__ : FunM K "__init__" "Stream.__init__" s_Stream_init__ _ _ ["self", "whole"] := ⟨F_Stream___init__, F_Stream___init__.binds (ps := ["self", "whole"]) fun _ _ _ _ _ _ us hl => match us, hl with | [_, _], _ => rfl⟩
  have F_Stream_next := fun_mk (st := s_Stream_next) l_Stream_next c_Stream_next k_Stream_next
  have G_Stream_next : FunM K "next" "Stream.next" s_Stream_next _ _ ["self", "share"] := ⟨F_Stream_next, F_Stream_next.binds (ps := ["self", "share"]) fun _ _ _ _ _ _ us hl => match us, hl with | [_, _], _ => rfl⟩
  have SF : StreamF K C_Stream := ⟨⟨pg_Stream, hd_Stream, po_Stream, sa_Stream⟩, no_Stream_whole, no_Stream_left, no_Stream_told⟩
  refine ⟨PySem.W.fnOf "law" "law" (defArgs s_law) (defBody s_law) (defScope s_law) .none kV_law dc_law pm_law an_law cd_law ct_law, fun s v => .of_eq rfl, fun base KB GB => ?_⟩
  have c_law_start := G_law_start.cl (ok_law_start (P := P) (w := w) (base := base) G_law_start )
  have c_law_drawn := G_law_drawn.cl (ok_law_drawn (P := P) (w := w) (base := base) G_law_drawn T)
  have c_law_share := G_law_share.cl (ok_law_share (P := P) (w := w) (base := base) G_law_share c_law_drawn)
  have c_need_beats := G_need_beats.cl (ok_need_beats (P := P) (w := w) (base := base) G_need_beats T)
  have c_need_share := G_need_share.cl (ok_need_share (P := P) (w := w) (base := base) G_need_share c_need_beats)
  have c_even_frame := G_even_frame.cl (ok_even_frame (P := P) (w := w) (base := base) G_even_frame T)
  have c_even := G_even.cl (ok_even (P := P) (w := w) (base := base) G_even c_need_share c_even_frame)
  have c_Stream : ClI P w K mg base CX0 1 "Stream" C_Stream _ := ⟨_, _, _, ⟨mk_Stream, a_Stream___init__, i_Stream___init__, kc_Stream⟩, ok_Stream_init (P := P) (w := w) (mg := mg) (base := base) G_Stream___init__ T SF, PySem.W.mg_of X G aC_Stream, G_Stream___init__.b⟩
  have c_Stream_next : ClMt P w K mg base CX0 1 C_Stream "next" _ := ⟨_, _, _, ⟨pg_Stream, hd_Stream, po_Stream, sa_Stream⟩, ⟨a_Stream_next, i_Stream_next, k_Stream_next⟩, ok_Stream_next (P := P) (w := w) (mg := mg) (base := base) G_Stream_next T SF, G_Stream_next.b⟩
  have c_pulsed := G_pulsed.cl (ok_pulsed (P := P) (w := w) (base := base) G_pulsed T SF c_Stream c_Stream_next)
  exact ok_law (P := P) (w := w) (base := base) G_law T c_law_start c_law_drawn c_law_share c_pulsed c_even
theorem walk {l : PySem.W.OpenLaw} {q : Program} {loose : List Str} {XP : (Str → Option Value) → Heap → Prop} {YP : World → Heap → Prop} {d : DefRec} {K : Params → PySem.W.Frag} (hn : l.most = some 63) (hdf : d.params.defaults = [])
    (hY : ∀ (w : World) (h : Heap), YP w h → (K w.params).In h)
    (F : ∀ (w : World) (mg : Str → Option Value) (fa : Addr) (h : Heap), (K w.params).In h → h.Ns mainGlobals mg → mg d.name = some (.ref fa) →
      ∃ fd : FuncData, (∀ (s : Shared) (u : Value), BindsTo s fd ⟨[u], []⟩ [("_law_script", u)]) ∧ ∀ base : Heap, (K w.params).In base → base.Ns mainGlobals mg → FnOk l.prog w (K w.params) mg base CX0 4 fa fd ["_law_script"] (spLaw (K w.params))) :
    PySem.W.WalkO q loose XP YP l.row.toRowW d [] (fun f vs => PySem.call f vs) :=
  L2.walk_of (n := 63) (k := 4) (x := "_law_script") (CX := fun _ => CX0) (sp := fun w => spLaw (K w.params)) hn (by decide) hdf ⟨rfl, by decide, by decide⟩ hY F (fun _ _ a ns hl _ hS => ⟨a, ns, rfl, hS, hl, fun _ => rfl⟩) fun _ _ _ _ _ z => z
end My
open PySem PySem.W PyProof.Rows in
set_option maxRecDepth 100000 in
set_option maxHeartbeats 0 in
theorem PySem.Challenge.cw_pulseshare_k08_whole_never_a_pulse_apart_holds : PySem.Challenge.rw_pulseshare_k08_whole_never_a_pulse_apart.Holds := by
  w_on; o_law; k_head; (case hw => w_witness2)
  k_fill
  refine My.walk (l := PySem.Challenge.rw_pulseshare_k08_whole_never_a_pulse_apart) rfl rfl (fun w h Y => PySem.W.kIn_of Y) ?F
  case F =>
    intro w mg fa h KX G hmg
    refine' My.all_mk KX G hmg ?a_law_start ?l_law_start ?c_law_start ?k_law_start ?a_law_drawn ?l_law_drawn ?c_law_drawn ?k_law_drawn ?a_law_share ?l_law_share ?c_law_share ?k_law_share ?a_need_beats ?l_need_beats ?c_need_beats ?k_need_beats ?a_need_share ?l_need_share ?c_need_share ?k_need_share ?a_even_frame ?l_even_frame ?c_even_frame ?k_even_frame ?a_even ?l_even ?c_even ?k_even ?a_pulsed ?l_pulsed ?c_pulsed ?k_pulsed ?a_law ?l_law ?c_law ?k_law ?aC_Stream ?pg_Stream ?hd_Stream ?po_Stream ?sa_Stream ?mk_Stream ?kc_Stream ?no_Stream_whole ?no_Stream_left ?no_Stream_told ?a_Stream___init__ ?i_Stream___init__ ?l_Stream___init__ ?c_Stream___init__ ?k_Stream___init__ ?a_Stream_next ?i_Stream_next ?l_Stream_next ?c_Stream_next ?k_Stream_next ?g_MOST_BEATS ?g_MOST_WHOLE ?z_divmod ?z_len ?z_range ?z_sum
    (case a_law_start => k_is)
    (case l_law_start => k_is)
    (case c_law_start => k_is)
    (case k_law_start => k_is)
    (case a_law_drawn => k_is)
    (case l_law_drawn => k_is)
    (case c_law_drawn => k_is)
    (case k_law_drawn => k_is)
    (case a_law_share => k_is)
    (case l_law_share => k_is)
    (case c_law_share => k_is)
    (case k_law_share => k_is)
    (case a_need_beats => k_is)
    (case l_need_beats => k_is)
    (case c_need_beats => k_is)
    (case k_need_beats => k_is)
    (case a_need_share => k_is)
    (case l_need_share => k_is)
    (case c_need_share => k_is)
    (case k_need_share => k_is)
    (case a_even_frame => k_is)
    (case l_even_frame => k_is)
    (case c_even_frame => k_is)
    (case k_even_frame => k_is)
    (case a_even => k_is)
    (case l_even => k_is)
    (case c_even => k_is)
    (case k_even => k_is)
    (case a_pulsed => k_is)
    (case l_pulsed => k_is)
    (case c_pulsed => k_is)
    (case k_pulsed => k_is)
    (case a_law => k_is)
    (case l_law => k_is)
    (case c_law => k_is)
    (case k_law => k_is)
    (case aC_Stream => k_is)
    (case pg_Stream => k_is)
    (case hd_Stream => k_is)
    (case po_Stream => k_is)
    (case sa_Stream => k_is)
    (case mk_Stream => k_is)
    (case kc_Stream => k_is)
    (case no_Stream_whole => k_is)
    (case no_Stream_left => k_is)
    (case no_Stream_told => k_is)
    (case a_Stream___init__ => k_is)
    (case i_Stream___init__ => k_is)
    (case l_Stream___init__ => k_is)
    (case c_Stream___init__ => k_is)
    (case k_Stream___init__ => k_is)
    (case a_Stream_next => k_is)
    (case i_Stream_next => k_is)
    (case l_Stream_next => k_is)
    (case c_Stream_next => k_is)
    (case k_Stream_next => k_is)
    (case g_MOST_BEATS => k_is)
    (case g_MOST_WHOLE => k_is)
    (case z_divmod => k_is)
    (case z_len => k_is)
    (case z_range => k_is)
    (case z_sum => k_is)
