import PyProof.Rows.All
import Wide.All
import OpenK.AllK
import Wide.FinOn
import HandS.ForMost
import HandS.Wide
import HandS.WideBits
import HandS.IsInst
import HandS.Codes
import HandS.SetFor
import HandS.Strs
import HandS.Zip
import PySem.Challenge.RW_pulseshare_k13_whole_runs_and_changes
set_option Elab.async false
set_option linter.all false
set_option maxRecDepth 100000
set_option maxHeartbeats 4000000
namespace My
open PySem L2
def top (i : Nat) : Stmt := PySem.Challenge.pw_pulseshare_k13_whole_runs_and_changes.main.body.getD i (.Pass ⟨0, 0, 0, 0⟩)
/-! ### calls in short -/
/-- a def of the text, where it stands, and how its arguments bind -/
structure FunG (K : PySem.W.Frag) (mg : Str → Option Value) (x : Str) (st : Stmt) (f : Addr) (fd : FuncData) (ps : List Str) : Prop where
  fn : Fun K x x st f fd
  mgf : mg x = some (.ref f)
  b : Binds K fd ps []
/-- a def that may be called by its name -/
structure Cl (P : Program) (w : World) (K : PySem.W.Frag) (mg : Str → Option Value) (base : Heap) (CX : CXT) (k : Nat) (x : Str) (sp : Sp) : Prop where
  ex : ∃ (f : Addr) (fd : FuncData) (ps : List Str), FnOk P w K mg base CX k f fd ps sp ∧ mg x = some (.ref f) ∧ PySem.W.keepIn K (.ref f) = true ∧ Binds K fd ps []
theorem FunG.cl {P : Program} {w : World} {K : PySem.W.Frag} {mg : Str → Option Value} {base : Heap} {CX : CXT} {k : Nat} {x : Str} {st : Stmt} {f : Addr} {fd : FuncData} {ps : List Str} {sp : Sp} (F : FunG K mg x st f fd ps) (h : FnOk P w K mg base CX k f fd ps sp) :
    Cl P w K mg base CX k x sp := ⟨f, fd, ps, h, F.mgf, F.fn.kp, F.b⟩
section
variable {X : Cx} {k j : Nat} {x : Str} {p pos : Pos} {e : Expr} {es : List Expr} {t : TA} {sp : Sp}
theorem pe_cl (c : Cl X.prog X.w X.K X.mg X.base CX0 k x sp) (hr : Room j X.A) (hk : k ≤ j) (hg : Gl X x) (ha : PA X (e :: es) t)
    (hdb : (x == ("__debug__" : Str)) = false := by decide) (he : starEach (e :: es) X.env = (false, eval e X.env) :: starEach es X.env := by rfl) (hpl : (backTo pos (starEach es X.env)).any (·.1) = false := by rfl) :
    PE X (.Call (.Name x p) (e :: es) [] pos) (tCall sp [] E0 t) := by
  obtain ⟨f, fd, ps, F, hm, kp, b⟩ := c.ex
  exact pe_call F (hr.mono hk) hg hm kp b .nil pass0 ha hdb he hpl
end
/-! ### words -/
theorem iteFe {c : Bool} {A B : Prop} (h : c = false) (k : B) : if c = true then A else B := by
  subst h; exact iteF k
theorem iteTe {c : Bool} {A B : Prop} (h : c = true) (k : A) : if c = true then A else B := by
  subst h; exact iteT k
theorem iteJoin {c : Bool} {A B R : Prop} (hA : c = true → R → A) (hB : c = false → R → B) (r : R) : if c = true then A else B := by
  cases c with
  | true => exact iteT (hA rfl r)
  | false => exact iteF (hB rfl r)
theorem neqF {x y : V} (h : x = y) : (!decide (x = y)) = false := by rw [decide_eq_true h]; rfl
/-! ### rules with the written part said (within a comprehension's block it can't be found by unification) -/
section
variable (K : PySem.W.Frag) {X : Cx}
theorem ixL (h : X.K = K := by rfl) : IxR X (rIxL K) := h ▸ ix_list
theorem ixT (h : X.K = K := by rfl) : IxR X (rIxT K) := h ▸ ix_tup
theorem ixQ (h : X.K = K := by rfl) : IxR X (rIx K) := h ▸ ix_seq
theorem slL (h : X.K = K := by rfl) : SlR X (rSlL K) := h ▸ sl_list
theorem opEqD (hu : X.A.units + 64 < cLine) (h : X.K = K := by rfl) : OpR X (compareOp .Eq) (rEqD K) := h ▸ op_eqD hu
theorem opNeD (hu : X.A.units + 64 < cLine) (h : X.K = K := by rfl) : OpR X (compareOp .NotEq) (rNeD K) := h ▸ op_neD hu
theorem opInQ (h : X.K = K := by rfl) : OpR X (compareOp .In) (rIn K false) := h ▸ op_in_seq
theorem opNotInQ (h : X.K = K := by rfl) : OpR X (compareOp .NotIn) (rIn K true) := h ▸ op_notIn_seq
theorem clLen (h : X.K = K := by rfl) : CallR X (.builtin "len") (fun xs H Q => ∃ p ys, xs = [.ref p] ∧ (SqL K H p ys ∨ SqT K H p ys) ∧ Q (.int ys.length) H) := h ▸ call_len_seq
theorem clList (h : X.K = K := by rfl) : CallR X (.type "list") (fun xs H Q => ∃ p ys, xs = [.ref p] ∧ (SqL K H p ys ∨ SqT K H p ys) ∧ ∀ l, H l = none → Q (.ref l) (upd H l (.lst ys))) := h ▸ call_list_of
theorem clSum (hc : X.calm = true) (h : X.K = K := by rfl) : CallR X (.builtin "sum") (rSum K) := h ▸ cr_sum hc
theorem clMax (hc : X.calm = true) (h : X.K = K := by rfl) : CallR X (.builtin "max") (rMax K) := h ▸ cr_max hc
theorem clMin (hc : X.calm = true) (h : X.K = K := by rfl) : CallR X (.builtin "min") (rMin K) := h ▸ cr_min hc
end
/-! ### the drawing state -/
/-- [script, cells begun, mixed, left of a cell] -/
def StO (a : Addr) (i m c : Int) : HO := .lst [.ref a, .int i, .int m, .int c]
structure Drw (i m c : Int) : Prop where
  i0 : 0 ≤ i
  m0 : 0 ≤ m
  m1 : m < 2147483647
  c0 : 0 ≤ c
/-- all but the state is kept -/
def Keep (st : Addr) (H H' : Hp) : Prop := ∀ b o, b ≠ st → H b = some o → H' b = some o
/-- the state at st is good: its script is the list at a of the ints ns -/
structure SOk (K : PySem.W.Frag) (a : Addr) (ns : List Int) (st : Addr) (H : Hp) : Prop where
  len : ns.length ≤ 63
  sq : ∀ H', Keep st H H' → SqL K H' a (ns.map V.int)
  at_ : ∃ i m c, Drw i m c ∧ H st = some (StO a i m c)
section
variable {K : PySem.W.Frag} {a st p : Addr} {ns : List Int} {H H1 H2 : Hp} {o u : HO} {xs : List V}
theorem Keep.refl (st : Addr) (H : Hp) : Keep st H H := fun _ _ _ h => h
theorem Keep.trans (h : Keep st H H1) (h' : Keep st H1 H2) : Keep st H H2 := fun b o hb e => h' b o hb (h b o hb e)
theorem Keep.new (h : Keep st H H1) (hp : H1 p = none) : Keep st H (upd H1 p o) := fun b u hb e => by
  rw [upd_ne (ne_of_none (h b u hb e) hp)]; exact h b u hb e
theorem Keep.mut (h : Keep st H H1) (hp : H p = none) : Keep st H (upd H1 p o) := fun b u hb e => by
  rw [upd_ne (ne_of_none e hp)]; exact h b u hb e
theorem Keep.atSt (h : Keep st H H1) : Keep st H (upd H1 st o) := fun b u hb e => by
  rw [upd_ne hb]; exact h b u hb e
theorem Keep.free (h : Keep st H H1) (hp : p ≠ st) (e : H1 p = none) : H p = none := by
  cases q : H p with
  | none => rfl
  | some o => rw [h p o hp q] at e; cases e
theorem _root_.L2.Same.keep (h : Same H H1) : Keep st H H1 := fun b u _ e => h b u e
theorem _root_.L2.Same.new (h : Same H H1) (hp : H1 p = none) : Same H (upd H1 p o) := fun b u e => by
  rw [upd_ne (ne_of_none (h b u e) hp)]; exact h b u e
theorem _root_.L2.Same.mut (h : Same H H1) (hp : H p = none) : Same H (upd H1 p o) := fun b u e => by
  rw [upd_ne (ne_of_none e hp)]; exact h b u e
theorem _root_.L2.Same.upd (hp : H p = none) : Same H (upd H p o) := (Same.refl H).new hp
/-- the base heap, in which the state does not stand, is kept -/
theorem _root_.L2.Same.keepAll (h : Same H H1) (hst : H st = none) (k : Keep st H1 H2) : Same H H2 := fun b u e => k b u (ne_of_none e hst) (h b u e)
theorem SOk.now (s : SOk K a ns st H) : SqL K H a (ns.map V.int) := s.sq H (Keep.refl st H)
/-- a script that stood in H stands where all but the state is kept -/
theorem SOk.keep (s : SOk K a ns st H) (k : Keep st H H1) {i m c : Int} (d : Drw i m c) (h : H1 st = some (StO a i m c)) : SOk K a ns st H1 := ⟨s.len, fun H' k' => s.sq H' (k.trans k'), i, m, c, d, h⟩
theorem SOk.same (s : SOk K a ns st H) (k : Same H H1) : SOk K a ns st H1 := by
  obtain ⟨i, m, c, d, h⟩ := s.at_
  exact s.keep k.keep d (k _ _ h)
theorem SOk.new (s : SOk K a ns st H) (hp : H p = none) : SOk K a ns st (L2.upd H p o) := s.same (Same.upd hp)
/-- the state's making -/
theorem SOk.make (hl : ns.length ≤ 63) (hq : SqL K H a (ns.map V.int)) (hst : H st = none) {i m c : Int} (d : Drw i m c) : SOk K a ns st (L2.upd H st (StO a i m c)) :=
  ⟨hl, fun _ k' => ((Same.upd hst).keepAll hst k').seq hq, i, m, c, d, upd_same⟩
/-- a list that did not stand in the base heap H0 is changed -/
theorem SOk.mut {H0 : Hp} (s : SOk K a ns st H) (hq : SqL K H0 a (ns.map V.int)) (hst : H0 st = none) (k : Same H0 H) (hp : H0 p = none) (hps : p ≠ st) : SOk K a ns st (L2.upd H p o) := by
  obtain ⟨i, m, c, d, h⟩ := s.at_
  exact ⟨s.len, fun _ k' => ((k.mut hp).keepAll hst k').seq hq, i, m, c, d, by rw [upd_ne hps.symm]; exact h⟩
theorem SOk.ne_of (s : SOk K a ns st H) (hp : H p = none) : p ≠ st := by
  obtain ⟨i, m, c, d, h⟩ := s.at_
  exact (ne_of_none h hp).symm
/-- .. that did not stand in a heap with a good state -/
theorem SOk.mutK {H0 : Hp} (s : SOk K a ns st H) (s0 : SOk K a ns st H0) (k : Keep st H0 H) (hp : H0 p = none) : SOk K a ns st (L2.upd H p o) := by
  obtain ⟨i, m, c, d, h⟩ := s.at_
  have hps : p ≠ st := s0.ne_of hp
  exact ⟨s.len, fun H' k' => s0.sq H' ((k.mut hp).trans k'), i, m, c, d, by rw [upd_ne hps.symm]; exact h⟩
end
/-! ### lists of ints -/
theorem getV {ns : List Int} {i : Nat} {y : V} (h : (ns.map V.int)[i]? = some y) : ∃ z, ns[i]? = some z ∧ y = V.int z := by
  rw [List.getElem?_map] at h
  cases e : ns[i]? with
  | none => rw [e] at h; cases h
  | some z => rw [e] at h; exact ⟨z, rfl, (Option.some.inj h).symm⟩
theorem atV {ns : List Int} {z : Int} {j : Nat} (e : z = (j : Int)) (h : j < ns.length) : atI (ns.map V.int) z = some (V.int (ns.getD j 0)) := by
  refine at_of e ?_
  rw [List.getElem?_map, List.getElem?_eq_getElem h]
  simp [List.getD, List.getElem?_eq_getElem h]
theorem small_of {n m : Nat} (h : n ≤ m) (hm : m < 16000000 := by decide) : n < sizeLine := by rw [sizeLine_eq]; omega
theorem small_le {n m : Nat} (h : n ≤ m) (hm : m < 16000000 := by decide) : n ≤ sizeLine := by rw [sizeLine_eq]; omega
theorem nat_pow {z : Int} {n : Nat} (h0 : 0 ≤ z) (h1 : z < 2 ^ n) : z.natAbs < 2 ^ n := by
  have e : ((2 ^ n : Nat) : Int) = (2 : Int) ^ n := by simp
  omega
/-! ### even frames -/
/-- beat k of the even frame of a share by a turn -/
def evB (b p t : Int) (k : Nat) : Int := ((k : Int) + 1 + t) * p / b - ((k : Int) + t) * p / b
def evL (b p t : Int) : List Int := (List.range b.toNat).map (evB b p t)
theorem evL_len (b p t : Int) : (evL b p t).length = b.toNat := by simp [evL]
/-- what is left beside wholes ahead of beat k -/
def evR (b p t : Int) (k : Nat) : Int := ((k : Int) + t) * p % b
theorem evR_range {b : Int} (hb : 0 < b) (p t : Int) (k : Nat) : 0 ≤ evR b p t k ∧ evR b p t k < b := ⟨Int.emod_nonneg _ (by omega), Int.emod_lt_of_pos _ hb⟩
theorem ev_step (b p t : Int) (k : Nat) : ((k : Int) + 1 + t) * p = ((k : Int) + t) * p + p := by
  rw [show (k : Int) + 1 + t = ((k : Int) + t) + 1 by omega, Int.add_mul, Int.one_mul]
/-- the beat by what is left -/
theorem evB_eq {b p : Int} (hb : 0 < b) (h0 : 0 ≤ p) (h1 : p ≤ b) (t : Int) (k : Nat) : evB b p t k = if b ≤ evR b p t k + p then 1 else 0 := by
  unfold evB evR
  rw [ev_step b]
  generalize ((k : Int) + t) * p = z
  have e := Int.mul_ediv_add_emod z b
  have r0 := Int.emod_nonneg z (show b ≠ 0 by omega)
  have r1 := Int.emod_lt_of_pos z hb
  have q : z + p = (z % b + p) + z / b * b := by rw [Int.mul_comm]; omega
  rw [q, Int.add_mul_ediv_right _ _ (show b ≠ 0 by omega)]
  by_cases c : b ≤ z % b + p
  · rw [if_pos c]
    have : (z % b + p) / b = 1 := by
      have e1 : z % b + p = (z % b + p - b) + 1 * b := by omega
      rw [e1, Int.add_mul_ediv_right _ _ (show b ≠ 0 by omega), Int.ediv_eq_zero_of_lt (by omega) (by omega)]
      omega
    omega
  · rw [if_neg c, Int.ediv_eq_zero_of_lt (by omega) (by omega)]
    omega
theorem evR_next {b p : Int} (hb : 0 < b) (h0 : 0 ≤ p) (h1 : p ≤ b) (t : Int) (k : Nat) : evR b p t (k + 1) = evR b p t k + p - b * evB b p t k := by
  rw [evB_eq hb h0 h1]
  unfold evR
  have e0 : (((k + 1 : Nat) : Int) + t) * p = ((k : Int) + t) * p + p := by
    have e1 : (((k + 1 : Nat) : Int) + t) = (k : Int) + 1 + t := by omega
    rw [e1, ev_step b]
  rw [e0]
  generalize ((k : Int) + t) * p = z
  have e := Int.mul_ediv_add_emod z b
  have r0 := Int.emod_nonneg z (show b ≠ 0 by omega)
  have r1 := Int.emod_lt_of_pos z hb
  have q : z + p = (z % b + p) + z / b * b := by rw [Int.mul_comm]; omega
  rw [q, Int.add_mul_emod_self_right]
  by_cases c : b ≤ z % b + p
  · rw [if_pos c]
    have e1 : z % b + p = (z % b + p - b) + 1 * b := by omega
    rw [e1, Int.add_mul_emod_self_right]
    by_cases c2 : z % b + p - b < b
    · rw [Int.emod_eq_of_lt (by omega) c2]; omega
    · omega
  · rw [if_neg c, Int.emod_eq_of_lt (by omega) (by omega)]; omega
theorem evB_01 {b p : Int} (hb : 0 < b) (h0 : 0 ≤ p) (h1 : p ≤ b) (t : Int) (k : Nat) : evB b p t k = 0 ∨ evB b p t k = 1 := by
  rw [evB_eq hb h0 h1]; split <;> simp
theorem evL_get {b p t : Int} {k : Nat} (h : k < b.toNat) : (evL b p t)[k]? = some (evB b p t k) := by
  unfold evL; simp [h]
theorem evL_take_sum (b p t : Int) : ∀ n : Nat, (((List.range n).map (evB b p t)).sum : Int) = ((n : Int) + t) * p / b - t * p / b
  | 0 => by simp
  | n + 1 => by
    rw [List.range_succ, List.map_append, List.sum_append, evL_take_sum b p t n]
    simp only [List.map_cons, List.map_nil, List.sum_cons, List.sum_nil, evB]
    have : (((n + 1 : Nat) : Int) + t) = (n : Int) + 1 + t := by omega
    rw [this]; omega
theorem evL_sum {b : Int} (hb : 0 < b) (p t : Int) : (evL b p t).sum = p := by
  unfold evL
  rw [evL_take_sum, Int.toNat_of_nonneg (by omega), Int.add_mul, Int.add_comm, Int.mul_comm b p, Int.add_mul_ediv_right _ _ (show b ≠ 0 by omega)]
  omega
/-! ### windows of frames -/
/-- beat k of a frame that goes round -/
def cyc (fs : List Int) (k : Nat) : Int := fs.getD (k % fs.length) 0
/-- the first k beats together, going round -/
def psum (fs : List Int) : Nat → Int
  | 0 => 0
  | k + 1 => psum fs k + cyc fs k
/-- how many are on in the window of w beats from k on -/
def win (fs : List Int) (w k : Nat) : Int := psum fs (k + w) - psum fs k
theorem cyc_add (fs : List Int) (k : Nat) : cyc fs (k + fs.length) = cyc fs k := by simp [cyc]
theorem cyc_lt {fs : List Int} {k : Nat} (h : k < fs.length) : cyc fs k = fs.getD k 0 := by simp [cyc, Nat.mod_eq_of_lt h]
theorem psum_take (fs : List Int) : ∀ k, k ≤ fs.length → psum fs k = (fs.take k).sum
  | 0, _ => by simp [psum]
  | k + 1, h => by
    have hk : k < fs.length := by omega
    rw [psum, psum_take fs k (by omega), cyc_lt hk, List.take_succ_eq_append_getElem hk, List.sum_append]
    simp [List.getD, List.getElem?_eq_getElem hk]
theorem psum_len (fs : List Int) : psum fs fs.length = fs.sum := by rw [psum_take fs _ (Nat.le_refl _), List.take_length]
theorem psum_add_len (fs : List Int) : ∀ k, psum fs (k + fs.length) = psum fs k + fs.sum
  | 0 => by rw [Nat.zero_add, psum_len]; simp [psum]
  | k + 1 => by
    rw [show k + 1 + fs.length = (k + fs.length) + 1 by omega, psum, psum_add_len fs k, cyc_add, psum]; omega
theorem psum_mul (fs : List Int) (r : Nat) : ∀ q : Nat, psum fs (q * fs.length + r) = fs.sum * q + psum fs r
  | 0 => by simp
  | q + 1 => by
    rw [show (q + 1) * fs.length + r = (q * fs.length + r) + fs.length by rw [Nat.add_mul]; omega, psum_add_len, psum_mul fs r q, Int.natCast_add, Int.mul_add]; simp; omega
theorem win_zero (fs : List Int) (w : Nat) : win fs w 0 = psum fs w := by simp [win, psum]
theorem win_next (fs : List Int) (w k : Nat) : win fs w (k + 1) = win fs w k - cyc fs k + cyc fs (k + w) := by
  unfold win
  rw [show k + 1 + w = (k + w) + 1 by omega, psum, psum]; omega
theorem win_first {fs : List Int} (w : Nat) : fs.sum * ((w / fs.length : Nat) : Int) + (fs.take (w % fs.length)).sum = win fs w 0 := by
  rw [win_zero]
  by_cases hn : fs.length = 0
  · have : fs = [] := List.eq_nil_of_length_eq_zero hn
    subst this
    have z : ∀ k, psum [] k = 0 := fun k => by
      induction k with
      | zero => rfl
      | succ k ih => rw [psum, ih]; simp [cyc]
    simp [z]
  · have e : w = (w / fs.length) * fs.length + w % fs.length := by rw [Nat.mul_comm]; exact (Nat.div_add_mod w fs.length).symm
    have hr : w % fs.length ≤ fs.length := Nat.le_of_lt (Nat.mod_lt _ (by omega))
    have h1 := psum_mul fs (w % fs.length) (w / fs.length)
    rw [← e] at h1
    rw [h1, psum_take fs _ hr]
theorem win_round (fs : List Int) (w k : Nat) : win fs w (k + fs.length) = win fs w k := by
  unfold win
  rw [show k + fs.length + w = (k + w) + fs.length by omega, psum_add_len, psum_add_len]; omega
theorem win_mod {fs : List Int} (w : Nat) : ∀ k, win fs w k = win fs w (k % fs.length) := by
  intro k
  have e := Nat.div_add_mod k fs.length
  have h : ∀ q r, win fs w (q * fs.length + r) = win fs w r := fun q r => by
    induction q with
    | zero => simp
    | succ q ih => rw [show (q + 1) * fs.length + r = (q * fs.length + r) + fs.length by rw [Nat.add_mul]; omega, win_round, ih]
  conv => lhs; rw [← e, Nat.mul_comm]
  exact h _ _
/-- all windows of a width -/
def wins (fs : List Int) (w : Nat) : List Int := (List.range fs.length).map (win fs w)
theorem wins_len (fs : List Int) (w : Nat) : (wins fs w).length = fs.length := by simp [wins]
theorem mem_wins {fs : List Int} {w : Nat} {x : Int} : x ∈ wins fs w ↔ ∃ k, k < fs.length ∧ win fs w k = x := by simp [wins]
theorem win_mem {fs : List Int} (h : 0 < fs.length) (w k : Nat) : win fs w k ∈ wins fs w := by
  rw [win_mod]
  exact mem_wins.mpr ⟨_, Nat.mod_lt _ h, rfl⟩
/-! sums over a round -/
def tsum (f : Nat → Int) (n : Nat) : Int := ((List.range n).map f).sum
theorem tsum_zero (f : Nat → Int) : tsum f 0 = 0 := rfl
theorem tsum_succ (f : Nat → Int) (n : Nat) : tsum f (n + 1) = tsum f n + f n := by
  unfold tsum; rw [List.range_succ, List.map_append, List.sum_append]; simp
theorem tsum_add (f g : Nat → Int) : ∀ n, tsum (fun k => f k + g k) n = tsum f n + tsum g n
  | 0 => rfl
  | n + 1 => by rw [tsum_succ, tsum_succ, tsum_succ, tsum_add f g n]; omega
theorem tsum_le {f g : Nat → Int} : ∀ n, (∀ k, k < n → f k ≤ g k) → tsum f n ≤ tsum g n
  | 0, _ => Int.le_refl _
  | n + 1, h => by
    rw [tsum_succ, tsum_succ]
    have := tsum_le n fun k hk => h k (by omega)
    have := h n (by omega)
    omega
theorem tsum_lt {f g : Nat → Int} : ∀ n, (∀ k, k < n → f k ≤ g k) → (∃ k, k < n ∧ f k < g k) → tsum f n < tsum g n
  | 0, _, ⟨k, hk, _⟩ => by omega
  | n + 1, h, ⟨k, hk, hl⟩ => by
    rw [tsum_succ, tsum_succ]
    have h1 := h n (by omega)
    by_cases e : k = n
    · subst e
      have := tsum_le k fun j hj => h j (by omega)
      omega
    · have := tsum_lt n (fun j hj => h j (by omega)) ⟨k, by omega, hl⟩
      omega
theorem tsum_const (c : Int) : ∀ n : Nat, tsum (fun _ => c) n = n * c
  | 0 => by simp [tsum_zero]
  | n + 1 => by rw [tsum_succ, tsum_const c n, Int.natCast_add, Int.add_mul]; simp
theorem tsum_congr {f g : Nat → Int} (n : Nat) (h : ∀ k, k < n → f k = g k) : tsum f n = tsum g n := by
  have h1 := tsum_le n fun k hk => Int.le_of_eq (h k hk)
  have h2 := tsum_le n fun k hk => Int.le_of_eq (h k hk).symm
  omega
theorem psum_tsum (fs : List Int) : ∀ k, psum fs k = tsum (cyc fs) k
  | 0 => rfl
  | k + 1 => by rw [psum, tsum_succ, psum_tsum fs k]
theorem tsum_shift (fs : List Int) : ∀ d, tsum (fun k => cyc fs (k + d)) fs.length = fs.sum := by
  intro d
  have h : ∀ n, tsum (fun k => cyc fs (k + d)) n = psum fs (n + d) - psum fs d := fun n => by
    induction n with
    | zero => simp [tsum_zero]
    | succ n ih => rw [tsum_succ, ih, show n + 1 + d = (n + d) + 1 by omega, psum]; omega
  rw [h, Nat.add_comm, psum_add_len]; omega
/-- all windows of a width together -/
theorem wins_sum (fs : List Int) : ∀ w : Nat, tsum (win fs w) fs.length = w * fs.sum
  | 0 => by
    have h : tsum (win fs 0) fs.length = tsum (fun _ => (0 : Int)) fs.length := tsum_congr _ fun k _ => by simp [win]
    rw [h, tsum_const]; simp
  | w + 1 => by
    have h : tsum (win fs (w + 1)) fs.length = tsum (fun k => win fs w k + cyc fs (k + w)) fs.length := tsum_congr _ fun k _ => by
      unfold win
      rw [show k + (w + 1) = (k + w) + 1 by omega, psum]; omega
    rw [h, tsum_add, wins_sum fs w, tsum_shift, Int.natCast_add, Int.add_mul]; simp
/-! ### spread -/
/-- windows of each width up to the beats are at most one apart -/
def Spread (fs : List Int) : Prop := ∀ w, 1 ≤ w → w ≤ fs.length → ∀ i j, i < fs.length → j < fs.length → win fs w i - win fs w j ≤ 1
theorem Spread.near {fs : List Int} (h : Spread fs) (h0 : 0 < fs.length) (w i : Nat) (hw : w ≤ fs.length) : (fs.length : Int) * win fs w i - w * fs.sum < fs.length ∧ -(fs.length : Int) < (fs.length : Int) * win fs w i - w * fs.sum := by
  rcases Nat.eq_zero_or_pos w with e | hw0
  · subst e
    have : win fs 0 i = 0 := by simp [win]
    rw [this]; simp; omega
  rw [win_mod]
  have hi : i % fs.length < fs.length := Nat.mod_lt _ h0
  generalize i % fs.length = k at hi
  have s := wins_sum fs w
  have up : tsum (win fs w) fs.length < tsum (fun _ => win fs w k + 1) fs.length := tsum_lt _ (fun j hj => by have := h w hw0 hw j k hj hi; omega) ⟨k, hi, by omega⟩
  have dn : tsum (fun _ => win fs w k - 1) fs.length < tsum (win fs w) fs.length := tsum_lt _ (fun j hj => by have := h w hw0 hw k j hi hj; omega) ⟨k, hi, by omega⟩
  rw [tsum_const] at up dn
  rw [s] at up dn
  rw [Int.mul_add] at up
  rw [Int.mul_sub] at dn
  constructor <;> omega
/-- the least, the greatest of finitely many -/
theorem exists_max (f : Nat → Int) : ∀ n, 0 < n → ∃ k, k < n ∧ ∀ j, j < n → f j ≤ f k
  | 1, _ => ⟨0, by omega, fun j hj => by have : j = 0 := by omega
                                         subst this; exact Int.le_refl _⟩
  | n + 2, _ => by
    obtain ⟨k, hk, h⟩ := exists_max f (n + 1) (by omega)
    by_cases c : f k ≤ f (n + 1)
    · refine ⟨n + 1, by omega, fun j hj => ?_⟩
      by_cases e : j = n + 1
      · subst e; exact Int.le_refl _
      · exact Int.le_trans (h j (by omega)) c
    · refine ⟨k, by omega, fun j hj => ?_⟩
      by_cases e : j = n + 1
      · subst e; omega
      · exact h j (by omega)
/-- a spread frame is an even one -/
theorem Spread.even {fs : List Int} (h : Spread fs) (h0 : 0 < fs.length) : ∃ t : Nat, t < fs.length ∧ evL (fs.length : Int) fs.sum (t : Int) = fs := by
  obtain ⟨k0, hk0, hmax⟩ := exists_max (fun k => (fs.length : Int) * psum fs k - k * fs.sum) fs.length h0
  -- the greatest lies less than the beats above any
  have key : ∀ k, (fs.length : Int) * psum fs k - k * fs.sum ≤ (fs.length : Int) * psum fs k0 - k0 * fs.sum ∧ (fs.length : Int) * psum fs k0 - k0 * fs.sum < (fs.length : Int) * psum fs k - k * fs.sum + fs.length := by
    have base : ∀ k, k < fs.length → (fs.length : Int) * psum fs k - k * fs.sum ≤ (fs.length : Int) * psum fs k0 - k0 * fs.sum ∧ (fs.length : Int) * psum fs k0 - k0 * fs.sum < (fs.length : Int) * psum fs k - k * fs.sum + fs.length := by
      intro k hk
      refine ⟨hmax k hk, ?_⟩
      by_cases c : k ≤ k0
      · obtain ⟨d, rfl⟩ : ∃ d, k0 = k + d := ⟨k0 - k, by omega⟩
        have n := (h.near h0 d k (by omega)).1
        unfold win at n
        rw [Int.mul_sub] at n
        rw [Int.natCast_add, Int.add_mul]
        omega
      · obtain ⟨d, rfl⟩ : ∃ d, k = k0 + d := ⟨k - k0, by omega⟩
        have n := (h.near h0 d k0 (by omega)).2
        unfold win at n
        rw [Int.mul_sub] at n
        rw [Int.natCast_add, Int.add_mul]
        omega
    intro k
    have e := Nat.div_add_mod k fs.length
    have hk := base (k % fs.length) (Nat.mod_lt _ h0)
    have h1 := psum_mul fs (k % fs.length) (k / fs.length)
    rw [Nat.mul_comm, ] at e
    rw [e] at h1
    have e2 : (k : Int) = (k / fs.length : Nat) * (fs.length : Int) + (k % fs.length : Nat) := by
      have := congrArg (fun z : Nat => (z : Int)) e
      simp only [Int.natCast_add, Int.natCast_mul] at this
      omega
    have e3 : (fs.length : Int) * psum fs k - k * fs.sum = (fs.length : Int) * psum fs (k % fs.length) - (k % fs.length : Nat) * fs.sum := by
      rw [h1]
      have : (k : Int) * fs.sum = (k / fs.length : Nat) * (fs.length : Int) * fs.sum + (k % fs.length : Nat) * fs.sum := by
        rw [← Int.add_mul]; congr 1
      rw [this, Int.mul_add, show (fs.length : Int) * (fs.sum * ((k / fs.length : Nat) : Int)) = ((k / fs.length : Nat) : Int) * (fs.length : Int) * fs.sum by
        rw [Int.mul_comm fs.sum, ← Int.mul_assoc, Int.mul_comm (fs.length : Int)]]
      omega
    rw [e3]; exact hk
  -- so the sums are floors
  have floor : ∀ k : Nat, psum fs k = ((k : Int) - k0) * fs.sum / fs.length + psum fs k0 := by
    intro k
    obtain ⟨a, b⟩ := key k
    have hn : (0 : Int) < fs.length := by omega
    have e : ((k : Int) - k0) * fs.sum = (fs.length : Int) * (psum fs k - psum fs k0) + (((fs.length : Int) * psum fs k0 - k0 * fs.sum) - ((fs.length : Int) * psum fs k - k * fs.sum)) := by
      rw [Int.sub_mul, Int.mul_sub]; omega
    rw [e, Int.add_comm ((fs.length : Int) * _), Int.add_mul_ediv_left _ _ (by omega), Int.ediv_eq_zero_of_lt (by omega) (by omega)]
    omega
  refine ⟨(fs.length - k0) % fs.length, Nat.mod_lt _ h0, ?_⟩
  -- the turn: less k0, going round
  have turn : ∀ k : Nat, evB (fs.length : Int) fs.sum (((fs.length - k0) % fs.length : Nat) : Int) k = evB (fs.length : Int) fs.sum (-(k0 : Int)) k := by
    intro k
    by_cases c : k0 = 0
    · subst c; simp
    · rw [Nat.mod_eq_of_lt (by omega)]
      have hn : (fs.length : Int) ≠ 0 := by omega
      unfold evB
      have e1 : ((k : Int) + 1 + ((fs.length - k0 : Nat) : Int)) * fs.sum = ((k : Int) + 1 + -(k0 : Int)) * fs.sum + fs.length * fs.sum := by
        rw [← Int.add_mul]; congr 1; omega
      have e2 : ((k : Int) + ((fs.length - k0 : Nat) : Int)) * fs.sum = ((k : Int) + -(k0 : Int)) * fs.sum + fs.length * fs.sum := by
        rw [← Int.add_mul]; congr 1; omega
      rw [e1, e2, Int.add_mul_ediv_left _ _ hn, Int.add_mul_ediv_left _ _ hn]
      omega
  apply List.ext_getElem
  · rw [evL_len]; simp
  · intro k h1 h2
    have hk : k < ((fs.length : Nat) : Int).toNat := by simpa [evL_len] using h1
    have g : (evL (fs.length : Int) fs.sum (((fs.length - k0) % fs.length : Nat) : Int))[k]? = some (evB (fs.length : Int) fs.sum (((fs.length - k0) % fs.length : Nat) : Int) k) := evL_get hk
    rw [List.getElem?_eq_getElem h1] at g
    rw [Option.some.inj g, turn]
    unfold evB
    have f1 := floor (k + 1)
    have f0 := floor k
    rw [psum, cyc_lt h2] at f1
    have e1 : ((k + 1 : Nat) : Int) - k0 = (k : Int) + 1 + -(k0 : Int) := by omega
    have e0 : (k : Int) - k0 = (k : Int) + -(k0 : Int) := by omega
    rw [e1] at f1
    rw [e0] at f0
    have : fs.getD k 0 = fs[k] := by simp [List.getD, List.getElem?_eq_getElem h2]
    omega
/-! ### windows of even frames -/
theorem evL_cyc {b p t : Int} (hb : 0 < b) (k : Nat) : cyc (evL b p t) k = evB b p t k := by
  have hl : (evL b p t).length = b.toNat := evL_len b p t
  have h0 : 0 < (evL b p t).length := by omega
  unfold cyc
  have g := evL_get (b := b) (p := p) (t := t) (k := k % (evL b p t).length) (by have := Nat.mod_lt k h0; omega)
  rw [List.getD, g, Option.getD_some]
  have e := Nat.div_add_mod k (evL b p t).length
  generalize k % (evL b p t).length = r at e
  generalize k / (evL b p t).length = q at e
  subst e
  unfold evB
  have e1 : (((evL b p t).length * q + r : Nat) : Int) = b * (q : Int) + (r : Int) := by rw [hl]; simp [Int.toNat_of_nonneg (Int.le_of_lt hb)]
  have e2 : ((b * (q : Int) + (r : Int)) + 1 + t) * p = ((r : Int) + 1 + t) * p + b * ((q : Int) * p) := by
    rw [show (b * (q : Int) + (r : Int)) + 1 + t = ((r : Int) + 1 + t) + b * (q : Int) by omega, Int.add_mul, Int.mul_assoc]
  have e3 : ((b * (q : Int) + (r : Int)) + t) * p = ((r : Int) + t) * p + b * ((q : Int) * p) := by
    rw [show (b * (q : Int) + (r : Int)) + t = ((r : Int) + t) + b * (q : Int) by omega, Int.add_mul, Int.mul_assoc]
  rw [e1, e2, e3, Int.add_mul_ediv_left _ _ (show b ≠ 0 by omega), Int.add_mul_ediv_left _ _ (show b ≠ 0 by omega)]
  omega
theorem evL_psum {b p t : Int} (hb : 0 < b) : ∀ k : Nat, psum (evL b p t) k = ((k : Int) + t) * p / b - t * p / b
  | 0 => by simp [psum]
  | k + 1 => by
    rw [psum, evL_psum hb k, evL_cyc hb, evB]
    have e1 : (((k + 1 : Nat) : Int) + t) = (k : Int) + 1 + t := by omega
    rw [e1]; omega
theorem evL_win {b p t : Int} (hb : 0 < b) (w k : Nat) : win (evL b p t) w k = (((k : Int) + t) * p + (w : Int) * p) / b - ((k : Int) + t) * p / b := by
  unfold win
  rw [evL_psum hb, evL_psum hb]
  have e : (((k + w : Nat) : Int) + t) * p = ((k : Int) + t) * p + (w : Int) * p := by
    rw [← Int.add_mul]; congr 1; omega
  rw [e]; omega
theorem div_part {x y b : Int} (hb : 0 < b) : y / b ≤ (x + y) / b - x / b ∧ (x + y) / b - x / b ≤ y / b + 1 := by
  have ex := Int.mul_ediv_add_emod x b
  have ey := Int.mul_ediv_add_emod y b
  have rx0 := Int.emod_nonneg x (show b ≠ 0 by omega)
  have rx1 := Int.emod_lt_of_pos x hb
  have ry0 := Int.emod_nonneg y (show b ≠ 0 by omega)
  have ry1 := Int.emod_lt_of_pos y hb
  have q : x + y = (x % b + y % b) + b * (x / b + y / b) := by rw [Int.mul_add]; omega
  rw [q, Int.add_mul_ediv_left _ _ (show b ≠ 0 by omega)]
  by_cases c : x % b + y % b < b
  · rw [Int.ediv_eq_zero_of_lt (by omega) c]; omega
  · have : (x % b + y % b) / b = 1 := by
      have e1 : x % b + y % b = (x % b + y % b - b) + b * 1 := by omega
      rw [e1, Int.add_mul_ediv_left _ _ (show b ≠ 0 by omega), Int.ediv_eq_zero_of_lt (by omega) (by omega)]; omega
    omega
/-- the windows of an even frame have the width's part, down to a whole one, or one more -/
theorem evL_part {b p t : Int} (hb : 0 < b) (w k : Nat) : (w : Int) * p / b ≤ win (evL b p t) w k ∧ win (evL b p t) w k ≤ (w : Int) * p / b + 1 := by
  rw [evL_win hb]; exact div_part hb
theorem evL_spread {b p t : Int} (hb : 0 < b) : Spread (evL b p t) := fun w _ _ i j _ _ => by
  have h1 := evL_part (p := p) (t := t) hb w i
  have h2 := evL_part (p := p) (t := t) hb w j
  omega
/-- all as many just where beats go into the width times the pulses -/
theorem evL_exact {b p t : Int} (hb : 0 < b) (w : Nat) : (∀ i j, i < b.toNat → j < b.toNat → win (evL b p t) w i = win (evL b p t) w j) ↔ (w : Int) * p % b = 0 := by
  have hl := evL_len b p t
  constructor
  · intro h
    have s := wins_sum (evL b p t) w
    rw [evL_sum hb, hl] at s
    have c : tsum (win (evL b p t) w) b.toNat = tsum (fun _ => win (evL b p t) w 0) b.toNat := tsum_congr _ fun k hk => h k 0 hk (by omega)
    rw [c, tsum_const, Int.toNat_of_nonneg (by omega)] at s
    rw [← s]
    exact Int.mul_emod_right b _
  · intro h i j _ _
    have e := Int.mul_ediv_add_emod ((w : Int) * p) b
    rw [h] at e
    rw [evL_win hb, evL_win hb]
    have e2 : (w : Int) * p = b * ((w : Int) * p / b) := by omega
    rw [e2, Int.add_mul_ediv_left _ _ (show b ≠ 0 by omega), Int.add_mul_ediv_left _ _ (show b ≠ 0 by omega)]
    omega
/-! ### windows cut out of a frame laid several times -/
def around (fs : List Int) (m : Nat) : List Int := (List.replicate m fs).flatten
theorem around_len (fs : List Int) (m : Nat) : (around fs m).length = m * fs.length := by simp [around]
theorem around_succ (fs : List Int) (m : Nat) : around fs (m + 1) = fs ++ around fs m := by simp [around, List.replicate_succ]
theorem around_take (fs : List Int) : ∀ (m k : Nat), k ≤ m * fs.length → ((around fs m).take k).sum = psum fs k
  | 0, k, h => by
    have : k = 0 := by omega
    subst this; simp [psum]
  | m + 1, k, h => by
    rw [around_succ]
    by_cases c : k ≤ fs.length
    · rw [List.take_append_of_le_length c, psum_take fs k c]
    · obtain ⟨d, rfl⟩ : ∃ d, k = fs.length + d := ⟨k - fs.length, by omega⟩
      rw [List.take_append, List.sum_append, List.take_of_length_le (by omega), show fs.length + d - fs.length = d by omega, around_take fs m d (by rw [Nat.add_mul] at h; omega), Nat.add_comm fs.length d, psum_add_len]
      omega
theorem drop_take_sum (l : List Int) (k w : Nat) : ((l.drop k).take w).sum = (l.take (k + w)).sum - (l.take k).sum := by
  rw [List.take_add, List.sum_append]; omega
theorem around_win {fs : List Int} {m k w : Nat} (h : k + w ≤ m * fs.length) : (((around fs m).drop k).take w).sum = win fs w k := by
  rw [drop_take_sum, around_take fs m _ h, around_take fs m k (by omega)]; rfl
/-! ### turns of a frame -/
def TS (fs : List Int) (n : Nat) : List Nat := (List.range n).filter fun j => decide (evL (fs.length : Int) fs.sum (j : Int) = fs)
theorem TS_succ (fs : List Int) (n : Nat) : TS fs (n + 1) = if evL (fs.length : Int) fs.sum (n : Int) = fs then TS fs n ++ [n] else TS fs n := by
  unfold TS
  rw [List.range_succ, List.filter_append]
  by_cases c : evL (fs.length : Int) fs.sum (n : Int) = fs
  · rw [if_pos c]; simp [c]
  · rw [if_neg c]; simp [c]
theorem TS_none {fs : List Int} : ∀ {n : Nat}, (∀ j, j < n → evL (fs.length : Int) fs.sum (j : Int) ≠ fs) → TS fs n = []
  | 0, _ => rfl
  | n + 1, h => by rw [TS_succ, if_neg (h n (by omega)), TS_none fun j hj => h j (by omega)]
theorem TS_first {fs : List Int} {t : Nat} (ht : evL (fs.length : Int) fs.sum (t : Int) = fs) (hn : ∀ j, j < t → evL (fs.length : Int) fs.sum (j : Int) ≠ fs) : ∀ n, t < n → ∃ r, TS fs n = t :: r
  | 0, h => absurd h (Nat.not_lt_zero _)
  | n + 1, h => by
    rw [TS_succ]
    by_cases e : t = n
    · subst e
      rw [if_pos ht, TS_none hn]
      exact ⟨[], rfl⟩
    · obtain ⟨r, hr⟩ := TS_first ht hn n (by omega)
      rw [hr]
      split
      · exact ⟨_, rfl⟩
      · exact ⟨_, rfl⟩
theorem TS_len (fs : List Int) (n : Nat) : (TS fs n).length ≤ n := by
  unfold TS
  have := List.length_filter_le (fun j : Nat => decide (evL (fs.length : Int) fs.sum (j : Int) = fs)) (List.range n)
  rw [List.length_range] at this
  exact this
theorem TS_ne {fs : List Int} {n : Nat} : TS fs n ≠ [] ↔ ∃ t, t < n ∧ evL (fs.length : Int) fs.sum (t : Int) = fs := by
  constructor
  · intro h
    obtain ⟨t, ht⟩ := List.exists_mem_of_ne_nil _ h
    unfold TS at ht
    obtain ⟨h1, h2⟩ := List.mem_filter.mp ht
    exact ⟨t, List.mem_range.mp h1, of_decide_eq_true h2⟩
  · rintro ⟨t, ht, e⟩ h
    have : t ∈ TS fs n := List.mem_filter.mpr ⟨List.mem_range.mpr ht, decide_eq_true e⟩
    rw [h] at this
    cases this
/-- a frame is spread just where some turn tells it -/
theorem spread_iff {fs : List Int} (h0 : 0 < fs.length) : Spread fs ↔ TS fs fs.length ≠ [] := by
  rw [TS_ne]
  constructor
  · exact fun h => h.even h0
  · rintro ⟨t, _, e⟩
    rw [← e]
    exact evL_spread (by omega)
def SpreadTo (fs : List Int) (n : Nat) : Prop := ∀ w, 1 ≤ w → w ≤ n → ∀ i j, i < fs.length → j < fs.length → win fs w i - win fs w j ≤ 1
theorem SpreadTo.zero (fs : List Int) : SpreadTo fs 0 := fun w h1 h2 => by omega
theorem spreadTo_succ {fs : List Int} {n : Nat} {lo hi : Int} (l1 : lo ∈ wins fs (n + 1)) (l2 : ∀ y, y ∈ wins fs (n + 1) → lo ≤ y) (h1 : hi ∈ wins fs (n + 1)) (h2 : ∀ y, y ∈ wins fs (n + 1) → y ≤ hi) : SpreadTo fs (n + 1) ↔ SpreadTo fs n ∧ hi - lo < 2 := by
  constructor
  · intro h
    refine ⟨fun w a b => h w a (by omega), ?_⟩
    obtain ⟨i, hi', rfl⟩ := mem_wins.mp l1
    obtain ⟨j, hj, rfl⟩ := mem_wins.mp h1
    have := h (n + 1) (by omega) (Nat.le_refl _) j i hj hi'
    omega
  · rintro ⟨h, d⟩ w a b i j hi' hj
    by_cases e : w = n + 1
    · subst e
      have := l2 _ (mem_wins.mpr ⟨j, hj, rfl⟩)
      have := h2 _ (mem_wins.mpr ⟨i, hi', rfl⟩)
      omega
    · exact h w a (by omega) i j hi' hj
/-! ### data of ints -/
def dI (ns : List Int) : PyData := .list (ns.map PyData.int)
theorem dI_layA : ∀ ns : List Int, PyData.canLayAll0 (ns.map PyData.int) = true
  | [] => by simp [PyData.canLayAll0]
  | z :: zs => by simp [PyData.canLayAll0, PyData.canLay0, dI_layA zs]
theorem dI_depthA : ∀ ns : List Int, PyData.depthAll (ns.map PyData.int) ≤ 1
  | [] => by simp [PyData.depthAll]
  | z :: zs => by
    have h1 := dI_depthA zs
    simp only [List.map_cons, PyData.depthAll, PyData.depth]
    omega
theorem dI_shaped (ns : List Int) : SeqAt.shaped (dI ns) = true := by
  have h1 := dI_depthA ns
  have h2 : PyData.depth (dI ns) ≤ 64 := by
    unfold dI
    simp only [PyData.depth]
    omega
  show (PyData.canLay0 (dI ns) && decide (PyData.depth (dI ns) ≤ 64)) = true
  rw [Bool.and_eq_true]
  exact ⟨by unfold dI; simp only [PyData.canLay0]; exact dI_layA ns, decide_eq_true h2⟩
theorem dI_eqvA : ∀ ns ms : List Int, PyData.eqvAll (ns.map PyData.int) (ms.map PyData.int) = decide (ns = ms)
  | [], [] => by simp [PyData.eqvAll]
  | [], _ :: _ => by simp [PyData.eqvAll]
  | _ :: _, [] => by simp [PyData.eqvAll]
  | n :: ns, m :: ms => by
    rw [List.map_cons, List.map_cons, PyData.eqvAll, dI_eqvA ns ms]
    by_cases e : n = m
    · subst e; simp [PyData.eqv]
    · simp [PyData.eqv, e]
theorem dI_eqv (ns ms : List Int) : PyData.eqv (dI ns) (dI ms) = decide (ns = ms) := by
  unfold dI
  simp only [PyData.eqv]
  exact dI_eqvA ns ms
theorem dpA_ints {K : PySem.W.Frag} {H : Hp} : ∀ ns : List Int, DpAll K H (ns.map V.int) (ns.map PyData.int)
  | [] => .nil
  | n :: ns => .cons (.int n) (dpA_ints ns)
theorem dp_ints {K : PySem.W.Frag} {H : Hp} {a : Addr} {ns : List Int} (h : SqL K H a (ns.map V.int)) : Dp K H (.ref a) (dI ns) := .lst h (dpA_ints ns)
theorem dp_nil {K : PySem.W.Frag} {H : Hp} {a : Addr} (h : SqL K H a []) : Dp K H (.ref a) (dI []) := dp_ints (ns := []) h
/-! ### cuts of lists of ints -/
theorem cut_to {ns : List Int} {k : Nat} (hk : k ≤ ns.length) : cutV (ns.map V.int) none (some (k : Int)) = (ns.take k).map V.int := by
  unfold cutV
  rw [HT.sIx_none, HT.sIx_nat, List.length_map, Nat.min_eq_left hk, List.drop_zero, Nat.sub_zero, List.map_take]
theorem cut_from {ns : List Int} {k : Nat} (hk : k ≤ ns.length) : cutV (ns.map V.int) (some (k : Int)) none = (ns.drop k).map V.int := by
  unfold cutV
  rw [HT.sIx_none, HT.sIx_nat, List.length_map, Nat.min_eq_left hk, List.map_drop]
  exact List.take_of_length_le (by rw [List.length_drop, List.length_map]; exact Nat.le_refl _)
theorem cut_mid {ns : List Int} {i j : Nat} (hi : i ≤ j) (hj : j ≤ ns.length) : cutV (ns.map V.int) (some (i : Int)) (some (j : Int)) = ((ns.drop i).take (j - i)).map V.int := by
  unfold cutV
  rw [HT.sIx_nat, HT.sIx_nat, List.length_map, Nat.min_eq_left (show i ≤ ns.length by omega), Nat.min_eq_left hj, List.map_take, List.map_drop]
/-! ### frames -/
structure Frm (fs : List Int) : Prop where
  pos : 0 < fs.length
  le : fs.length ≤ 64
  bit : ∀ f ∈ fs, f = 0 ∨ f = 1
theorem bits_sum : ∀ {fs : List Int}, (∀ f ∈ fs, f = 0 ∨ f = 1) → 0 ≤ fs.sum ∧ fs.sum ≤ fs.length
  | [], _ => by simp
  | f :: fs, h => by
    have h1 := bits_sum (fs := fs) fun g hg => h g (List.mem_cons_of_mem _ hg)
    have h2 := h f List.mem_cons_self
    rw [List.sum_cons, List.length_cons]
    omega
theorem Frm.sum {fs : List Int} (h : Frm fs) : 0 ≤ fs.sum ∧ fs.sum ≤ fs.length := bits_sum h.bit
theorem Frm.getD {fs : List Int} (h : Frm fs) (k : Nat) : fs.getD k 0 = 0 ∨ fs.getD k 0 = 1 := by
  by_cases c : k < fs.length
  · have e : fs.getD k 0 = fs[k] := by simp [List.getD, List.getElem?_eq_getElem c]
    rw [e]
    exact h.bit _ (List.getElem_mem c)
  · left
    simp [List.getD, List.getElem?_eq_none (Nat.le_of_not_lt c)]
theorem evL_frm {b p : Int} (b0 : 1 ≤ b) (b1 : b ≤ 64) (p0 : 0 ≤ p) (p1 : p ≤ b) (t : Int) : Frm (evL b p t) := by
  refine ⟨by rw [evL_len]; omega, by rw [evL_len]; omega, fun f hf => ?_⟩
  unfold evL at hf
  obtain ⟨k, _, rfl⟩ := List.mem_map.mp hf
  exact evB_01 (by omega) p0 p1 t k
def Lo (ws : List Int) (m : Int) : Prop := m ∈ ws ∧ ∀ y, y ∈ ws → m ≤ y
def Hi (ws : List Int) (m : Int) : Prop := m ∈ ws ∧ ∀ y, y ∈ ws → y ≤ m
theorem divP {i j : Int} {b : Nat} (h : 0 < j) (hb : j.natAbs < 2 ^ b) (h0 : 0 < b) (h9 : b ≤ 9000) : CDivP i j := ⟨h, PyProof.noPylong_of_log2 (Nat.lt_of_lt_of_le (PySem.Flt.log2_lt_of h0 hb) h9)⟩
/-! ### set(xs) of a list of ints -/
namespace SetL
open PySem PySem.Spec PyProof.Rows L2
/-- an empty set, as it is made -/
abbrev fresh (w : World) : Obj := { cls := .type "set", dict := none, data := .set #[] 0 (.fresh 0 0 (!w.params.followText "set-order")) }
section
variable {P : Program} {w : World} {A : Around} {E : Value → Shared → Prop} {s : Shared}
/-- what set(l) leaves: a set of the ints, all else kept -/
def Made (w : World) (s : Shared) (ns : List Int) (h' : Heap) : Prop := ∃ c, SetR w h' s.heap.objs.size (fun j => decide (j ∈ ns)) c ∧ ∀ b o, s.heap.get? b = some o → h'.get? b = some o
set_option maxRecDepth 100000 in
set_option maxHeartbeats 3200000 in
/-- the set, just made, takes the list's items -/
theorem fill {l : Addr} {its : Array Value} {ns : List Int} {Q : Value → Shared → Prop} (hd : A.handled = none) (hl : s.heap.IsList l its) (hi : IntsAre its.toList ns) (room : ns.length + 1 < scanBound)
    (h : ∀ (h' : Heap) (tk : Nat), Made w s ns h' → Q .none { s with heap := h', toks := tk }) :
    codeAny (model P w) A (.call (.builtin "set.__init__") ⟨[.ref s.heap.objs.size, .ref l], []⟩) (wants Q E) { s with heap := s.heap.push (fresh w) } := by
  have size : its.size = ns.length := by have q := IntsAre.length hi; rw [Array.length_toList] at q; exact q
  have at_ : (s.heap.push (fresh w)).get? s.heap.objs.size = some (fresh w) := Heap.get?_push_size _ rfl
  have ty : Shared.TypeIs { s with heap := s.heap.push (fresh w) } (.ref s.heap.objs.size) "set" := ⟨_, at_, rfl⟩
  refine codeAny_call_builtin F.called_set.init.plain F.entry_set_init (check_set_init_1 ty ?_)
  obtain ⟨⟨k1, k2, k3, k4⟩, e, c1, n, c2⟩ := hl
  dsimp only at c1 c2
  subst c1 c2
  have e1 : (s.heap.push (fresh w)).get? l = some { cls := .type "list", dict := k2, data := .seq its n, slots := k4 } := Heap.get?_push_of_some _ e
  have isl : (s.heap.push (fresh w)).IsList l its := ⟨_, e1, rfl, n, rfl⟩
  have f1 := F.sub_list_set
  have f2 := F.sub_list_frozenset
  have f3 : (Value.type "list" == Value.type "dict") = false := by decide
  unfold Builtin.«set.__init__» noKeywords Builtin.Frozenset.updateFrom
  generalize hw : pyIter = walkIt
  wp_walk
  subst hw
  refine wpAny_pyIter_list isl (wpAny_bind (wpAny_runValue ?_))
  have lt : l < s.heap.objs.size := Heap.lt_size e
  have sz : (s.heap.push (fresh w)).objs.size = s.heap.objs.size + 1 := Heap.size_push ..
  have ne : l ≠ (s.heap.push (fresh w)).objs.size := by rw [sz]; exact Nat.ne_of_lt (Nat.lt_succ_of_lt lt)
  have out : s.heap.objs.size ∉ [(s.heap.push (fresh w)).objs.size, l] := by
    rw [sz]
    intro m
    rcases List.mem_cons.mp m with m | m
    · exact absurd m (Nat.ne_of_lt (Nat.lt_succ_self _))
    · exact absurd (List.mem_singleton.mp m) (Nat.ne_of_gt lt)
  have vals : ∀ (i : Nat) (v : Value), its[i]? = some v → ∃ k t, ns[i]? = some k ∧ v = .int k t := fun i v hv => by
    obtain ⟨j1, j2⟩ := Array.getElem?_eq_some_iff.mp hv
    rw [size] at j1
    obtain ⟨t, q⟩ := IntsAre.int_at hi i v ((Array.getElem?_toList ..).trans hv)
    exact ⟨ns.getD i 0, t, by simp [List.getD, List.getElem?_eq_getElem j1], q⟩
  have none3 : A.in1.in1.handled = none := by simp [hd]
  refine set_update_ints ((Walks.list (by simp [hd]) _ l ne its).toS) s.heap.objs.size out ns size room vals _ 0 _ rfl (Nat.zero_le _) ⟨⟨_, Heap.get?_push_size _ rfl, rfl, rfl⟩, isl.push _⟩ ⟨0, Nat.le_refl 0, setR_new_at (Heap.get?_push_of_some _ at_)⟩ fun s' c' mv hc R => ?_
  obtain ⟨h', g', d', tk, os'⟩ := s'
  cases (show g' = s.gens from mv.gens)
  cases (show d' = s.drawn from mv.drawn)
  cases (show os' = s.os from mv.os)
  have good : Made w s ns h' := by
    refine ⟨c', R, fun b o q => mv.heap b o (fun m => ?_) (Heap.get?_push_of_some _ (Heap.get?_push_of_some _ q))⟩
    have b0 : b < s.heap.objs.size := Heap.lt_size q
    rcases List.mem_cons.mp m with m | m
    · exact absurd m (Nat.ne_of_lt b0)
    · rw [List.mem_singleton.mp m, sz] at b0
      exact absurd b0 (Nat.not_lt_of_le (Nat.le_succ _))
  show wpAny _ _ (pure ()) _ _ _
  refine wpAny_pure ?_
  show wpAny _ _ (ret .none) _ _ _
  exact wpAny_pure (h h' tk good)
set_option maxRecDepth 100000 in
set_option maxHeartbeats 3200000 in
theorem call {l : Addr} {its : Array Value} {ns : List Int} {Q : Value → Shared → Prop} (hd : A.handled = none) (hl : s.heap.IsList l its) (hi : IntsAre its.toList ns) (room : ns.length + 1 < scanBound)
    (h : ∀ (h' : Heap) (tk : Nat), Made w s ns h' → Q (.ref s.heap.objs.size) { s with heap := h', toks := tk }) : wpAny (model P w) A (PySem.call (.type "set") [.ref l]) Q E s := by
  obtain ⟨c, tl, m0⟩ := F.called_set.mro
  have m1 := F.called_set.made
  have m2 := F.called_set.sub
  have m3 := F.called_set.notType
  have m4 := F.called_set.canCreate
  have m5 := F.typeCall_set_1 (.ref l)
  refine wpAny_call (codeAny_of_tree ?_)
  show wpAny _ _ (callAny (.type "set") _) _ _ _
  refine wpAny_pure ⟨Code.quiet_builtin _ (by decide +kernel), codeAny_builtin F.entry_type_call ?_⟩
  rw [Around.under_plain (weight_type_call_type "set" [.ref l] []) rfl]
  repeat (any_goals (first | assumption | wp_step))
  refine codeAny_mono (code_set_led1 (.ref l) (E := E) (Q₁ := fun x s1 => x = .ref s.heap.objs.size ∧ s1 = { s with heap := s.heap.push (fresh w) }) ⟨rfl, rfl⟩) fun r s1 hr => ?_
  match r, hr with
  | .error e, hr => exact hr
  | .ok (.ret x), hr =>
    obtain ⟨rfl, rfl⟩ := hr
    have at_ : (s.heap.push (fresh w)).get? s.heap.objs.size = some (fresh w) := Heap.get?_push_size _ rfl
    have ty : Shared.TypeIs { s with heap := s.heap.push (fresh w) } (.ref s.heap.objs.size) "set" := ⟨_, at_, rfl⟩
    have m6 := F.called_set.init.lookup
    have m7 := F.called_set.init.bind (.ref s.heap.objs.size)
    repeat (any_goals (first | assumption | wp_step))
    refine codeAny_mono (fill (E := E) (Q := fun x s2 => x = .none ∧ ∃ h' tk, s2 = { s with heap := h', toks := tk } ∧ Made w s ns h') (by simp [hd]) hl hi room fun h' tk g => ⟨rfl, h', tk, rfl, g⟩) fun r s2 hr => ?_
    match r, hr with
    | .error e, hr => exact hr
    | .ok (.ret x), hr =>
      obtain ⟨rfl, h', tk, rfl, g⟩ := hr
      repeat (any_goals (first | assumption | wp_step))
      exact h h' tk g
    | .ok .next, hr => exact hr.elim
    | .ok .brk, hr => exact hr.elim
    | .ok .cont, hr => exact hr.elim
  | .ok .next, hr => exact hr.elim
  | .ok .brk, hr => exact hr.elim
  | .ok .cont, hr => exact hr.elim
end
section
variable {X : Cx}
/-- set(xs): how many there are is told by a list ks without repetition -/
def rSetL (K : PySem.W.Frag) (w : World) : List V → Hp → VK → Prop := fun vs H Q => ∃ (a : Addr) (ns : List Int), vs = [.ref a] ∧ SqL K H a (ns.map V.int) ∧ ns.length ≤ 1000 ∧
  ∀ (p : Addr) (ks : List Int), ks.Nodup → (∀ k, k ∈ ks ↔ k ∈ ns) → H p = none → Q (.ref p) (upd H p (SetO w p (fun j => decide (j ∈ ns)) ks.length))
theorem cr_setL (hc : X.calm = true) : CallR X (.type "set") (rSetL X.K X.w) := by
  intro pins s σ H vs us Q I r h
  obtain ⟨a, ns, rfl, hs, hl, q⟩ := h
  rw [Vals.ref1 r]
  obtain ⟨its, rv, pl, hz⟩ := I.list hs
  refine call (I.ok.hd hc) pl.isList (by simpa using ints_of_vals rv) (by unfold scanBound; omega) fun h' tk g => ?_
  obtain ⟨c, R, k⟩ := g
  obtain ⟨o, es, ep, t, h1, h2, h3, h4, h5, h6, h7, h8, h9, h10, h11⟩ := id R
  have ec : c = (es.toList.map keyOf).length := by rw [List.length_map, Array.length_toList, h9]
  have R' := R
  rw [ec] at R'
  have J : Inv X pins σ (upd H s.heap.objs.size (SetO X.w s.heap.objs.size (fun j => decide (j ∈ ns)) (es.toList.map keyOf).length)) { s with heap := h', toks := tk } := I.laid (t' := tk) k (Nat.le_refl _) (setO_new R')
  exact ⟨.ref _, _, J, rfl, q _ (es.toList.map keyOf) h5 (fun k => by rw [← h6 k, decide_eq_true_iff]) (I.hok.fresh (Nat.le_refl _))⟩
end
/-- two lists that ascend and hold the same are one -/
theorem asc_ext : ∀ {xs ys : List Int}, xs.Pairwise (· < ·) → ys.Pairwise (· < ·) → (∀ k, k ∈ xs ↔ k ∈ ys) → xs = ys
  | [], [], _, _, _ => rfl
  | [], y :: ys, _, _, h => absurd ((h y).mpr List.mem_cons_self) (by simp)
  | x :: xs, [], _, _, h => absurd ((h x).mp List.mem_cons_self) (by simp)
  | x :: xs, y :: ys, hx, hy, h => by
    obtain ⟨x1, x2⟩ := List.pairwise_cons.mp hx
    obtain ⟨y1, y2⟩ := List.pairwise_cons.mp hy
    have e : x = y := by
      rcases List.mem_cons.mp ((h x).mp List.mem_cons_self) with e | m
      · exact e
      · rcases List.mem_cons.mp ((h y).mpr List.mem_cons_self) with e | m2
        · exact e.symm
        · have := y1 x m; have := x1 y m2; omega
    subst e
    rw [asc_ext x2 y2 fun k => ?_]
    constructor
    · intro m
      rcases List.mem_cons.mp ((h k).mp (List.mem_cons_of_mem _ m)) with e | m2
      · subst e; exact absurd (x1 k m) (by omega)
      · exact m2
    · intro m
      rcases List.mem_cons.mp ((h k).mpr (List.mem_cons_of_mem _ m)) with e | m2
      · subst e; exact absurd (y1 k m) (by omega)
      · exact m2
end SetL
theorem setLK {X : L2.Cx} (K : PySem.W.Frag) (w : World) (hc : X.calm = true) (hK : X.K = K := by rfl) (hw : X.w = w := by rfl) : CallR X (.type "set") (SetL.rSetL K w) := hK ▸ hw ▸ SetL.cr_setL hc
theorem sortedW {X : L2.Cx} (w : World) (hc : X.calm = true) (hw : X.w = w := by rfl) : CallR X (.builtin "sorted") (rSortedSet w) := hw ▸ cr_sortedSet hc
theorem nodup_le : ∀ (ks xs : List Int), ks.Nodup → (∀ k, k ∈ ks → k ∈ xs) → ks.length ≤ xs.length
  | [], _, _, _ => Nat.zero_le _
  | k :: ks, xs, nd, h => by
    obtain ⟨n1, n2⟩ := List.nodup_cons.mp nd
    have ih := nodup_le ks (xs.erase k) n2 fun j hj => (List.mem_erase_of_ne (fun e => n1 (by rw [← e]; exact hj))).mpr (h j (List.mem_cons_of_mem _ hj))
    have hk := h k List.mem_cons_self
    rw [List.length_erase_of_mem hk] at ih
    have := List.length_pos_of_mem hk
    rw [List.length_cons]
    omega
/-! ### changes -/
def prv (fs : List Int) (k : Nat) : Int := if k = 0 then fs.getD (fs.length - 1) 0 else fs.getD (k - 1) 0
def chgTo (fs : List Int) (n : Nat) : List Nat := (List.range n).filter fun k => decide (fs.getD k 0 ≠ prv fs k)
theorem chgTo_succ (fs : List Int) (n : Nat) : chgTo fs (n + 1) = if fs.getD n 0 ≠ prv fs n then chgTo fs n ++ [n] else chgTo fs n := by
  unfold chgTo
  rw [List.range_succ, List.filter_append]
  by_cases h : fs.getD n 0 ≠ prv fs n
  · rw [if_pos h]
    congr 1
    exact List.filter_cons_of_pos (p := fun k => decide (fs.getD k 0 ≠ prv fs k)) (decide_eq_true h)
  · rw [if_neg h, List.filter_cons_of_neg (p := fun k => decide (fs.getD k 0 ≠ prv fs k)) (fun z => h (of_decide_eq_true z)), List.filter_nil, List.append_nil]
theorem chgTo_len (fs : List Int) (n : Nat) : (chgTo fs n).length ≤ n := by
  have := List.length_filter_le (fun k => decide (fs.getD k 0 ≠ prv fs k)) (List.range n)
  rw [List.length_range] at this
  exact this
def chg (fs : List Int) : Nat := (chgTo fs fs.length).length
theorem chgTo_sum (fs : List Int) : ∀ n, ((chgTo fs n).length : Int) = tsum (fun k => if fs.getD k 0 = prv fs k then 0 else 1) n
  | 0 => rfl
  | n + 1 => by
    rw [tsum_succ, ← chgTo_sum fs n, chgTo_succ]
    by_cases h : fs.getD n 0 = prv fs n
    · rw [if_neg (fun z => z h), if_pos h]; omega
    · rw [if_pos h, if_neg h, List.length_append]; simp
theorem prv_cyc {fs : List Int} {k : Nat} (hk : k < fs.length) : prv fs k = cyc fs (k + (fs.length - 1)) := by
  unfold prv
  by_cases h : k = 0
  · subst h
    rw [if_pos rfl, Nat.zero_add, cyc_lt (by omega)]
  · rw [if_neg h, show k + (fs.length - 1) = (k - 1) + fs.length by omega, cyc_add, cyc_lt (by omega)]
theorem sum_prv (fs : List Int) : tsum (prv fs) fs.length = fs.sum := by
  rw [← tsum_shift fs (fs.length - 1)]
  exact tsum_congr _ fun k hk => prv_cyc hk
theorem sum_getD (fs : List Int) : tsum (fun k => fs.getD k 0) fs.length = fs.sum := by
  rw [← tsum_shift fs 0]
  exact tsum_congr _ fun k hk => (cyc_lt hk).symm
theorem prv_bit {fs : List Int} (h : ∀ k, fs.getD k 0 = 0 ∨ fs.getD k 0 = 1) (k : Nat) : prv fs k = 0 ∨ prv fs k = 1 := by
  unfold prv
  split
  · exact h _
  · exact h _
theorem chg_le {fs : List Int} (h : ∀ k, fs.getD k 0 = 0 ∨ fs.getD k 0 = 1) : (chg fs : Int) ≤ 2 * fs.sum ∧ (chg fs : Int) ≤ 2 * ((fs.length : Int) - fs.sum) := by
  have e := chgTo_sum fs fs.length
  have a := sum_getD fs
  have b := sum_prv fs
  have s := tsum_add (fun k => fs.getD k 0) (prv fs) fs.length
  rw [a, b] at s
  constructor
  · have := tsum_le (f := fun k => if fs.getD k 0 = prv fs k then 0 else 1) (g := fun k => fs.getD k 0 + prv fs k) fs.length fun k _ => by
      have := h k; have := prv_bit h k
      show (if fs.getD k 0 = prv fs k then (0 : Int) else 1) ≤ fs.getD k 0 + prv fs k
      split <;> omega
    unfold chg; omega
  · have := tsum_le (f := fun k => (if fs.getD k 0 = prv fs k then 0 else 1) + (fs.getD k 0 + prv fs k)) (g := fun _ => 2) fs.length fun k _ => by
      have := h k; have := prv_bit h k
      show (if fs.getD k 0 = prv fs k then (0 : Int) else 1) + (fs.getD k 0 + prv fs k) ≤ 2
      split <;> omega
    rw [tsum_const, tsum_add, ← e, s] at this
    unfold chg; omega
theorem chg_ev {b p t : Int} (hb : 0 < b) (hbit : ∀ k, (evL b p t).getD k 0 = 0 ∨ (evL b p t).getD k 0 = 1) : (chg (evL b p t) : Int) = 2 * (if b - p < p then b - p else p) := by
  have hl : ((evL b p t).length : Int) = b := by rw [evL_len]; omega
  have hs : (evL b p t).sum = p := evL_sum hb _ _
  have e := chgTo_sum (evL b p t) (evL b p t).length
  have a := sum_getD (evL b p t)
  have c := sum_prv (evL b p t)
  have s := tsum_add (fun k => (evL b p t).getD k 0) (prv (evL b p t)) (evL b p t).length
  rw [a, c] at s
  have w : ∀ k, k < (evL b p t).length → (2 : Int) * p / b ≤ (evL b p t).getD k 0 + prv (evL b p t) k ∧ (evL b p t).getD k 0 + prv (evL b p t) k ≤ 2 * p / b + 1 := fun k hk => by
    have h := evL_part (p := p) (t := t) hb 2 (k + ((evL b p t).length - 1))
    have e2 : win (evL b p t) 2 (k + ((evL b p t).length - 1)) = (evL b p t).getD k 0 + prv (evL b p t) k := by
      rw [prv_cyc hk, ← cyc_lt hk]
      unfold win
      rw [show k + ((evL b p t).length - 1) + 2 = (k + ((evL b p t).length - 1) + 1) + 1 by omega, psum, psum, show k + ((evL b p t).length - 1) + 1 = k + (evL b p t).length by omega, cyc_add]
      omega
    rw [e2] at h
    exact h
  by_cases hc : 2 * p < b
  · have q : 2 * p / b ≤ 0 := by
      have : 2 * p / b < 1 := Int.ediv_lt_of_lt_mul hb (by omega)
      omega
    have := tsum_congr (f := fun k => if (evL b p t).getD k 0 = prv (evL b p t) k then 0 else 1) (g := fun k => (evL b p t).getD k 0 + prv (evL b p t) k) (evL b p t).length fun k hk => by
      have := hbit k; have := prv_bit hbit k; have := w k hk
      show (if (evL b p t).getD k 0 = prv (evL b p t) k then (0 : Int) else 1) = (evL b p t).getD k 0 + prv (evL b p t) k
      split <;> omega
    rw [if_neg (by omega)]
    unfold chg; omega
  · have q : 1 ≤ 2 * p / b := Int.le_ediv_of_mul_le hb (by omega)
    have := tsum_congr (f := fun k => (if (evL b p t).getD k 0 = prv (evL b p t) k then 0 else 1) + ((evL b p t).getD k 0 + prv (evL b p t) k)) (g := fun _ => 2) (evL b p t).length fun k hk => by
      have := hbit k; have := prv_bit hbit k; have := w k hk
      show (if (evL b p t).getD k 0 = prv (evL b p t) k then (0 : Int) else 1) + ((evL b p t).getD k 0 + prv (evL b p t) k) = 2
      split <;> omega
    rw [tsum_const, tsum_add, ← e, s] at this
    by_cases hd : b - p < p
    · rw [if_pos hd]; unfold chg; omega
    · rw [if_neg hd]; unfold chg; omega
/-- changes, beat for beat -/
def lc : Int → List Int → Nat
  | _, [] => 0
  | p, x :: xs => (if x = p then 0 else 1) + lc x xs
theorem lc_filter : ∀ (fs : List Int) (p : Int), ((List.range fs.length).filter fun k => decide (fs.getD k 0 ≠ (p :: fs).getD k 0)).length = lc p fs
  | [], _ => rfl
  | x :: xs, p => by
    rw [List.length_cons, List.range_succ_eq_map, List.filter_cons]
    have ih := lc_filter xs x
    have e : ((List.map Nat.succ (List.range xs.length)).filter fun k => decide ((x :: xs).getD k 0 ≠ (p :: x :: xs).getD k 0)).length = lc x xs := by
      rw [List.filter_map, List.length_map, ← ih]
      rfl
    by_cases h : x = p
    · subst h
      simp only [List.getD_cons_zero, ne_eq, not_true, decide_false]
      rw [lc, if_pos rfl, Nat.zero_add]
      exact e
    · rw [lc, if_neg h]
      simp only [List.getD_cons_zero, ne_eq, h, not_false_eq_true, decide_true, if_true, List.length_cons]
      rw [e]
      omega
theorem chg_lc (fs : List Int) : chg fs = lc (fs.getD (fs.length - 1) 0) fs := by
  rw [← lc_filter]
  unfold chg chgTo
  congr 2
  funext k
  congr 2
  cases k with
  | zero => rfl
  | succ k => rfl
theorem lc_rep {p x : Int} {ys : List Int} : ∀ n, 0 < n → lc p (List.replicate n x ++ ys) = (if x = p then 0 else 1) + lc x ys
  | 1, _ => by simp [lc]
  | n + 2, _ => by
    rw [List.replicate_succ, List.cons_append, lc, lc_rep (n + 1) (by omega), if_pos rfl, Nat.zero_add]
/-! ### frames of told runs -/
def frs : List (Nat × Nat) → List Int
  | [] => []
  | z :: r => List.replicate z.1 1 ++ (List.replicate z.2 0 ++ frs r)
theorem frs_append : ∀ a b : List (Nat × Nat), frs (a ++ b) = frs a ++ frs b
  | [], _ => rfl
  | z :: r, b => by rw [List.cons_append, frs, frs, frs_append r b]; simp [List.append_assoc]
theorem frs_snoc (a : List (Nat × Nat)) (x y : Nat) : frs (a ++ [(x, y)]) = frs a ++ List.replicate x 1 ++ List.replicate y 0 := by
  rw [frs_append]; simp [frs, List.append_assoc]
theorem frs_bit : ∀ zs : List (Nat × Nat), ∀ f ∈ frs zs, f = 0 ∨ f = 1
  | [], f, h => absurd h (by simp [frs])
  | z :: r, f, h => by
    rw [frs, List.mem_append, List.mem_append] at h
    rcases h with h | h | h
    · right; exact List.eq_of_mem_replicate h
    · left; exact List.eq_of_mem_replicate h
    · exact frs_bit r f h
theorem rep_sum (x : Int) : ∀ n : Nat, (List.replicate n x).sum = (n : Int) * x
  | 0 => by simp
  | n + 1 => by rw [List.replicate_succ, List.sum_cons, rep_sum x n, Int.natCast_add, Int.add_mul]; omega
theorem frs_sum : ∀ zs : List (Nat × Nat), (frs zs).sum = (((zs.map Prod.fst).sum : Nat) : Int)
  | [] => rfl
  | z :: r => by
    rw [frs, List.sum_append, List.sum_append, frs_sum r, rep_sum, rep_sum, List.map_cons, List.sum_cons]
    simp
theorem frs_len : ∀ zs : List (Nat × Nat), (frs zs).length = (zs.map Prod.fst).sum + (zs.map Prod.snd).sum
  | [] => rfl
  | z :: r => by
    rw [frs, List.length_append, List.length_append, frs_len r, List.length_replicate, List.length_replicate, List.map_cons, List.sum_cons, List.map_cons, List.sum_cons]
    omega
theorem frs_lc : ∀ zs : List (Nat × Nat), (∀ z ∈ zs, 0 < z.1 ∧ 0 < z.2) → lc 0 (frs zs) = 2 * zs.length
  | [], _ => rfl
  | z :: r, h => by
    obtain ⟨h1, h2⟩ := h z List.mem_cons_self
    rw [frs, lc_rep _ h1, if_neg (by decide), lc_rep _ h2, if_neg (by decide), frs_lc r fun y hy => h y (List.mem_cons_of_mem _ hy), List.length_cons]
    omega
theorem last_app (xs : List Int) (n : Nat) (h : 0 < n) : (xs ++ List.replicate n 0).getD ((xs ++ List.replicate n 0).length - 1) 0 = 0 := by
  rw [List.getD_eq_getElem?_getD, List.length_append, List.length_replicate, List.getElem?_append_right (by omega), List.getElem?_replicate]
  split <;> rfl
theorem frs_chg {zs : List (Nat × Nat)} (h : ∀ z ∈ zs, 0 < z.1 ∧ 0 < z.2) : chg (frs zs) = 2 * zs.length := by
  rcases List.eq_nil_or_concat zs with e | ⟨a, z, e⟩
  · subst e; rfl
  · rw [chg_lc]
    have hl : (frs zs).getD ((frs zs).length - 1) 0 = 0 := by
      rw [e, List.concat_eq_append, frs_snoc a z.1 z.2]
      exact last_app _ _ (h z (by rw [e, List.concat_eq_append]; exact List.mem_append_right _ List.mem_cons_self)).2
    rw [hl, frs_lc zs h]
theorem frs_on (n : Nat) : chg (frs [(n, 0)]) = 0 := by
  rw [chg_lc]
  simp only [frs, List.replicate_zero, List.append_nil]
  cases n with
  | zero => rfl
  | succ n =>
    have : (List.replicate (n + 1) (1 : Int)).getD ((List.replicate (n + 1) (1 : Int)).length - 1) 0 = 1 := by
      rw [List.getD_eq_getElem?_getD, List.getElem?_replicate, List.length_replicate, if_pos (by omega)]; rfl
    rw [this]
    have := lc_rep (p := 1) (x := 1) (ys := []) (n + 1) (by omega)
    rw [List.append_nil] at this
    rw [this]; rfl
/-! ### parts -/
def part (m n k : Nat) : Nat := m / n + if k < m % n then 1 else 0
theorem part_near {m n k : Nat} : m / n ≤ part m n k ∧ part m n k ≤ m / n + 1 := by
  unfold part; split <;> omega
theorem part_pos {m n k : Nat} (hn : 0 < n) (h : n ≤ m) : 0 < part m n k := by
  have : 0 < m / n := Nat.div_pos h hn
  have := (part_near (m := m) (n := n) (k := k)).1
  omega
theorem part_one (m : Nat) : part m 1 0 = m := by simp [part, Nat.mod_one]
theorem ind_sum (r : Nat) : ∀ n : Nat, ((List.range n).map fun k => if k < r then 1 else 0).sum = min n r
  | 0 => by simp
  | n + 1 => by
    rw [List.range_succ, List.map_append, List.sum_append, ind_sum r n]
    simp only [List.map_cons, List.map_nil, List.sum_cons, List.sum_nil]
    split <;> omega
theorem sum_add_const (f : Nat → Nat) (q : Nat) : ∀ n : Nat, ((List.range n).map fun k => q + f k).sum = n * q + ((List.range n).map f).sum
  | 0 => by simp
  | n + 1 => by
    rw [List.range_succ, List.map_append, List.sum_append, sum_add_const f q n, List.map_append, List.sum_append, Nat.add_mul]
    simp only [List.map_cons, List.map_nil, List.sum_cons, List.sum_nil]
    omega
theorem part_sum {m n : Nat} (hn : 0 < n) : ((List.range n).map (part m n)).sum = m := by
  show ((List.range n).map fun k => m / n + if k < m % n then 1 else 0).sum = m
  rw [sum_add_const, ind_sum, Nat.min_eq_right (Nat.le_of_lt (Nat.mod_lt _ hn))]
  exact Nat.div_add_mod m n
/-- the pairs of a frame of n runs -/
def prs (p q n i : Nat) : List (Nat × Nat) := (List.range i).map fun k => (part p n k, part q n k)
theorem prs_succ (p q n i : Nat) : prs p q n (i + 1) = prs p q n i ++ [(part p n i, part q n i)] := by
  unfold prs; rw [List.range_succ, List.map_append]; rfl
theorem prs_fst (p q n i : Nat) : (prs p q n i).map Prod.fst = (List.range i).map (part p n) := by
  unfold prs; rw [List.map_map]; rfl
theorem prs_snd (p q n i : Nat) : (prs p q n i).map Prod.snd = (List.range i).map (part q n) := by
  unfold prs; rw [List.map_map]; rfl
theorem prs_len (p q n i : Nat) : (prs p q n i).length = i := by simp [prs]
theorem prs_pos {p q n : Nat} (hn : 0 < n) (h1 : n ≤ p) (h2 : n ≤ q) {i : Nat} : ∀ z ∈ prs p q n i, 0 < z.1 ∧ 0 < z.2 := fun z hz => by
  unfold prs at hz
  obtain ⟨k, _, rfl⟩ := List.mem_map.mp hz
  exact ⟨part_pos hn h1, part_pos hn h2⟩
/-! ### lengths of runs -/
def lenStep (x : Int) (s : List Int × Bool) (f : Int) : List Int × Bool := if f = x then (if s.2 = true then (s.1.dropLast ++ [s.1.getLastD 0 + 1], true) else (s.1 ++ [1], true)) else (s.1, false)
def lens (x : Int) (fs : List Int) : List Int × Bool := fs.foldl (lenStep x) ([], false)
theorem step_rep_in (x : Int) (L : List Int) : ∀ n : Nat, (List.replicate (n + 1) x).foldl (lenStep x) (L, false) = (L ++ [(n : Int) + 1], true)
  | 0 => by simp [lenStep]
  | n + 1 => by
    rw [List.replicate_succ', List.foldl_append, step_rep_in x L n]
    simp [lenStep]
theorem step_rep_out {x y : Int} (h : y ≠ x) (s : List Int × Bool) : ∀ n : Nat, (List.replicate (n + 1) y).foldl (lenStep x) s = (s.1, false)
  | 0 => by simp [lenStep, h]
  | n + 1 => by
    rw [List.replicate_succ', List.foldl_append, step_rep_out h s n]
    simp [lenStep, h]
theorem lens_one : ∀ (zs : List (Nat × Nat)) (L : List Int), (∀ z ∈ zs, 0 < z.1 ∧ 0 < z.2) → (frs zs).foldl (lenStep 1) (L, false) = (L ++ zs.map (fun z => (z.1 : Int)), false)
  | [], L, _ => by simp [frs]
  | z :: r, L, h => by
    obtain ⟨h1, h2⟩ := h z List.mem_cons_self
    obtain ⟨a, ha⟩ : ∃ a, z.1 = a + 1 := ⟨z.1 - 1, by omega⟩
    obtain ⟨b, hb⟩ : ∃ b, z.2 = b + 1 := ⟨z.2 - 1, by omega⟩
    rw [frs, ha, hb, List.foldl_append, step_rep_in, List.foldl_append, step_rep_out (by decide), lens_one r _ fun y hy => h y (List.mem_cons_of_mem _ hy), List.map_cons, ha]
    simp
theorem lens_zero : ∀ (zs : List (Nat × Nat)) (L : List Int) (f : Bool), (∀ z ∈ zs, 0 < z.1 ∧ 0 < z.2) → ((frs zs).foldl (lenStep 0) (L, f)).1 = L ++ zs.map (fun z => (z.2 : Int))
  | [], L, _, _ => by simp [frs]
  | z :: r, L, f, h => by
    obtain ⟨h1, h2⟩ := h z List.mem_cons_self
    obtain ⟨a, ha⟩ : ∃ a, z.1 = a + 1 := ⟨z.1 - 1, by omega⟩
    obtain ⟨b, hb⟩ : ∃ b, z.2 = b + 1 := ⟨z.2 - 1, by omega⟩
    rw [frs, ha, hb, List.foldl_append, step_rep_out (by decide), List.foldl_append, step_rep_in, lens_zero r _ _ fun y hy => h y (List.mem_cons_of_mem _ hy), List.map_cons, hb]
    simp
theorem lens_on (n : Nat) : (lens 1 (frs [(n + 1, 0)])).1 = [(n : Int) + 1] ∧ (lens 0 (frs [(n + 1, 0)])).1 = [] := by
  unfold lens
  simp only [frs, List.replicate_zero, List.append_nil]
  rw [step_rep_in, step_rep_out (by decide)]
  simp
theorem lens_take_succ {x : Int} {fs : List Int} {i : Nat} (h : i < fs.length) : lens x (fs.take (i + 1)) = lenStep x (lens x (fs.take i)) (fs.getD i 0) := by
  unfold lens
  rw [List.take_succ, List.getElem?_eq_getElem h, List.foldl_append]
  simp [List.getD, List.getElem?_eq_getElem h]
theorem lens_flag {x : Int} {fs : List Int} : ∀ {i : Nat}, i ≤ fs.length → ((lens x (fs.take i)).2 = true ↔ 0 < i ∧ fs.getD (i - 1) 0 = x) ∧ ((lens x (fs.take i)).2 = true → (lens x (fs.take i)).1 ≠ []) ∧ (lens x (fs.take i)).1.length ≤ i
  | 0, _ => by simp [lens]
  | i + 1, h => by
    obtain ⟨_, h2, h3⟩ := lens_flag (x := x) (fs := fs) (i := i) (by omega)
    rw [lens_take_succ (by omega)]
    unfold lenStep
    by_cases c : fs.getD i 0 = x
    · rw [if_pos c]
      by_cases d : (lens x (fs.take i)).2 = true
      · rw [if_pos d]
        have := h2 d
        have hp : 0 < (lens x (fs.take i)).1.length := List.length_pos_iff.mpr this
        refine ⟨⟨fun _ => ⟨by omega, by rw [Nat.add_sub_cancel]; exact c⟩, fun _ => rfl⟩, by simp, ?_⟩
        simp only [List.length_append, List.length_dropLast, List.length_cons, List.length_nil]
        omega
      · rw [if_neg d]
        refine ⟨⟨fun _ => ⟨by omega, by rw [Nat.add_sub_cancel]; exact c⟩, fun _ => rfl⟩, by simp, ?_⟩
        simp only [List.length_append, List.length_cons, List.length_nil]
        omega
    · rw [if_neg c]
      exact ⟨⟨fun z => absurd z Bool.false_ne_true, fun z => absurd (by rw [← z.2, Nat.add_sub_cancel]) c⟩, fun z => absurd z Bool.false_ne_true, Nat.le_succ_of_le h3⟩
/-! ### what a frame of told runs keeps -/
structure Runs (b p : Int) (m : Nat) (fs : List Int) : Prop where
  sum : fs.sum = p
  len : (fs.length : Int) = b
  bit : ∀ f ∈ fs, f = 0 ∨ f = 1
  chg : My.chg fs = if p < b then 2 * m else 0
  near : ∀ x : Int, x = 0 ∨ x = 1 → ∀ y z, y ∈ (lens x fs).1 → z ∈ (lens x fs).1 → y - z ≤ 1
theorem runs_mk {b p : Int} {m : Nat} (p0 : 0 ≤ p) (p1 : p ≤ b) (m0 : 1 ≤ m) (m1 : (m : Int) ≤ p) (m2 : m = 1 ∨ (m : Int) ≤ b - p) : Runs b p m (frs (prs p.toNat (b - p).toNat m m)) := by
  have hs : (frs (prs p.toNat (b - p).toNat m m)).sum = p := by rw [frs_sum, prs_fst, part_sum (by omega)]; omega
  have hl : ((frs (prs p.toNat (b - p).toNat m m)).length : Int) = b := by rw [frs_len, prs_fst, prs_snd, part_sum (by omega), part_sum (by omega)]; omega
  by_cases c : p < b
  · have hp := prs_pos (p := p.toNat) (q := (b - p).toNat) (n := m) (i := m) (by omega) (by omega) (by omega)
    refine ⟨hs, hl, frs_bit _, by rw [frs_chg hp, prs_len, if_pos c], fun x hx y z hy hz => ?_⟩
    rcases hx with e | e <;> subst e
    · rw [lens, lens_zero _ _ _ hp, List.nil_append] at hy hz
      obtain ⟨u, hu, rfl⟩ := List.mem_map.mp hy
      obtain ⟨v, hv, rfl⟩ := List.mem_map.mp hz
      obtain ⟨i, _, rfl⟩ := List.mem_map.mp hu
      obtain ⟨j, _, rfl⟩ := List.mem_map.mp hv
      have h1 := part_near (m := (b - p).toNat) (n := m) (k := i)
      have h2 := part_near (m := (b - p).toNat) (n := m) (k := j)
      show ((part (b - p).toNat m i : Nat) : Int) - ((part (b - p).toNat m j : Nat) : Int) ≤ 1
      omega
    · rw [lens, lens_one _ _ hp] at hy hz
      simp only [List.nil_append] at hy hz
      obtain ⟨u, hu, rfl⟩ := List.mem_map.mp hy
      obtain ⟨v, hv, rfl⟩ := List.mem_map.mp hz
      obtain ⟨i, _, rfl⟩ := List.mem_map.mp hu
      obtain ⟨j, _, rfl⟩ := List.mem_map.mp hv
      have h1 := part_near (m := p.toNat) (n := m) (k := i)
      have h2 := part_near (m := p.toNat) (n := m) (k := j)
      show ((part p.toNat m i : Nat) : Int) - ((part p.toNat m j : Nat) : Int) ≤ 1
      omega
  · have em : m = 1 := by omega
    have eq : (b - p).toNat = 0 := by omega
    obtain ⟨n, hn⟩ : ∃ n, p.toNat = n + 1 := ⟨p.toNat - 1, by omega⟩
    have e : prs p.toNat (b - p).toNat m m = [(n + 1, 0)] := by
      subst em
      rw [eq, hn]
      simp [prs, part, Nat.mod_one]
    rw [e] at hs hl ⊢
    obtain ⟨l1, l2⟩ := lens_on n
    refine ⟨hs, hl, frs_bit _, by rw [frs_on, if_neg c], fun x hx y z hy hz => ?_⟩
    rcases hx with e | e <;> subst e
    · rw [l2] at hy; cases hy
    · rw [l1] at hy hz
      simp only [List.mem_singleton] at hy hz
      omega
theorem bits_zero : ∀ {fs : List Int}, (∀ f ∈ fs, f = 0 ∨ f = 1) → fs.sum ≤ fs.length ∧ ((0 : Int) ∈ fs ↔ fs.sum < fs.length)
  | [], _ => by simp
  | f :: fs, h => by
    obtain ⟨h1, h2⟩ := bits_zero (fs := fs) fun g hg => h g (List.mem_cons_of_mem _ hg)
    have h3 := h f List.mem_cons_self
    rw [List.sum_cons, List.length_cons, List.mem_cons, h2]
    omega
def runsN (fs : List Int) : Int := if (0 : Int) ∈ fs then ((chg fs : Nat) : Int) / 2 else 1
theorem Runs.runs {b p : Int} {m : Nat} {fs : List Int} (h : Runs b p m fs) (m0 : 1 ≤ m) (m1 : (m : Int) ≤ p) (m2 : m = 1 ∨ (m : Int) ≤ b - p) : runsN fs = (m : Int) := by
  obtain ⟨h1, h2⟩ := bits_zero h.bit
  have a := h.sum
  have c := h.len
  have d := h.chg
  unfold runsN
  by_cases e : p < b
  · rw [if_pos (h2.mpr (by omega)), d, if_pos e]
    omega
  · rw [if_neg (fun z => e (by have := h2.mp z; omega))]
    omega
structure Txt (K : PySem.W.Frag) (mg : Str → Option Value) : Prop where
  k_MOST_BEATS : ∃ u, mg "MOST_BEATS" = some u ∧ RelV (.int 64) u
  b_int : mg "int" = none
  b_len : mg "len" = none
  b_max : mg "max" = none
  b_min : mg "min" = none
  b_range : mg "range" = none
  b_set : mg "set" = none
  b_sorted : mg "sorted" = none
  b_sum : mg "sum" = none
  b_zip : mg "zip" = none
section
variable {P : Program} {w : World} {K : PySem.W.Frag} {mg : Str → Option Value} {base : Heap}
abbrev s_law_start : Stmt := top 21
theorem sc_law_start : FnScope ["_law_script", "_law_mixed", "_law_cell"] ["_law_script"] (defScope s_law_start) := ⟨rfl, rfl, rfl, by decide +kernel, rfl, by decide +kernel, by decide +kernel⟩
/-- _law_start(script): a new good state -/
def spStart (K : PySem.W.Frag) : Sp := fun vs H Q _ => ∃ (a : Addr) (ns : List Int), vs = [.ref a] ∧ SqL K H a (ns.map V.int) ∧ ∀ (st : Addr) (m : Int), H st = none → Drw 0 m 0 → Q (.ref st) (upd H st (StO a 0 m 0))
theorem ok_law_start {f : Addr} {fd : FuncData} (F : FunG K mg "_law_start" s_law_start f fd ["_law_script"]) : FnOk P w K mg base CX0 1 f fd ["_law_script"] (spStart K) := by
  refine F.fn.ok sc_law_start (fun vs H Q E h => ?_) (fun cdv A outer s H vs Q E hr h => ?_)
  · obtain ⟨a, ns, rfl, _⟩ := h
    rfl
  · obtain ⟨a, ns, rfl, hS, k⟩ := h
    refine ⟨_, (pss_cons (ps_set (i := 1) sc_law_start.nd rfl (.inl rfl) pe_int)
      (pss_cons (ps_for PassesOwn.never (by rfl) (pi_list (pv 0)) (pg_name (i := 2) sc_law_start.nd rfl (.inl rfl)) (pss_one (ps_set (i := 1) sc_law_start.nd rfl (.inl rfl) (pe_op op_mod (pe_op op_add (pe_op op_add (pe_op op_mulW (pv 1) pe_int) (pv 2)) pe_int) pe_int))))
      (pss_one (ps_ret (pe_lst (pa_cons (pv 0) (pa_cons pe_int (pa_cons (pv 1) (pa_cons pe_int pa_nil))))))))), ?_⟩
    refine ⟨_, rfl, a, rfl, ⟨_, hS⟩, for_list (K := K) (a := a) (xs := ns.map V.int) (fun i σ H' => ∃ (m : Int) (v : Option V), σ = [some (.ref a), some (.int m), v] ∧ H' = H ∧ 0 ≤ m ∧ m < 2147483647)
      ⟨1, none, rfl, rfl, by decide, by decide⟩ (fun i σ H' _ ⟨_, _, _, e, _⟩ => e ▸ hS) ?_ ?_⟩
    · rintro i y σ H' hi ⟨m, v, rfl, rfl, m0, m1⟩
      obtain ⟨z, hz, rfl⟩ := getV hi
      refine ⟨_, rfl, _, _, rfl, rfl, wide_mul (a := 31) (b := 17) (by omega) (by decide) (by decide) (by decide) (by decide), _, rfl, _, _, rfl, rfl, _, _, rfl, rfl, _, _, rfl, rfl, (by show (0 : Int) < 2147483647; decide), ?_⟩
      exact ⟨_, _, rfl, rfl, Int.emod_nonneg _ (by decide), Int.emod_lt_of_pos _ (by decide)⟩
    · rintro σ H' ⟨m, v, rfl, rfl, m0, m1⟩
      refine ⟨_, rfl, _, rfl, (by show 4 ≤ sizeLine; decide), fun p hp => ?_⟩
      exact k p m hp ⟨Int.le_refl _, m0, m1, Int.le_refl _⟩
abbrev s_law_drawn : Stmt := top 22
theorem sc_law_drawn : FnScope ["_law_state", "_law_many", "_law_found", "_law_cell"] ["_law_state", "_law_many"] (defScope s_law_drawn) := ⟨rfl, rfl, rfl, by decide +kernel, rfl, by decide +kernel, by decide +kernel⟩
/-- _law_drawn(state, many): some number from 0 on below many; the state is good behind it, all else as it was -/
def spDrawn (K : PySem.W.Frag) : Sp := fun vs H Q _ => ∃ (st a : Addr) (ns : List Int) (many : Int), vs = [.ref st, .int many] ∧ SOk K a ns st H ∧ 0 < many ∧ many < 2 ^ 200 ∧
  ∀ r i m c : Int, 0 ≤ r → r < many → Drw i m c → Q (.int r) (upd H st (StO a i m c))
theorem SOk.drawn {K : PySem.W.Frag} {a st : Addr} {ns : List Int} {H : Hp} (s : SOk K a ns st H) {i m c : Int} (d : Drw i m c) : SOk K a ns st (upd H st (StO a i m c)) := s.keep (Keep.refl st H).atSt d upd_same
theorem ok_law_drawn {f : Addr} {fd : FuncData} (F : FunG K mg "_law_drawn" s_law_drawn f fd ["_law_state", "_law_many"]) (T : Txt K mg) : FnOk P w K mg base CX0 1 f fd ["_law_state", "_law_many"] (spDrawn K) := by
  refine F.fn.ok sc_law_drawn (fun vs H Q E h => ?_) (fun cdv A outer s H vs Q E hr h => ?_)
  · obtain ⟨st, a, ns, many, rfl, _⟩ := h
    rfl
  · obtain ⟨st, a, ns, many, rfl, hs, m0, m1, k⟩ := h
    obtain ⟨i, m, c, d, hst⟩ := hs.at_
    have hdiv : ∀ x : Int, CDivW x many := fun x => wide_div (b := 200) m0 (by omega) (by decide) (by decide)
    have hl : H st = some (.lst [.ref a, .int i, .int m, .int c]) := hst
    refine ⟨_, (pss_cons (ps_if (pt_cmpR op_gt (pe_ix (ixL K) (pv 0) pe_int (fun _ _ => rfl)) pe_int (nomark _)) (pss_cons (ps_set (i := 2) sc_law_drawn.nd rfl (.inl rfl) (pe_op op_mod (pe_ix (ixL K) (pv 0) pe_int (fun _ _ => rfl)) (pv 1)))
      (pss_cons (ps_asg (pe_op op_fdivW (pe_ix (ixL K) (pv 0) pe_int (fun _ _ => rfl)) (pv 1)) (pg_sub (pv 0) pe_int set_list))
      (pss_one (ps_ret (pv 2))))) pss_nil)
      (pss_cons (ps_asg (pe_op op_add (pe_ix (ixL K) (pv 0) pe_int (fun _ _ => rfl)) pe_int) (pg_sub (pv 0) pe_int set_list))
      (pss_cons (ps_if (pt_cmpR op_le (pe_ix (ixL K) (pv 0) pe_int (fun _ _ => rfl)) (pe_callB (clLen K) (by rfl) T.b_len (by decide +kernel) (pa_cons (pe_ix (ixL K) (pv 0) pe_int (fun _ _ => rfl)) pa_nil)) (nomark _)) (pss_cons (ps_set (i := 3) sc_law_drawn.nd rfl (.inl rfl) (pe_ix (ixL K) (pe_ix (ixL K) (pv 0) pe_int (fun _ _ => rfl)) (pe_op op_sub (pe_ix (ixL K) (pv 0) pe_int (fun _ _ => rfl)) pe_int) (fun _ _ => rfl)))
      (pss_cons (ps_asg (pe_ifExp (pt_cmpR op_ge (pv 3) (pe_op op_pow pe_int pe_int) (nomark _)) (pe_op op_fdivW (pv 3) (pv 1)) pe_int) (pg_sub (pv 0) pe_int set_list))
      (pss_one (ps_ret (pe_op op_mod (pv 3) (pv 1)))))) pss_nil)
      (pss_cons (ps_asg (pe_op op_mod (pe_op op_add (pe_op op_mulW (pe_ix (ixL K) (pv 0) pe_int (fun _ _ => rfl)) pe_int) pe_int) pe_int) (pg_sub (pv 0) pe_int set_list))
      (pss_one (ps_ret (pe_op op_mod (pe_op op_fdivW (pe_ix (ixL K) (pv 0) pe_int (fun _ _ => rfl)) pe_int) (pv 1)))))))), ?_⟩
    refine ⟨_, rfl, _, _, _, _, rfl, rfl, SqL.of hl, rfl, _, _, rfl, rfl, _, rfl, ?_⟩
    refine ite2 (fun hc => ?_) (fun hc => ?_)
    · have hc : 0 < c := of_decide_eq_true hc
      refine ⟨_, rfl, _, _, _, _, rfl, rfl, SqL.of hl, rfl, _, rfl, _, _, rfl, rfl, m0, ?_⟩
      refine ⟨_, rfl, _, _, _, _, rfl, rfl, SqL.of hl, rfl, _, rfl, _, _, rfl, rfl, hdiv _, _, rfl, st, _, _, 3, rfl, rfl, hl, rfl, ?_⟩
      refine ⟨_, rfl, ?_⟩
      exact k (c % many) i m (c / many) (Int.emod_nonneg _ (by omega)) (Int.emod_lt_of_pos _ m0) ⟨d.i0, d.m0, d.m1, Int.ediv_nonneg d.c0 (by omega)⟩
    · refine ⟨_, rfl, _, _, _, _, rfl, rfl, SqL.of hl, rfl, _, _, rfl, rfl, _, rfl, st, _, _, 1, rfl, rfl, hl, rfl, ?_⟩
      have hl1 : (upd H st (.lst [.ref a, .int (i + 1), .int m, .int c])) st = some (.lst [.ref a, .int (i + 1), .int m, .int c]) := upd_same
      have hS1 : SqL K (upd H st (.lst [.ref a, .int (i + 1), .int m, .int c])) a (ns.map V.int) := hs.sq _ (Keep.refl st H).atSt
      refine ⟨_, rfl, _, _, _, _, rfl, rfl, SqL.of hl1, rfl, _, rfl, _, _, _, _, rfl, rfl, SqL.of hl1, rfl, _, _, rfl, .inl hS1, _, _, rfl, rfl, _, rfl, ?_⟩
      refine ite2 (fun hb => ?_) (fun hb => ?_)
      · have hb : i + 1 ≤ ((ns.map V.int).length : Int) := of_decide_eq_true hb
        rw [List.length_map] at hb
        have i0 := d.i0
        refine ⟨_, rfl, _, _, _, _, rfl, rfl, SqL.of hl1, rfl, _, rfl, _, _, _, _, rfl, rfl, SqL.of hl1, rfl, _, _, rfl, rfl, _, _, _, _, rfl, rfl, hS1, atV (j := i.toNat) (by omega) (by omega), ?_⟩
        refine ⟨_, rfl, _, _, rfl, rfl, ⟨by decide, by decide, by decide⟩, _, _, rfl, rfl, _, rfl, ?_⟩
        generalize ns.getD i.toNat 0 = z
        refine ite2 (fun hz => ?_) (fun hz => ?_)
        · have hz : (10 : Int) ^ (18 : Int).toNat ≤ z := of_decide_eq_true hz
          have z0 : 0 ≤ z := Int.le_trans (by decide) hz
          refine ⟨_, rfl, _, rfl, _, _, rfl, rfl, hdiv _, _, rfl, st, _, _, 3, rfl, rfl, hl1, rfl, ?_⟩
          refine ⟨_, rfl, _, rfl, _, _, rfl, rfl, m0, ?_⟩
          rw [upd_upd]
          exact k (z % many) (i + 1) m (z / many) (Int.emod_nonneg _ (by omega)) (Int.emod_lt_of_pos _ m0) ⟨by omega, d.m0, d.m1, Int.ediv_nonneg z0 (by omega)⟩
        · refine ⟨_, rfl, st, _, _, 3, rfl, rfl, hl1, rfl, ?_⟩
          refine ⟨_, rfl, _, rfl, _, _, rfl, rfl, m0, ?_⟩
          rw [upd_upd]
          exact k (z % many) (i + 1) m 0 (Int.emod_nonneg _ (by omega)) (Int.emod_lt_of_pos _ m0) ⟨by omega, d.m0, d.m1, Int.le_refl _⟩
      · refine ⟨_, rfl, _, _, _, _, rfl, rfl, SqL.of hl1, rfl, _, _, rfl, rfl, wide_mul (a := 31) (b := 17) (by have := d.m0; have := d.m1; omega) (by decide) (by decide) (by decide) (by decide), _, _, rfl, rfl, _, _, rfl, rfl, (by show (0 : Int) < 2147483647; decide), _, rfl, st, _, _, 2, rfl, rfl, hl1, rfl, ?_⟩
        rw [upd_upd]
        have n0 := Int.emod_nonneg (m * 48271 + 11) (show (2147483647 : Int) ≠ 0 by decide)
        have n1 := Int.emod_lt_of_pos (m * 48271 + 11) (show (0 : Int) < 2147483647 by decide)
        have hl2 : (upd H st (.lst [.ref a, .int (i + 1), .int ((m * 48271 + 11) % 2147483647), .int c])) st = some (.lst [.ref a, .int (i + 1), .int ((m * 48271 + 11) % 2147483647), .int c]) := upd_same
        refine ⟨_, rfl, _, _, _, _, rfl, rfl, SqL.of hl2, rfl, _, _, rfl, rfl, wide_div (b := 3) (by decide) (by decide) (by decide) (by decide), _, rfl, _, _, rfl, rfl, m0, ?_⟩
        have i0 := d.i0
        exact k ((m * 48271 + 11) % 2147483647 / 7 % many) (i + 1) ((m * 48271 + 11) % 2147483647) c (Int.emod_nonneg _ (by omega)) (Int.emod_lt_of_pos _ m0) ⟨by omega, n0, n1, d.c0⟩
abbrev s_law_share : Stmt := top 23
theorem sc_law_share : FnScope ["_law_state", "_law_beats"] ["_law_state"] (defScope s_law_share) := ⟨rfl, rfl, rfl, by decide +kernel, rfl, by decide +kernel, by decide +kernel⟩
/-- _law_share(state): a new pair of beats and pulses -/
def spShare (K : PySem.W.Frag) : Sp := fun vs H Q _ => ∃ (st a : Addr) (ns : List Int), vs = [.ref st] ∧ SOk K a ns st H ∧
  ∀ (b p : Int) (t : Addr) (H' : Hp), 1 ≤ b → b ≤ 64 → 0 ≤ p → p ≤ b → H t = none → Keep st H H' → SOk K a ns st H' → H' t = some (.tup [.int b, .int p]) → Q (.ref t) H'
theorem pick3 {r : Int} (h0 : 0 ≤ r) (h1 : r < 3) : r = 0 ∨ r = 1 ∨ r = 2 := by omega
theorem pick4 {r : Int} (h0 : 0 ≤ r) (h1 : r < 4) : r = 0 ∨ r = 1 ∨ r = 2 ∨ r = 3 := by omega
theorem pick5 {r : Int} (h0 : 0 ≤ r) (h1 : r < 5) : r = 0 ∨ r = 1 ∨ r = 2 ∨ r = 3 ∨ r = 4 := by omega
theorem ok_law_share {f : Addr} {fd : FuncData} (F : FunG K mg "_law_share" s_law_share f fd ["_law_state"]) (c_law_drawn : Cl P w K mg base CX0 1 "_law_drawn" (spDrawn K)) : FnOk P w K mg base CX0 2 f fd ["_law_state"] (spShare K) := by
  refine F.fn.ok sc_law_share (fun vs H Q E h => ?_) (fun cdv A outer s H vs Q E hr h => ?_)
  · obtain ⟨st, a, ns, rfl, _⟩ := h
    rfl
  · obtain ⟨st, a, ns, rfl, hs, k⟩ := h
    refine ⟨_, (pss_cons (ps_set (i := 1) sc_law_share.nd rfl (.inl rfl) (pe_op op_add pe_int (pe_cl c_law_drawn hr (by decide) (by rfl) (pa_cons (pv 0) (pa_cons (pe_ix (ixL K) (pe_lst (pa_cons pe_int (pa_cons pe_int (pa_cons pe_int pa_nil)))) (pe_cl c_law_drawn hr (by decide) (by rfl) (pa_cons (pv 0) (pa_cons pe_int pa_nil))) (fun _ _ => rfl)) pa_nil)))))
      (pss_one (ps_ret (pe_tup (pa_cons (pv 1) (pa_cons (pe_ix (ixL K) (pe_lst (pa_cons pe_int (pa_cons (pv 1) (pa_cons (pe_cl c_law_drawn hr (by decide) (by rfl) (pa_cons (pv 0) (pa_cons (pe_op op_add (pv 1) pe_int) pa_nil))) (pa_cons (pe_cl c_law_drawn hr (by decide) (by rfl) (pa_cons (pv 0) (pa_cons (pe_op op_add (pv 1) pe_int) pa_nil))) pa_nil))))) (pe_cl c_law_drawn hr (by decide) (by rfl) (pa_cons (pv 0) (pa_cons pe_int pa_nil))) (fun _ _ => rfl)) pa_nil)))))), ?_⟩
    -- beats = 1 + drawn(state, [6, 16, 64][drawn(state, 3)])
    refine ⟨_, rfl, (by show 3 ≤ sizeLine; decide), fun p1 hp1 => ?_⟩
    have s1 := hs.new (o := .lst [.int 6, .int 16, .int 64]) hp1
    refine ⟨_, rfl, st, a, ns, 3, rfl, s1, by decide, by decide, fun r i m c r0 r1 d => ?_⟩
    have s2 := s1.drawn d
    have n1 := hs.ne_of hp1
    have k2 : Keep st H (upd (upd H p1 (.lst [.int 6, .int 16, .int 64])) st (StO a i m c)) := ((Keep.refl st H).new hp1).atSt
    have hp2 : (upd (upd H p1 (.lst [.int 6, .int 16, .int 64])) st (StO a i m c)) p1 = some (.lst [.int 6, .int 16, .int 64]) := by rw [upd_ne n1, upd_same]
    generalize upd (upd H p1 (.lst [.int 6, .int 16, .int 64])) st (StO a i m c) = H2 at s2 k2 hp2
    have hat : ∃ v : Int, atI [V.int 6, V.int 16, V.int 64] r = some (.int v) ∧ 1 ≤ v ∧ v ≤ 64 := by
      rcases pick3 r0 r1 with e | e | e <;> subst e <;> exact ⟨_, rfl, by decide, by decide⟩
    obtain ⟨v, hv, v0, v1⟩ := hat
    refine ⟨_, _, _, _, rfl, rfl, SqL.of hp2, hv, st, a, ns, v, rfl, s2, by omega, Int.lt_of_le_of_lt v1 (by decide), fun r2 i2 m2 c2 r20 r21 d2 => ?_⟩
    have s3 := s2.drawn d2
    have k3 := k2.atSt (o := StO a i2 m2 c2)
    generalize upd H2 st (StO a i2 m2 c2) = H3 at s3 k3
    -- (beats, [0, beats, drawn(state, beats + 1), drawn(state, beats + 1)][drawn(state, 4)])
    refine ⟨_, _, rfl, rfl, _, rfl, _, rfl, _, rfl, _, rfl, _, _, rfl, rfl, st, a, ns, _, rfl, s3, by omega, Int.lt_of_le_of_lt (show 1 + r2 + 1 ≤ 66 by omega) (by decide), fun r4 i4 m4 c4 r40 r41 d4 => ?_⟩
    have s4 := s3.drawn d4
    have k4 := k3.atSt (o := StO a i4 m4 c4)
    generalize upd H3 st (StO a i4 m4 c4) = H4 at s4 k4
    refine ⟨_, rfl, _, rfl, _, _, rfl, rfl, st, a, ns, _, rfl, s4, by omega, Int.lt_of_le_of_lt (show 1 + r2 + 1 ≤ 66 by omega) (by decide), fun r5 i5 m5 c5 r50 r51 d5 => ?_⟩
    have s5 := s4.drawn d5
    have k5 := k4.atSt (o := StO a i5 m5 c5)
    generalize upd H4 st (StO a i5 m5 c5) = H5 at s5 k5
    refine ⟨(by show 4 ≤ sizeLine; decide), fun p6 hp6 => ?_⟩
    have s6 := s5.new (o := .lst [.int 0, .int (1 + r2), .int r4, .int r5]) hp6
    have k6 := k5.new (o := .lst [.int 0, .int (1 + r2), .int r4, .int r5]) hp6
    have n6 := s5.ne_of hp6
    refine ⟨_, rfl, st, a, ns, 4, rfl, s6, by decide, by decide, fun r7 i7 m7 c7 r70 r71 d7 => ?_⟩
    have s7 := s6.drawn d7
    have k7 := k6.atSt (o := StO a i7 m7 c7)
    have hp7 : (upd (upd H5 p6 (.lst [.int 0, .int (1 + r2), .int r4, .int r5])) st (StO a i7 m7 c7)) p6 = some (.lst [.int 0, .int (1 + r2), .int r4, .int r5]) := by rw [upd_ne n6, upd_same]
    generalize upd (upd H5 p6 (.lst [.int 0, .int (1 + r2), .int r4, .int r5])) st (StO a i7 m7 c7) = H7 at s7 k7 hp7
    have hat : ∃ v : Int, atI [V.int 0, V.int (1 + r2), V.int r4, V.int r5] r7 = some (.int v) ∧ 0 ≤ v ∧ v ≤ 1 + r2 := by
      rcases pick4 r70 r71 with e | e | e | e <;> subst e
      · exact ⟨_, rfl, by omega, by omega⟩
      · exact ⟨_, rfl, by omega, by omega⟩
      · exact ⟨_, rfl, by omega, by omega⟩
      · exact ⟨_, rfl, by omega, by omega⟩
    obtain ⟨q, hq, q0, q1⟩ := hat
    refine ⟨_, _, _, _, rfl, rfl, SqL.of hp7, hq, (by show 2 ≤ sizeLine; decide), fun t ht => ?_⟩
    refine k (1 + r2) q t _ (by omega) (by omega) q0 q1 ?_ (k7.new ht) (s7.new ht) upd_same
    cases e : H t with
    | none => rfl
    | some o =>
      have e2 := k7 t o (s7.ne_of ht) e
      rw [ht] at e2
      cases e2
abbrev s_law_even : Stmt := top 25
theorem sc_law_even : FnScope ["_law_beats", "_law_pulses", "_law_turn", "_law_left", "_law_found", "_law_k"] ["_law_beats", "_law_pulses", "_law_turn"] (defScope s_law_even) := ⟨rfl, rfl, rfl, by decide +kernel, rfl, by decide +kernel, by decide +kernel⟩
/-- _law_even(beats, pulses, turn): the even frame, a new list -/
def spLEven : Sp := fun vs H Q _ => ∃ b p t : Int, vs = [.int b, .int p, .int t] ∧ 0 < b ∧ b ≤ 64 ∧ 0 ≤ p ∧ p ≤ b ∧ t.natAbs < 2 ^ 300 ∧
  ∀ l, H l = none → Q (.ref l) (upd H l (.lst ((evL b p t).map V.int)))
theorem ok_law_even {f : Addr} {fd : FuncData} (F : FunG K mg "_law_even" s_law_even f fd ["_law_beats", "_law_pulses", "_law_turn"]) (T : Txt K mg) : FnOk P w K mg base CX0 1 f fd ["_law_beats", "_law_pulses", "_law_turn"] spLEven := by
  refine F.fn.ok sc_law_even (fun vs H Q E h => ?_) (fun cdv A outer s H vs Q E hr h => ?_)
  · obtain ⟨b, p, t, rfl, _⟩ := h
    rfl
  · obtain ⟨b, p, t, rfl, b0, b1, p0, p1, ht, k⟩ := h
    refine ⟨_, (pss_cons (ps_set (i := 3) sc_law_even.nd rfl (.inl rfl) (pe_op op_mod (pe_op op_mulW (pv 2) (pv 1)) (pv 0)))
      (pss_cons (ps_set (i := 4) sc_law_even.nd rfl (.inl rfl) (pe_lst pa_nil))
      (pss_cons (ps_for PassesOwn.never (by rfl) (pi_range1 (by rfl) T.b_range (pa_cons (pv 0) pa_nil)) (pg_name (i := 5) sc_law_even.nd rfl (.inl rfl)) (pss_cons (ps_set (i := 3) sc_law_even.nd rfl (.inl rfl) (pe_op op_add (pv 3) (pv 1)))
      (pss_cons (ps_expr (pe_bm PySem.F.plainAttrs_list PySem.F.slot_list_append PySem.F.type_list_append mt_append (pv 4) (pa_cons (pe_callTy call_int1 (by rfl) T.b_int (by decide +kernel) (pa_cons (pe_cmpR op_ge (pv 3) (pv 0) (nomark _)) pa_nil)) pa_nil)))
      (pss_one (ps_set (i := 3) sc_law_even.nd rfl (.inl rfl) (pe_op op_sub (pv 3) (pe_op op_mulW (pv 0) (pe_ix (ixL K) (pv 4) (pe_un un_neg pe_int) (fun _ _ => rfl)))))))))
      (pss_one (ps_ret (pv 4)))))), ?_⟩
    refine ⟨_, rfl, _, rfl, _, _, rfl, rfl, wide_mul (a := 300) (b := 7) ht (by omega) (by decide) (by decide) (by decide), _, rfl, _, _, rfl, rfl, b0, ?_⟩
    refine ⟨Nat.zero_le _, fun l hl => ?_⟩
    refine ⟨_, rfl, _, rfl, by omega, by omega, for_range (lo := 0) (n := b.toNat) (fun i σ H' => ∃ v : Option V, σ = [some (.int b), some (.int p), some (.int t), some (.int (evR b p t i)), some (.ref l), v] ∧ H' = upd H l (.lst (((List.range i).map (evB b p t)).map V.int)))
      ⟨none, by unfold evR; simp only [Int.natCast_zero, Int.zero_add]; rfl, rfl⟩ ?_ ?_⟩
    · rintro i σ H' hi ⟨v, rfl, rfl⟩
      refine ⟨_, rfl, _, rfl, _, _, rfl, rfl, ?_⟩
      have hL : upd H l (.lst (((List.range i).map (evB b p t)).map V.int)) l = some (.lst (((List.range i).map (evB b p t)).map V.int)) := upd_same
      refine ⟨_, rfl, .inl ⟨rfl, _, SqL.of hL⟩, _, rfl, _, rfl, _, _, rfl, rfl, .inr ⟨_, rfl, l, _, _, rfl, rfl, hL, small_of (m := 64) (by simp; omega), ?_⟩⟩
      rw [upd_upd]
      have e1 : (if decide (b ≤ evR b p t i + p) = true then (1 : Int) else 0) = evB b p t i := by
        rw [evB_eq b0 p0 p1]
        simp only [decide_eq_true_eq]
      rw [e1]
      have e2 : ((List.range i).map (evB b p t)).map V.int ++ [V.int (evB b p t i)] = ((List.range (i + 1)).map (evB b p t)).map V.int := by
        rw [List.range_succ, List.map_append, List.map_append]; rfl
      have hL2 : upd H l (.lst (((List.range i).map (evB b p t)).map V.int ++ [V.int (evB b p t i)])) l = some (.lst (((List.range i).map (evB b p t)).map V.int ++ [V.int (evB b p t i)])) := upd_same
      refine ⟨_, rfl, _, rfl, _, rfl, _, rfl, _, _, _, _, rfl, rfl, SqL.of hL2, atI_last _ _, _, _, rfl, rfl, wide_mul (a := 7) (b := 2) (by omega) (by rcases evB_01 b0 p0 p1 t i with e | e <;> rw [e] <;> decide) (by decide) (by decide) (by decide), _, _, rfl, rfl, ?_⟩
      refine ⟨some (.int (0 + (i : Int))), ?_, by rw [e2]⟩
      rw [evR_next b0 p0 p1]
      rfl
    · rintro σ H' ⟨v, rfl, rfl⟩
      exact ⟨_, rfl, k l hl⟩
end
end My

namespace My
open PySem L2
section
variable {P : Program} {w : World} {K : PySem.W.Frag} {mg : Str → Option Value} {base : Heap}
abbrev s_need_beats : Stmt := top 9
theorem sc_need_beats : FnScope ["beats"] ["beats"] (defScope s_need_beats) := ⟨rfl, rfl, rfl, by decide +kernel, rfl, by decide +kernel, by decide +kernel⟩
/-- need_beats(beats), good ones -/
def spNeedBeats : Sp := fun vs H Q _ => ∃ b : Int, vs = [.int b] ∧ 1 ≤ b ∧ b ≤ 64 ∧ Q .non H
theorem ok_need_beats {f : Addr} {fd : FuncData} (F : FunG K mg "need_beats" s_need_beats f fd ["beats"]) (T : Txt K mg) : FnOk P w K mg base CX0 1 f fd ["beats"] spNeedBeats := by
  refine F.fn.ok sc_need_beats (fun vs H Q E h => ?_) (fun cdv A outer s H vs Q E hr h => ?_)
  · obtain ⟨b, rfl, _⟩ := h
    rfl
  · obtain ⟨b, rfl, b0, b1, k⟩ := h
    refine ⟨_, (pss_one (ps_if (pt_not (pt_chain op_le op_le pe_int (pv 0) (C8.pe_gc (by rfl) T.k_MOST_BEATS))) (pss_one ps_never) pss_nil)), ?_⟩
    refine ⟨_, rfl, _, _, rfl, rfl, _, rfl, ?_⟩
    rw [decide_eq_true b0]
    refine iteT ⟨_, _, rfl, rfl, _, rfl, ?_⟩
    rw [decide_eq_true b1]
    exact iteF k
abbrev s_need_share : Stmt := top 10
theorem sc_need_share : FnScope ["beats", "pulses"] ["beats", "pulses"] (defScope s_need_share) := ⟨rfl, rfl, rfl, by decide +kernel, rfl, by decide +kernel, by decide +kernel⟩
/-- need_share(beats, pulses), a good one -/
def spNeedShare : Sp := fun vs H Q _ => ∃ b p : Int, vs = [.int b, .int p] ∧ 1 ≤ b ∧ b ≤ 64 ∧ 0 ≤ p ∧ p ≤ b ∧ Q .non H
theorem ok_need_share {f : Addr} {fd : FuncData} (F : FunG K mg "need_share" s_need_share f fd ["beats", "pulses"]) (c_need_beats : Cl P w K mg base CX0 1 "need_beats" spNeedBeats) : FnOk P w K mg base CX0 2 f fd ["beats", "pulses"] spNeedShare := by
  refine F.fn.ok sc_need_share (fun vs H Q E h => ?_) (fun cdv A outer s H vs Q E hr h => ?_)
  · obtain ⟨b, p, rfl, _⟩ := h
    rfl
  · obtain ⟨b, p, rfl, b0, b1, p0, p1, k⟩ := h
    refine ⟨_, (pss_cons (ps_expr (pe_cl c_need_beats hr (by decide) (by rfl) (pa_cons (pv 0) pa_nil)))
      (pss_one (ps_if (pt_not (pt_chain op_le op_le pe_int (pv 1) (pv 0))) (pss_one ps_never) pss_nil))), ?_⟩
    refine ⟨_, rfl, b, rfl, b0, b1, ?_⟩
    refine ⟨_, rfl, _, _, rfl, rfl, _, rfl, ?_⟩
    rw [decide_eq_true p0]
    refine iteT ⟨_, rfl, _, _, rfl, rfl, _, rfl, ?_⟩
    rw [decide_eq_true p1]
    exact iteF k
abbrev s_even_frame : Stmt := top 11
theorem sc_even_frame : FnScope ["beats", "pulses", "turn", "k"] ["beats", "pulses", "turn"] (defScope s_even_frame) := ⟨rfl, rfl, rfl, by decide +kernel, rfl, by decide +kernel, by decide +kernel⟩
/-- even_frame(beats, pulses, turn): a new list -/
def spEven : Sp := fun vs H Q _ => ∃ b p t : Int, vs = [.int b, .int p, .int t] ∧ 1 ≤ b ∧ b ≤ 64 ∧ 0 ≤ p ∧ p ≤ b ∧ t.natAbs < 2 ^ 300 ∧
  ∀ l, H l = none → Q (.ref l) (upd H l (.lst ((evL b p t).map V.int)))
theorem ok_even_frame {f : Addr} {fd : FuncData} (F : FunG K mg "even_frame" s_even_frame f fd ["beats", "pulses", "turn"]) (T : Txt K mg) : FnOk P w K mg base CX0 1 f fd ["beats", "pulses", "turn"] spEven := by
  refine F.fn.ok sc_even_frame (fun vs H Q E h => ?_) (fun cdv A outer s H vs Q E hr h => ?_)
  · obtain ⟨b, p, t, rfl, _⟩ := h
    rfl
  · obtain ⟨b, p, t, rfl, b0, b1, p0, p1, ht, k⟩ := h
    refine ⟨_, (pss_one (ps_ret (pe_lc (own := [("k", 3)]) (g := gName 3) (tt := tYes) (by rfl) sc_even_frame.nd (pi_range1 (by rfl) T.b_range (pa_cons (pv 0) pa_nil)) (blkOk_by (own := [("k", 3)]) (N := ["beats", "pulses", "turn", "k"]) (sc := defScope s_even_frame) (by decide +kernel)) (fun _ _ _ _ _ => (pg_name (i := 3) sc_even_frame.nd rfl (.inl rfl))) (fun _ _ _ _ _ => pts_nil) (fun _ _ _ _ _ => (pe_op op_sub (pe_op op_fdivW (pe_op op_mulW (pe_op op_add (pe_op op_add (pv 3) pe_int) (pv 2)) (pv 1)) (pv 0)) (pe_op op_fdivW (pe_op op_mulW (pe_op op_add (pv 3) (pv 2)) (pv 1)) (pv 0))))))), ?_⟩
    refine ⟨_, rfl, _, rfl, by omega, by omega, fun D hD => lc_range (lo := 0) (n := b.toNat) (fun i H' => H' = upd H D (.lst (((List.range i).map (evB b p t)).map V.int))) rfl ?_ ?_⟩
    · rintro i H' hi rfl
      have hbd : b.natAbs < 2 ^ 7 := by omega
      have hp : p.natAbs < 2 ^ 7 := by omega
      have h301 : ∀ z : Int, 0 ≤ z → z < 100 → (z + t).natAbs < 2 ^ 301 := fun z z0 z1 => by
        have e : (2 : Nat) ^ 301 = 2 ^ 300 + 2 ^ 300 := by rw [Nat.pow_succ]; omega
        have e2 : (100 : Nat) ≤ 2 ^ 300 := by decide
        rw [e]; omega
      have hi' : (i : Int) < 64 := by omega
      have hd : ∀ x : Int, CDivW x b := fun x => wide_div (b := 7) (by omega) hbd (by decide) (by decide)
      refine ⟨rfl, _, rfl, _, _, rfl, rfl, _, rfl, _, _, rfl, rfl, _, rfl, _, _, rfl, rfl, wide_mul (a := 301) (b := 7) (h301 _ (by omega) (by omega)) hp (by decide) (by decide) (by decide), _, rfl, _, _, rfl, rfl, hd _, _, rfl, _, rfl, _, _, rfl, rfl, _, rfl, _, _, rfl, rfl,
        wide_mul (a := 301) (b := 7) (h301 _ (by omega) (by omega)) hp (by decide) (by decide) (by decide), _, rfl, _, _, rfl, rfl, hd _, _, _, rfl, rfl, _, upd_same, small_of (m := 64) (by simp; omega), ?_⟩
      rw [upd_upd, List.range_succ, List.map_append, List.map_append]
      simp only [Int.zero_add]
      rfl
    · rintro H' rfl
      exact k D hD
abbrev s_even : Stmt := top 12
theorem sc_even : FnScope ["beats", "pulses", "turn"] ["beats", "pulses", "turn"] (defScope s_even) := ⟨rfl, rfl, rfl, by decide +kernel, rfl, by decide +kernel, by decide +kernel⟩
/-- even(beats, pulses, turn) -/
theorem ok_even {f : Addr} {fd : FuncData} (F : FunG K mg "even" s_even f fd ["beats", "pulses", "turn"]) (c_need_share : Cl P w K mg base CX0 2 "need_share" spNeedShare) (c_even_frame : Cl P w K mg base CX0 1 "even_frame" spEven) : FnOk P w K mg base CX0 3 f fd ["beats", "pulses", "turn"] spEven := by
  refine F.fn.ok sc_even (fun vs H Q E h => ?_) (fun cdv A outer s H vs Q E hr h => ?_)
  · obtain ⟨b, p, t, rfl, _⟩ := h
    rfl
  · obtain ⟨b, p, t, rfl, b0, b1, p0, p1, ht, k⟩ := h
    refine ⟨_, (pss_cons (ps_expr (pe_cl c_need_share hr (by decide) (by rfl) (pa_cons (pv 0) (pa_cons (pv 1) pa_nil))))
      (pss_one (ps_ret (pe_cl c_even_frame hr (by decide) (by rfl) (pa_cons (pv 0) (pa_cons (pv 1) (pa_cons (pv 2) pa_nil))))))), ?_⟩
    refine ⟨_, rfl, _, rfl, b, p, rfl, b0, b1, p0, p1, ?_⟩
    exact ⟨_, rfl, _, rfl, _, rfl, b, p, t, rfl, b0, b1, p0, p1, ht, k⟩
abbrev s_need_frame : Stmt := top 8
theorem sc_need_frame : FnScope ["frame", "beat"] ["frame"] (defScope s_need_frame) := ⟨rfl, rfl, rfl, by decide +kernel, rfl, by decide +kernel, by decide +kernel⟩
/-- need_frame(frame), a good one -/
def spNeedFrame (K : PySem.W.Frag) : Sp := fun vs H Q _ => ∃ (l : Addr) (fs : List Int), vs = [.ref l] ∧ SqL K H l (fs.map V.int) ∧ Frm fs ∧ ∀ H', Same H H' → Q .non H'
theorem ok_need_frame {f : Addr} {fd : FuncData} (F : FunG K mg "need_frame" s_need_frame f fd ["frame"]) (T : Txt K mg) : FnOk P w K mg base CX0 1 f fd ["frame"] (spNeedFrame K) := by
  refine F.fn.ok sc_need_frame (fun vs H Q E h => ?_) (fun cdv A outer s H vs Q E hr h => ?_)
  · obtain ⟨l, fs, rfl, _⟩ := h
    rfl
  · obtain ⟨l, fs, rfl, hS, hf, k⟩ := h
    refine ⟨_, (pss_one (ps_if (PW.pt (pw_or (pt_not (pt_chain op_le op_le pe_int (pe_callB (clLen K) (by rfl) T.b_len (by decide +kernel) (pa_cons (pv 0) pa_nil)) (C8.pe_gc (by rfl) T.k_MOST_BEATS))) (pw_or1 (pt_cmpR (opNeD K hr.units) (pe_lc (own := [("beat", 1)]) (g := gName 1) (by rfl) sc_need_frame.nd (pi_list (pv 0)) (blkOk_by (own := [("beat", 1)]) (N := ["frame", "beat"]) (sc := defScope s_need_frame) (by decide +kernel)) (fun _ _ _ _ _ => (pg_name (i := 1) sc_need_frame.nd rfl (.inl rfl))) (fun _ _ _ _ _ => (pts_one (pt_cmpR (opNotInQ K) (pv 1) (pe_tup (pa_cons pe_int (pa_cons pe_int pa_nil))) (by rfl)))) (fun _ _ _ _ _ => (pv 1))) (pe_lst pa_nil) (nomark _))))) (pss_one ps_never) pss_nil)), ?_⟩
    have h0 := hf.pos
    have h1 := hf.le
    refine ⟨_, rfl, _, _, rfl, .inl hS, _, _, rfl, rfl, _, rfl, ?_⟩
    rw [decide_eq_true (show (1 : Int) ≤ ((fs.map V.int).length : Int) by rw [List.length_map]; omega)]
    refine iteT ⟨_, _, rfl, rfl, _, rfl, ?_⟩
    rw [decide_eq_true (show ((fs.map V.int).length : Int) ≤ 64 by rw [List.length_map]; omega)]
    refine iteF ⟨_, rfl, _, rfl, ⟨_, hS⟩, fun D hD => lc_list (K := K) (a := l) (xs := fs.map V.int) (fun i H' => Same H H' ∧ H' D = some (.lst [])) ⟨Same.upd hD, upd_same⟩ (fun i H' _ h => h.1.seq hS) ?_ ?_⟩
    · rintro i x H' hi ⟨e, hd⟩
      obtain ⟨z, hz, rfl⟩ := getV hi
      refine ⟨rfl, _, rfl, (by show 2 ≤ sizeLine; decide), fun p hp => ⟨_, _, rfl, .inr (SqT.of upd_same), rfl, rfl, _, rfl, ?_⟩⟩
      have hb : inV (.int z) [.int 0, .int 1] = true := by
        rcases hf.bit z (List.mem_of_getElem? hz) with e | e <;> subst e <;> rfl
      show (if (!inV (.int z) [.int 0, .int 1]) = true then _ else _)
      rw [hb]
      exact iteF ⟨e.new hp, by rw [upd_ne (ne_of_none hd hp)]; exact hd⟩
    · rintro H' ⟨e, hd⟩
      refine ⟨Nat.zero_le _, fun q hq => ⟨_, _, dp_nil (SqL.of (by rw [upd_ne (ne_of_none hd hq)]; exact hd)), dp_nil (SqL.of upd_same), dI_shaped _, dI_shaped _, _, rfl, ?_⟩⟩
      rw [dI_eqv]
      exact iteF (k _ (e.new hq))
abbrev s_law_frame : Stmt := top 24
theorem sc_law_frame : FnScope ["_law_state", "_law_beats", "_law_pulses", "_law_often", "_law_k", "_law_found", "_law_turn", "_law_one", "_law_other", "_law_had"] ["_law_state"] (defScope s_law_frame) := ⟨rfl, rfl, rfl, by decide +kernel, rfl, by decide +kernel, by decide +kernel⟩
/-- _law_frame(state): some frame, a new list -/
def spFrame (K : PySem.W.Frag) : Sp := fun vs H Q _ => ∃ (st a : Addr) (ns : List Int), vs = [.ref st] ∧ SOk K a ns st H ∧
  ∀ (fs : List Int) (l : Addr) (H' : Hp), Frm fs → H l = none → Keep st H H' → SOk K a ns st H' → H' l = some (.lst (fs.map V.int)) → Q (.ref l) H'
theorem set_bit {fs : List Int} (h : ∀ f ∈ fs, f = 0 ∨ f = 1) {z : Int} (hz : z = 0 ∨ z = 1) (j : Nat) : ∀ f ∈ fs.set j z, f = 0 ∨ f = 1 := fun f hf => by
  rcases List.mem_or_eq_of_mem_set hf with m | e
  · exact h f m
  · rw [e]; exact hz
theorem ok_law_frame {f : Addr} {fd : FuncData} (F : FunG K mg "_law_frame" s_law_frame f fd ["_law_state"]) (T : Txt K mg) (c_law_drawn : Cl P w K mg base CX0 1 "_law_drawn" (spDrawn K)) (c_law_share : Cl P w K mg base CX0 2 "_law_share" (spShare K))
    (c_law_even : Cl P w K mg base CX0 1 "_law_even" spLEven) : FnOk P w K mg base CX0 3 f fd ["_law_state"] (spFrame K) := by
  refine F.fn.ok sc_law_frame (fun vs H Q E h => ?_) (fun cdv A outer s H vs Q E hr h => ?_)
  · obtain ⟨st, a, ns, rfl, _⟩ := h
    rfl
  · obtain ⟨st, a, ns, rfl, hs, k⟩ := h
    refine ⟨_, (pss_cons (ps_asg (pe_cl c_law_share hr (by decide) (by rfl) (pa_cons (pv 0) pa_nil)) (pg_tup (by rfl) (pgs_cons (pg_name (i := 1) sc_law_frame.nd rfl (.inl rfl)) (pgs_cons (pg_name (i := 2) sc_law_frame.nd rfl (.inl rfl)) pgs_nil))))
      (pss_cons (ps_if (pt_cmpR op_eq (pe_cl c_law_drawn hr (by decide) (by rfl) (pa_cons (pv 0) (pa_cons pe_int pa_nil))) pe_int (nomark _)) (pss_cons (ps_set (i := 3) sc_law_frame.nd rfl (.inr rfl) (pe_op op_add pe_int (pe_cl c_law_drawn hr (by decide) (by rfl) (pa_cons (pv 0) (pa_cons pe_int pa_nil)))))
      (pss_one (ps_ret (pe_lc (own := [("_law_k", 4)]) (g := gName 4) (tt := tYes) (by rfl) sc_law_frame.nd (pi_range1 (by rfl) T.b_range (pa_cons (pv 1) pa_nil)) (blkOk_by (own := [("_law_k", 4)]) (N := ["_law_state", "_law_beats", "_law_pulses", "_law_often", "_law_k", "_law_found", "_law_turn", "_law_one", "_law_other", "_law_had"]) (sc := defScope s_law_frame) (by decide +kernel)) (fun _ _ _ _ _ => (pg_name (i := 4) sc_law_frame.nd rfl (.inl rfl))) (fun _ _ _ _ _ => pts_nil) (fun _ _ _ _ _ => (pe_callTy call_int1 (by rfl) T.b_int (by decide +kernel) (pa_cons (pe_cmpR op_eq (pe_cl c_law_drawn hr (by decide) (by rfl) (pa_cons (pv 0) (pa_cons (pv 3) pa_nil))) pe_int (nomark _)) pa_nil))))))) pss_nil)
      (pss_cons (ps_set (i := 5) sc_law_frame.nd rfl (.inl rfl) (pe_cl c_law_even hr (by decide) (by rfl) (pa_cons (pv 1) (pa_cons (pv 2) (pa_cons (pe_cl c_law_drawn hr (by decide) (by rfl) (pa_cons (pv 0) (pa_cons (pv 1) pa_nil))) pa_nil)))))
      (pss_cons (ps_for PassesOwn.never (by rfl) (pi_range1 (by rfl) T.b_range (pa_cons (pe_cl c_law_drawn hr (by decide) (by rfl) (pa_cons (pv 0) (pa_cons pe_int pa_nil))) pa_nil)) (pg_name (i := 6) sc_law_frame.nd rfl (.inl rfl)) (pss_cons (ps_par (i := 7) (j := 8) (by rfl) sc_law_frame.nd rfl rfl (by decide) rfl rfl (pa_cons (pe_cl c_law_drawn hr (by decide) (by rfl) (pa_cons (pv 0) (pa_cons (pv 1) pa_nil))) (pa_cons (pe_cl c_law_drawn hr (by decide) (by rfl) (pa_cons (pv 0) (pa_cons (pv 1) pa_nil))) pa_nil)) (by rfl))
      (pss_cons (ps_set (i := 9) sc_law_frame.nd rfl (.inl rfl) (pe_ix (ixL K) (pv 5) (pv 7) (fun _ _ => rfl)))
      (pss_cons (ps_asg (pe_ix (ixL K) (pv 5) (pv 8) (fun _ _ => rfl)) (pg_sub (pv 5) (pv 7) set_list))
      (pss_one (ps_asg (pv 9) (pg_sub (pv 5) (pv 8) set_list)))))))
      (pss_one (ps_ret (pv 5))))))), ?_⟩
    refine ⟨_, rfl, st, a, ns, rfl, hs, fun b p t H1 b0 b1 p0 p1 ht k1 s1 ht1 => ⟨_, _, rfl, SqT.of ht1, rfl, ?_⟩⟩
    refine ⟨_, _, rfl, _, _, rfl, rfl, ?_⟩
    refine ⟨_, rfl, st, a, ns, 2, rfl, s1, by decide, by decide, fun r i2 m2 c2 r0 r1 d2 => ?_⟩
    have s2 := s1.drawn d2
    have k2 := k1.atSt (o := StO a i2 m2 c2)
    generalize upd H1 st (StO a i2 m2 c2) = H2 at s2 k2
    refine ⟨rfl, _, rfl, ite2 (fun hc => ?_) (fun hc => ?_)⟩
    · -- any frame
      refine ⟨_, rfl, st, a, ns, 4, rfl, s2, by decide, by decide, fun r3 i3 m3 c3 r30 r31 d3 => ?_⟩
      have s3 := s2.drawn d3
      have k3 := k2.atSt (o := StO a i3 m3 c3)
      generalize upd H2 st (StO a i3 m3 c3) = H3 at s3 k3
      refine ⟨_, _, rfl, rfl, ?_⟩
      refine ⟨_, rfl, _, rfl, by omega, by omega, fun D hD => ?_⟩
      have nD := s3.ne_of hD
      have hDn : H D = none := k3.free nD hD
      refine lc_range (lo := 0) (n := b.toNat) (fun i H' => SOk K a ns st H' ∧ Keep st H H' ∧ ∃ fs : List Int, fs.length = i ∧ (∀ f ∈ fs, f = 0 ∨ f = 1) ∧ H' D = some (.lst (fs.map V.int))) ⟨s3.new hD, k3.new hD, [], rfl, by simp, upd_same⟩ ?_ ?_
      · rintro i H' hi ⟨s4, k4, fs, hl, hb, hd⟩
        refine ⟨rfl, _, rfl, _, rfl, st, a, ns, _, rfl, s4, by omega, Int.lt_of_le_of_lt (show 2 + r3 ≤ 10 by omega) (by decide), fun r5 i5 m5 c5 r50 r51 d5 => ?_⟩
        have s5 := s4.drawn d5
        have k5 := k4.atSt (o := StO a i5 m5 c5)
        have hd5 : upd H' st (StO a i5 m5 c5) D = some (.lst (fs.map V.int)) := by rw [upd_ne nD]; exact hd
        generalize upd H' st (StO a i5 m5 c5) = H5 at s5 k5 hd5
        refine ⟨rfl, .inr ⟨_, rfl, _, hd5, small_of (m := 64) (by rw [List.length_map, hl]; omega), ?_⟩⟩
        refine ⟨s5.mutK hs k5 hDn, k5.mut hDn, fs ++ [if (decide (V.int r5 = V.int 0)) = true then 1 else 0], by rw [List.length_append, hl]; rfl, fun z hz => ?_, by rw [upd_same, List.map_append]; rfl⟩
        rcases List.mem_append.mp hz with m | m
        · exact hb z m
        · rw [List.mem_singleton.mp m]; split <;> simp
      · rintro H' ⟨s4, k4, fs, hl, hb, hd⟩
        exact k fs D H' ⟨by omega, by omega, hb⟩ hDn k4 s4 hd
    · -- a told one, beats exchanged
      refine ⟨_, rfl, _, rfl, _, rfl, _, rfl, st, a, ns, b, rfl, s2, by omega, Int.lt_of_le_of_lt b1 (by decide), fun r3 i3 m3 c3 r30 r31 d3 => ?_⟩
      have s3 := s2.drawn d3
      have k3 := k2.atSt (o := StO a i3 m3 c3)
      generalize upd H2 st (StO a i3 m3 c3) = H3 at s3 k3
      refine ⟨b, p, r3, rfl, by omega, b1, p0, p1, Nat.lt_of_lt_of_le (show r3.natAbs < 100 by omega) (by decide), fun l hl => ?_⟩
      have nl := s3.ne_of hl
      have hln : H l = none := k3.free nl hl
      have s4 := s3.new (o := .lst ((evL b p r3).map V.int)) hl
      have k4 := k3.new (o := .lst ((evL b p r3).map V.int)) hl
      have hl4 : upd H3 l (.lst ((evL b p r3).map V.int)) l = some (.lst ((evL b p r3).map V.int)) := upd_same
      generalize upd H3 l (.lst ((evL b p r3).map V.int)) = H4 at s4 k4 hl4
      have hfr := evL_frm b0 b1 p0 p1 r3
      have hfl : (evL b p r3).length = b.toNat := evL_len b p r3
      refine ⟨_, rfl, st, a, ns, 3, rfl, s4, by decide, by decide, fun r5 i5 m5 c5 r50 r51 d5 => ?_⟩
      have s5 := s4.drawn d5
      have k5 := k4.atSt (o := StO a i5 m5 c5)
      have hl5 : upd H4 st (StO a i5 m5 c5) l = some (.lst ((evL b p r3).map V.int)) := by rw [upd_ne nl]; exact hl4
      generalize upd H4 st (StO a i5 m5 c5) = H5 at s5 k5 hl5
      refine ⟨_, rfl, by omega, by omega, for_range (lo := 0) (n := r5.toNat) (fun i σ H' => (∃ v3 v4 v6 v7 v8 v9 : Option V, σ = [some (.ref st), some (.int b), some (.int p), v3, v4, some (.ref l), v6, v7, v8, v9]) ∧ SOk K a ns st H' ∧ Keep st H H' ∧ ∃ fs : List Int, fs.length = b.toNat ∧ (∀ f ∈ fs, f = 0 ∨ f = 1) ∧ H' l = some (.lst (fs.map V.int)))
        ⟨⟨_, _, _, _, _, _, rfl⟩, s5, k5, _, hfl, hfr.bit, hl5⟩ ?_ ?_⟩
      · rintro i σ H' hi ⟨⟨v3, v4, v6, v7, v8, v9, rfl⟩, s6, k6, fs, hfl6, hb6, hl6⟩
        refine ⟨_, rfl, _, rfl, st, a, ns, b, rfl, s6, by omega, Int.lt_of_le_of_lt b1 (by decide), fun r7 i7 m7 c7 r70 r71 d7 => ?_⟩
        have s7 := s6.drawn d7
        have k7 := k6.atSt (o := StO a i7 m7 c7)
        have hl7 : upd H' st (StO a i7 m7 c7) l = some (.lst (fs.map V.int)) := by rw [upd_ne nl]; exact hl6
        generalize upd H' st (StO a i7 m7 c7) = H7 at s7 k7 hl7
        refine ⟨_, rfl, _, rfl, st, a, ns, b, rfl, s7, by omega, Int.lt_of_le_of_lt b1 (by decide), fun r8 i8 m8 c8 r80 r81 d8 => ?_⟩
        have s8 := s7.drawn d8
        have k8 := k7.atSt (o := StO a i8 m8 c8)
        have hl8 : upd H7 st (StO a i8 m8 c8) l = some (.lst (fs.map V.int)) := by rw [upd_ne nl]; exact hl7
        generalize upd H7 st (StO a i8 m8 c8) = H8 at s8 k8 hl8
        refine ⟨_, _, rfl, ?_⟩
        have j7 : r7.toNat < fs.length := by omega
        have j8 : r8.toNat < fs.length := by omega
        have q7 : r7 = (r7.toNat : Int) := by omega
        have q8 : r8 = (r8.toNat : Int) := by omega
        have gb : ∀ j : Nat, fs.getD j 0 = 0 ∨ fs.getD j 0 = 1 := fun j => (Frm.getD (fs := fs) ⟨by omega, by omega, hb6⟩ j)
        have ix : ∀ {z : Int} {j : Nat} {n : Nat}, z = (j : Int) → j < n → ixN n z = some j := fun {z j n} e h => by
          subst e; unfold ixN; rw [if_pos (by omega), if_pos (by omega), Int.toNat_natCast]
        refine ⟨_, rfl, _, rfl, _, _, _, _, rfl, rfl, SqL.of hl8, atV q7 j7, ?_⟩
        refine ⟨_, rfl, _, rfl, _, _, _, _, rfl, rfl, SqL.of hl8, atV q8 j8, _, rfl, _, rfl, l, _, _, r7.toNat, rfl, rfl, hl8, ix q7 (by rw [List.length_map]; exact j7), ?_⟩
        have e9 : (fs.map V.int).set r7.toNat (.int (fs.getD r8.toNat 0)) = (fs.set r7.toNat (fs.getD r8.toNat 0)).map V.int := List.map_set.symm
        rw [e9]
        have s9 := s8.mutK (o := .lst ((fs.set r7.toNat (fs.getD r8.toNat 0)).map V.int)) hs k8 hln
        have k9 := k8.mut (o := .lst ((fs.set r7.toNat (fs.getD r8.toNat 0)).map V.int)) hln
        have hl9 : upd H8 l (.lst ((fs.set r7.toNat (fs.getD r8.toNat 0)).map V.int)) l = some (.lst ((fs.set r7.toNat (fs.getD r8.toNat 0)).map V.int)) := upd_same
        generalize upd H8 l (.lst ((fs.set r7.toNat (fs.getD r8.toNat 0)).map V.int)) = H9 at s9 k9 hl9
        refine ⟨_, rfl, _, rfl, _, rfl, l, _, _, r8.toNat, rfl, rfl, hl9, ix q8 (by rw [List.length_map, List.length_set]; exact j8), ?_⟩
        have e10 : ((fs.set r7.toNat (fs.getD r8.toNat 0)).map V.int).set r8.toNat (.int (fs.getD r7.toNat 0)) = ((fs.set r7.toNat (fs.getD r8.toNat 0)).set r8.toNat (fs.getD r7.toNat 0)).map V.int := List.map_set.symm
        rw [e10]
        exact ⟨⟨_, _, _, _, _, _, rfl⟩, s9.mutK hs k9 hln, k9.mut hln, _, by rw [List.length_set, List.length_set]; exact hfl6, set_bit (set_bit hb6 (gb _) _) (gb _) _, upd_same⟩
      · rintro σ H' ⟨⟨v3, v4, v6, v7, v8, v9, rfl⟩, s6, k6, fs, hfl6, hb6, hl6⟩
        exact ⟨_, rfl, k fs l H' ⟨by omega, by omega, hb6⟩ hln k6 s6 hl6⟩
end
end My

namespace My
open PySem L2
section
variable {P : Program} {w : World} {K : PySem.W.Frag} {mg : Str → Option Value} {base : Heap}
abbrev s_changes_of : Stmt := top 14
theorem sc_changes_of : FnScope ["frame", "k"] ["frame"] (defScope s_changes_of) := ⟨rfl, rfl, rfl, by decide +kernel, rfl, by decide +kernel, by decide +kernel⟩
theorem at_prv {fs : List Int} {k : Nat} {z : Int} (hz : z = (k : Int) - 1) (hk : k < fs.length) : atI (fs.map V.int) z = some (V.int (prv fs k)) := by
  unfold prv
  by_cases h : k = 0
  · subst h
    rw [if_pos rfl]
    have e : ixN (fs.map V.int).length z = some (fs.length - 1) := by
      unfold ixN
      rw [List.length_map, if_neg (by omega), if_pos (by omega)]
      congr 1
      omega
    unfold atI
    rw [e]
    show (fs.map V.int)[fs.length - 1]? = _
    rw [List.getElem?_map, List.getElem?_eq_getElem (by omega)]
    simp [List.getD, List.getElem?_eq_getElem (show fs.length - 1 < fs.length by omega)]
  · rw [if_neg h]
    exact atV (j := k - 1) (by omega) (by omega)
/-- changes_of(frame) -/
def spChanges (K : PySem.W.Frag) : Sp := fun vs H Q _ => ∃ (l : Addr) (fs : List Int), vs = [.ref l] ∧ SqL K H l (fs.map V.int) ∧ Frm fs ∧ ∀ H', Same H H' → Q (.int ((chg fs : Nat) : Int)) H'
theorem ok_changes_of {f : Addr} {fd : FuncData} (F : FunG K mg "changes_of" s_changes_of f fd ["frame"]) (T : Txt K mg) : FnOk P w K mg base CX0 1 f fd ["frame"] (spChanges K) := by
  refine F.fn.ok sc_changes_of (fun vs H Q E h => ?_) (fun cdv A outer s H vs Q E hr h => ?_)
  · obtain ⟨l, fs, rfl, _⟩ := h
    rfl
  · obtain ⟨l, fs, rfl, hS, hf, k⟩ := h
    refine ⟨_, (pss_one (ps_ret (pe_callB (clLen K) (by rfl) T.b_len (by decide +kernel) (pa_cons (pe_lc (own := [("k", 1)]) (g := gName 1) (by rfl) sc_changes_of.nd (pi_range1 (by rfl) T.b_range (pa_cons (pe_callB (clLen K) (by rfl) T.b_len (by decide +kernel) (pa_cons (pv 0) pa_nil)) pa_nil)) (blkOk_by (own := [("k", 1)]) (N := ["frame", "k"]) (sc := defScope s_changes_of) (by decide +kernel)) (fun _ _ _ _ _ => (pg_name (i := 1) sc_changes_of.nd rfl (.inl rfl))) (fun _ _ _ _ _ => (pts_one (pt_cmpR op_ne (pe_ix (ixL K) (pv 0) (pv 1) (fun _ _ => rfl)) (pe_ix (ixL K) (pv 0) (pe_op op_sub (pv 1) pe_int) (fun _ _ => rfl)) (nomark _)))) (fun _ _ _ _ _ => (pv 1))) pa_nil)))), ?_⟩
    have h0 := hf.pos
    have h1 := hf.le
    have hlen : (fs.map V.int).length = fs.length := List.length_map _
    refine ⟨_, rfl, _, _, rfl, .inl hS, _, rfl, by rw [hlen]; omega, by rw [hlen]; omega, fun D hD => lc_range (lo := 0) (n := ((fs.map V.int).length : Int).toNat) (fun i H' => Same H H' ∧ H' D = some (.lst ((chgTo fs i).map fun k : Nat => V.int (k : Int)))) ⟨Same.upd hD, upd_same⟩ ?_ ?_⟩
    · rintro j H' hj ⟨e, hd⟩
      rw [hlen] at hj
      have hj : j < fs.length := by omega
      have hS' := e.seq hS
      refine ⟨rfl, _, rfl, _, rfl, _, _, _, _, rfl, rfl, hS', atV (j := j) (by omega) hj, _, rfl, _, rfl, _, _, rfl, rfl, _, _, _, _, rfl, rfl, hS', at_prv (k := j) (by omega) hj, rfl, _, rfl, ?_⟩
      rw [chgTo_succ]
      by_cases c : fs.getD j 0 = prv fs j
      · rw [if_neg (fun z => z c), c]
        exact iteNS rfl ⟨e, hd⟩
      · rw [if_pos c]
        have c2 : ¬ V.int (fs.getD j 0) = V.int (prv fs j) := fun z => c (V.int.inj z)
        rw [decide_eq_false c2]
        refine iteT ⟨_, rfl, _, hd, small_of (m := 64) (by rw [List.length_map]; exact Nat.le_trans (chgTo_len _ _) (by omega)), e.mut hD, ?_⟩
        rw [upd_same, List.map_append, Int.zero_add]
        rfl
    · rintro H' ⟨e, hd⟩
      refine ⟨_, _, rfl, .inl (SqL.of hd), ?_⟩
      rw [List.length_map, hlen, Int.toNat_natCast]
      exact k H' e
/-- changes(frame) -/
abbrev s_changes : Stmt := top 15
theorem sc_changes : FnScope ["frame"] ["frame"] (defScope s_changes) := ⟨rfl, rfl, rfl, by decide +kernel, rfl, by decide +kernel, by decide +kernel⟩
/-- changes(frame) -/
theorem ok_changes {f : Addr} {fd : FuncData} (F : FunG K mg "changes" s_changes f fd ["frame"]) (c_need_frame : Cl P w K mg base CX0 1 "need_frame" (spNeedFrame K)) (c_changes_of : Cl P w K mg base CX0 1 "changes_of" (spChanges K)) : FnOk P w K mg base CX0 2 f fd ["frame"] (spChanges K) := by
  refine F.fn.ok sc_changes (fun vs H Q E h => ?_) (fun cdv A outer s H vs Q E hr h => ?_)
  · obtain ⟨l, fs, rfl, _⟩ := h
    rfl
  · obtain ⟨l, fs, rfl, hS, hf, k⟩ := h
    refine ⟨_, (pss_cons (ps_expr (pe_cl c_need_frame hr (by decide) (by rfl) (pa_cons (pv 0) pa_nil)))
      (pss_one (ps_ret (pe_cl c_changes_of hr (by decide) (by rfl) (pa_cons (pv 0) pa_nil))))), ?_⟩
    refine ⟨_, rfl, l, fs, rfl, hS, hf, fun H1 e1 => ?_⟩
    exact ⟨_, rfl, l, fs, rfl, e1.seq hS, hf, fun H2 e2 => k H2 (e1.trans e2)⟩
abbrev s_runs : Stmt := top 16
theorem sc_runs : FnScope ["frame"] ["frame"] (defScope s_runs) := ⟨rfl, rfl, rfl, by decide +kernel, rfl, by decide +kernel, by decide +kernel⟩
/-- runs(frame) -/
theorem flat_ints : ∀ ns : List Int, (ns.map V.int).all flatV = true
  | [] => rfl
  | n :: ns => by rw [List.map_cons, List.all_cons, flat_ints ns]; rfl
theorem inV_ints (z : Int) : ∀ ns : List Int, inV (.int z) (ns.map V.int) = decide (z ∈ ns)
  | [] => rfl
  | n :: ns => by
    have ih := inV_ints z ns
    rw [Bool.eq_iff_iff, decide_eq_true_iff] at ih ⊢
    rw [List.map_cons, List.mem_cons, ← ih]
    by_cases c : z = n
    · subst c
      simp [inV, eqV]
    · have c' : ¬ n = z := fun e => c e.symm
      simp [inV, eqV, c, c']
def spRuns (K : PySem.W.Frag) : Sp := fun vs H Q _ => ∃ (l : Addr) (fs : List Int), vs = [.ref l] ∧ SqL K H l (fs.map V.int) ∧ Frm fs ∧ ∀ H', Same H H' → Q (.int (runsN fs)) H'
theorem ok_runs {f : Addr} {fd : FuncData} (F : FunG K mg "runs" s_runs f fd ["frame"]) (c_need_frame : Cl P w K mg base CX0 1 "need_frame" (spNeedFrame K)) (c_changes_of : Cl P w K mg base CX0 1 "changes_of" (spChanges K)) : FnOk P w K mg base CX0 2 f fd ["frame"] (spRuns K) := by
  refine F.fn.ok sc_runs (fun vs H Q E h => ?_) (fun cdv A outer s H vs Q E hr h => ?_)
  · obtain ⟨l, fs, rfl, _⟩ := h
    rfl
  · obtain ⟨l, fs, rfl, hS, hf, k⟩ := h
    refine ⟨_, (pss_cons (ps_expr (pe_cl c_need_frame hr (by decide) (by rfl) (pa_cons (pv 0) pa_nil)))
      (pss_one (ps_ret (pe_ifExp (pt_cmpR (opNotInQ K) pe_int (pv 0) (by rfl)) pe_int (pe_op op_fdivW (pe_cl c_changes_of hr (by decide) (by rfl) (pa_cons (pv 0) pa_nil)) pe_int))))), ?_⟩
    refine ⟨_, rfl, l, fs, rfl, hS, hf, fun H1 e1 => ?_⟩
    refine ⟨_, rfl, _, _, rfl, .inl (e1.seq hS), rfl, flat_ints fs, _, rfl, ?_⟩
    show (if (!inV (.int 0) (fs.map V.int)) = true then _ else _)
    rw [inV_ints]
    unfold runsN at k
    by_cases c : (0 : Int) ∈ fs
    · rw [decide_eq_true c]
      rw [if_pos c] at k
      exact iteF ⟨_, rfl, l, fs, rfl, e1.seq hS, hf, fun H2 e2 => ⟨_, _, rfl, rfl, wide_div (b := 2) (by decide) (by decide) (by decide) (by decide), k H2 (e1.trans e2)⟩⟩
    · rw [decide_eq_false c]
      rw [if_neg c] at k
      exact iteT (k H1 e1)
abbrev s_parted : Stmt := top 17
theorem sc_parted : FnScope ["many", "parts", "k"] ["many", "parts"] (defScope s_parted) := ⟨rfl, rfl, rfl, by decide +kernel, rfl, by decide +kernel, by decide +kernel⟩
/-- parted(many, parts): a new list -/
def spParted : Sp := fun vs H Q _ => ∃ m n : Nat, vs = [.int (m : Int), .int (n : Int)] ∧ 0 < n ∧ n ≤ 64 ∧ m ≤ 64 ∧
  ∀ p, H p = none → Q (.ref p) (upd H p (.lst ((List.range n).map fun k => V.int ((part m n k : Nat) : Int))))
theorem ok_parted {f : Addr} {fd : FuncData} (F : FunG K mg "parted" s_parted f fd ["many", "parts"]) (T : Txt K mg) : FnOk P w K mg base CX0 1 f fd ["many", "parts"] spParted := by
  refine F.fn.ok sc_parted (fun vs H Q E h => ?_) (fun cdv A outer s H vs Q E hr h => ?_)
  · obtain ⟨m, n, rfl, _⟩ := h
    rfl
  · obtain ⟨m, n, rfl, n0, n1, m1, k⟩ := h
    refine ⟨_, (pss_one (ps_ret (pe_lc (own := [("k", 2)]) (g := gName 2) (tt := tYes) (by rfl) sc_parted.nd (pi_range1 (by rfl) T.b_range (pa_cons (pv 1) pa_nil)) (blkOk_by (own := [("k", 2)]) (N := ["many", "parts", "k"]) (sc := defScope s_parted) (by decide +kernel)) (fun _ _ _ _ _ => (pg_name (i := 2) sc_parted.nd rfl (.inl rfl))) (fun _ _ _ _ _ => pts_nil) (fun _ _ _ _ _ => (pe_op op_add (pe_op op_fdivW (pv 0) (pv 1)) (pe_callTy call_int1 (by rfl) T.b_int (by decide +kernel) (pa_cons (pe_cmpR op_lt (pv 2) (pe_op op_mod (pv 0) (pv 1)) (nomark _)) pa_nil))))))), ?_⟩
    refine ⟨_, rfl, _, rfl, by omega, by omega, fun D hD => lc_range (lo := 0) (n := (n : Int).toNat) (fun i H' => H' = upd H D (.lst ((List.range i).map fun k => V.int ((part m n k : Nat) : Int)))) rfl ?_ ?_⟩
    · rintro j H' hj rfl
      refine ⟨rfl, _, rfl, _, rfl, _, _, rfl, rfl, wide_div (b := 7) (by omega) (by omega) (by decide) (by decide), _, rfl, _, rfl, _, rfl, _, _, rfl, rfl, (by show (0 : Int) < (n : Int); omega), _, _, rfl, rfl, .inr ⟨_, rfl, _, _, rfl, rfl, _, upd_same, small_of (m := 64) (by rw [List.length_map, List.length_range]; omega), ?_⟩⟩
      rw [upd_upd, List.range_succ, List.map_append]
      congr 3
      show [V.int ((m : Int) / (n : Int) + (if decide (0 + (j : Int) < (m : Int) % (n : Int)) = true then 1 else 0))] = [V.int ((part m n j : Nat) : Int)]
      unfold part
      congr 2
      by_cases c : j < m % n
      · have c2 : (0 : Int) + (j : Int) < (m : Int) % (n : Int) := by
          rw [← Int.natCast_emod]; omega
        rw [if_pos c, decide_eq_true c2, if_pos rfl, Int.natCast_add, Int.natCast_ediv]; rfl
      · have c2 : ¬ (0 : Int) + (j : Int) < (m : Int) % (n : Int) := by
          rw [← Int.natCast_emod]; omega
        rw [if_neg c, decide_eq_false c2, if_neg (by decide), Int.natCast_add, Int.natCast_ediv]; rfl
    · rintro H' rfl
      rw [Int.toNat_natCast]
      exact k D hD
abbrev s_is_room : Stmt := top 18
theorem sc_is_room : FnScope ["beats", "pulses", "many"] ["beats", "pulses", "many"] (defScope s_is_room) := ⟨rfl, rfl, rfl, by decide +kernel, rfl, by decide +kernel, by decide +kernel⟩
/-- is_room(beats, pulses, many), where there is room -/
def spIsRoom : Sp := fun vs H Q _ => ∃ b p m : Int, vs = [.int b, .int p, .int m] ∧ 1 ≤ m ∧ m ≤ p ∧ (m = 1 ∨ m ≤ b - p) ∧ Q (.bl true) H
theorem ok_is_room {f : Addr} {fd : FuncData} (F : FunG K mg "is_room" s_is_room f fd ["beats", "pulses", "many"]) : FnOk P w K mg base CX0 1 f fd ["beats", "pulses", "many"] spIsRoom := by
  refine F.fn.ok sc_is_room (fun vs H Q E h => ?_) (fun cdv A outer s H vs Q E hr h => ?_)
  · obtain ⟨b, p, m, rfl, _⟩ := h
    rfl
  · obtain ⟨b, p, m, rfl, m0, m1, m2, k⟩ := h
    refine ⟨_, (pss_cons (ps_if (pt_cmpR op_eq (pv 2) pe_int (nomark _)) (pss_one (ps_ret (pe_cmpR op_eq (pv 1) pe_int (nomark _)))) pss_nil)
      (pss_one (ps_ret (pe_and (pe_cmpR op_le (pv 2) (pv 1) (nomark _)) (pe_one (pe_or (pe_cmpR op_eq (pv 2) pe_int (nomark _)) (pe_one (pe_cmpR op_le (pv 2) (pe_op op_sub (pv 0) (pv 1)) (nomark _))))))))), ?_⟩
    have c0 : ¬ V.int m = V.int 0 := fun z => absurd (V.int.inj z) (by omega)
    refine ⟨_, rfl, rfl, _, rfl, iteFe (decide_eq_false c0) ?_⟩
    refine ⟨_, rfl, _, rfl, _, _, rfl, rfl, _, rfl, iteTe (decide_eq_true m1) ⟨_, rfl, rfl, _, rfl, ?_⟩⟩
    by_cases c : m = 1
    · subst c
      exact iteTe (decide_eq_true rfl) k
    · have c1 : ¬ V.int m = V.int 1 := fun z => c (V.int.inj z)
      refine iteFe (decide_eq_false c1) ⟨_, rfl, _, rfl, _, rfl, _, _, rfl, rfl, _, _, rfl, rfl, ?_⟩
      show Q (.bl (decide (m ≤ b - p))) H
      rw [decide_eq_true (m2.resolve_left c)]
      exact k
end
end My

namespace My
open PySem L2
section
variable {P : Program} {w : World} {K : PySem.W.Frag} {mg : Str → Option Value} {base : Heap}
abbrev s_with_runs : Stmt := top 19
theorem sc_with_runs : FnScope ["beats", "pulses", "many", "found", "on", "off"] ["beats", "pulses", "many"] (defScope s_with_runs) := ⟨rfl, rfl, rfl, by decide +kernel, rfl, by decide +kernel, by decide +kernel⟩
/-- with_runs(beats, pulses, many), where there is room for one or more -/
def spWithRuns : Sp := fun vs H Q _ => ∃ (b p : Int) (m : Nat), vs = [.int b, .int p, .int (m : Int)] ∧ 1 ≤ b ∧ b ≤ 64 ∧ 0 ≤ p ∧ p ≤ b ∧ 1 ≤ m ∧ (m : Int) ≤ p ∧ (m = 1 ∨ (m : Int) ≤ b - p) ∧
  ∀ l H', Same H H' → H l = none → H' l = some (.lst ((frs (prs p.toNat (b - p).toNat m m)).map V.int)) → Q (.ref l) H'
theorem rep_ints (x : Int) (n : Nat) : (List.replicate n [V.int x]).flatten = (List.replicate n x).map V.int := by
  rw [List.map_replicate]
  induction n with
  | zero => rfl
  | succ n ih => rw [List.replicate_succ, List.flatten_cons, ih]; rfl
theorem frs_le {p q n i : Nat} (hn : 0 < n) (hi : i ≤ n) : (frs (prs p q n i)).length ≤ p + q := by
  rw [frs_len, prs_fst, prs_snd]
  have mono : ∀ m, ((List.range i).map (part m n)).sum ≤ ((List.range n).map (part m n)).sum := fun m => by
    obtain ⟨d, rfl⟩ : ∃ d, n = i + d := ⟨n - i, by omega⟩
    rw [List.range_add, List.map_append, List.sum_append]
    exact Nat.le_add_right _ _
  have h1 := mono p
  have h2 := mono q
  rw [part_sum hn] at h1 h2
  omega
theorem ok_with_runs {f : Addr} {fd : FuncData} (F : FunG K mg "with_runs" s_with_runs f fd ["beats", "pulses", "many"]) (T : Txt K mg) (c_need_share : Cl P w K mg base CX0 2 "need_share" spNeedShare) (c_is_room : Cl P w K mg base CX0 1 "is_room" spIsRoom) (c_parted : Cl P w K mg base CX0 1 "parted" spParted) :
    FnOk P w K mg base CX0 3 f fd ["beats", "pulses", "many"] spWithRuns := by
  refine F.fn.ok sc_with_runs (fun vs H Q E h => ?_) (fun cdv A outer s H vs Q E hr h => ?_)
  · obtain ⟨b, p, m, rfl, _⟩ := h
    rfl
  · obtain ⟨b, p, m, rfl, b0, b1, p0, p1, m0, m1, m2, k⟩ := h
    refine ⟨_, (pss_cons (ps_expr (pe_cl c_need_share hr (by decide) (by rfl) (pa_cons (pv 0) (pa_cons (pv 1) pa_nil))))
      (pss_cons (ps_if (pt_cmpR op_lt (pv 2) pe_int (nomark _)) (pss_one ps_never) pss_nil)
      (pss_cons (ps_if (pt_not (pt_val (pe_cl c_is_room hr (by decide) (by rfl) (pa_cons (pv 0) (pa_cons (pv 1) (pa_cons (pv 2) pa_nil)))))) (pss_one ps_never) pss_nil)
      (pss_cons (ps_if (pt_cmpR op_eq (pv 2) pe_int (nomark _)) (pss_one (ps_ret (pe_op op_rep (pe_lst (pa_cons pe_int pa_nil)) (pv 0)))) pss_nil)
      (pss_cons (ps_set (i := 3) sc_with_runs.nd rfl (.inl rfl) (pe_lst pa_nil))
      (pss_cons (ps_for PassesOwn.never (by rfl) (pi_zip (by rfl) T.b_zip (pa_cons (pe_cl c_parted hr (by decide) (by rfl) (pa_cons (pv 1) (pa_cons (pv 2) pa_nil))) (pa_cons (pe_cl c_parted hr (by decide) (by rfl) (pa_cons (pe_op op_sub (pv 0) (pv 1)) (pa_cons (pv 2) pa_nil))) pa_nil))) (pg_tup (by rfl) (pgs_cons (pg_name (i := 4) sc_with_runs.nd rfl (.inl rfl)) (pgs_cons (pg_name (i := 5) sc_with_runs.nd rfl (.inl rfl)) pgs_nil))) (pss_one (ps_set (i := 3) sc_with_runs.nd rfl (.inl rfl) (pe_op op_cat (pe_op op_cat (pv 3) (pe_op op_rep (pe_lst (pa_cons pe_int pa_nil)) (pv 4))) (pe_op op_rep (pe_lst (pa_cons pe_int pa_nil)) (pv 5))))))
      (pss_one (ps_ret (pv 3))))))))), ?_⟩
    refine ⟨_, rfl, _, rfl, b, p, rfl, b0, b1, p0, p1, ?_⟩
    refine ⟨_, rfl, _, _, rfl, rfl, _, rfl, iteFe (decide_eq_false (by omega)) ?_⟩
    refine ⟨_, rfl, _, rfl, _, rfl, b, p, (m : Int), rfl, by omega, m1, by omega, _, rfl, iteF ?_⟩
    have c0 : ¬ V.int (m : Int) = V.int 0 := fun z => absurd (V.int.inj z) (by omega)
    refine ⟨_, rfl, rfl, _, rfl, iteFe (decide_eq_false c0) ?_⟩
    refine ⟨Nat.zero_le _, fun p1' hp1 => ?_⟩
    have e1 : Same H (upd H p1' (.lst [])) := Same.upd hp1
    have h1 : upd H p1' (.lst []) p1' = some (.lst []) := upd_same
    generalize upd H p1' (.lst []) = H1 at e1 h1
    refine ⟨_, rfl, _, rfl, p.toNat, m, by rw [Int.toNat_of_nonneg p0]; rfl, m0, by omega, by omega, fun p2 hp2 => ?_⟩
    have e2 := e1.new (o := .lst ((List.range m).map fun k => V.int ((part p.toNat m k : Nat) : Int))) hp2
    have e12 : Same H1 (upd H1 p2 (.lst ((List.range m).map fun k => V.int ((part p.toNat m k : Nat) : Int)))) := Same.upd hp2
    have h2 : upd H1 p2 (.lst ((List.range m).map fun k => V.int ((part p.toNat m k : Nat) : Int))) p2 = some (.lst ((List.range m).map fun k => V.int ((part p.toNat m k : Nat) : Int))) := upd_same
    generalize upd H1 p2 (.lst ((List.range m).map fun k => V.int ((part p.toNat m k : Nat) : Int))) = H2 at e2 e12 h2
    refine ⟨_, rfl, _, rfl, _, _, rfl, rfl, _, rfl, (b - p).toNat, m, by rw [Int.toNat_of_nonneg (by omega)]; rfl, m0, by omega, by omega, fun p3 hp3 => ?_⟩
    have e3 := e2.new (o := .lst ((List.range m).map fun k => V.int ((part (b - p).toNat m k : Nat) : Int))) hp3
    have e23 : Same H2 (upd H2 p3 (.lst ((List.range m).map fun k => V.int ((part (b - p).toNat m k : Nat) : Int)))) := Same.upd hp3
    have h3 : upd H2 p3 (.lst ((List.range m).map fun k => V.int ((part (b - p).toNat m k : Nat) : Int))) p3 = some (.lst ((List.range m).map fun k => V.int ((part (b - p).toNat m k : Nat) : Int))) := upd_same
    generalize upd H2 p3 (.lst ((List.range m).map fun k => V.int ((part (b - p).toNat m k : Nat) : Int))) = H3 at e3 e23 h3
    refine ⟨_, _, _, _, rfl, SqL.of (e23 _ _ h2), SqL.of h3, ?_⟩
    refine RZ.for_zipL (K := K) (a := p2) (b := p3) (by rw [List.length_map, List.length_map]) (fun i σ H' => (∃ v4 v5 : Option V, ∃ l : Addr, σ = [some (.int b), some (.int p), some (.int (m : Int)), some (.ref l), v4, v5] ∧ H' l = some (.lst ((frs (prs p.toNat (b - p).toNat m i)).map V.int)) ∧ H l = none) ∧ Same H3 H') ⟨⟨none, none, p1', rfl, (e12.trans e23) _ _ h1, hp1⟩, Same.refl _⟩ (fun i σ H' h => ⟨SqL.of (h.2 _ _ (e23 _ _ h2)), SqL.of (h.2 _ _ h3)⟩) ?_ ?_
    · rintro i x y t σ H4 hx hy ⟨⟨v4, v5, l, rfl, hl, hln⟩, e4⟩ ht
      have hi : i < m := by
        have := (List.getElem?_eq_some_iff.mp hx).1
        rw [List.length_map, List.length_range] at this
        exact this
      rw [List.getElem?_map, List.getElem?_range hi] at hx hy
      cases hx
      cases hy
      have e5 := e4.new (o := .tup [V.int ((part p.toNat m i : Nat) : Int), V.int ((part (b - p).toNat m i : Nat) : Int)]) ht
      have hl5 : upd H4 t (.tup [V.int ((part p.toNat m i : Nat) : Int), V.int ((part (b - p).toNat m i : Nat) : Int)]) l = some (.lst ((frs (prs p.toNat (b - p).toNat m i)).map V.int)) := by rw [upd_ne (ne_of_none hl ht)]; exact hl
      have ht5 : upd H4 t (.tup [V.int ((part p.toNat m i : Nat) : Int), V.int ((part (b - p).toNat m i : Nat) : Int)]) t = some (.tup [V.int ((part p.toNat m i : Nat) : Int), V.int ((part (b - p).toNat m i : Nat) : Int)]) := upd_same
      generalize upd H4 t (.tup [V.int ((part p.toNat m i : Nat) : Int), V.int ((part (b - p).toNat m i : Nat) : Int)]) = H5 at e5 hl5 ht5
      have x1 : part p.toNat m i ≤ 65 := by
        have := (part_near (m := p.toNat) (n := m) (k := i)).2
        have := Nat.div_le_self p.toNat m
        omega
      have x2 : part (b - p).toNat m i ≤ 65 := by
        have := (part_near (m := (b - p).toNat) (n := m) (k := i)).2
        have := Nat.div_le_self (b - p).toNat m
        omega
      have x3 := frs_le (p := p.toNat) (q := (b - p).toNat) (n := m) (i := i) (by omega) (Nat.le_of_lt hi)
      have x4 := frs_le (p := p.toNat) (q := (b - p).toNat) (n := m) (i := i + 1) (by omega) hi
      have x5 : prs p.toNat (b - p).toNat m (i + 1) = prs p.toNat (b - p).toNat m i ++ [(part p.toNat m i, part (b - p).toNat m i)] := prs_succ _ _ _ _
      generalize part p.toNat m i = x at x1 x5 ht5 ⊢
      generalize part (b - p).toNat m i = y at x2 x5 ht5 ⊢
      refine ⟨_, _, rfl, SqT.of ht5, rfl, _, _, rfl, _, _, rfl, rfl, ?_⟩
      refine ⟨_, rfl, (by show 1 ≤ sizeLine; decide), fun p6 hp6 => ?_⟩
      have e6 := e5.new (o := .lst [.int 1]) hp6
      have hl6 : upd H5 p6 (.lst [.int 1]) l = _ := (upd_ne (ne_of_none hl5 hp6)).trans hl5
      have hp6' : upd H5 p6 (.lst [.int 1]) p6 = some (.lst [.int 1]) := upd_same
      generalize upd H5 p6 (.lst [.int 1]) = H6 at e6 hl6 hp6'
      refine ⟨_, rfl, _, _, _, rfl, rfl, hp6', by omega, by omega, small_le (m := 65) (by rw [Int.toNat_natCast]; show 1 * x ≤ 65; omega), fun p7 hp7 => ?_⟩
      rw [Int.toNat_natCast, rep_ints]
      have e7 := e6.new (o := .lst ((List.replicate x 1).map V.int)) hp7
      have hl7 : upd H6 p7 (.lst ((List.replicate x 1).map V.int)) l = _ := (upd_ne (ne_of_none hl6 hp7)).trans hl6
      have hp7' : upd H6 p7 (.lst ((List.replicate x 1).map V.int)) p7 = some (.lst ((List.replicate x 1).map V.int)) := upd_same
      generalize upd H6 p7 (.lst ((List.replicate x 1).map V.int)) = H7 at e7 hl7 hp7'
      refine ⟨_, _, _, _, rfl, rfl, hl7, hp7', small_le (m := 200) (by rw [List.length_map, List.length_map, List.length_replicate]; omega), fun p8 hp8 => ?_⟩
      have e8 := e7.new (o := .lst ((frs (prs p.toNat (b - p).toNat m i)).map V.int ++ (List.replicate x 1).map V.int)) hp8
      have hp8' : upd H7 p8 (.lst ((frs (prs p.toNat (b - p).toNat m i)).map V.int ++ (List.replicate x 1).map V.int)) p8 = some (.lst ((frs (prs p.toNat (b - p).toNat m i)).map V.int ++ (List.replicate x 1).map V.int)) := upd_same
      generalize upd H7 p8 (.lst ((frs (prs p.toNat (b - p).toNat m i)).map V.int ++ (List.replicate x 1).map V.int)) = H8 at e8 hp8'
      refine ⟨(by show 1 ≤ sizeLine; decide), fun p9 hp9 => ?_⟩
      have e9 := e8.new (o := .lst [.int 0]) hp9
      have h89 : upd H8 p9 (.lst [.int 0]) p8 = _ := (upd_ne (ne_of_none hp8' hp9)).trans hp8'
      have hp9' : upd H8 p9 (.lst [.int 0]) p9 = some (.lst [.int 0]) := upd_same
      generalize upd H8 p9 (.lst [.int 0]) = H9 at e9 h89 hp9'
      refine ⟨_, rfl, _, _, _, rfl, rfl, hp9', by omega, by omega, small_le (m := 65) (by rw [Int.toNat_natCast]; show 1 * y ≤ 65; omega), fun pa hpa => ?_⟩
      rw [Int.toNat_natCast, rep_ints]
      have ea := e9.new (o := .lst ((List.replicate y 0).map V.int)) hpa
      have h8a : upd H9 pa (.lst ((List.replicate y 0).map V.int)) p8 = _ := (upd_ne (ne_of_none h89 hpa)).trans h89
      have hpa' : upd H9 pa (.lst ((List.replicate y 0).map V.int)) pa = some (.lst ((List.replicate y 0).map V.int)) := upd_same
      generalize upd H9 pa (.lst ((List.replicate y 0).map V.int)) = Ha at ea h8a hpa'
      refine ⟨_, _, _, _, rfl, rfl, h8a, hpa', small_le (m := 400) (by rw [List.length_append, List.length_map, List.length_map, List.length_map, List.length_replicate, List.length_replicate]; omega), fun pb hpb => ?_⟩
      refine ⟨⟨_, _, pb, rfl, ?_, e3.free (ea.free hpb)⟩, ea.new hpb⟩
      rw [upd_same, x5, frs_snoc, List.map_append, List.map_append]
    · rintro σ H4 ⟨⟨v4, v5, l, rfl, hl, hln⟩, e4⟩
      rw [List.length_map, List.length_range] at hl
      exact ⟨_, rfl, k l H4 (e3.trans e4) hln hl⟩
end
end My

namespace My
open PySem L2
section
variable {P : Program} {w : World} {K : PySem.W.Frag} {mg : Str → Option Value} {base : Heap}
abbrev s_law_lengths : Stmt := top 26
theorem sc_law_lengths : FnScope ["_law_frame_here", "_law_what", "_law_found", "_law_k"] ["_law_frame_here", "_law_what"] (defScope s_law_lengths) := ⟨rfl, rfl, rfl, by decide +kernel, rfl, by decide +kernel, by decide +kernel⟩
/-- _law_lengths(frame, what): a new list -/
def spLens (K : PySem.W.Frag) : Sp := fun vs H Q _ => ∃ (l : Addr) (fs : List Int) (x : Int), vs = [.ref l, .int x] ∧ H l = some (.lst (fs.map V.int)) ∧ fs.length ≤ 64 ∧
  ∀ p H', Same H H' → H p = none → H' p = some (.lst ((lens x fs).1.map V.int)) → Q (.ref p) H'
theorem ok_law_lengths {f : Addr} {fd : FuncData} (F : FunG K mg "_law_lengths" s_law_lengths f fd ["_law_frame_here", "_law_what"]) (T : Txt K mg) : FnOk P w K mg base CX0 1 f fd ["_law_frame_here", "_law_what"] (spLens K) := by
  refine F.fn.ok sc_law_lengths (fun vs H Q E h => ?_) (fun cdv A outer s H vs Q E hr h => ?_)
  · obtain ⟨l, fs, x, rfl, _⟩ := h
    rfl
  · obtain ⟨l, fs, x, rfl, hl, hlen, k⟩ := h
    refine ⟨_, (pss_cons (ps_set (i := 2) sc_law_lengths.nd rfl (.inl rfl) (pe_lst pa_nil))
      (pss_cons (ps_for PassesOwn.never (by rfl) (pi_range1 (by rfl) T.b_range (pa_cons (pe_callB (clLen K) (by rfl) T.b_len (by decide +kernel) (pa_cons (pv 0) pa_nil)) pa_nil)) (pg_name (i := 3) sc_law_lengths.nd rfl (.inl rfl)) (pss_one (ps_if (pt_cmpR op_eq (pe_ix (ixL K) (pv 0) (pv 3) (fun _ _ => rfl)) (pv 1) (nomark _)) (pss_one (ps_if (PW.pt (pw_and (pt_cmpR op_gt (pv 3) pe_int (nomark _)) (pw_and1 (pt_cmpR op_eq (pe_ix (ixL K) (pv 0) (pe_op op_sub (pv 3) pe_int) (fun _ _ => rfl)) (pv 1) (nomark _))))) (pss_one (ps_asg (pe_op op_add (pe_ix (ixL K) (pv 2) (pe_un un_neg pe_int) (fun _ _ => rfl)) pe_int) (pg_sub (pv 2) (pe_un un_neg pe_int) set_list))) (pss_one (ps_expr (pe_bm PySem.F.plainAttrs_list PySem.F.slot_list_append PySem.F.type_list_append mt_append (pv 2) (pa_cons pe_int pa_nil)))))) pss_nil)))
      (pss_one (ps_ret (pv 2))))), ?_⟩
    have hS : SqL K H l (fs.map V.int) := SqL.of hl
    have hle : (fs.map V.int).length = fs.length := List.length_map _
    refine ⟨Nat.zero_le _, fun D hD => ?_⟩
    refine ⟨_, rfl, _, _, rfl, .inl ((Same.upd hD).seq hS), _, rfl, by rw [hle]; omega, by rw [hle]; omega, for_range (lo := 0) (n := ((fs.map V.int).length : Int).toNat) (fun i σ H' => (∃ v : Option V, σ = [some (.ref l), some (.int x), some (.ref D), v]) ∧ Same H H' ∧ H' D = some (.lst ((lens x (fs.take i)).1.map V.int))) ⟨⟨none, rfl⟩, Same.upd hD, upd_same⟩ ?_ ?_⟩
    · rintro i σ H' hi ⟨⟨v, rfl⟩, e, hd⟩
      rw [hle] at hi
      have hi : i < fs.length := by omega
      have hS' := e.seq hS
      obtain ⟨f1, f2, f3⟩ := lens_flag (x := x) (fs := fs) (i := i) (Nat.le_of_lt hi)
      rw [lens_take_succ hi]
      generalize lens x (fs.take i) = s at f1 f2 f3 hd
      obtain ⟨L, flag⟩ := s
      simp only at f1 f2 f3 hd
      refine ⟨_, rfl, _, rfl, _, _, _, _, rfl, rfl, hS', atV (j := i) (by omega) hi, _, rfl, rfl, _, rfl, ?_⟩
      unfold lenStep
      by_cases c : fs.getD i 0 = x
      · rw [if_pos c]
        refine iteTe (decide_eq_true (congrArg V.int c)) ⟨_, rfl, _, _, rfl, rfl, _, rfl, ?_⟩
        by_cases ci : 0 < i
        · refine iteTe (decide_eq_true (by omega)) ⟨_, rfl, _, rfl, _, _, rfl, rfl, _, _, _, _, rfl, rfl, hS', atV (j := i - 1) (by omega) (by omega), _, rfl, rfl, _, rfl, ?_⟩
          by_cases cp : fs.getD (i - 1) 0 = x
          · have ht : flag = true := f1.mpr ⟨ci, cp⟩
            subst ht
            rw [if_pos rfl]
            have hne := f2 rfl
            obtain ⟨L', z, rfl⟩ : ∃ L' z, L = L' ++ [z] := ⟨L.dropLast, L.getLast hne, (List.dropLast_concat_getLast hne).symm⟩
            have em : (L' ++ [z]).map V.int = L'.map V.int ++ [V.int z] := by rw [List.map_append]; rfl
            rw [em] at hd
            refine iteTe (decide_eq_true (congrArg V.int cp)) ⟨_, rfl, _, rfl, _, _, _, _, rfl, rfl, SqL.of hd, atI_last _ _, _, _, rfl, rfl, _, rfl, _, rfl, D, _, _, (L'.map V.int).length, rfl, rfl, hd, ?_, ?_⟩
            · unfold ixN
              rw [if_neg (by decide), if_pos (by rw [List.length_append]; simp; omega)]
              congr 1
              rw [List.length_append]
              simp
              omega
            · have es : (L'.map V.int ++ [V.int z]).set (L'.map V.int).length (V.int (z + 1)) = ((L' ++ [z]).dropLast ++ [(L' ++ [z]).getLastD 0 + 1]).map V.int := by
                rw [List.set_append_right _ _ (Nat.le_refl _), Nat.sub_self]
                simp
              rw [es]
              exact ⟨⟨_, rfl⟩, e.mut hD, upd_same⟩
          · have ht : flag = false := by
              cases flag with
              | false => rfl
              | true => exact absurd (f1.mp rfl).2 cp
            subst ht
            rw [if_neg Bool.false_ne_true]
            have cp' : ¬ V.int (fs.getD (i - 1) 0) = V.int x := fun z => cp (V.int.inj z)
            refine iteFe (decide_eq_false cp') ⟨_, rfl, .inl ⟨rfl, _, SqL.of hd⟩, D, _, _, rfl, rfl, hd, small_of (m := 64) (by rw [List.length_map]; omega), ?_⟩
            exact ⟨⟨_, rfl⟩, e.mut hD, by rw [upd_same, List.map_append]; rfl⟩
        · have ht : flag = false := by
            cases flag with
            | false => rfl
            | true => exact absurd (f1.mp rfl).1 ci
          subst ht
          rw [if_neg Bool.false_ne_true]
          refine iteFe (decide_eq_false (by omega)) (iteF ⟨_, rfl, .inl ⟨rfl, _, SqL.of hd⟩, D, _, _, rfl, rfl, hd, small_of (m := 64) (by rw [List.length_map]; omega), ?_⟩)
          exact ⟨⟨_, rfl⟩, e.mut hD, by rw [upd_same, List.map_append]; rfl⟩
      · rw [if_neg c]
        have c' : ¬ V.int (fs.getD i 0) = V.int x := fun z => c (V.int.inj z)
        exact iteFe (decide_eq_false c') ⟨⟨_, rfl⟩, e, hd⟩
    · rintro σ H' ⟨⟨v, rfl⟩, e, hd⟩
      rw [hle, Int.toNat_natCast, List.take_length] at hd
      exact ⟨_, rfl, k D H' e hD hd⟩
end
end My

namespace My
open PySem L2
section
variable {P : Program} {w : World} {K : PySem.W.Frag} {mg : Str → Option Value} {base : Heap}
abbrev s_law : Stmt := top 27
theorem sc_law : FnScope ["_law_script", "_law_state", "_law_turn", "_law_beats", "_law_pulses", "_law_most", "_law_many", "_law_frame_here", "_law_what", "_law_some", "_law_told"] ["_law_script"] (defScope s_law) := ⟨rfl, rfl, rfl, by decide +kernel, rfl, by decide +kernel, by decide +kernel⟩
def spLaw (K : PySem.W.Frag) : Sp := fun vs H Q _ => ∃ (a : Addr) (ns : List Int), vs = [.ref a] ∧ SqL K H a (ns.map V.int) ∧ ns.length ≤ 63 ∧ ∀ H', Q (.bl true) H'
theorem ok_law {f : Addr} {fd : FuncData} (F : FunG K mg "law" s_law f fd ["_law_script"]) (T : Txt K mg) (c_law_start : Cl P w K mg base CX0 1 "_law_start" (spStart K)) (c_law_drawn : Cl P w K mg base CX0 1 "_law_drawn" (spDrawn K)) (c_law_share : Cl P w K mg base CX0 2 "_law_share" (spShare K)) (c_law_frame : Cl P w K mg base CX0 3 "_law_frame" (spFrame K))
    (c_even : Cl P w K mg base CX0 3 "even" spEven) (c_with_runs : Cl P w K mg base CX0 3 "with_runs" spWithRuns) (c_runs : Cl P w K mg base CX0 2 "runs" (spRuns K)) (c_changes : Cl P w K mg base CX0 2 "changes" (spChanges K)) (c_law_lengths : Cl P w K mg base CX0 1 "_law_lengths" (spLens K)) :
    FnOk P w K mg base CX0 4 f fd ["_law_script"] (spLaw K) := by
  refine F.fn.ok sc_law (fun vs H Q E h => ?_) (fun cdv A outer s H vs Q E hr h => ?_)
  · obtain ⟨a, ns, rfl, _⟩ := h
    rfl
  · obtain ⟨a, ns, rfl, hS, hlen, k⟩ := h
    refine ⟨_, (pss_cons (ps_set (i := 1) sc_law.nd rfl (.inl rfl) (pe_cl c_law_start hr (by decide) (by rfl) (pa_cons (pv 0) pa_nil)))
      (pss_cons (ps_for PassesOwn.never (by rfl) (pi_range1 (by rfl) T.b_range (pa_cons pe_int pa_nil)) (pg_name (i := 2) sc_law.nd rfl (.inl rfl)) (pss_cons (ps_asg (pe_cl c_law_share hr (by decide) (by rfl) (pa_cons (pv 1) pa_nil)) (pg_tup (by rfl) (pgs_cons (pg_name (i := 3) sc_law.nd rfl (.inl rfl)) (pgs_cons (pg_name (i := 4) sc_law.nd rfl (.inl rfl)) pgs_nil))))
      (pss_cons (ps_set (i := 5) sc_law.nd rfl (.inl rfl) (pe_callB (call_min2 rfl) (by rfl) T.b_min (by decide +kernel) (pa_cons (pv 4) (pa_cons (pe_op op_sub (pv 3) (pv 4)) pa_nil))))
      (pss_cons (ps_for PassesOwn.never (by rfl) (pi_list (pe_callB (sortedW w rfl) (by rfl) T.b_sorted (by decide +kernel) (pa_cons (pe_callTy (setLK K w rfl) (by rfl) T.b_set (by decide +kernel) (pa_cons (pe_lst (pa_cons pe_int (pa_cons (pv 5) (pa_cons (pe_op op_add pe_int (pe_cl c_law_drawn hr (by decide) (by rfl) (pa_cons (pv 1) (pa_cons (pe_callB (call_max2 rfl) (by rfl) T.b_max (by decide +kernel) (pa_cons pe_int (pa_cons (pv 5) pa_nil))) pa_nil)))) pa_nil)))) pa_nil)) pa_nil))) (pg_name (i := 6) sc_law.nd rfl (.inl rfl)) (pss_one (ps_if (PW.pt (pw_and (pt_cmpR op_gt (pv 4) pe_int (nomark _)) (pw_and (pt_cmpR op_gt (pv 6) pe_int (nomark _)) (pw_and1 (PW.pt (pw_or (pt_cmpR op_eq (pv 6) pe_int (nomark _)) (pw_or1 (pt_cmpR op_le (pv 6) (pv 5) (nomark _))))))))) (pss_cons (ps_set (i := 7) sc_law.nd rfl (.inl rfl) (pe_cl c_with_runs hr (by decide) (by rfl) (pa_cons (pv 3) (pa_cons (pv 4) (pa_cons (pv 6) pa_nil)))))
      (pss_cons (ps_if (PW.pt (pw_or (pt_cmpR op_ne (pe_callB (clSum K rfl) (by rfl) T.b_sum (by decide +kernel) (pa_cons (pv 7) pa_nil)) (pv 4) (nomark _)) (pw_or (pt_cmpR op_ne (pe_callB (clLen K) (by rfl) T.b_len (by decide +kernel) (pa_cons (pv 7) pa_nil)) (pv 3) (nomark _)) (pw_or1 (pt_cmpR op_ne (pe_cl c_runs hr (by decide) (by rfl) (pa_cons (pv 7) pa_nil)) (pv 6) (nomark _)))))) (pss_one (ps_ret pe_bl)) pss_nil)
      (pss_cons (ps_if (pt_cmpR op_ne (pe_cl c_changes hr (by decide) (by rfl) (pa_cons (pv 7) pa_nil)) (pe_ifExp (pt_cmpR op_lt (pv 4) (pv 3) (nomark _)) (pe_op op_mulW pe_int (pv 6)) pe_int) (nomark _)) (pss_one (ps_ret pe_bl)) pss_nil)
      (pss_one (ps_for PassesOwn.never (by rfl) (pi_range1 (by rfl) T.b_range (pa_cons pe_int pa_nil)) (pg_name (i := 8) sc_law.nd rfl (.inl rfl)) (pss_cons (ps_set (i := 9) sc_law.nd rfl (.inl rfl) (pe_cl c_law_lengths hr (by decide) (by rfl) (pa_cons (pv 7) (pa_cons (pv 8) pa_nil))))
      (pss_one (ps_if (PW.pt (pw_and (pt_cmpR (opNeD K hr.units) (pv 9) (pe_lst pa_nil) (nomark _)) (pw_and1 (pt_cmpR op_gt (pe_op op_sub (pe_callB (clMax K rfl) (by rfl) T.b_max (by decide +kernel) (pa_cons (pv 9) pa_nil)) (pe_callB (clMin K rfl) (by rfl) T.b_min (by decide +kernel) (pa_cons (pv 9) pa_nil))) pe_int (nomark _))))) (pss_one (ps_ret pe_bl)) pss_nil)))))))) pss_nil)))
      (pss_cons (ps_set (i := 10) sc_law.nd rfl (.inl rfl) (pe_cl c_even hr (by decide) (by rfl) (pa_cons (pv 3) (pa_cons (pv 4) (pa_cons (pe_cl c_law_drawn hr (by decide) (by rfl) (pa_cons (pv 1) (pa_cons (pv 3) pa_nil))) pa_nil)))))
      (pss_cons (ps_if (pt_cmpR op_ne (pe_cl c_changes hr (by decide) (by rfl) (pa_cons (pv 10) pa_nil)) (pe_op op_mulW pe_int (pv 5)) (nomark _)) (pss_one (ps_ret pe_bl)) pss_nil)
      (pss_cons (ps_set (i := 7) sc_law.nd rfl (.inl rfl) (pe_cl c_law_frame hr (by decide) (by rfl) (pa_cons (pv 1) pa_nil)))
      (pss_one (ps_if (pt_cmpR op_gt (pe_cl c_changes hr (by decide) (by rfl) (pa_cons (pv 7) pa_nil)) (pe_cl c_changes hr (by decide) (by rfl) (pa_cons (pe_cl c_even hr (by decide) (by rfl) (pa_cons (pe_callB (clLen K) (by rfl) T.b_len (by decide +kernel) (pa_cons (pv 7) pa_nil)) (pa_cons (pe_callB (clSum K rfl) (by rfl) T.b_sum (by decide +kernel) (pa_cons (pv 7) pa_nil)) (pa_cons pe_int pa_nil)))) pa_nil)) (nomark _)) (pss_one (ps_ret pe_bl)) pss_nil)))))))))
      (pss_one (ps_ret pe_bl)))), ?_⟩
    refine ⟨_, rfl, a, ns, rfl, hS, fun st m0 hst d0 => ?_⟩
    have s0 : SOk K a ns st (upd H st (StO a 0 m0 0)) := SOk.make hlen hS hst d0
    have e0 : Same H (upd H st (StO a 0 m0 0)) := Same.upd hst
    generalize upd H st (StO a 0 m0 0) = H0 at s0 e0
    refine ⟨_, rfl, by decide, by decide, for_range (lo := 0) (n := 8) (fun i σ H' => (∃ v2 v3 v4 v5 v6 v7 v8 v9 v10 : Option V, σ = [some (.ref a), some (.ref st), v2, v3, v4, v5, v6, v7, v8, v9, v10]) ∧ SOk K a ns st H' ∧ Same H H')
      ⟨⟨none, none, none, none, none, none, none, none, none, rfl⟩, s0, e0⟩ ?_ ?_⟩
    · rintro i σ H1 hi ⟨⟨v2, v3, v4, v5, v6, v7, v8, v9, v10, rfl⟩, s1, e1⟩
      refine ⟨_, rfl, st, a, ns, rfl, s1, fun b p t H2 b0 b1 p0 p1 ht k2 s2 ht2 => ⟨_, _, rfl, SqT.of ht2, rfl, ?_⟩⟩
      have e2 : Same H H2 := e1.keepAll hst k2
      refine ⟨_, _, rfl, _, _, rfl, rfl, ?_⟩
      refine ⟨_, rfl, _, rfl, _, rfl, _, _, rfl, rfl, _, _, rfl, ?_⟩
      obtain ⟨M, hM⟩ : ∃ M : Int, M = if b - p < p then b - p else p := ⟨_, rfl⟩
      have hM1 : 0 ≤ M ∧ M ≤ p ∧ M ≤ b - p := by rw [hM]; omega
      rw [← hM]
      obtain ⟨X, hX⟩ : ∃ X : Int, X = if M > 1 then M else 1 := ⟨_, rfl⟩
      have hX1 : 1 ≤ X ∧ X ≤ 64 := by rw [hX]; omega
      refine ⟨_, rfl, _, rfl, _, rfl, _, _, rfl, ?_⟩
      rw [← hX]
      refine ⟨st, a, ns, X, rfl, s2, by omega, Int.lt_of_le_of_lt hX1.2 (by decide), fun r i3 m3 c3 r0 r1 d3 => ⟨_, _, rfl, rfl, (by show 3 ≤ sizeLine; decide), fun p4 hp4 => ?_⟩⟩
      have s3 := s2.drawn d3
      have e3 := e2.mut (o := StO a i3 m3 c3) hst
      have s4 := s3.new (o := .lst [.int 1, .int M, .int (1 + r)]) hp4
      have e4 := e3.new (o := .lst [.int 1, .int M, .int (1 + r)]) hp4
      have hp4' : upd (upd H2 st (StO a i3 m3 c3)) p4 (.lst [.int 1, .int M, .int (1 + r)]) p4 = some (.lst [.int 1, .int M, .int (1 + r)]) := upd_same
      generalize upd (upd H2 st (StO a i3 m3 c3)) p4 (.lst [.int 1, .int M, .int (1 + r)]) = H4 at s4 e4 hp4'
      refine ⟨_, [1, M, 1 + r], rfl, SqL.of hp4', (by show 3 ≤ 1000; decide), fun ps ks nd mem hps => ?_⟩
      have s5 := s4.new (o := SetO w ps (fun j => decide (j ∈ [1, M, 1 + r])) ks.length) hps
      have e5 := e4.new (o := SetO w ps (fun j => decide (j ∈ [1, M, 1 + r])) ks.length) hps
      have hps' : upd H4 ps (SetO w ps (fun j => decide (j ∈ [1, M, 1 + r])) ks.length) ps = some (SetO w ps (fun j => decide (j ∈ [1, M, 1 + r])) ks.length) := upd_same
      generalize upd H4 ps (SetO w ps (fun j => decide (j ∈ [1, M, 1 + r])) ks.length) = H5 at s5 e5 hps'
      refine ⟨_, _, _, rfl, hps', Nat.lt_of_le_of_lt (nodup_le ks [1, M, 1 + r] nd fun k hk => (mem k).mp hk) (by show 3 < 64; decide), fun n1 pn asc1 mem1 _ hpn => ?_⟩
      have s6 := s5.new (o := .lst (n1.map V.int)) hpn
      have e6 := e5.new (o := .lst (n1.map V.int)) hpn
      have hpn' : upd H5 pn (.lst (n1.map V.int)) pn = some (.lst (n1.map V.int)) := upd_same
      generalize upd H5 pn (.lst (n1.map V.int)) = H6 at s6 e6 hpn'
      refine ⟨_, rfl, ⟨_, SqL.of hpn'⟩, for_list (K := K) (a := pn) (xs := n1.map V.int) (fun j σ H' => (∃ v6 v7 v8 v9 v10 : Option V, σ = [some (.ref a), some (.ref st), some (.int (0 + (i : Int))), some (.int b), some (.int p), some (.int M), v6, v7, v8, v9, v10]) ∧ Same H6 H')
        ⟨⟨v6, v7, v8, v9, v10, rfl⟩, Same.refl _⟩ (fun i σ H' _ h => SqL.of (h.2 _ _ hpn')) ?_ ?_⟩
      · rintro j y σ H7 hj ⟨⟨v6, v7, v8, v9, v10, rfl⟩, e7⟩
        obtain ⟨z, hz, rfl⟩ := getV hj
        have hzm : z = 1 ∨ z = M ∨ z = 1 + r := by
          have := (mem1 z).mp (List.mem_of_getElem? hz)
          rw [decide_eq_true_iff] at this
          simpa using this
        obtain ⟨N, rfl⟩ : ∃ N : Nat, z = (N : Int) := ⟨z.toNat, by omega⟩
        refine ⟨_, rfl, _, _, rfl, rfl, _, rfl, ?_⟩
        by_cases hp : 0 < p
        · refine iteTe (decide_eq_true hp) ⟨_, rfl, _, _, rfl, rfl, _, rfl, ?_⟩
          by_cases hN : 0 < N
          · refine iteTe (decide_eq_true (by omega)) ⟨_, rfl, rfl, _, rfl, ?_⟩
            by_cases hN2 : N = 1 ∨ (N : Int) ≤ M
            · refine iteJoin (fun _ r => iteT r) (fun h r => ⟨_, rfl, _, rfl, _, _, rfl, rfl, _, rfl, iteTe (decide_eq_true (hN2.resolve_left fun e => absurd h (by subst e; decide))) r⟩) ?_
              have hNp : (N : Int) ≤ p := by omega
              have hNb : N = 1 ∨ (N : Int) ≤ b - p := by omega
              refine ⟨_, rfl, _, rfl, _, rfl, b, p, N, rfl, b0, b1, p0, p1, hN, hNp, hNb, fun l H8 e8 hl8 hl => ?_⟩
              have hR := runs_mk (b := b) (p := p) (m := N) p0 p1 hN hNp hNb
              generalize frs (prs p.toNat (b - p).toNat N N) = fs at hl hR
              have hf : Frm fs := ⟨by have := hR.len; omega, by have := hR.len; omega, hR.bit⟩
              refine ⟨_, rfl, _, _, rfl, SqL.of hl, _, rfl, rfl, _, rfl, iteFe (neqF (congrArg V.int hR.sum)) ⟨_, rfl, _, _, rfl, .inl (SqL.of hl), _, rfl, rfl, _, rfl, iteFe (neqF (congrArg V.int (by rw [List.length_map]; exact hR.len))) ⟨_, rfl, l, fs, rfl, SqL.of hl, hf, fun H9 e9 => ⟨_, rfl, rfl, _, rfl, iteFe (neqF (congrArg V.int (hR.runs hN hNp hNb))) ?_⟩⟩⟩⟩
              have hl9 := e9 _ _ hl
              refine ⟨_, rfl, l, fs, rfl, SqL.of hl9, hf, fun Ha ea => ⟨_, rfl, _, rfl, _, _, rfl, rfl, _, rfl, ?_⟩⟩
              have hla := ea _ _ hl9
              refine iteJoin (fun h r => ⟨_, rfl, _, _, rfl, rfl, wide_mul (a := 2) (b := 7) (by decide) (by omega) (by decide) (by decide) (by decide), rfl, _, rfl, iteFe (neqF (congrArg V.int (by rw [hR.chg, if_pos (of_decide_eq_true h)]; exact Int.natCast_mul 2 N))) r⟩)
                (fun h r => ⟨rfl, _, rfl, iteFe (neqF (congrArg V.int (by rw [hR.chg, if_neg (fun z => absurd (decide_eq_true z) (by rw [h]; decide))]; rfl))) r⟩) ?_
              refine ⟨_, rfl, by decide, by decide, for_range (lo := 0) (n := 2) (fun q σ H' => (∃ v8 v9 v10 : Option V, σ = [some (.ref a), some (.ref st), some (.int (0 + (i : Int))), some (.int b), some (.int p), some (.int M), some (.int (N : Int)), some (.ref l), v8, v9, v10]) ∧ Same Ha H')
                ⟨⟨v8, v9, v10, rfl⟩, Same.refl _⟩ ?_ ?_⟩
              · rintro q σ Hb hq ⟨⟨v8, v9, v10, rfl⟩, eb⟩
                refine ⟨_, rfl, _, rfl, l, fs, (0 + (q : Int)), rfl, eb _ _ hla, hf.le, fun g Hc ec hg hgl => ?_⟩
                have hnear := hR.near (0 + (q : Int)) (by omega)
                generalize (lens (0 + (q : Int)) fs).1 = L at hgl hnear
                refine ⟨_, rfl, Nat.zero_le _, fun u hu => ⟨_, _, dp_ints (SqL.of (by rw [upd_ne (ne_of_none hgl hu)]; exact hgl)), dp_nil (SqL.of upd_same), dI_shaped _, dI_shaped _, _, rfl, ?_⟩⟩
                rw [dI_eqv]
                have hgd : upd Hc u (.lst []) g = some (.lst (L.map V.int)) := by rw [upd_ne (ne_of_none hgl hu)]; exact hgl
                by_cases cL : L = []
                · exact iteFe (by rw [decide_eq_true cL]; rfl) (iteF ⟨⟨_, _, _, rfl⟩, (eb.trans ec).new hu⟩)
                · have hpos : 0 < L.length := List.length_pos_iff.mpr cL
                  refine iteTe (by rw [decide_eq_false cL]; rfl) ⟨_, rfl, _, _, rfl, SqL.of hgd, hpos, fun hi' h1 h2 => ⟨_, rfl, _, _, rfl, SqL.of hgd, hpos, fun lo l1 l2 => ⟨_, _, rfl, rfl, _, _, rfl, rfl, _, rfl, iteFe (decide_eq_false ?_) ⟨⟨_, _, _, rfl⟩, (eb.trans ec).new hu⟩⟩⟩⟩
                  have := hnear _ _ h1 l1
                  omega
              · rintro σ Hb ⟨⟨v8, v9, v10, rfl⟩, eb⟩
                exact ⟨⟨_, _, _, _, _, rfl⟩, (((e7.trans e8).trans e9).trans ea).trans eb⟩
            · have h1 : ¬ N = 1 := fun e => hN2 (.inl e)
              have h2 : ¬ (N : Int) ≤ M := fun e => hN2 (.inr e)
              exact iteFe (decide_eq_false fun e => h1 (by have := V.int.inj e; omega)) ⟨_, rfl, _, rfl, _, _, rfl, rfl, _, rfl, iteFe (decide_eq_false h2) ⟨⟨_, _, _, _, _, rfl⟩, e7⟩⟩
          · exact iteFe (decide_eq_false (by omega)) (iteF ⟨⟨_, _, _, _, _, rfl⟩, e7⟩)
        · exact iteFe (decide_eq_false hp) (iteF ⟨⟨_, _, _, _, _, rfl⟩, e7⟩)
      · rintro σ H7 ⟨⟨v6, v7, v8, v9, v10, rfl⟩, e7⟩
        have s7 := s6.same e7
        have e7' := e6.trans e7
        refine ⟨_, rfl, _, rfl, _, rfl, _, rfl, st, a, ns, b, rfl, s7, by omega, Int.lt_of_le_of_lt b1 (by decide), fun u i8 m8 c8 u0 u1 d8 => ?_⟩
        have s8 := s7.drawn d8
        have e8 := e7'.mut (o := StO a i8 m8 c8) hst
        generalize upd H7 st (StO a i8 m8 c8) = H8 at s8 e8
        refine ⟨b, p, u, rfl, b0, b1, p0, p1, Nat.lt_of_lt_of_le (show u.natAbs < 100 by omega) (by decide), fun l hl => ?_⟩
        have hf : Frm (evL b p u) := evL_frm b0 b1 p0 p1 _
        have hc := chg_ev (b := b) (p := p) (t := u) (by omega) hf.getD
        generalize evL b p u = fs at hf hc
        have s9 := s8.new (o := .lst (fs.map V.int)) hl
        have e9 := e8.new (o := .lst (fs.map V.int)) hl
        have hl9 : upd H8 l (.lst (fs.map V.int)) l = some (.lst (fs.map V.int)) := upd_same
        generalize upd H8 l (.lst (fs.map V.int)) = H9 at s9 e9 hl9
        rw [← hM] at hc
        refine ⟨_, rfl, l, fs, rfl, SqL.of hl9, hf, fun Ha ea => ⟨_, rfl, _, _, rfl, rfl, wide_mul (a := 2) (b := 7) (by decide) (by omega) (by decide) (by decide) (by decide), rfl, _, rfl, iteFe (neqF (congrArg V.int hc)) ?_⟩⟩
        have sa := s9.same ea
        have ea' := e9.trans ea
        refine ⟨_, rfl, st, a, ns, rfl, sa, fun gs g Hb hgf hg kb sb hgb => ?_⟩
        have eb : Same H Hb := ea'.keepAll hst kb
        refine ⟨_, rfl, g, gs, rfl, SqL.of hgb, hgf, fun Hc ec => ?_⟩
        have hgc := ec _ _ hgb
        have sc := sb.same ec
        have ec' := eb.trans ec
        have hgl : (gs.map V.int).length = gs.length := List.length_map _
        have g0 := hgf.pos
        have g1 := hgf.le
        obtain ⟨g2, g3⟩ := hgf.sum
        refine ⟨_, rfl, _, _, rfl, .inl (SqL.of hgc), _, rfl, _, _, rfl, SqL.of hgc, ((gs.length : Nat) : Int), gs.sum, 0, by rw [hgl]; rfl, by omega, by omega, g2, g3, by decide, fun l2 hl2 => ?_⟩
        have hf2 : Frm (evL (gs.length : Int) gs.sum 0) := evL_frm (by omega) (by omega) g2 g3 _
        have hc2 := chg_ev (b := (gs.length : Int)) (p := gs.sum) (t := 0) (by omega) hf2.getD
        have hc3 := chg_le (fs := gs) hgf.getD
        generalize evL (gs.length : Int) gs.sum 0 = f2 at hf2 hc2
        have sd := sc.new (o := .lst (f2.map V.int)) hl2
        have ed := ec'.new (o := .lst (f2.map V.int)) hl2
        have hld : upd Hc l2 (.lst (f2.map V.int)) l2 = some (.lst (f2.map V.int)) := upd_same
        generalize upd Hc l2 (.lst (f2.map V.int)) = Hd at sd ed hld
        refine ⟨l2, f2, rfl, SqL.of hld, hf2, fun He ee => ⟨_, _, rfl, rfl, _, rfl, iteFe (decide_eq_false ?_) ⟨⟨_, _, _, _, _, _, _, _, _, rfl⟩, sd.same ee, ed.trans ee⟩⟩⟩
        have : ((chg gs : Nat) : Int) ≤ ((chg f2 : Nat) : Int) := by rw [hc2]; omega
        omega
    · rintro σ H1 ⟨⟨v2, v3, v4, v5, v6, v7, v8, v9, v10, rfl⟩, s1, e1⟩
      exact k _
end
end My

namespace My
open PySem L2
theorem all_mk {P : Program} {w : World} {K : PySem.W.Frag} {h : Heap} {mg : Str → Option Value} {fa : Addr} (X : K.In h) (G : h.Ns mainGlobals mg) (hfa : mg "law" = some (.ref fa))
    {f_law_start : Addr} {od_law_start an_law_start : Option Addr} {sl_law_start : Array (Option Value)} {oc_law_start kV_law_start dc_law_start pm_law_start cd_law_start ct_law_start : Value}
    {f_law_drawn : Addr} {od_law_drawn an_law_drawn : Option Addr} {sl_law_drawn : Array (Option Value)} {oc_law_drawn kV_law_drawn dc_law_drawn pm_law_drawn cd_law_drawn ct_law_drawn : Value}
    {f_law_share : Addr} {od_law_share an_law_share : Option Addr} {sl_law_share : Array (Option Value)} {oc_law_share kV_law_share dc_law_share pm_law_share cd_law_share ct_law_share : Value}
    {f_law_even : Addr} {od_law_even an_law_even : Option Addr} {sl_law_even : Array (Option Value)} {oc_law_even kV_law_even dc_law_even pm_law_even cd_law_even ct_law_even : Value}
    {f_need_beats : Addr} {od_need_beats an_need_beats : Option Addr} {sl_need_beats : Array (Option Value)} {oc_need_beats kV_need_beats dc_need_beats pm_need_beats cd_need_beats ct_need_beats : Value}
    {f_need_share : Addr} {od_need_share an_need_share : Option Addr} {sl_need_share : Array (Option Value)} {oc_need_share kV_need_share dc_need_share pm_need_share cd_need_share ct_need_share : Value}
    {f_even_frame : Addr} {od_even_frame an_even_frame : Option Addr} {sl_even_frame : Array (Option Value)} {oc_even_frame kV_even_frame dc_even_frame pm_even_frame cd_even_frame ct_even_frame : Value}
    {f_even : Addr} {od_even an_even : Option Addr} {sl_even : Array (Option Value)} {oc_even kV_even dc_even pm_even cd_even ct_even : Value}
    {f_need_frame : Addr} {od_need_frame an_need_frame : Option Addr} {sl_need_frame : Array (Option Value)} {oc_need_frame kV_need_frame dc_need_frame pm_need_frame cd_need_frame ct_need_frame : Value}
    {f_law_frame : Addr} {od_law_frame an_law_frame : Option Addr} {sl_law_frame : Array (Option Value)} {oc_law_frame kV_law_frame dc_law_frame pm_law_frame cd_law_frame ct_law_frame : Value}
    {f_changes_of : Addr} {od_changes_of an_changes_of : Option Addr} {sl_changes_of : Array (Option Value)} {oc_changes_of kV_changes_of dc_changes_of pm_changes_of cd_changes_of ct_changes_of : Value}
    {f_changes : Addr} {od_changes an_changes : Option Addr} {sl_changes : Array (Option Value)} {oc_changes kV_changes dc_changes pm_changes cd_changes ct_changes : Value}
    {f_runs : Addr} {od_runs an_runs : Option Addr} {sl_runs : Array (Option Value)} {oc_runs kV_runs dc_runs pm_runs cd_runs ct_runs : Value}
    {f_parted : Addr} {od_parted an_parted : Option Addr} {sl_parted : Array (Option Value)} {oc_parted kV_parted dc_parted pm_parted cd_parted ct_parted : Value}
    {f_is_room : Addr} {od_is_room an_is_room : Option Addr} {sl_is_room : Array (Option Value)} {oc_is_room kV_is_room dc_is_room pm_is_room cd_is_room ct_is_room : Value}
    {f_with_runs : Addr} {od_with_runs an_with_runs : Option Addr} {sl_with_runs : Array (Option Value)} {oc_with_runs kV_with_runs dc_with_runs pm_with_runs cd_with_runs ct_with_runs : Value}
    {f_law_lengths : Addr} {od_law_lengths an_law_lengths : Option Addr} {sl_law_lengths : Array (Option Value)} {oc_law_lengths kV_law_lengths dc_law_lengths pm_law_lengths cd_law_lengths ct_law_lengths : Value}
    {f_law : Addr} {od_law an_law : Option Addr} {sl_law : Array (Option Value)} {oc_law kV_law dc_law pm_law cd_law ct_law : Value}
    {t_MOST_BEATS : Tok}
    (a_law_start : PySem.W.nsIn K mainGlobals "_law_start" = some (some (.ref f_law_start)))
    (l_law_start : K.lookup f_law_start = some ⟨oc_law_start, od_law_start, .func (PySem.W.fnOf "_law_start" "_law_start" (defArgs s_law_start) (defBody s_law_start) (defScope s_law_start) .none kV_law_start dc_law_start pm_law_start an_law_start cd_law_start ct_law_start), sl_law_start⟩)
    (c_law_start : PySem.W.codeIn K cd_law_start "_law_start" = true)
    (k_law_start : PySem.W.keepIn K (.ref f_law_start) = true)
    (a_law_drawn : PySem.W.nsIn K mainGlobals "_law_drawn" = some (some (.ref f_law_drawn)))
    (l_law_drawn : K.lookup f_law_drawn = some ⟨oc_law_drawn, od_law_drawn, .func (PySem.W.fnOf "_law_drawn" "_law_drawn" (defArgs s_law_drawn) (defBody s_law_drawn) (defScope s_law_drawn) .none kV_law_drawn dc_law_drawn pm_law_drawn an_law_drawn cd_law_drawn ct_law_drawn), sl_law_drawn⟩)
    (c_law_drawn : PySem.W.codeIn K cd_law_drawn "_law_drawn" = true)
    (k_law_drawn : PySem.W.keepIn K (.ref f_law_drawn) = true)
    (a_law_share : PySem.W.nsIn K mainGlobals "_law_share" = some (some (.ref f_law_share)))
    (l_law_share : K.lookup f_law_share = some ⟨oc_law_share, od_law_share, .func (PySem.W.fnOf "_law_share" "_law_share" (defArgs s_law_share) (defBody s_law_share) (defScope s_law_share) .none kV_law_share dc_law_share pm_law_share an_law_share cd_law_share ct_law_share), sl_law_share⟩)
    (c_law_share : PySem.W.codeIn K cd_law_share "_law_share" = true)
    (k_law_share : PySem.W.keepIn K (.ref f_law_share) = true)
    (a_law_even : PySem.W.nsIn K mainGlobals "_law_even" = some (some (.ref f_law_even)))
    (l_law_even : K.lookup f_law_even = some ⟨oc_law_even, od_law_even, .func (PySem.W.fnOf "_law_even" "_law_even" (defArgs s_law_even) (defBody s_law_even) (defScope s_law_even) .none kV_law_even dc_law_even pm_law_even an_law_even cd_law_even ct_law_even), sl_law_even⟩)
    (c_law_even : PySem.W.codeIn K cd_law_even "_law_even" = true)
    (k_law_even : PySem.W.keepIn K (.ref f_law_even) = true)
    (a_need_beats : PySem.W.nsIn K mainGlobals "need_beats" = some (some (.ref f_need_beats)))
    (l_need_beats : K.lookup f_need_beats = some ⟨oc_need_beats, od_need_beats, .func (PySem.W.fnOf "need_beats" "need_beats" (defArgs s_need_beats) (defBody s_need_beats) (defScope s_need_beats) .none kV_need_beats dc_need_beats pm_need_beats an_need_beats cd_need_beats ct_need_beats), sl_need_beats⟩)
    (c_need_beats : PySem.W.codeIn K cd_need_beats "need_beats" = true)
    (k_need_beats : PySem.W.keepIn K (.ref f_need_beats) = true)
    (a_need_share : PySem.W.nsIn K mainGlobals "need_share" = some (some (.ref f_need_share)))
    (l_need_share : K.lookup f_need_share = some ⟨oc_need_share, od_need_share, .func (PySem.W.fnOf "need_share" "need_share" (defArgs s_need_share) (defBody s_need_share) (defScope s_need_share) .none kV_need_share dc_need_share pm_need_share an_need_share cd_need_share ct_need_share), sl_need_share⟩)
    (c_need_share : PySem.W.codeIn K cd_need_share "need_share" = true)
    (k_need_share : PySem.W.keepIn K (.ref f_need_share) = true)
    (a_even_frame : PySem.W.nsIn K mainGlobals "even_frame" = some (some (.ref f_even_frame)))
    (l_even_frame : K.lookup f_even_frame = some ⟨oc_even_frame, od_even_frame, .func (PySem.W.fnOf "even_frame" "even_frame" (defArgs s_even_frame) (defBody s_even_frame) (defScope s_even_frame) .none kV_even_frame dc_even_frame pm_even_frame an_even_frame cd_even_frame ct_even_frame), sl_even_frame⟩)
    (c_even_frame : PySem.W.codeIn K cd_even_frame "even_frame" = true)
    (k_even_frame : PySem.W.keepIn K (.ref f_even_frame) = true)
    (a_even : PySem.W.nsIn K mainGlobals "even" = some (some (.ref f_even)))
    (l_even : K.lookup f_even = some ⟨oc_even, od_even, .func (PySem.W.fnOf "even" "even" (defArgs s_even) (defBody s_even) (defScope s_even) .none kV_even dc_even pm_even an_even cd_even ct_even), sl_even⟩)
    (c_even : PySem.W.codeIn K cd_even "even" = true)
    (k_even : PySem.W.keepIn K (.ref f_even) = true)
    (a_need_frame : PySem.W.nsIn K mainGlobals "need_frame" = some (some (.ref f_need_frame)))
    (l_need_frame : K.lookup f_need_frame = some ⟨oc_need_frame, od_need_frame, .func (PySem.W.fnOf "need_frame" "need_frame" (defArgs s_need_frame) (defBody s_need_frame) (defScope s_need_frame) .none kV_need_frame dc_need_frame pm_need_frame an_need_frame cd_need_frame ct_need_frame), sl_need_frame⟩)
    (c_need_frame : PySem.W.codeIn K cd_need_frame "need_frame" = true)
    (k_need_frame : PySem.W.keepIn K (.ref f_need_frame) = true)
    (a_law_frame : PySem.W.nsIn K mainGlobals "_law_frame" = some (some (.ref f_law_frame)))
    (l_law_frame : K.lookup f_law_frame = some ⟨oc_law_frame, od_law_frame, .func (PySem.W.fnOf "_law_frame" "_law_frame" (defArgs s_law_frame) (defBody s_law_frame) (defScope s_law_frame) .none kV_law_frame dc_law_frame pm_law_frame an_law_frame cd_law_frame ct_law_frame), sl_law_frame⟩)
    (c_law_frame : PySem.W.codeIn K cd_law_frame "_law_frame" = true)
    (k_law_frame : PySem.W.keepIn K (.ref f_law_frame) = true)
    (a_changes_of : PySem.W.nsIn K mainGlobals "changes_of" = some (some (.ref f_changes_of)))
    (l_changes_of : K.lookup f_changes_of = some ⟨oc_changes_of, od_changes_of, .func (PySem.W.fnOf "changes_of" "changes_of" (defArgs s_changes_of) (defBody s_changes_of) (defScope s_changes_of) .none kV_changes_of dc_changes_of pm_changes_of an_changes_of cd_changes_of ct_changes_of), sl_changes_of⟩)
    (c_changes_of : PySem.W.codeIn K cd_changes_of "changes_of" = true)
    (k_changes_of : PySem.W.keepIn K (.ref f_changes_of) = true)
    (a_changes : PySem.W.nsIn K mainGlobals "changes" = some (some (.ref f_changes)))
    (l_changes : K.lookup f_changes = some ⟨oc_changes, od_changes, .func (PySem.W.fnOf "changes" "changes" (defArgs s_changes) (defBody s_changes) (defScope s_changes) .none kV_changes dc_changes pm_changes an_changes cd_changes ct_changes), sl_changes⟩)
    (c_changes : PySem.W.codeIn K cd_changes "changes" = true)
    (k_changes : PySem.W.keepIn K (.ref f_changes) = true)
    (a_runs : PySem.W.nsIn K mainGlobals "runs" = some (some (.ref f_runs)))
    (l_runs : K.lookup f_runs = some ⟨oc_runs, od_runs, .func (PySem.W.fnOf "runs" "runs" (defArgs s_runs) (defBody s_runs) (defScope s_runs) .none kV_runs dc_runs pm_runs an_runs cd_runs ct_runs), sl_runs⟩)
    (c_runs : PySem.W.codeIn K cd_runs "runs" = true)
    (k_runs : PySem.W.keepIn K (.ref f_runs) = true)
    (a_parted : PySem.W.nsIn K mainGlobals "parted" = some (some (.ref f_parted)))
    (l_parted : K.lookup f_parted = some ⟨oc_parted, od_parted, .func (PySem.W.fnOf "parted" "parted" (defArgs s_parted) (defBody s_parted) (defScope s_parted) .none kV_parted dc_parted pm_parted an_parted cd_parted ct_parted), sl_parted⟩)
    (c_parted : PySem.W.codeIn K cd_parted "parted" = true)
    (k_parted : PySem.W.keepIn K (.ref f_parted) = true)
    (a_is_room : PySem.W.nsIn K mainGlobals "is_room" = some (some (.ref f_is_room)))
    (l_is_room : K.lookup f_is_room = some ⟨oc_is_room, od_is_room, .func (PySem.W.fnOf "is_room" "is_room" (defArgs s_is_room) (defBody s_is_room) (defScope s_is_room) .none kV_is_room dc_is_room pm_is_room an_is_room cd_is_room ct_is_room), sl_is_room⟩)
    (c_is_room : PySem.W.codeIn K cd_is_room "is_room" = true)
    (k_is_room : PySem.W.keepIn K (.ref f_is_room) = true)
    (a_with_runs : PySem.W.nsIn K mainGlobals "with_runs" = some (some (.ref f_with_runs)))
    (l_with_runs : K.lookup f_with_runs = some ⟨oc_with_runs, od_with_runs, .func (PySem.W.fnOf "with_runs" "with_runs" (defArgs s_with_runs) (defBody s_with_runs) (defScope s_with_runs) .none kV_with_runs dc_with_runs pm_with_runs an_with_runs cd_with_runs ct_with_runs), sl_with_runs⟩)
    (c_with_runs : PySem.W.codeIn K cd_with_runs "with_runs" = true)
    (k_with_runs : PySem.W.keepIn K (.ref f_with_runs) = true)
    (a_law_lengths : PySem.W.nsIn K mainGlobals "_law_lengths" = some (some (.ref f_law_lengths)))
    (l_law_lengths : K.lookup f_law_lengths = some ⟨oc_law_lengths, od_law_lengths, .func (PySem.W.fnOf "_law_lengths" "_law_lengths" (defArgs s_law_lengths) (defBody s_law_lengths) (defScope s_law_lengths) .none kV_law_lengths dc_law_lengths pm_law_lengths an_law_lengths cd_law_lengths ct_law_lengths), sl_law_lengths⟩)
    (c_law_lengths : PySem.W.codeIn K cd_law_lengths "_law_lengths" = true)
    (k_law_lengths : PySem.W.keepIn K (.ref f_law_lengths) = true)
    (a_law : PySem.W.nsIn K mainGlobals "law" = some (some (.ref f_law)))
    (l_law : K.lookup f_law = some ⟨oc_law, od_law, .func (PySem.W.fnOf "law" "law" (defArgs s_law) (defBody s_law) (defScope s_law) .none kV_law dc_law pm_law an_law cd_law ct_law), sl_law⟩)
    (c_law : PySem.W.codeIn K cd_law "law" = true)
    (k_law : PySem.W.keepIn K (.ref f_law) = true)
    (g_MOST_BEATS : PySem.W.nsIn K mainGlobals "MOST_BEATS" = some (some (.int 64 t_MOST_BEATS)))
    (z_int : PySem.W.nsIn K mainGlobals "int" = some none)
    (z_len : PySem.W.nsIn K mainGlobals "len" = some none)
    (z_max : PySem.W.nsIn K mainGlobals "max" = some none)
    (z_min : PySem.W.nsIn K mainGlobals "min" = some none)
    (z_range : PySem.W.nsIn K mainGlobals "range" = some none)
    (z_set : PySem.W.nsIn K mainGlobals "set" = some none)
    (z_sorted : PySem.W.nsIn K mainGlobals "sorted" = some none)
    (z_sum : PySem.W.nsIn K mainGlobals "sum" = some none)
    (z_zip : PySem.W.nsIn K mainGlobals "zip" = some none) :
    ∃ fd : FuncData, (∀ (s : Shared) (v : Value), BindsTo s fd ⟨[v], []⟩ [("_law_script", v)]) ∧ ∀ base : Heap, K.In base → base.Ns mainGlobals mg → FnOk P w K mg base CX0 4 fa fd ["_law_script"] (spLaw K) := by
  have e := hfa.symm.trans (PySem.W.mg_of X G a_law)
  cases e
  have T : Txt K mg := ⟨⟨_, PySem.W.mg_of X G g_MOST_BEATS, _, rfl⟩, PySem.W.mg_none_of X G z_int, PySem.W.mg_none_of X G z_len, PySem.W.mg_none_of X G z_max, PySem.W.mg_none_of X G z_min, PySem.W.mg_none_of X G z_range, PySem.W.mg_none_of X G z_set, PySem.W.mg_none_of X G z_sorted, PySem.W.mg_none_of X G z_sum, PySem.W.mg_none_of X G z_zip⟩
  have F_law_start := fun_mk (st := s_law_start) l_law_start c_law_start k_law_start
  have G_law_start : FunG K mg "_law_start" s_law_start _ _ ["_law_script"] := ⟨F_law_start, PySem.W.mg_of X G a_law_start, F_law_start.binds (ps := ["_law_script"]) fun _ _ _ _ _ _ us hl => match us, hl with | [_], _ => rfl⟩
  have F_law_drawn := fun_mk (st := s_law_drawn) l_law_drawn c_law_drawn k_law_drawn
  have G_law_drawn : FunG K mg "_law_drawn" s_law_drawn _ _ ["_law_state", "_law_many"] := ⟨F_law_drawn, PySem.W.mg_of X G a_law_drawn, F_law_drawn.binds (ps := ["_law_state", "_law_many"]) fun _ _ _ _ _ _ us hl => match us, hl with | [_, _], _ => rfl⟩
  have F_law_share := fun_mk (st := s_law_share) l_law_share c_law_share k_law_share
  have G_law_share : FunG K mg "_law_share" s_law_share _ _ ["_law_state"] := ⟨F_law_share, PySem.W.mg_of X G a_law_share, F_law_share.binds (ps := ["_law_state"]) fun _ _ _ _ _ _ us hl => match us, hl with | [_], _ => rfl⟩
  have F_law_even := fun_mk (st := s_law_even) l_law_even c_law_even k_law_even
  have G_law_even : FunG K mg "_law_even" s_law_even _ _ ["_law_beats", "_law_pulses", "_law_turn"] := ⟨F_law_even, PySem.W.mg_of X G a_law_even, F_law_even.binds (ps := ["_law_beats", "_law_pulses", "_law_turn"]) fun _ _ _ _ _ _ us hl => match us, hl with | [_, _, _], _ => rfl⟩
  have F_need_beats := fun_mk (st := s_need_beats) l_need_beats c_need_beats k_need_beats
  have G_need_beats : FunG K mg "need_beats" s_need_beats _ _ ["beats"] := ⟨F_need_beats, PySem.W.mg_of X G a_need_beats, F_need_beats.binds (ps := ["beats"]) fun _ _ _ _ _ _ us hl => match us, hl with | [_], _ => rfl⟩
  have F_need_share := fun_mk (st := s_need_share) l_need_share c_need_share k_need_share
  have G_need_share : FunG K mg "need_share" s_need_share _ _ ["beats", "pulses"] := ⟨F_need_share, PySem.W.mg_of X G a_need_share, F_need_share.binds (ps := ["beats", "pulses"]) fun _ _ _ _ _ _ us hl => match us, hl with | [_, _], _ => rfl⟩
  have F_even_frame := fun_mk (st := s_even_frame) l_even_frame c_even_frame k_even_frame
  have G_even_frame : FunG K mg "even_frame" s_even_frame _ _ ["beats", "pulses", "turn"] := ⟨F_even_frame, PySem.W.mg_of X G a_even_frame, F_even_frame.binds (ps := ["beats", "pulses", "turn"]) fun _ _ _ _ _ _ us hl => match us, hl with | [_, _, _], _ => rfl⟩
  have F_even := fun_mk (st := s_even) l_even c_even k_even
  have G_even : FunG K mg "even" s_even _ _ ["beats", "pulses", "turn"] := ⟨F_even, PySem.W.mg_of X G a_even, F_even.binds (ps := ["beats", "pulses", "turn"]) fun _ _ _ _ _ _ us hl => match us, hl with | [_, _, _], _ => rfl⟩
  have F_need_frame := fun_mk (st := s_need_frame) l_need_frame c_need_frame k_need_frame
  have G_need_frame : FunG K mg "need_frame" s_need_frame _ _ ["frame"] := ⟨F_need_frame, PySem.W.mg_of X G a_need_frame, F_need_frame.binds (ps := ["frame"]) fun _ _ _ _ _ _ us hl => match us, hl with | [_], _ => rfl⟩
  have F_law_frame := fun_mk (st := s_law_frame) l_law_frame c_law_frame k_law_frame
  have G_law_frame : FunG K mg "_law_frame" s_law_frame _ _ ["_law_state"] := ⟨F_law_frame, PySem.W.mg_of X G a_law_frame, F_law_frame.binds (ps := ["_law_state"]) fun _ _ _ _ _ _ us hl => match us, hl with | [_], _ => rfl⟩
  have F_changes_of := fun_mk (st := s_changes_of) l_changes_of c_changes_of k_changes_of
  have G_changes_of : FunG K mg "changes_of" s_changes_of _ _ ["frame"] := ⟨F_changes_of, PySem.W.mg_of X G a_changes_of, F_changes_of.binds (ps := ["frame"]) fun _ _ _ _ _ _ us hl => match us, hl with | [_], _ => rfl⟩
  have F_changes := fun_mk (st := s_changes) l_changes c_changes k_changes
  have G_changes : FunG K mg "changes" s_changes _ _ ["frame"] := ⟨F_changes, PySem.W.mg_of X G a_changes, F_changes.binds (ps := ["frame"]) fun _ _ _ _ _ _ us hl => match us, hl with | [_], _ => rfl⟩
  have F_runs := fun_mk (st := s_runs) l_runs c_runs k_runs
  have G_runs : FunG K mg "runs" s_runs _ _ ["frame"] := ⟨F_runs, PySem.W.mg_of X G a_runs, F_runs.binds (ps := ["frame"]) fun _ _ _ _ _ _ us hl => match us, hl with | [_], _ => rfl⟩
  have F_parted := fun_mk (st := s_parted) l_parted c_parted k_parted
  have G_parted : FunG K mg "parted" s_parted _ _ ["many", "parts"] := ⟨F_parted, PySem.W.mg_of X G a_parted, F_parted.binds (ps := ["many", "parts"]) fun _ _ _ _ _ _ us hl => match us, hl with | [_, _], _ => rfl⟩
  have F_is_room := fun_mk (st := s_is_room) l_is_room c_is_room k_is_room
  have G_is_room : FunG K mg "is_room" s_is_room _ _ ["beats", "pulses", "many"] := ⟨F_is_room, PySem.W.mg_of X G a_is_room, F_is_room.binds (ps := ["beats", "pulses", "many"]) fun _ _ _ _ _ _ us hl => match us, hl with | [_, _, _], _ => rfl⟩
  have F_with_runs := fun_mk (st := s_with_runs) l_with_runs c_with_runs k_with_runs
  have G_with_runs : FunG K mg "with_runs" s_with_runs _ _ ["beats", "pulses", "many"] := ⟨F_with_runs, PySem.W.mg_of X G a_with_runs, F_with_runs.binds (ps := ["beats", "pulses", "many"]) fun _ _ _ _ _ _ us hl => match us, hl with | [_, _, _], _ => rfl⟩
  have F_law_lengths := fun_mk (st := s_law_lengths) l_law_lengths c_law_lengths k_law_lengths
  have G_law_lengths : FunG K mg "_law_lengths" s_law_lengths _ _ ["_law_frame_here", "_law_what"] := ⟨F_law_lengths, PySem.W.mg_of X G a_law_lengths, F_law_lengths.binds (ps := ["_law_frame_here", "_law_what"]) fun _ _ _ _ _ _ us hl => match us, hl with | [_, _], _ => rfl⟩
  have F_law := fun_mk (st := s_law) l_law c_law k_law
  have G_law : FunG K mg "law" s_law _ _ ["_law_script"] := ⟨F_law, PySem.W.mg_of X G a_law, F_law.binds (ps := ["_law_script"]) fun _ _ _ _ _ _ us hl => match us, hl with | [_], _ => rfl⟩
  refine ⟨PySem.W.fnOf "law" "law" (defArgs s_law) (defBody s_law) (defScope s_law) .none kV_law dc_law pm_law an_law cd_law ct_law, fun s v => .of_eq rfl, fun base KB GB => ?_⟩
  have c_law_start := G_law_start.cl (ok_law_start (P := P) (w := w) (base := base) G_law_start )
  have c_law_drawn := G_law_drawn.cl (ok_law_drawn (P := P) (w := w) (base := base) G_law_drawn T)
  have c_law_share := G_law_share.cl (ok_law_share (P := P) (w := w) (base := base) G_law_share c_law_drawn)
  have c_law_even := G_law_even.cl (ok_law_even (P := P) (w := w) (base := base) G_law_even T)
  have c_need_beats := G_need_beats.cl (ok_need_beats (P := P) (w := w) (base := base) G_need_beats T)
  have c_need_share := G_need_share.cl (ok_need_share (P := P) (w := w) (base := base) G_need_share c_need_beats)
  have c_even_frame := G_even_frame.cl (ok_even_frame (P := P) (w := w) (base := base) G_even_frame T)
  have c_even := G_even.cl (ok_even (P := P) (w := w) (base := base) G_even c_need_share c_even_frame)
  have c_need_frame := G_need_frame.cl (ok_need_frame (P := P) (w := w) (base := base) G_need_frame T)
  have c_law_frame := G_law_frame.cl (ok_law_frame (P := P) (w := w) (base := base) G_law_frame T c_law_drawn c_law_share c_law_even)
  have c_changes_of := G_changes_of.cl (ok_changes_of (P := P) (w := w) (base := base) G_changes_of T)
  have c_changes := G_changes.cl (ok_changes (P := P) (w := w) (base := base) G_changes c_need_frame c_changes_of)
  have c_runs := G_runs.cl (ok_runs (P := P) (w := w) (base := base) G_runs c_need_frame c_changes_of)
  have c_parted := G_parted.cl (ok_parted (P := P) (w := w) (base := base) G_parted T)
  have c_is_room := G_is_room.cl (ok_is_room (P := P) (w := w) (base := base) G_is_room )
  have c_with_runs := G_with_runs.cl (ok_with_runs (P := P) (w := w) (base := base) G_with_runs T c_need_share c_is_room c_parted)
  have c_law_lengths := G_law_lengths.cl (ok_law_lengths (P := P) (w := w) (base := base) G_law_lengths T)
  exact ok_law (P := P) (w := w) (base := base) G_law T c_law_start c_law_drawn c_law_share c_law_frame c_even c_with_runs c_runs c_changes c_law_lengths
theorem walk {l : PySem.W.OpenLaw} {q : Program} {loose : List Str} {XP : (Str → Option Value) → Heap → Prop} {YP : World → Heap → Prop} {d : DefRec} {K : Params → PySem.W.Frag} (hn : l.most = some 63) (hdf : d.params.defaults = [])
    (hY : ∀ (w : World) (h : Heap), YP w h → (K w.params).In h)
    (F : ∀ (w : World) (mg : Str → Option Value) (fa : Addr) (h : Heap), (K w.params).In h → h.Ns mainGlobals mg → mg d.name = some (.ref fa) →
      ∃ fd : FuncData, (∀ (s : Shared) (u : Value), BindsTo s fd ⟨[u], []⟩ [("_law_script", u)]) ∧ ∀ base : Heap, (K w.params).In base → base.Ns mainGlobals mg → FnOk l.prog w (K w.params) mg base CX0 4 fa fd ["_law_script"] (spLaw (K w.params))) :
    PySem.W.WalkO q loose XP YP l.row.toRowW d [] (fun f vs => PySem.call f vs) :=
  L2.walk_of (n := 63) (k := 4) (x := "_law_script") (CX := fun _ => CX0) (sp := fun w => spLaw (K w.params)) hn (by decide) hdf ⟨rfl, by decide, by decide⟩ hY F (fun _ _ a ns hl _ hS => ⟨a, ns, rfl, hS, hl, fun _ => rfl⟩) fun _ _ _ _ _ z => z
end My
open PySem PySem.W PyProof.Rows in
set_option maxRecDepth 100000 in
set_option maxHeartbeats 0 in
theorem PySem.Challenge.cw_pulseshare_k13_whole_runs_and_changes_holds : PySem.Challenge.rw_pulseshare_k13_whole_runs_and_changes.Holds := by
  w_on; o_law; k_head; (case hw => w_witness2)
  k_fill
  refine My.walk (l := PySem.Challenge.rw_pulseshare_k13_whole_runs_and_changes) rfl rfl (fun w h Y => PySem.W.kIn_of Y) ?F
  case F =>
    intro w mg fa h KX G hmg
    refine' My.all_mk KX G hmg ?a_law_start ?l_law_start ?c_law_start ?k_law_start ?a_law_drawn ?l_law_drawn ?c_law_drawn ?k_law_drawn ?a_law_share ?l_law_share ?c_law_share ?k_law_share ?a_law_even ?l_law_even ?c_law_even ?k_law_even ?a_need_beats ?l_need_beats ?c_need_beats ?k_need_beats ?a_need_share ?l_need_share ?c_need_share ?k_need_share ?a_even_frame ?l_even_frame ?c_even_frame ?k_even_frame ?a_even ?l_even ?c_even ?k_even ?a_need_frame ?l_need_frame ?c_need_frame ?k_need_frame ?a_law_frame ?l_law_frame ?c_law_frame ?k_law_frame ?a_changes_of ?l_changes_of ?c_changes_of ?k_changes_of ?a_changes ?l_changes ?c_changes ?k_changes ?a_runs ?l_runs ?c_runs ?k_runs ?a_parted ?l_parted ?c_parted ?k_parted ?a_is_room ?l_is_room ?c_is_room ?k_is_room ?a_with_runs ?l_with_runs ?c_with_runs ?k_with_runs ?a_law_lengths ?l_law_lengths ?c_law_lengths ?k_law_lengths ?a_law ?l_law ?c_law ?k_law ?g_MOST_BEATS ?z_int ?z_len ?z_max ?z_min ?z_range ?z_set ?z_sorted ?z_sum ?z_zip
    (case a_law_start => k_is)
    (case l_law_start => k_is)
    (case c_law_start => k_is)
    (case k_law_start => k_is)
    (case a_law_drawn => k_is)
    (case l_law_drawn => k_is)
    (case c_law_drawn => k_is)
    (case k_law_drawn => k_is)
    (case a_law_share => k_is)
    (case l_law_share => k_is)
    (case c_law_share => k_is)
    (case k_law_share => k_is)
    (case a_law_even => k_is)
    (case l_law_even => k_is)
    (case c_law_even => k_is)
    (case k_law_even => k_is)
    (case a_need_beats => k_is)
    (case l_need_beats => k_is)
    (case c_need_beats => k_is)
    (case k_need_beats => k_is)
    (case a_need_share => k_is)
    (case l_need_share => k_is)
    (case c_need_share => k_is)
    (case k_need_share => k_is)
    (case a_even_frame => k_is)
    (case l_even_frame => k_is)
    (case c_even_frame => k_is)
    (case k_even_frame => k_is)
    (case a_even => k_is)
    (case l_even => k_is)
    (case c_even => k_is)
    (case k_even => k_is)
    (case a_need_frame => k_is)
    (case l_need_frame => k_is)
    (case c_need_frame => k_is)
    (case k_need_frame => k_is)
    (case a_law_frame => k_is)
    (case l_law_frame => k_is)
    (case c_law_frame => k_is)
    (case k_law_frame => k_is)
    (case a_changes_of => k_is)
    (case l_changes_of => k_is)
    (case c_changes_of => k_is)
    (case k_changes_of => k_is)
    (case a_changes => k_is)
    (case l_changes => k_is)
    (case c_changes => k_is)
    (case k_changes => k_is)
    (case a_runs => k_is)
    (case l_runs => k_is)
    (case c_runs => k_is)
    (case k_runs => k_is)
    (case a_parted => k_is)
    (case l_parted => k_is)
    (case c_parted => k_is)
    (case k_parted => k_is)
    (case a_is_room => k_is)
    (case l_is_room => k_is)
    (case c_is_room => k_is)
    (case k_is_room => k_is)
    (case a_with_runs => k_is)
    (case l_with_runs => k_is)
    (case c_with_runs => k_is)
    (case k_with_runs => k_is)
    (case a_law_lengths => k_is)
    (case l_law_lengths => k_is)
    (case c_law_lengths => k_is)
    (case k_law_lengths => k_is)
    (case a_law => k_is)
    (case l_law => k_is)
    (case c_law => k_is)
    (case k_law => k_is)
    (case g_MOST_BEATS => k_is)
    (case z_int => k_is)
    (case z_len => k_is)
    (case z_max => k_is)
    (case z_min => k_is)
    (case z_range => k_is)
    (case z_set => k_is)
    (case z_sorted => k_is)
    (case z_sum => k_is)
    (case z_zip => k_is)
