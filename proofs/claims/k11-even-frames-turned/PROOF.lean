import PyProof.Rows.All
import Wide.All
import OpenK.AllK
import Wide.FinOn
import HandS.ForMost
import HandS.Wide
import HandS.WideBits
import HandS.IsInst
import HandS.Codes
import HandS.Zip
import HandS.Walk
import KE.LtData
import PySem.Challenge.RW_pulseshare_k11_whole_even_frames_turned
set_option Elab.async false
set_option linter.all false
set_option maxRecDepth 100000
set_option maxHeartbeats 4000000
namespace My
open PySem L2
def top (i : Nat) : Stmt := PySem.Challenge.pw_pulseshare_k11_whole_even_frames_turned.main.body.getD i (.Pass ⟨0, 0, 0, 0⟩)
/-! ### calls in short -/
/-- a def of the text, where it stands, and how its arguments bind -/
structure FunG (K : PySem.W.Frag) (mg : Str → Option Value) (x : Str) (st : Stmt) (f : Addr) (fd : FuncData) (ps : List Str) : Prop where
  fn : Fun K x x st f fd
  mgf : mg x = some (.ref f)
  b : Binds K fd ps []
/-- a def that may be called by its name -/
structure Cl (P : Program) (w : World) (K : PySem.W.Frag) (mg : Str → Option Value) (base : Heap) (CX : CXT) (k : Nat) (x : Str) (sp : Sp) : Prop where
  ex : ∃ (f : Addr) (fd : FuncData) (ps : List Str), FnOk P w K mg base CX k f fd ps sp ∧ mg x = some (.ref f) ∧ PySem.W.keepIn K (.ref f) = true ∧ Binds K fd ps []
theorem FunG.cl {P : Program} {w : World} {K : PySem.W.Frag} {mg : Str → Option Value} {base : Heap} {CX : CXT} {k : Nat} {x : Str} {st : Stmt} {f : Addr} {fd : FuncData} {ps : List Str} {sp : Sp} (F : FunG K mg x st f fd ps) (h : FnOk P w K mg base CX k f fd ps sp) :
    Cl P w K mg base CX k x sp := ⟨f, fd, ps, h, F.mgf, F.fn.kp, F.b⟩
section
variable {X : Cx} {k j : Nat} {x : Str} {p pos : Pos} {e : Expr} {es : List Expr} {t : TA} {sp : Sp}
theorem pe_cl (c : Cl X.prog X.w X.K X.mg X.base CX0 k x sp) (hr : Room j X.A) (hk : k ≤ j) (hg : Gl X x) (ha : PA X (e :: es) t)
    (hdb : (x == ("__debug__" : Str)) = false := by decide) (he : starEach (e :: es) X.env = (false, eval e X.env) :: starEach es X.env := by rfl) (hpl : (backTo pos (starEach es X.env)).any (·.1) = false := by rfl) :
    PE X (.Call (.Name x p) (e :: es) [] pos) (tCall sp [] E0 t) := by
  obtain ⟨f, fd, ps, F, hm, kp, b⟩ := c.ex
  exact pe_call F (hr.mono hk) hg hm kp b .nil pass0 ha hdb he hpl
end
/-! ### words -/
theorem iteFe {c : Bool} {A B : Prop} (h : c = false) (k : B) : if c = true then A else B := by
  subst h; exact iteF k
theorem iteTe {c : Bool} {A B : Prop} (h : c = true) (k : A) : if c = true then A else B := by
  subst h; exact iteT k
theorem iteJoin {c : Bool} {A B R : Prop} (hA : c = true → R → A) (hB : c = false → R → B) (r : R) : if c = true then A else B := by
  cases c with
  | true => exact iteT (hA rfl r)
  | false => exact iteF (hB rfl r)
theorem neqF {x y : V} (h : x = y) : (!decide (x = y)) = false := by rw [decide_eq_true h]; rfl
/-! ### rules with the written part said (within a comprehension's block it can't be found by unification) -/
section
variable (K : PySem.W.Frag) {X : Cx}
theorem ixL (h : X.K = K := by rfl) : IxR X (rIxL K) := h ▸ ix_list
theorem ixT (h : X.K = K := by rfl) : IxR X (rIxT K) := h ▸ ix_tup
theorem ixQ (h : X.K = K := by rfl) : IxR X (rIx K) := h ▸ ix_seq
theorem slL (h : X.K = K := by rfl) : SlR X (rSlL K) := h ▸ sl_list
theorem opEqD (hu : X.A.units + 64 < cLine) (h : X.K = K := by rfl) : OpR X (compareOp .Eq) (rEqD K) := h ▸ op_eqD hu
theorem opNeD (hu : X.A.units + 64 < cLine) (h : X.K = K := by rfl) : OpR X (compareOp .NotEq) (rNeD K) := h ▸ op_neD hu
theorem opInQ (h : X.K = K := by rfl) : OpR X (compareOp .In) (rIn K false) := h ▸ op_in_seq
theorem opNotInQ (h : X.K = K := by rfl) : OpR X (compareOp .NotIn) (rIn K true) := h ▸ op_notIn_seq
theorem piListK {tg l : Expr} {tl : TE} (hl : PE X l tl) (h : X.K = K := by rfl) : PI X tg l (iList K tl) := h ▸ pi_list hl
theorem clLen (h : X.K = K := by rfl) : CallR X (.builtin "len") (fun xs H Q => ∃ p ys, xs = [.ref p] ∧ (SqL K H p ys ∨ SqT K H p ys) ∧ Q (.int ys.length) H) := h ▸ call_len_seq
theorem clList (h : X.K = K := by rfl) : CallR X (.type "list") (fun xs H Q => ∃ p ys, xs = [.ref p] ∧ (SqL K H p ys ∨ SqT K H p ys) ∧ ∀ l, H l = none → Q (.ref l) (upd H l (.lst ys))) := h ▸ call_list_of
theorem clSum (hc : X.calm = true) (h : X.K = K := by rfl) : CallR X (.builtin "sum") (rSum K) := h ▸ cr_sum hc
theorem clMax (hc : X.calm = true) (h : X.K = K := by rfl) : CallR X (.builtin "max") (rMax K) := h ▸ cr_max hc
theorem clMin (hc : X.calm = true) (h : X.K = K := by rfl) : CallR X (.builtin "min") (rMin K) := h ▸ cr_min hc
end
/-! ### the drawing state -/
/-- [script, cells begun, mixed, left of a cell] -/
def StO (a : Addr) (i m c : Int) : HO := .lst [.ref a, .int i, .int m, .int c]
structure Drw (i m c : Int) : Prop where
  i0 : 0 ≤ i
  m0 : 0 ≤ m
  m1 : m < 2147483647
  c0 : 0 ≤ c
/-- all but the state is kept -/
def Keep (st : Addr) (H H' : Hp) : Prop := ∀ b o, b ≠ st → H b = some o → H' b = some o
/-- the state at st is good: its script is the list at a of the ints ns -/
structure SOk (K : PySem.W.Frag) (a : Addr) (ns : List Int) (st : Addr) (H : Hp) : Prop where
  len : ns.length ≤ 63
  sq : ∀ H', Keep st H H' → SqL K H' a (ns.map V.int)
  at_ : ∃ i m c, Drw i m c ∧ H st = some (StO a i m c)
section
variable {K : PySem.W.Frag} {a st p : Addr} {ns : List Int} {H H1 H2 : Hp} {o u : HO} {xs : List V}
theorem Keep.refl (st : Addr) (H : Hp) : Keep st H H := fun _ _ _ h => h
theorem Keep.trans (h : Keep st H H1) (h' : Keep st H1 H2) : Keep st H H2 := fun b o hb e => h' b o hb (h b o hb e)
theorem Keep.new (h : Keep st H H1) (hp : H1 p = none) : Keep st H (upd H1 p o) := fun b u hb e => by
  rw [upd_ne (ne_of_none (h b u hb e) hp)]; exact h b u hb e
theorem Keep.mut (h : Keep st H H1) (hp : H p = none) : Keep st H (upd H1 p o) := fun b u hb e => by
  rw [upd_ne (ne_of_none e hp)]; exact h b u hb e
theorem Keep.atSt (h : Keep st H H1) : Keep st H (upd H1 st o) := fun b u hb e => by
  rw [upd_ne hb]; exact h b u hb e
theorem Keep.free (h : Keep st H H1) (hp : p ≠ st) (e : H1 p = none) : H p = none := by
  cases q : H p with
  | none => rfl
  | some o => rw [h p o hp q] at e; cases e
theorem _root_.L2.Same.keep (h : Same H H1) : Keep st H H1 := fun b u _ e => h b u e
theorem _root_.L2.Same.new (h : Same H H1) (hp : H1 p = none) : Same H (upd H1 p o) := fun b u e => by
  rw [upd_ne (ne_of_none (h b u e) hp)]; exact h b u e
theorem _root_.L2.Same.mut (h : Same H H1) (hp : H p = none) : Same H (upd H1 p o) := fun b u e => by
  rw [upd_ne (ne_of_none e hp)]; exact h b u e
theorem _root_.L2.Same.upd (hp : H p = none) : Same H (upd H p o) := (Same.refl H).new hp
/-- the base heap, in which the state does not stand, is kept -/
theorem _root_.L2.Same.keepAll (h : Same H H1) (hst : H st = none) (k : Keep st H1 H2) : Same H H2 := fun b u e => k b u (ne_of_none e hst) (h b u e)
theorem SOk.now (s : SOk K a ns st H) : SqL K H a (ns.map V.int) := s.sq H (Keep.refl st H)
/-- a script that stood in H stands where all but the state is kept -/
theorem SOk.keep (s : SOk K a ns st H) (k : Keep st H H1) {i m c : Int} (d : Drw i m c) (h : H1 st = some (StO a i m c)) : SOk K a ns st H1 := ⟨s.len, fun H' k' => s.sq H' (k.trans k'), i, m, c, d, h⟩
theorem SOk.same (s : SOk K a ns st H) (k : Same H H1) : SOk K a ns st H1 := by
  obtain ⟨i, m, c, d, h⟩ := s.at_
  exact s.keep k.keep d (k _ _ h)
theorem SOk.new (s : SOk K a ns st H) (hp : H p = none) : SOk K a ns st (L2.upd H p o) := s.same (Same.upd hp)
/-- the state's making -/
theorem SOk.make (hl : ns.length ≤ 63) (hq : SqL K H a (ns.map V.int)) (hst : H st = none) {i m c : Int} (d : Drw i m c) : SOk K a ns st (L2.upd H st (StO a i m c)) :=
  ⟨hl, fun _ k' => ((Same.upd hst).keepAll hst k').seq hq, i, m, c, d, upd_same⟩
/-- a list that did not stand in the base heap H0 is changed -/
theorem SOk.mut {H0 : Hp} (s : SOk K a ns st H) (hq : SqL K H0 a (ns.map V.int)) (hst : H0 st = none) (k : Same H0 H) (hp : H0 p = none) (hps : p ≠ st) : SOk K a ns st (L2.upd H p o) := by
  obtain ⟨i, m, c, d, h⟩ := s.at_
  exact ⟨s.len, fun _ k' => ((k.mut hp).keepAll hst k').seq hq, i, m, c, d, by rw [upd_ne hps.symm]; exact h⟩
theorem SOk.ne_of (s : SOk K a ns st H) (hp : H p = none) : p ≠ st := by
  obtain ⟨i, m, c, d, h⟩ := s.at_
  exact (ne_of_none h hp).symm
/-- .. that did not stand in a heap with a good state -/
theorem SOk.mutK {H0 : Hp} (s : SOk K a ns st H) (s0 : SOk K a ns st H0) (k : Keep st H0 H) (hp : H0 p = none) : SOk K a ns st (L2.upd H p o) := by
  obtain ⟨i, m, c, d, h⟩ := s.at_
  have hps : p ≠ st := s0.ne_of hp
  exact ⟨s.len, fun H' k' => s0.sq H' ((k.mut hp).trans k'), i, m, c, d, by rw [upd_ne hps.symm]; exact h⟩
end
/-! ### lists of ints -/
theorem getV {ns : List Int} {i : Nat} {y : V} (h : (ns.map V.int)[i]? = some y) : ∃ z, ns[i]? = some z ∧ y = V.int z := by
  rw [List.getElem?_map] at h
  cases e : ns[i]? with
  | none => rw [e] at h; cases h
  | some z => rw [e] at h; exact ⟨z, rfl, (Option.some.inj h).symm⟩
theorem atV {ns : List Int} {z : Int} {j : Nat} (e : z = (j : Int)) (h : j < ns.length) : atI (ns.map V.int) z = some (V.int (ns.getD j 0)) := by
  refine at_of e ?_
  rw [List.getElem?_map, List.getElem?_eq_getElem h]
  simp [List.getD, List.getElem?_eq_getElem h]
theorem small_of {n m : Nat} (h : n ≤ m) (hm : m < 16000000 := by decide) : n < sizeLine := by rw [sizeLine_eq]; omega
theorem small_le {n m : Nat} (h : n ≤ m) (hm : m < 16000000 := by decide) : n ≤ sizeLine := by rw [sizeLine_eq]; omega
theorem nat_pow {z : Int} {n : Nat} (h0 : 0 ≤ z) (h1 : z < 2 ^ n) : z.natAbs < 2 ^ n := by
  have e : ((2 ^ n : Nat) : Int) = (2 : Int) ^ n := by simp
  omega
theorem pick3 {r : Int} (h0 : 0 ≤ r) (h1 : r < 3) : r = 0 ∨ r = 1 ∨ r = 2 := by omega
theorem pick4 {r : Int} (h0 : 0 ≤ r) (h1 : r < 4) : r = 0 ∨ r = 1 ∨ r = 2 ∨ r = 3 := by omega
theorem pick5 {r : Int} (h0 : 0 ≤ r) (h1 : r < 5) : r = 0 ∨ r = 1 ∨ r = 2 ∨ r = 3 ∨ r = 4 := by omega
/-! ### even frames -/
/-- beat k of the even frame of a share by a turn -/
def evB (b p t : Int) (k : Nat) : Int := ((k : Int) + 1 + t) * p / b - ((k : Int) + t) * p / b
def evL (b p t : Int) : List Int := (List.range b.toNat).map (evB b p t)
theorem evL_len (b p t : Int) : (evL b p t).length = b.toNat := by simp [evL]
/-- what is left beside wholes ahead of beat k -/
def evR (b p t : Int) (k : Nat) : Int := ((k : Int) + t) * p % b
theorem evR_range {b : Int} (hb : 0 < b) (p t : Int) (k : Nat) : 0 ≤ evR b p t k ∧ evR b p t k < b := ⟨Int.emod_nonneg _ (by omega), Int.emod_lt_of_pos _ hb⟩
theorem ev_step (b p t : Int) (k : Nat) : ((k : Int) + 1 + t) * p = ((k : Int) + t) * p + p := by
  rw [show (k : Int) + 1 + t = ((k : Int) + t) + 1 by omega, Int.add_mul, Int.one_mul]
/-- the beat by what is left -/
theorem evB_eq {b p : Int} (hb : 0 < b) (h0 : 0 ≤ p) (h1 : p ≤ b) (t : Int) (k : Nat) : evB b p t k = if b ≤ evR b p t k + p then 1 else 0 := by
  unfold evB evR
  rw [ev_step b]
  generalize ((k : Int) + t) * p = z
  have e := Int.mul_ediv_add_emod z b
  have r0 := Int.emod_nonneg z (show b ≠ 0 by omega)
  have r1 := Int.emod_lt_of_pos z hb
  have q : z + p = (z % b + p) + z / b * b := by rw [Int.mul_comm]; omega
  rw [q, Int.add_mul_ediv_right _ _ (show b ≠ 0 by omega)]
  by_cases c : b ≤ z % b + p
  · rw [if_pos c]
    have : (z % b + p) / b = 1 := by
      have e1 : z % b + p = (z % b + p - b) + 1 * b := by omega
      rw [e1, Int.add_mul_ediv_right _ _ (show b ≠ 0 by omega), Int.ediv_eq_zero_of_lt (by omega) (by omega)]
      omega
    omega
  · rw [if_neg c, Int.ediv_eq_zero_of_lt (by omega) (by omega)]
    omega
theorem evR_next {b p : Int} (hb : 0 < b) (h0 : 0 ≤ p) (h1 : p ≤ b) (t : Int) (k : Nat) : evR b p t (k + 1) = evR b p t k + p - b * evB b p t k := by
  rw [evB_eq hb h0 h1]
  unfold evR
  have e0 : (((k + 1 : Nat) : Int) + t) * p = ((k : Int) + t) * p + p := by
    have e1 : (((k + 1 : Nat) : Int) + t) = (k : Int) + 1 + t := by omega
    rw [e1, ev_step b]
  rw [e0]
  generalize ((k : Int) + t) * p = z
  have e := Int.mul_ediv_add_emod z b
  have r0 := Int.emod_nonneg z (show b ≠ 0 by omega)
  have r1 := Int.emod_lt_of_pos z hb
  have q : z + p = (z % b + p) + z / b * b := by rw [Int.mul_comm]; omega
  rw [q, Int.add_mul_emod_self_right]
  by_cases c : b ≤ z % b + p
  · rw [if_pos c]
    have e1 : z % b + p = (z % b + p - b) + 1 * b := by omega
    rw [e1, Int.add_mul_emod_self_right]
    by_cases c2 : z % b + p - b < b
    · rw [Int.emod_eq_of_lt (by omega) c2]; omega
    · omega
  · rw [if_neg c, Int.emod_eq_of_lt (by omega) (by omega)]; omega
theorem evB_01 {b p : Int} (hb : 0 < b) (h0 : 0 ≤ p) (h1 : p ≤ b) (t : Int) (k : Nat) : evB b p t k = 0 ∨ evB b p t k = 1 := by
  rw [evB_eq hb h0 h1]; split <;> simp
theorem evL_get {b p t : Int} {k : Nat} (h : k < b.toNat) : (evL b p t)[k]? = some (evB b p t k) := by
  unfold evL; simp [h]
theorem evL_take_sum (b p t : Int) : ∀ n : Nat, (((List.range n).map (evB b p t)).sum : Int) = ((n : Int) + t) * p / b - t * p / b
  | 0 => by simp
  | n + 1 => by
    rw [List.range_succ, List.map_append, List.sum_append, evL_take_sum b p t n]
    simp only [List.map_cons, List.map_nil, List.sum_cons, List.sum_nil, evB]
    have : (((n + 1 : Nat) : Int) + t) = (n : Int) + 1 + t := by omega
    rw [this]; omega
theorem evL_sum {b : Int} (hb : 0 < b) (p t : Int) : (evL b p t).sum = p := by
  unfold evL
  rw [evL_take_sum, Int.toNat_of_nonneg (by omega), Int.add_mul, Int.add_comm, Int.mul_comm b p, Int.add_mul_ediv_right _ _ (show b ≠ 0 by omega)]
  omega
/-! ### windows of frames -/
/-- beat k of a frame that goes round -/
def cyc (fs : List Int) (k : Nat) : Int := fs.getD (k % fs.length) 0
/-- the first k beats together, going round -/
def psum (fs : List Int) : Nat → Int
  | 0 => 0
  | k + 1 => psum fs k + cyc fs k
/-- how many are on in the window of w beats from k on -/
def win (fs : List Int) (w k : Nat) : Int := psum fs (k + w) - psum fs k
theorem cyc_add (fs : List Int) (k : Nat) : cyc fs (k + fs.length) = cyc fs k := by simp [cyc]
theorem cyc_lt {fs : List Int} {k : Nat} (h : k < fs.length) : cyc fs k = fs.getD k 0 := by simp [cyc, Nat.mod_eq_of_lt h]
theorem psum_take (fs : List Int) : ∀ k, k ≤ fs.length → psum fs k = (fs.take k).sum
  | 0, _ => by simp [psum]
  | k + 1, h => by
    have hk : k < fs.length := by omega
    rw [psum, psum_take fs k (by omega), cyc_lt hk, List.take_succ_eq_append_getElem hk, List.sum_append]
    simp [List.getD, List.getElem?_eq_getElem hk]
theorem psum_len (fs : List Int) : psum fs fs.length = fs.sum := by rw [psum_take fs _ (Nat.le_refl _), List.take_length]
theorem psum_add_len (fs : List Int) : ∀ k, psum fs (k + fs.length) = psum fs k + fs.sum
  | 0 => by rw [Nat.zero_add, psum_len]; simp [psum]
  | k + 1 => by
    rw [show k + 1 + fs.length = (k + fs.length) + 1 by omega, psum, psum_add_len fs k, cyc_add, psum]; omega
theorem psum_mul (fs : List Int) (r : Nat) : ∀ q : Nat, psum fs (q * fs.length + r) = fs.sum * q + psum fs r
  | 0 => by simp
  | q + 1 => by
    rw [show (q + 1) * fs.length + r = (q * fs.length + r) + fs.length by rw [Nat.add_mul]; omega, psum_add_len, psum_mul fs r q, Int.natCast_add, Int.mul_add]; simp; omega
theorem win_zero (fs : List Int) (w : Nat) : win fs w 0 = psum fs w := by simp [win, psum]
theorem win_next (fs : List Int) (w k : Nat) : win fs w (k + 1) = win fs w k - cyc fs k + cyc fs (k + w) := by
  unfold win
  rw [show k + 1 + w = (k + w) + 1 by omega, psum, psum]; omega
theorem win_first {fs : List Int} (w : Nat) : fs.sum * ((w / fs.length : Nat) : Int) + (fs.take (w % fs.length)).sum = win fs w 0 := by
  rw [win_zero]
  by_cases hn : fs.length = 0
  · have : fs = [] := List.eq_nil_of_length_eq_zero hn
    subst this
    have z : ∀ k, psum [] k = 0 := fun k => by
      induction k with
      | zero => rfl
      | succ k ih => rw [psum, ih]; simp [cyc]
    simp [z]
  · have e : w = (w / fs.length) * fs.length + w % fs.length := by rw [Nat.mul_comm]; exact (Nat.div_add_mod w fs.length).symm
    have hr : w % fs.length ≤ fs.length := Nat.le_of_lt (Nat.mod_lt _ (by omega))
    have h1 := psum_mul fs (w % fs.length) (w / fs.length)
    rw [← e] at h1
    rw [h1, psum_take fs _ hr]
theorem win_round (fs : List Int) (w k : Nat) : win fs w (k + fs.length) = win fs w k := by
  unfold win
  rw [show k + fs.length + w = (k + w) + fs.length by omega, psum_add_len, psum_add_len]; omega
theorem win_mod {fs : List Int} (w : Nat) : ∀ k, win fs w k = win fs w (k % fs.length) := by
  intro k
  have e := Nat.div_add_mod k fs.length
  have h : ∀ q r, win fs w (q * fs.length + r) = win fs w r := fun q r => by
    induction q with
    | zero => simp
    | succ q ih => rw [show (q + 1) * fs.length + r = (q * fs.length + r) + fs.length by rw [Nat.add_mul]; omega, win_round, ih]
  conv => lhs; rw [← e, Nat.mul_comm]
  exact h _ _
/-- all windows of a width -/
def wins (fs : List Int) (w : Nat) : List Int := (List.range fs.length).map (win fs w)
theorem wins_len (fs : List Int) (w : Nat) : (wins fs w).length = fs.length := by simp [wins]
theorem mem_wins {fs : List Int} {w : Nat} {x : Int} : x ∈ wins fs w ↔ ∃ k, k < fs.length ∧ win fs w k = x := by simp [wins]
theorem win_mem {fs : List Int} (h : 0 < fs.length) (w k : Nat) : win fs w k ∈ wins fs w := by
  rw [win_mod]
  exact mem_wins.mpr ⟨_, Nat.mod_lt _ h, rfl⟩
/-! sums over a round -/
def tsum (f : Nat → Int) (n : Nat) : Int := ((List.range n).map f).sum
theorem tsum_zero (f : Nat → Int) : tsum f 0 = 0 := rfl
theorem tsum_succ (f : Nat → Int) (n : Nat) : tsum f (n + 1) = tsum f n + f n := by
  unfold tsum; rw [List.range_succ, List.map_append, List.sum_append]; simp
theorem tsum_add (f g : Nat → Int) : ∀ n, tsum (fun k => f k + g k) n = tsum f n + tsum g n
  | 0 => rfl
  | n + 1 => by rw [tsum_succ, tsum_succ, tsum_succ, tsum_add f g n]; omega
theorem tsum_le {f g : Nat → Int} : ∀ n, (∀ k, k < n → f k ≤ g k) → tsum f n ≤ tsum g n
  | 0, _ => Int.le_refl _
  | n + 1, h => by
    rw [tsum_succ, tsum_succ]
    have := tsum_le n fun k hk => h k (by omega)
    have := h n (by omega)
    omega
theorem tsum_lt {f g : Nat → Int} : ∀ n, (∀ k, k < n → f k ≤ g k) → (∃ k, k < n ∧ f k < g k) → tsum f n < tsum g n
  | 0, _, ⟨k, hk, _⟩ => by omega
  | n + 1, h, ⟨k, hk, hl⟩ => by
    rw [tsum_succ, tsum_succ]
    have h1 := h n (by omega)
    by_cases e : k = n
    · subst e
      have := tsum_le k fun j hj => h j (by omega)
      omega
    · have := tsum_lt n (fun j hj => h j (by omega)) ⟨k, by omega, hl⟩
      omega
theorem tsum_const (c : Int) : ∀ n : Nat, tsum (fun _ => c) n = n * c
  | 0 => by simp [tsum_zero]
  | n + 1 => by rw [tsum_succ, tsum_const c n, Int.natCast_add, Int.add_mul]; simp
theorem tsum_congr {f g : Nat → Int} (n : Nat) (h : ∀ k, k < n → f k = g k) : tsum f n = tsum g n := by
  have h1 := tsum_le n fun k hk => Int.le_of_eq (h k hk)
  have h2 := tsum_le n fun k hk => Int.le_of_eq (h k hk).symm
  omega
theorem psum_tsum (fs : List Int) : ∀ k, psum fs k = tsum (cyc fs) k
  | 0 => rfl
  | k + 1 => by rw [psum, tsum_succ, psum_tsum fs k]
theorem tsum_shift (fs : List Int) : ∀ d, tsum (fun k => cyc fs (k + d)) fs.length = fs.sum := by
  intro d
  have h : ∀ n, tsum (fun k => cyc fs (k + d)) n = psum fs (n + d) - psum fs d := fun n => by
    induction n with
    | zero => simp [tsum_zero]
    | succ n ih => rw [tsum_succ, ih, show n + 1 + d = (n + d) + 1 by omega, psum]; omega
  rw [h, Nat.add_comm, psum_add_len]; omega
/-- all windows of a width together -/
theorem wins_sum (fs : List Int) : ∀ w : Nat, tsum (win fs w) fs.length = w * fs.sum
  | 0 => by
    have h : tsum (win fs 0) fs.length = tsum (fun _ => (0 : Int)) fs.length := tsum_congr _ fun k _ => by simp [win]
    rw [h, tsum_const]; simp
  | w + 1 => by
    have h : tsum (win fs (w + 1)) fs.length = tsum (fun k => win fs w k + cyc fs (k + w)) fs.length := tsum_congr _ fun k _ => by
      unfold win
      rw [show k + (w + 1) = (k + w) + 1 by omega, psum]; omega
    rw [h, tsum_add, wins_sum fs w, tsum_shift, Int.natCast_add, Int.add_mul]; simp
/-! ### spread -/
/-- windows of each width up to the beats are at most one apart -/
def Spread (fs : List Int) : Prop := ∀ w, 1 ≤ w → w ≤ fs.length → ∀ i j, i < fs.length → j < fs.length → win fs w i - win fs w j ≤ 1
theorem Spread.near {fs : List Int} (h : Spread fs) (h0 : 0 < fs.length) (w i : Nat) (hw : w ≤ fs.length) : (fs.length : Int) * win fs w i - w * fs.sum < fs.length ∧ -(fs.length : Int) < (fs.length : Int) * win fs w i - w * fs.sum := by
  rcases Nat.eq_zero_or_pos w with e | hw0
  · subst e
    have : win fs 0 i = 0 := by simp [win]
    rw [this]; simp; omega
  rw [win_mod]
  have hi : i % fs.length < fs.length := Nat.mod_lt _ h0
  generalize i % fs.length = k at hi
  have s := wins_sum fs w
  have up : tsum (win fs w) fs.length < tsum (fun _ => win fs w k + 1) fs.length := tsum_lt _ (fun j hj => by have := h w hw0 hw j k hj hi; omega) ⟨k, hi, by omega⟩
  have dn : tsum (fun _ => win fs w k - 1) fs.length < tsum (win fs w) fs.length := tsum_lt _ (fun j hj => by have := h w hw0 hw k j hi hj; omega) ⟨k, hi, by omega⟩
  rw [tsum_const] at up dn
  rw [s] at up dn
  rw [Int.mul_add] at up
  rw [Int.mul_sub] at dn
  constructor <;> omega
/-- the least, the greatest of finitely many -/
theorem exists_max (f : Nat → Int) : ∀ n, 0 < n → ∃ k, k < n ∧ ∀ j, j < n → f j ≤ f k
  | 1, _ => ⟨0, by omega, fun j hj => by have : j = 0 := by omega
                                         subst this; exact Int.le_refl _⟩
  | n + 2, _ => by
    obtain ⟨k, hk, h⟩ := exists_max f (n + 1) (by omega)
    by_cases c : f k ≤ f (n + 1)
    · refine ⟨n + 1, by omega, fun j hj => ?_⟩
      by_cases e : j = n + 1
      · subst e; exact Int.le_refl _
      · exact Int.le_trans (h j (by omega)) c
    · refine ⟨k, by omega, fun j hj => ?_⟩
      by_cases e : j = n + 1
      · subst e; omega
      · exact h j (by omega)
/-- a spread frame is an even one -/
theorem Spread.even {fs : List Int} (h : Spread fs) (h0 : 0 < fs.length) : ∃ t : Nat, t < fs.length ∧ evL (fs.length : Int) fs.sum (t : Int) = fs := by
  obtain ⟨k0, hk0, hmax⟩ := exists_max (fun k => (fs.length : Int) * psum fs k - k * fs.sum) fs.length h0
  -- the greatest lies less than the beats above any
  have key : ∀ k, (fs.length : Int) * psum fs k - k * fs.sum ≤ (fs.length : Int) * psum fs k0 - k0 * fs.sum ∧ (fs.length : Int) * psum fs k0 - k0 * fs.sum < (fs.length : Int) * psum fs k - k * fs.sum + fs.length := by
    have base : ∀ k, k < fs.length → (fs.length : Int) * psum fs k - k * fs.sum ≤ (fs.length : Int) * psum fs k0 - k0 * fs.sum ∧ (fs.length : Int) * psum fs k0 - k0 * fs.sum < (fs.length : Int) * psum fs k - k * fs.sum + fs.length := by
      intro k hk
      refine ⟨hmax k hk, ?_⟩
      by_cases c : k ≤ k0
      · obtain ⟨d, rfl⟩ : ∃ d, k0 = k + d := ⟨k0 - k, by omega⟩
        have n := (h.near h0 d k (by omega)).1
        unfold win at n
        rw [Int.mul_sub] at n
        rw [Int.natCast_add, Int.add_mul]
        omega
      · obtain ⟨d, rfl⟩ : ∃ d, k = k0 + d := ⟨k - k0, by omega⟩
        have n := (h.near h0 d k0 (by omega)).2
        unfold win at n
        rw [Int.mul_sub] at n
        rw [Int.natCast_add, Int.add_mul]
        omega
    intro k
    have e := Nat.div_add_mod k fs.length
    have hk := base (k % fs.length) (Nat.mod_lt _ h0)
    have h1 := psum_mul fs (k % fs.length) (k / fs.length)
    rw [Nat.mul_comm, ] at e
    rw [e] at h1
    have e2 : (k : Int) = (k / fs.length : Nat) * (fs.length : Int) + (k % fs.length : Nat) := by
      have := congrArg (fun z : Nat => (z : Int)) e
      simp only [Int.natCast_add, Int.natCast_mul] at this
      omega
    have e3 : (fs.length : Int) * psum fs k - k * fs.sum = (fs.length : Int) * psum fs (k % fs.length) - (k % fs.length : Nat) * fs.sum := by
      rw [h1]
      have : (k : Int) * fs.sum = (k / fs.length : Nat) * (fs.length : Int) * fs.sum + (k % fs.length : Nat) * fs.sum := by
        rw [← Int.add_mul]; congr 1
      rw [this, Int.mul_add, show (fs.length : Int) * (fs.sum * ((k / fs.length : Nat) : Int)) = ((k / fs.length : Nat) : Int) * (fs.length : Int) * fs.sum by
        rw [Int.mul_comm fs.sum, ← Int.mul_assoc, Int.mul_comm (fs.length : Int)]]
      omega
    rw [e3]; exact hk
  -- so the sums are floors
  have floor : ∀ k : Nat, psum fs k = ((k : Int) - k0) * fs.sum / fs.length + psum fs k0 := by
    intro k
    obtain ⟨a, b⟩ := key k
    have hn : (0 : Int) < fs.length := by omega
    have e : ((k : Int) - k0) * fs.sum = (fs.length : Int) * (psum fs k - psum fs k0) + (((fs.length : Int) * psum fs k0 - k0 * fs.sum) - ((fs.length : Int) * psum fs k - k * fs.sum)) := by
      rw [Int.sub_mul, Int.mul_sub]; omega
    rw [e, Int.add_comm ((fs.length : Int) * _), Int.add_mul_ediv_left _ _ (by omega), Int.ediv_eq_zero_of_lt (by omega) (by omega)]
    omega
  refine ⟨(fs.length - k0) % fs.length, Nat.mod_lt _ h0, ?_⟩
  -- the turn: less k0, going round
  have turn : ∀ k : Nat, evB (fs.length : Int) fs.sum (((fs.length - k0) % fs.length : Nat) : Int) k = evB (fs.length : Int) fs.sum (-(k0 : Int)) k := by
    intro k
    by_cases c : k0 = 0
    · subst c; simp
    · rw [Nat.mod_eq_of_lt (by omega)]
      have hn : (fs.length : Int) ≠ 0 := by omega
      unfold evB
      have e1 : ((k : Int) + 1 + ((fs.length - k0 : Nat) : Int)) * fs.sum = ((k : Int) + 1 + -(k0 : Int)) * fs.sum + fs.length * fs.sum := by
        rw [← Int.add_mul]; congr 1; omega
      have e2 : ((k : Int) + ((fs.length - k0 : Nat) : Int)) * fs.sum = ((k : Int) + -(k0 : Int)) * fs.sum + fs.length * fs.sum := by
        rw [← Int.add_mul]; congr 1; omega
      rw [e1, e2, Int.add_mul_ediv_left _ _ hn, Int.add_mul_ediv_left _ _ hn]
      omega
  apply List.ext_getElem
  · rw [evL_len]; simp
  · intro k h1 h2
    have hk : k < ((fs.length : Nat) : Int).toNat := by simpa [evL_len] using h1
    have g : (evL (fs.length : Int) fs.sum (((fs.length - k0) % fs.length : Nat) : Int))[k]? = some (evB (fs.length : Int) fs.sum (((fs.length - k0) % fs.length : Nat) : Int) k) := evL_get hk
    rw [List.getElem?_eq_getElem h1] at g
    rw [Option.some.inj g, turn]
    unfold evB
    have f1 := floor (k + 1)
    have f0 := floor k
    rw [psum, cyc_lt h2] at f1
    have e1 : ((k + 1 : Nat) : Int) - k0 = (k : Int) + 1 + -(k0 : Int) := by omega
    have e0 : (k : Int) - k0 = (k : Int) + -(k0 : Int) := by omega
    rw [e1] at f1
    rw [e0] at f0
    have : fs.getD k 0 = fs[k] := by simp [List.getD, List.getElem?_eq_getElem h2]
    omega
/-! ### windows of even frames -/
theorem evL_cyc {b p t : Int} (hb : 0 < b) (k : Nat) : cyc (evL b p t) k = evB b p t k := by
  have hl : (evL b p t).length = b.toNat := evL_len b p t
  have h0 : 0 < (evL b p t).length := by omega
  unfold cyc
  have g := evL_get (b := b) (p := p) (t := t) (k := k % (evL b p t).length) (by have := Nat.mod_lt k h0; omega)
  rw [List.getD, g, Option.getD_some]
  have e := Nat.div_add_mod k (evL b p t).length
  generalize k % (evL b p t).length = r at e
  generalize k / (evL b p t).length = q at e
  subst e
  unfold evB
  have e1 : (((evL b p t).length * q + r : Nat) : Int) = b * (q : Int) + (r : Int) := by rw [hl]; simp [Int.toNat_of_nonneg (Int.le_of_lt hb)]
  have e2 : ((b * (q : Int) + (r : Int)) + 1 + t) * p = ((r : Int) + 1 + t) * p + b * ((q : Int) * p) := by
    rw [show (b * (q : Int) + (r : Int)) + 1 + t = ((r : Int) + 1 + t) + b * (q : Int) by omega, Int.add_mul, Int.mul_assoc]
  have e3 : ((b * (q : Int) + (r : Int)) + t) * p = ((r : Int) + t) * p + b * ((q : Int) * p) := by
    rw [show (b * (q : Int) + (r : Int)) + t = ((r : Int) + t) + b * (q : Int) by omega, Int.add_mul, Int.mul_assoc]
  rw [e1, e2, e3, Int.add_mul_ediv_left _ _ (show b ≠ 0 by omega), Int.add_mul_ediv_left _ _ (show b ≠ 0 by omega)]
  omega
theorem evL_psum {b p t : Int} (hb : 0 < b) : ∀ k : Nat, psum (evL b p t) k = ((k : Int) + t) * p / b - t * p / b
  | 0 => by simp [psum]
  | k + 1 => by
    rw [psum, evL_psum hb k, evL_cyc hb, evB]
    have e1 : (((k + 1 : Nat) : Int) + t) = (k : Int) + 1 + t := by omega
    rw [e1]; omega
theorem evL_win {b p t : Int} (hb : 0 < b) (w k : Nat) : win (evL b p t) w k = (((k : Int) + t) * p + (w : Int) * p) / b - ((k : Int) + t) * p / b := by
  unfold win
  rw [evL_psum hb, evL_psum hb]
  have e : (((k + w : Nat) : Int) + t) * p = ((k : Int) + t) * p + (w : Int) * p := by
    rw [← Int.add_mul]; congr 1; omega
  rw [e]; omega
theorem div_part {x y b : Int} (hb : 0 < b) : y / b ≤ (x + y) / b - x / b ∧ (x + y) / b - x / b ≤ y / b + 1 := by
  have ex := Int.mul_ediv_add_emod x b
  have ey := Int.mul_ediv_add_emod y b
  have rx0 := Int.emod_nonneg x (show b ≠ 0 by omega)
  have rx1 := Int.emod_lt_of_pos x hb
  have ry0 := Int.emod_nonneg y (show b ≠ 0 by omega)
  have ry1 := Int.emod_lt_of_pos y hb
  have q : x + y = (x % b + y % b) + b * (x / b + y / b) := by rw [Int.mul_add]; omega
  rw [q, Int.add_mul_ediv_left _ _ (show b ≠ 0 by omega)]
  by_cases c : x % b + y % b < b
  · rw [Int.ediv_eq_zero_of_lt (by omega) c]; omega
  · have : (x % b + y % b) / b = 1 := by
      have e1 : x % b + y % b = (x % b + y % b - b) + b * 1 := by omega
      rw [e1, Int.add_mul_ediv_left _ _ (show b ≠ 0 by omega), Int.ediv_eq_zero_of_lt (by omega) (by omega)]; omega
    omega
/-- the windows of an even frame have the width's part, down to a whole one, or one more -/
theorem evL_part {b p t : Int} (hb : 0 < b) (w k : Nat) : (w : Int) * p / b ≤ win (evL b p t) w k ∧ win (evL b p t) w k ≤ (w : Int) * p / b + 1 := by
  rw [evL_win hb]; exact div_part hb
theorem evL_spread {b p t : Int} (hb : 0 < b) : Spread (evL b p t) := fun w _ _ i j _ _ => by
  have h1 := evL_part (p := p) (t := t) hb w i
  have h2 := evL_part (p := p) (t := t) hb w j
  omega
/-- all as many just where beats go into the width times the pulses -/
theorem evL_exact {b p t : Int} (hb : 0 < b) (w : Nat) : (∀ i j, i < b.toNat → j < b.toNat → win (evL b p t) w i = win (evL b p t) w j) ↔ (w : Int) * p % b = 0 := by
  have hl := evL_len b p t
  constructor
  · intro h
    have s := wins_sum (evL b p t) w
    rw [evL_sum hb, hl] at s
    have c : tsum (win (evL b p t) w) b.toNat = tsum (fun _ => win (evL b p t) w 0) b.toNat := tsum_congr _ fun k hk => h k 0 hk (by omega)
    rw [c, tsum_const, Int.toNat_of_nonneg (by omega)] at s
    rw [← s]
    exact Int.mul_emod_right b _
  · intro h i j _ _
    have e := Int.mul_ediv_add_emod ((w : Int) * p) b
    rw [h] at e
    rw [evL_win hb, evL_win hb]
    have e2 : (w : Int) * p = b * ((w : Int) * p / b) := by omega
    rw [e2, Int.add_mul_ediv_left _ _ (show b ≠ 0 by omega), Int.add_mul_ediv_left _ _ (show b ≠ 0 by omega)]
    omega
/-! ### windows cut out of a frame laid several times -/
def around (fs : List Int) (m : Nat) : List Int := (List.replicate m fs).flatten
theorem around_len (fs : List Int) (m : Nat) : (around fs m).length = m * fs.length := by simp [around]
theorem around_succ (fs : List Int) (m : Nat) : around fs (m + 1) = fs ++ around fs m := by simp [around, List.replicate_succ]
theorem around_take (fs : List Int) : ∀ (m k : Nat), k ≤ m * fs.length → ((around fs m).take k).sum = psum fs k
  | 0, k, h => by
    have : k = 0 := by omega
    subst this; simp [psum]
  | m + 1, k, h => by
    rw [around_succ]
    by_cases c : k ≤ fs.length
    · rw [List.take_append_of_le_length c, psum_take fs k c]
    · obtain ⟨d, rfl⟩ : ∃ d, k = fs.length + d := ⟨k - fs.length, by omega⟩
      rw [List.take_append, List.sum_append, List.take_of_length_le (by omega), show fs.length + d - fs.length = d by omega, around_take fs m d (by rw [Nat.add_mul] at h; omega), Nat.add_comm fs.length d, psum_add_len]
      omega
theorem drop_take_sum (l : List Int) (k w : Nat) : ((l.drop k).take w).sum = (l.take (k + w)).sum - (l.take k).sum := by
  rw [List.take_add, List.sum_append]; omega
theorem around_win {fs : List Int} {m k w : Nat} (h : k + w ≤ m * fs.length) : (((around fs m).drop k).take w).sum = win fs w k := by
  rw [drop_take_sum, around_take fs m _ h, around_take fs m k (by omega)]; rfl
/-! ### turns of a frame -/
def TS (fs : List Int) (n : Nat) : List Nat := (List.range n).filter fun j => decide (evL (fs.length : Int) fs.sum (j : Int) = fs)
theorem TS_succ (fs : List Int) (n : Nat) : TS fs (n + 1) = if evL (fs.length : Int) fs.sum (n : Int) = fs then TS fs n ++ [n] else TS fs n := by
  unfold TS
  rw [List.range_succ, List.filter_append]
  by_cases c : evL (fs.length : Int) fs.sum (n : Int) = fs
  · rw [if_pos c]; simp [c]
  · rw [if_neg c]; simp [c]
theorem TS_none {fs : List Int} : ∀ {n : Nat}, (∀ j, j < n → evL (fs.length : Int) fs.sum (j : Int) ≠ fs) → TS fs n = []
  | 0, _ => rfl
  | n + 1, h => by rw [TS_succ, if_neg (h n (by omega)), TS_none fun j hj => h j (by omega)]
theorem TS_first {fs : List Int} {t : Nat} (ht : evL (fs.length : Int) fs.sum (t : Int) = fs) (hn : ∀ j, j < t → evL (fs.length : Int) fs.sum (j : Int) ≠ fs) : ∀ n, t < n → ∃ r, TS fs n = t :: r
  | 0, h => absurd h (Nat.not_lt_zero _)
  | n + 1, h => by
    rw [TS_succ]
    by_cases e : t = n
    · subst e
      rw [if_pos ht, TS_none hn]
      exact ⟨[], rfl⟩
    · obtain ⟨r, hr⟩ := TS_first ht hn n (by omega)
      rw [hr]
      split
      · exact ⟨_, rfl⟩
      · exact ⟨_, rfl⟩
theorem TS_len (fs : List Int) (n : Nat) : (TS fs n).length ≤ n := by
  unfold TS
  have := List.length_filter_le (fun j : Nat => decide (evL (fs.length : Int) fs.sum (j : Int) = fs)) (List.range n)
  rw [List.length_range] at this
  exact this
theorem TS_ne {fs : List Int} {n : Nat} : TS fs n ≠ [] ↔ ∃ t, t < n ∧ evL (fs.length : Int) fs.sum (t : Int) = fs := by
  constructor
  · intro h
    obtain ⟨t, ht⟩ := List.exists_mem_of_ne_nil _ h
    unfold TS at ht
    obtain ⟨h1, h2⟩ := List.mem_filter.mp ht
    exact ⟨t, List.mem_range.mp h1, of_decide_eq_true h2⟩
  · rintro ⟨t, ht, e⟩ h
    have : t ∈ TS fs n := List.mem_filter.mpr ⟨List.mem_range.mpr ht, decide_eq_true e⟩
    rw [h] at this
    cases this
/-- a frame is spread just where some turn tells it -/
theorem spread_iff {fs : List Int} (h0 : 0 < fs.length) : Spread fs ↔ TS fs fs.length ≠ [] := by
  rw [TS_ne]
  constructor
  · exact fun h => h.even h0
  · rintro ⟨t, _, e⟩
    rw [← e]
    exact evL_spread (by omega)
def SpreadTo (fs : List Int) (n : Nat) : Prop := ∀ w, 1 ≤ w → w ≤ n → ∀ i j, i < fs.length → j < fs.length → win fs w i - win fs w j ≤ 1
theorem SpreadTo.zero (fs : List Int) : SpreadTo fs 0 := fun w h1 h2 => by omega
theorem spreadTo_succ {fs : List Int} {n : Nat} {lo hi : Int} (l1 : lo ∈ wins fs (n + 1)) (l2 : ∀ y, y ∈ wins fs (n + 1) → lo ≤ y) (h1 : hi ∈ wins fs (n + 1)) (h2 : ∀ y, y ∈ wins fs (n + 1) → y ≤ hi) : SpreadTo fs (n + 1) ↔ SpreadTo fs n ∧ hi - lo < 2 := by
  constructor
  · intro h
    refine ⟨fun w a b => h w a (by omega), ?_⟩
    obtain ⟨i, hi', rfl⟩ := mem_wins.mp l1
    obtain ⟨j, hj, rfl⟩ := mem_wins.mp h1
    have := h (n + 1) (by omega) (Nat.le_refl _) j i hj hi'
    omega
  · rintro ⟨h, d⟩ w a b i j hi' hj
    by_cases e : w = n + 1
    · subst e
      have := l2 _ (mem_wins.mpr ⟨j, hj, rfl⟩)
      have := h2 _ (mem_wins.mpr ⟨i, hi', rfl⟩)
      omega
    · exact h w a (by omega) i j hi' hj
/-! ### data of ints -/
def dI (ns : List Int) : PyData := .list (ns.map PyData.int)
theorem dI_layA : ∀ ns : List Int, PyData.canLayAll0 (ns.map PyData.int) = true
  | [] => by simp [PyData.canLayAll0]
  | z :: zs => by simp [PyData.canLayAll0, PyData.canLay0, dI_layA zs]
theorem dI_depthA : ∀ ns : List Int, PyData.depthAll (ns.map PyData.int) ≤ 1
  | [] => by simp [PyData.depthAll]
  | z :: zs => by
    have h1 := dI_depthA zs
    simp only [List.map_cons, PyData.depthAll, PyData.depth]
    omega
theorem dI_shaped (ns : List Int) : SeqAt.shaped (dI ns) = true := by
  have h1 := dI_depthA ns
  have h2 : PyData.depth (dI ns) ≤ 64 := by
    unfold dI
    simp only [PyData.depth]
    omega
  show (PyData.canLay0 (dI ns) && decide (PyData.depth (dI ns) ≤ 64)) = true
  rw [Bool.and_eq_true]
  exact ⟨by unfold dI; simp only [PyData.canLay0]; exact dI_layA ns, decide_eq_true h2⟩
theorem dI_eqvA : ∀ ns ms : List Int, PyData.eqvAll (ns.map PyData.int) (ms.map PyData.int) = decide (ns = ms)
  | [], [] => by simp [PyData.eqvAll]
  | [], _ :: _ => by simp [PyData.eqvAll]
  | _ :: _, [] => by simp [PyData.eqvAll]
  | n :: ns, m :: ms => by
    rw [List.map_cons, List.map_cons, PyData.eqvAll, dI_eqvA ns ms]
    by_cases e : n = m
    · subst e; simp [PyData.eqv]
    · simp [PyData.eqv, e]
theorem dI_eqv (ns ms : List Int) : PyData.eqv (dI ns) (dI ms) = decide (ns = ms) := by
  unfold dI
  simp only [PyData.eqv]
  exact dI_eqvA ns ms
theorem dpA_ints {K : PySem.W.Frag} {H : Hp} : ∀ ns : List Int, DpAll K H (ns.map V.int) (ns.map PyData.int)
  | [] => .nil
  | n :: ns => .cons (.int n) (dpA_ints ns)
theorem dp_ints {K : PySem.W.Frag} {H : Hp} {a : Addr} {ns : List Int} (h : SqL K H a (ns.map V.int)) : Dp K H (.ref a) (dI ns) := .lst h (dpA_ints ns)
theorem dp_nil {K : PySem.W.Frag} {H : Hp} {a : Addr} (h : SqL K H a []) : Dp K H (.ref a) (dI []) := dp_ints (ns := []) h
/-! ### cuts of lists of ints -/
theorem cut_to {ns : List Int} {k : Nat} (hk : k ≤ ns.length) : cutV (ns.map V.int) none (some (k : Int)) = (ns.take k).map V.int := by
  unfold cutV
  rw [HT.sIx_none, HT.sIx_nat, List.length_map, Nat.min_eq_left hk, List.drop_zero, Nat.sub_zero, List.map_take]
theorem cut_from {ns : List Int} {k : Nat} (hk : k ≤ ns.length) : cutV (ns.map V.int) (some (k : Int)) none = (ns.drop k).map V.int := by
  unfold cutV
  rw [HT.sIx_none, HT.sIx_nat, List.length_map, Nat.min_eq_left hk, List.map_drop]
  exact List.take_of_length_le (by rw [List.length_drop, List.length_map]; exact Nat.le_refl _)
theorem cut_mid {ns : List Int} {i j : Nat} (hi : i ≤ j) (hj : j ≤ ns.length) : cutV (ns.map V.int) (some (i : Int)) (some (j : Int)) = ((ns.drop i).take (j - i)).map V.int := by
  unfold cutV
  rw [HT.sIx_nat, HT.sIx_nat, List.length_map, Nat.min_eq_left (show i ≤ ns.length by omega), Nat.min_eq_left hj, List.map_take, List.map_drop]
/-! ### frames -/
structure Frm (fs : List Int) : Prop where
  pos : 0 < fs.length
  le : fs.length ≤ 64
  bit : ∀ f ∈ fs, f = 0 ∨ f = 1
theorem bits_sum : ∀ {fs : List Int}, (∀ f ∈ fs, f = 0 ∨ f = 1) → 0 ≤ fs.sum ∧ fs.sum ≤ fs.length
  | [], _ => by simp
  | f :: fs, h => by
    have h1 := bits_sum (fs := fs) fun g hg => h g (List.mem_cons_of_mem _ hg)
    have h2 := h f List.mem_cons_self
    rw [List.sum_cons, List.length_cons]
    omega
theorem Frm.sum {fs : List Int} (h : Frm fs) : 0 ≤ fs.sum ∧ fs.sum ≤ fs.length := bits_sum h.bit
theorem Frm.getD {fs : List Int} (h : Frm fs) (k : Nat) : fs.getD k 0 = 0 ∨ fs.getD k 0 = 1 := by
  by_cases c : k < fs.length
  · have e : fs.getD k 0 = fs[k] := by simp [List.getD, List.getElem?_eq_getElem c]
    rw [e]
    exact h.bit _ (List.getElem_mem c)
  · left
    simp [List.getD, List.getElem?_eq_none (Nat.le_of_not_lt c)]
theorem evL_frm {b p : Int} (b0 : 1 ≤ b) (b1 : b ≤ 64) (p0 : 0 ≤ p) (p1 : p ≤ b) (t : Int) : Frm (evL b p t) := by
  refine ⟨by rw [evL_len]; omega, by rw [evL_len]; omega, fun f hf => ?_⟩
  unfold evL at hf
  obtain ⟨k, _, rfl⟩ := List.mem_map.mp hf
  exact evB_01 (by omega) p0 p1 t k
def Lo (ws : List Int) (m : Int) : Prop := m ∈ ws ∧ ∀ y, y ∈ ws → m ≤ y
def Hi (ws : List Int) (m : Int) : Prop := m ∈ ws ∧ ∀ y, y ∈ ws → y ≤ m
theorem divP {i j : Int} {b : Nat} (h : 0 < j) (hb : j.natAbs < 2 ^ b) (h0 : 0 < b) (h9 : b ≤ 9000) : CDivP i j := ⟨h, PyProof.noPylong_of_log2 (Nat.lt_of_lt_of_le (PySem.Flt.log2_lt_of h0 hb) h9)⟩
/-! ### x < y of alike data -/
section
open PySem.W
def rLtD (K : PySem.W.Frag) : R2 := fun x y H Q => ∃ d e, Dp K H x d ∧ Dp K H y e ∧ alike d e = true ∧ d ≠ PyData.none ∧ d.depth ≤ 64 ∧ Q (.bl (dataLt d e)) H
theorem op_ltD {X : L2.Cx} (hu : X.A.units + 64 < cLine) : OpR X (compareOp .Lt) (rLtD X.K) := by
  intro pins s σ H x y v u Q I rx ry h
  obtain ⟨d, e, hd, he, ha, hn, hdep, q⟩ := h
  obtain ⟨as, r1⟩ := Dp.reads I d x v hd rx
  obtain ⟨bs, r2⟩ := Dp.reads I e y u he ry
  exact rcLt_alike d e X.A s v u as bs r1 r2 ha hn (by omega) _ _ _ _ ⟨.bl _, H, I, rfl, q⟩
theorem opLtD {X : L2.Cx} (K : PySem.W.Frag) (hu : X.A.units + 64 < cLine) (h : X.K = K := by rfl) : OpR X (compareOp .Lt) (rLtD K) := h ▸ op_ltD hu
theorem alike_ints : ∀ xs ys : List Int, xs.length = ys.length → alikeAll (xs.map PyData.int) (ys.map PyData.int) = true
  | [], [], _ => by simp [alikeAll]
  | x :: xs, y :: ys, h => by
    have ih := alike_ints xs ys (by simpa using h)
    simp [alikeAll, alike, ih]
  | [], _ :: _, h => by simp at h
  | _ :: _, [], h => by simp at h
theorem toks_ints : ∀ xs ys : List Int, xs.length = ys.length → PyProof.Rows.lexLt PyProof.Rows.itemOrd (keyToksAll (xs.map PyData.int)) (keyToksAll (ys.map PyData.int)) = HT.lexLt xs ys
  | [], [], _ => by rw [HT.lexLt_nil_nil]; simp [PyProof.Rows.lex_irrefl]
  | x :: xs, y :: ys, h => by
    have ih := toks_ints xs ys (by simpa using h)
    rw [HT.lexLt_cons]
    by_cases e : x = y
    · subst e
      rw [if_pos rfl, List.map_cons, List.map_cons, dataLt_all_yes (by simp [alike]) (by simp [PyData.eqv]), ih]
    · rw [if_neg e, List.map_cons, List.map_cons, dataLt_all_no (by simp [alike]) (by simp [PyData.eqv, e]), dataLt_int]
  | [], _ :: _, h => by simp at h
  | _ :: _, [], h => by simp at h
theorem lt_pairs {a b : Int} {xs ys : List Int} (h : xs.length = ys.length) : dataLt (.tuple [.int a, dI xs]) (.tuple [.int b, dI ys]) = if a = b then HT.lexLt xs ys else decide (a < b) := by
  rw [dataLt_tuple]
  by_cases e : a = b
  · subst e
    rw [if_pos rfl, dataLt_all_yes (by simp [alike]) (by simp [PyData.eqv])]
    by_cases e2 : xs = ys
    · subst e2
      have hx : HT.lexLt xs xs = false := by rw [← toks_ints xs xs rfl, PyProof.Rows.lex_irrefl]
      rw [hx, PyProof.Rows.lex_irrefl]
    · rw [dataLt_all_no (by simp only [dI, alike]; exact alike_ints _ _ h) (by rw [dI_eqv]; exact decide_eq_false e2)]
      unfold dI
      rw [dataLt_list, toks_ints _ _ h]
  · rw [if_neg e, dataLt_all_no (by simp [alike]) (by simp [PyData.eqv, e]), dataLt_int]
theorem alike_pairs {a b : Int} {xs ys : List Int} (h : xs.length = ys.length) : alike (.tuple [.int a, dI xs]) (.tuple [.int b, dI ys]) = true := by
  simp [alike, alikeAll, dI, alike_ints _ _ h]
theorem depth_pair (a : Int) (xs : List Int) : (PyData.tuple [.int a, dI xs]).depth ≤ 64 := by
  have h1 := dI_depthA xs
  simp only [PyData.depth, PyData.depthAll, dI]
  omega
end
/-! ### greatest of a list -/
def mx (ws : List Int) : Int := ws.max?.getD 0
theorem mx_of {ws : List Int} {m : Int} (h1 : m ∈ ws) (h2 : ∀ y, y ∈ ws → y ≤ m) : mx ws = m := by
  unfold mx
  rw [List.max?_eq_some_iff.mpr ⟨h1, h2⟩]
  rfl
/-! ### the most on of turned even frames -/
def fr (b : Int) (sh ts : List Int) (i : Nat) : List Int := evL b (sh.getD i 0) (ts.getD i 0)
def col (f : Nat → List Int) (n k : Nat) : Int := ((List.range n).map fun j => (f j).getD k 0).sum
def cols (f : Nat → List Int) (n b : Nat) : List Int := (List.range b).map (col f n)
theorem cols_len (f : Nat → List Int) (n b : Nat) : (cols f n b).length = b := by simp [cols]
def mo (b : Int) (sh ts : List Int) : Int := mx (cols (fr b sh ts) sh.length b.toNat)
theorem ev_getD {b p t : Int} {k : Nat} (hk : k < b.toNat) : (evL b p t).getD k 0 = evB b p t k := by
  unfold evL
  rw [List.getD_eq_getElem?_getD, List.getElem?_map, List.getElem?_range hk]
  rfl
theorem ev_tsum {b p t : Int} (hb : 0 < b) : tsum (fun k => (evL b p t).getD k 0) b.toNat = p := by
  refine Eq.trans ?_ (evL_sum hb p t)
  unfold tsum
  conv => rhs; unfold evL
  congr 1
  apply List.map_congr_left
  intro k hk
  exact ev_getD (List.mem_range.mp hk)
theorem col_succ (f : Nat → List Int) (n k : Nat) : col f (n + 1) k = col f n k + (f n).getD k 0 := by
  unfold col; rw [List.range_succ, List.map_append, List.sum_append]; simp
theorem col_sum (f : Nat → List Int) (b : Nat) : ∀ n, tsum (col f n) b = ((List.range n).map fun j => tsum (fun k => (f j).getD k 0) b).sum
  | 0 => by
    have : tsum (col f 0) b = tsum (fun _ => 0) b := tsum_congr _ fun k _ => rfl
    rw [this, tsum_const]; simp
  | n + 1 => by
    rw [List.range_succ, List.map_append, List.sum_append, ← col_sum f b n]
    have : tsum (col f (n + 1)) b = tsum (fun k => col f n k + (f n).getD k 0) b := tsum_congr _ fun k _ => col_succ f n k
    rw [this, tsum_add]; simp
theorem range_getD (ns : List Int) : (List.range ns.length).map (fun j => ns.getD j 0) = ns := by
  apply List.ext_getElem?
  intro i
  rw [List.getElem?_map]
  by_cases h : i < ns.length
  · rw [List.getElem?_range h, List.getElem?_eq_getElem h]
    simp [List.getD, List.getElem?_eq_getElem h]
  · rw [List.getElem?_eq_none (by simpa using h), List.getElem?_eq_none (by omega)]
    rfl
theorem mo_peak {b : Int} (hb : 0 < b) (sh ts : List Int) : (sh.sum + b - 1) / b ≤ mo b sh ts := by
  have hs : tsum (col (fr b sh ts) sh.length) b.toNat = sh.sum := by
    rw [col_sum]
    have : (List.range sh.length).map (fun j => tsum (fun k => (fr b sh ts j).getD k 0) b.toNat) = (List.range sh.length).map (fun j => sh.getD j 0) := List.map_congr_left fun j _ => ev_tsum hb
    rw [this, range_getD]
  obtain ⟨k0, h0, hk⟩ := exists_max (col (fr b sh ts) sh.length) b.toNat (by omega)
  have hm : mo b sh ts = col (fr b sh ts) sh.length k0 := by
    refine mx_of (List.mem_map.mpr ⟨k0, List.mem_range.mpr h0, rfl⟩) fun y hy => ?_
    obtain ⟨j, hj, rfl⟩ := List.mem_map.mp hy
    exact hk j (List.mem_range.mp hj)
  rw [hm]
  have h := tsum_le (f := col (fr b sh ts) sh.length) (g := fun _ => col (fr b sh ts) sh.length k0) b.toNat hk
  rw [hs, tsum_const, Int.toNat_of_nonneg (by omega)] at h
  have : (sh.sum + b - 1) / b < col (fr b sh ts) sh.length k0 + 1 := by
    apply Int.ediv_lt_of_lt_mul hb
    rw [Int.add_mul, Int.mul_comm (col _ _ _)]
    omega
  omega
/-! ### rows of turns -/
def rowD (b : Nat) : Nat → Nat → List Int
  | 0, _ => []
  | m + 1, n => rowD b m (n / b) ++ [((n % b : Nat) : Int)]
theorem rowD_len (b : Nat) : ∀ m n, (rowD b m n).length = m
  | 0, _ => rfl
  | m + 1, n => by rw [rowD, List.length_append, rowD_len b m]; rfl
theorem rowD_bd {b : Nat} (hb : 0 < b) : ∀ m n, ∀ t ∈ rowD b m n, 0 ≤ t ∧ t < (b : Int)
  | 0, _, t, h => absurd h (by simp [rowD])
  | m + 1, n, t, h => by
    rw [rowD, List.mem_append, List.mem_singleton] at h
    rcases h with h | h
    · exact rowD_bd hb m _ t h
    · have := Nat.mod_lt n hb
      omega
theorem rowD_step {b : Nat} {m n t : Nat} (ht : t < b) : rowD b (m + 1) (n * b + t) = rowD b m n ++ [(t : Int)] := by
  rw [rowD, Nat.mul_comm n b, Nat.mul_add_div (by omega), Nat.div_eq_of_lt ht, Nat.mul_add_mod, Nat.mod_eq_of_lt ht]
  rfl
theorem lex_app : ∀ {xs ys : List Int} (a c : Int), xs.length = ys.length → HT.lexLt (xs ++ [a]) (ys ++ [c]) = if xs = ys then decide (a < c) else HT.lexLt xs ys
  | [], [], a, c, _ => by
    rw [List.nil_append, List.nil_append, HT.lexLt_cons, if_pos rfl]
    by_cases e : a = c
    · subst e; rw [if_pos rfl, HT.lexLt_nil_nil]; exact (decide_eq_false (by omega)).symm
    · rw [if_neg e]
  | x :: xs, y :: ys, a, c, h => by
    have ih := lex_app (xs := xs) (ys := ys) a c (by simpa using h)
    rw [List.cons_append, List.cons_append, HT.lexLt_cons, HT.lexLt_cons, ih]
    by_cases e : x = y
    · subst e
      rw [if_pos rfl, if_pos rfl]
      by_cases e2 : xs = ys
      · subst e2; rw [if_pos rfl, if_pos rfl]
      · rw [if_neg e2, if_neg (fun z => e2 (List.cons.inj z).2)]
    · rw [if_neg e, if_neg e, if_neg (fun z => e (List.cons.inj z).1)]
  | [], _ :: _, _, _, h => by simp at h
  | _ :: _, [], _, _, h => by simp at h
theorem lex_irr : ∀ xs : List Int, HT.lexLt xs xs = false
  | [] => rfl
  | x :: xs => by rw [HT.lexLt_cons, if_pos rfl, lex_irr xs]
theorem lex_trans3 : ∀ {xs ys zs : List Int}, xs.length = ys.length → ys.length = zs.length → HT.lexLt xs ys = true → HT.lexLt ys zs = true → HT.lexLt xs zs = true
  | [], [], _, _, _, h, _ => by cases h
  | x :: xs, y :: ys, z :: zs, h1, h2, h3, h4 => by
    have ih := lex_trans3 (xs := xs) (ys := ys) (zs := zs) (by simpa using h1) (by simpa using h2)
    rw [HT.lexLt_cons] at h3 h4 ⊢
    by_cases e1 : x = y
    · by_cases e2 : y = z
      · subst e1; subst e2
        rw [if_pos rfl] at h3 h4 ⊢
        exact ih h3 h4
      · subst e1
        rw [if_neg e2] at h4 ⊢
        exact h4
    · by_cases e2 : y = z
      · subst e2
        rw [if_neg e1] at h3 ⊢
        exact h3
      · rw [if_neg e1] at h3
        rw [if_neg e2] at h4
        have a := of_decide_eq_true h3
        have c := of_decide_eq_true h4
        rw [if_neg (by omega)]
        exact decide_eq_true (by omega)
  | [], _ :: _, _, h, _, _, _ => by simp at h
  | _ :: _, [], _, h, _, _, _ => by simp at h
  | _ :: _, _ :: _, [], _, h, _, _ => by simp at h
theorem rowD_lt {b : Nat} (hb : 0 < b) : ∀ {m i j : Nat}, i < j → j < b ^ m → HT.lexLt (rowD b m i) (rowD b m j) = true ∧ rowD b m i ≠ rowD b m j
  | 0, i, j, h1, h2 => by simp at h2; omega
  | m + 1, i, j, h1, h2 => by
    have hj : j / b < b ^ m := by
      rw [Nat.pow_succ] at h2
      exact Nat.div_lt_of_lt_mul (by rw [Nat.mul_comm]; exact h2)
    have hle : i / b ≤ j / b := Nat.div_le_div_right (Nat.le_of_lt h1)
    rw [rowD, rowD]
    have hlen : (rowD b m (i / b)).length = (rowD b m (j / b)).length := by rw [rowD_len, rowD_len]
    rw [lex_app _ _ hlen]
    by_cases e : i / b = j / b
    · rw [e, if_pos rfl]
      have hm : i % b < j % b := by
        have h3 := Nat.div_add_mod i b
        have h4 := Nat.div_add_mod j b
        rw [e] at h3
        omega
      refine ⟨decide_eq_true (by omega), fun z => ?_⟩
      have := (List.append_inj' z rfl).2
      simp at this
      omega
    · obtain ⟨q1, q2⟩ := rowD_lt (m := m) hb (show i / b < j / b by omega) hj
      rw [if_neg q2]
      refine ⟨q1, fun z => ?_⟩
      exact q2 (List.append_inj' z rfl).1
theorem rowD_mod {b : Nat} (hb : 0 < b) : ∀ (m n : Nat), rowD b m (n % b ^ m) = rowD b m n
  | 0, _ => rfl
  | m + 1, n => by
    rw [rowD, rowD]
    have h1 : n % b ^ (m + 1) % b = n % b := by rw [Nat.pow_succ, Nat.mod_mul_left_mod]
    have h2 : n % b ^ (m + 1) / b = n / b % b ^ m := by
      rw [Nat.pow_succ, Nat.mul_comm, Nat.mod_mul_right_div_self]
    rw [h1, h2, rowD_mod hb m]
theorem rowD_three {b n m : Nat} (hn : n < b * b * b) (hm : m ≤ 3) : [((n / (b * b) : Nat) : Int), ((n / b % b : Nat) : Int), ((n % b : Nat) : Int)].drop (3 - m) = rowD b m n := by
  have h : n / b / b < b := by
    rw [Nat.div_div_eq_div_mul]
    exact Nat.div_lt_of_lt_mul hn
  match m, hm with
  | 0, _ => rfl
  | 1, _ => rfl
  | 2, _ => rfl
  | 3, _ =>
    simp only [rowD, Nat.sub_self, List.drop_zero, List.nil_append, List.cons_append]
    rw [Nat.mod_eq_of_lt h, Nat.div_div_eq_div_mul]
/-- of the rows of n numbers, i's is the least -/
structure Best (b m n i : Nat) (f : Nat → Int) : Prop where
  lt : i < n
  le : ∀ j, j < n → f i < f j ∨ (f i = f j ∧ HT.lexLt (rowD b m j) (rowD b m i) = false)
theorem Best.first (b m : Nat) (f : Nat → Int) : Best b m 1 0 f := ⟨by omega, fun j hj => by
  have : j = 0 := by omega
  subst this
  exact .inr ⟨rfl, lex_irr _⟩⟩
theorem Best.keep {b m n i : Nat} {f : Nat → Int} (h : Best b m n i f) (c : ¬ (if f n = f i then HT.lexLt (rowD b m n) (rowD b m i) else decide (f n < f i)) = true) : Best b m (n + 1) i f := by
  refine ⟨Nat.lt_succ_of_lt h.lt, fun j hj => ?_⟩
  by_cases e : j < n
  · exact h.le j e
  · have : j = n := by omega
    subst this
    by_cases e2 : f j = f i
    · rw [if_pos e2] at c
      exact .inr ⟨e2.symm, by simpa using c⟩
    · rw [if_neg e2] at c
      have : ¬ f j < f i := fun z => c (decide_eq_true z)
      exact .inl (by omega)
theorem Best.new {b m n i : Nat} {f : Nat → Int} (h : Best b m n i f) (c : (if f n = f i then HT.lexLt (rowD b m n) (rowD b m i) else decide (f n < f i)) = true) : Best b m (n + 1) n f := by
  refine ⟨Nat.lt_succ_self n, fun j hj => ?_⟩
  by_cases e : j < n
  · have hj' := h.le j e
    by_cases e2 : f n = f i
    · rw [if_pos e2] at c
      rcases hj' with q | ⟨q1, q2⟩
      · exact .inl (by omega)
      · refine .inr ⟨by omega, ?_⟩
        by_cases q3 : HT.lexLt (rowD b m j) (rowD b m n) = true
        · exact absurd (lex_trans3 (by rw [rowD_len, rowD_len]) (by rw [rowD_len, rowD_len]) q3 c) (by rw [q2]; decide)
        · simpa using q3
    · rw [if_neg e2] at c
      have := of_decide_eq_true c
      rcases hj' with q | ⟨q1, q2⟩
      · exact .inl (by omega)
      · exact .inl (by omega)
  · have : j = n := by omega
    subst this
    exact .inr ⟨rfl, lex_irr _⟩
/-- the first of the least is the least of all -/
theorem best_first {b m i i1 : Nat} {f g : Nat → Int} (hb : 0 < b) (hm : m ≤ 3) (hf : ∀ n, f n = g (n % b ^ m)) (hg : ∀ n, n < b ^ m → f n = g n) (h : Best b m (b * b * b) i f) (h1 : i1 < b ^ m) (hmin : ∀ j, j < b ^ m → g i1 ≤ g j) (hfirst : ∀ j, j < i1 → g j ≠ g i1) : rowD b m i1 = rowD b m i ∧ g i1 = f i := by
  have hp : 0 < b ^ m := Nat.pow_pos hb
  have hj : i % b ^ m < b ^ m := Nat.mod_lt _ hp
  have hle : b ^ m ≤ b * b * b := by
    have : b ^ m ≤ b ^ 3 := Nat.pow_le_pow_right hb hm
    rw [Nat.pow_succ, Nat.pow_succ, Nat.pow_one] at this
    exact this
  have q := h.le i1 (Nat.lt_of_lt_of_le h1 hle)
  rw [hg i1 h1, hf i] at q
  have q2 := hmin _ hj
  rw [← rowD_mod hb m i, hf i]
  obtain ⟨q3, q4⟩ : g (i % b ^ m) = g i1 ∧ HT.lexLt (rowD b m i1) (rowD b m i) = false := by
    rcases q with q | q
    · omega
    · exact q
  rw [← rowD_mod hb m i] at q4
  have : i1 = i % b ^ m := by
    rcases Nat.lt_trichotomy i1 (i % b ^ m) with c | c | c
    · rw [(rowD_lt hb c hj).1] at q4; cases q4
    · exact c
    · exact absurd q3 (hfirst _ c)
  rw [← this]
  exact ⟨rfl, rfl⟩
theorem turn_list {b : Int} {B j m : Nat} (hb : b = (B : Int)) (hj : j < B * B * B) (hm : m ≤ 3) : cutV [V.int ((0 + (j : Int)) / (b * b)), V.int ((0 + (j : Int)) / b % b), V.int ((0 + (j : Int)) % b)] (some (3 - (m : Int))) none = (rowD B m j).map V.int := by
  subst hb
  rw [← rowD_three hj hm]
  have e : ([V.int ((0 + (j : Int)) / ((B : Int) * (B : Int))), V.int ((0 + (j : Int)) / (B : Int) % (B : Int)), V.int ((0 + (j : Int)) % (B : Int))] : List V) = [((j / (B * B) : Nat) : Int), ((j / B % B : Nat) : Int), ((j % B : Nat) : Int)].map V.int := by
    rw [Int.zero_add]
    simp only [List.map_cons, List.map_nil, Int.natCast_ediv, Int.natCast_emod, Int.natCast_mul]
  rw [e, show (3 : Int) - (m : Int) = ((3 - m : Nat) : Int) by omega]
  exact cut_from (by show 3 - m ≤ 3; omega)
/-! ### lists of lists of ints -/
/-- at rs: n lists, the i-th of f i; none of them at D -/
def Rows (D : Addr) (H : Hp) (rs : List Addr) (n : Nat) (f : Nat → List Int) : Prop := rs.length = n ∧ ∀ (i : Nat) (a : Addr), rs[i]? = some a → a ≠ D ∧ H a = some (.lst ((f i).map V.int))
section
variable {D : Addr} {H H' : Hp} {rs : List Addr} {n : Nat} {f : Nat → List Int}
theorem Rows.nil (D : Addr) (H : Hp) (f : Nat → List Int) : Rows D H [] 0 f := ⟨rfl, fun i a h => by simp at h⟩
theorem Rows.same (h : Rows D H rs n f) (e : Same H H') : Rows D H' rs n f := ⟨h.1, fun i a hi => ⟨(h.2 i a hi).1, e _ _ (h.2 i a hi).2⟩⟩
theorem Rows.atD (h : Rows D H rs n f) (o : HO) : Rows D (upd H D o) rs n f := ⟨h.1, fun i a hi => ⟨(h.2 i a hi).1, by rw [upd_ne (h.2 i a hi).1]; exact (h.2 i a hi).2⟩⟩
theorem Rows.push (h : Rows D H rs n f) {p : Addr} (hp : p ≠ D) (hh : H p = some (.lst ((f n).map V.int))) : Rows D H (rs ++ [p]) (n + 1) f := by
  refine ⟨by rw [List.length_append, h.1]; rfl, fun i a hi => ?_⟩
  by_cases c : i < rs.length
  · rw [List.getElem?_append_left c] at hi
    exact h.2 i a hi
  · have e : i = n := by
      have := (List.getElem?_eq_some_iff.mp hi).1
      rw [List.length_append, h.1] at this
      have h1 := h.1
      simp at this
      omega
    subst e
    rw [List.getElem?_append_right (by omega), h.1, Nat.sub_self] at hi
    cases hi
    exact ⟨hp, hh⟩
theorem Rows.get (h : Rows D H rs n f) {i : Nat} {x : V} (hi : (rs.map V.ref)[i]? = some x) : ∃ a, x = .ref a ∧ rs[i]? = some a ∧ i < n ∧ a ≠ D ∧ H a = some (.lst ((f i).map V.int)) := by
  rw [List.getElem?_map] at hi
  cases e : rs[i]? with
  | none => rw [e] at hi; cases hi
  | some a =>
    rw [e] at hi
    have := (List.getElem?_eq_some_iff.mp e).1
    rw [h.1] at this
    exact ⟨a, (Option.some.inj hi).symm, rfl, this, (h.2 i a e).1, (h.2 i a e).2⟩
end
structure Txt (K : PySem.W.Frag) (mg : Str → Option Value) : Prop where
  k_FEW_BEATS : ∃ u, mg "FEW_BEATS" = some u ∧ RelV (.int 12) u
  k_FEW_SHARES : ∃ u, mg "FEW_SHARES" = some u ∧ RelV (.int 3) u
  k_MOST_BEATS : ∃ u, mg "MOST_BEATS" = some u ∧ RelV (.int 64) u
  k_MOST_SHARES : ∃ u, mg "MOST_SHARES" = some u ∧ RelV (.int 12) u
  b_bool : mg "bool" = none
  b_int : mg "int" = none
  b_isinstance : mg "isinstance" = none
  b_len : mg "len" = none
  b_list : mg "list" = none
  b_max : mg "max" = none
  b_min : mg "min" = none
  b_range : mg "range" = none
  b_str : mg "str" = none
  b_sum : mg "sum" = none
  b_tuple : mg "tuple" = none
  b_zip : mg "zip" = none
section
variable {P : Program} {w : World} {K : PySem.W.Frag} {mg : Str → Option Value} {base : Heap}
abbrev s_law_start : Stmt := top 20
theorem sc_law_start : FnScope ["_law_script", "_law_mixed", "_law_cell"] ["_law_script"] (defScope s_law_start) := ⟨rfl, rfl, rfl, by decide +kernel, rfl, by decide +kernel, by decide +kernel⟩
/-- _law_start(script): a new good state -/
def spStart (K : PySem.W.Frag) : Sp := fun vs H Q _ => ∃ (a : Addr) (ns : List Int), vs = [.ref a] ∧ SqL K H a (ns.map V.int) ∧ ∀ (st : Addr) (m : Int), H st = none → Drw 0 m 0 → Q (.ref st) (upd H st (StO a 0 m 0))
theorem ok_law_start {f : Addr} {fd : FuncData} (F : FunG K mg "_law_start" s_law_start f fd ["_law_script"]) : FnOk P w K mg base CX0 1 f fd ["_law_script"] (spStart K) := by
  refine F.fn.ok sc_law_start (fun vs H Q E h => ?_) (fun cdv A outer s H vs Q E hr h => ?_)
  · obtain ⟨a, ns, rfl, _⟩ := h
    rfl
  · obtain ⟨a, ns, rfl, hS, k⟩ := h
    refine ⟨_, (pss_cons (ps_set (i := 1) sc_law_start.nd rfl (.inl rfl) pe_int)
      (pss_cons (ps_for PassesOwn.never (by rfl) (pi_list (pv 0)) (pg_name (i := 2) sc_law_start.nd rfl (.inl rfl)) (pss_one (ps_set (i := 1) sc_law_start.nd rfl (.inl rfl) (pe_op op_mod (pe_op op_add (pe_op op_add (pe_op op_mulW (pv 1) pe_int) (pv 2)) pe_int) pe_int))))
      (pss_one (ps_ret (pe_lst (pa_cons (pv 0) (pa_cons pe_int (pa_cons (pv 1) (pa_cons pe_int pa_nil))))))))), ?_⟩
    refine ⟨_, rfl, a, rfl, ⟨_, hS⟩, for_list (K := K) (a := a) (xs := ns.map V.int) (fun i σ H' => ∃ (m : Int) (v : Option V), σ = [some (.ref a), some (.int m), v] ∧ H' = H ∧ 0 ≤ m ∧ m < 2147483647)
      ⟨1, none, rfl, rfl, by decide, by decide⟩ (fun i σ H' _ ⟨_, _, _, e, _⟩ => e ▸ hS) ?_ ?_⟩
    · rintro i y σ H' hi ⟨m, v, rfl, rfl, m0, m1⟩
      obtain ⟨z, hz, rfl⟩ := getV hi
      refine ⟨_, rfl, _, _, rfl, rfl, wide_mul (a := 31) (b := 17) (by omega) (by decide) (by decide) (by decide) (by decide), _, rfl, _, _, rfl, rfl, _, _, rfl, rfl, _, _, rfl, rfl, (by show (0 : Int) < 2147483647; decide), ?_⟩
      exact ⟨_, _, rfl, rfl, Int.emod_nonneg _ (by decide), Int.emod_lt_of_pos _ (by decide)⟩
    · rintro σ H' ⟨m, v, rfl, rfl, m0, m1⟩
      refine ⟨_, rfl, _, rfl, (by show 4 ≤ sizeLine; decide), fun p hp => ?_⟩
      exact k p m hp ⟨Int.le_refl _, m0, m1, Int.le_refl _⟩
abbrev s_law_drawn : Stmt := top 21
theorem sc_law_drawn : FnScope ["_law_state", "_law_many", "_law_found", "_law_cell"] ["_law_state", "_law_many"] (defScope s_law_drawn) := ⟨rfl, rfl, rfl, by decide +kernel, rfl, by decide +kernel, by decide +kernel⟩
/-- _law_drawn(state, many): some number from 0 on below many; the state is good behind it, all else as it was -/
def spDrawn (K : PySem.W.Frag) : Sp := fun vs H Q _ => ∃ (st a : Addr) (ns : List Int) (many : Int), vs = [.ref st, .int many] ∧ SOk K a ns st H ∧ 0 < many ∧ many < 2 ^ 200 ∧
  ∀ r i m c : Int, 0 ≤ r → r < many → Drw i m c → Q (.int r) (upd H st (StO a i m c))
theorem SOk.drawn {K : PySem.W.Frag} {a st : Addr} {ns : List Int} {H : Hp} (s : SOk K a ns st H) {i m c : Int} (d : Drw i m c) : SOk K a ns st (upd H st (StO a i m c)) := s.keep (Keep.refl st H).atSt d upd_same
theorem ok_law_drawn {f : Addr} {fd : FuncData} (F : FunG K mg "_law_drawn" s_law_drawn f fd ["_law_state", "_law_many"]) (T : Txt K mg) : FnOk P w K mg base CX0 1 f fd ["_law_state", "_law_many"] (spDrawn K) := by
  refine F.fn.ok sc_law_drawn (fun vs H Q E h => ?_) (fun cdv A outer s H vs Q E hr h => ?_)
  · obtain ⟨st, a, ns, many, rfl, _⟩ := h
    rfl
  · obtain ⟨st, a, ns, many, rfl, hs, m0, m1, k⟩ := h
    obtain ⟨i, m, c, d, hst⟩ := hs.at_
    have hdiv : ∀ x : Int, CDivW x many := fun x => wide_div (b := 200) m0 (by omega) (by decide) (by decide)
    have hl : H st = some (.lst [.ref a, .int i, .int m, .int c]) := hst
    refine ⟨_, (pss_cons (ps_if (pt_cmpR op_gt (pe_ix (ixL K) (pv 0) pe_int (fun _ _ => rfl)) pe_int (nomark _)) (pss_cons (ps_set (i := 2) sc_law_drawn.nd rfl (.inl rfl) (pe_op op_mod (pe_ix (ixL K) (pv 0) pe_int (fun _ _ => rfl)) (pv 1)))
      (pss_cons (ps_asg (pe_op op_fdivW (pe_ix (ixL K) (pv 0) pe_int (fun _ _ => rfl)) (pv 1)) (pg_sub (pv 0) pe_int set_list))
      (pss_one (ps_ret (pv 2))))) pss_nil)
      (pss_cons (ps_asg (pe_op op_add (pe_ix (ixL K) (pv 0) pe_int (fun _ _ => rfl)) pe_int) (pg_sub (pv 0) pe_int set_list))
      (pss_cons (ps_if (pt_cmpR op_le (pe_ix (ixL K) (pv 0) pe_int (fun _ _ => rfl)) (pe_callB (clLen K) (by rfl) T.b_len (by decide +kernel) (pa_cons (pe_ix (ixL K) (pv 0) pe_int (fun _ _ => rfl)) pa_nil)) (nomark _)) (pss_cons (ps_set (i := 3) sc_law_drawn.nd rfl (.inl rfl) (pe_ix (ixL K) (pe_ix (ixL K) (pv 0) pe_int (fun _ _ => rfl)) (pe_op op_sub (pe_ix (ixL K) (pv 0) pe_int (fun _ _ => rfl)) pe_int) (fun _ _ => rfl)))
      (pss_cons (ps_asg (pe_ifExp (pt_cmpR op_ge (pv 3) (pe_op op_pow pe_int pe_int) (nomark _)) (pe_op op_fdivW (pv 3) (pv 1)) pe_int) (pg_sub (pv 0) pe_int set_list))
      (pss_one (ps_ret (pe_op op_mod (pv 3) (pv 1)))))) pss_nil)
      (pss_cons (ps_asg (pe_op op_mod (pe_op op_add (pe_op op_mulW (pe_ix (ixL K) (pv 0) pe_int (fun _ _ => rfl)) pe_int) pe_int) pe_int) (pg_sub (pv 0) pe_int set_list))
      (pss_one (ps_ret (pe_op op_mod (pe_op op_fdivW (pe_ix (ixL K) (pv 0) pe_int (fun _ _ => rfl)) pe_int) (pv 1)))))))), ?_⟩
    refine ⟨_, rfl, _, _, _, _, rfl, rfl, SqL.of hl, rfl, _, _, rfl, rfl, _, rfl, ?_⟩
    refine ite2 (fun hc => ?_) (fun hc => ?_)
    · have hc : 0 < c := of_decide_eq_true hc
      refine ⟨_, rfl, _, _, _, _, rfl, rfl, SqL.of hl, rfl, _, rfl, _, _, rfl, rfl, m0, ?_⟩
      refine ⟨_, rfl, _, _, _, _, rfl, rfl, SqL.of hl, rfl, _, rfl, _, _, rfl, rfl, hdiv _, _, rfl, st, _, _, 3, rfl, rfl, hl, rfl, ?_⟩
      refine ⟨_, rfl, ?_⟩
      exact k (c % many) i m (c / many) (Int.emod_nonneg _ (by omega)) (Int.emod_lt_of_pos _ m0) ⟨d.i0, d.m0, d.m1, Int.ediv_nonneg d.c0 (by omega)⟩
    · refine ⟨_, rfl, _, _, _, _, rfl, rfl, SqL.of hl, rfl, _, _, rfl, rfl, _, rfl, st, _, _, 1, rfl, rfl, hl, rfl, ?_⟩
      have hl1 : (upd H st (.lst [.ref a, .int (i + 1), .int m, .int c])) st = some (.lst [.ref a, .int (i + 1), .int m, .int c]) := upd_same
      have hS1 : SqL K (upd H st (.lst [.ref a, .int (i + 1), .int m, .int c])) a (ns.map V.int) := hs.sq _ (Keep.refl st H).atSt
      refine ⟨_, rfl, _, _, _, _, rfl, rfl, SqL.of hl1, rfl, _, rfl, _, _, _, _, rfl, rfl, SqL.of hl1, rfl, _, _, rfl, .inl hS1, _, _, rfl, rfl, _, rfl, ?_⟩
      refine ite2 (fun hb => ?_) (fun hb => ?_)
      · have hb : i + 1 ≤ ((ns.map V.int).length : Int) := of_decide_eq_true hb
        rw [List.length_map] at hb
        have i0 := d.i0
        refine ⟨_, rfl, _, _, _, _, rfl, rfl, SqL.of hl1, rfl, _, rfl, _, _, _, _, rfl, rfl, SqL.of hl1, rfl, _, _, rfl, rfl, _, _, _, _, rfl, rfl, hS1, atV (j := i.toNat) (by omega) (by omega), ?_⟩
        refine ⟨_, rfl, _, _, rfl, rfl, ⟨by decide, by decide, by decide⟩, _, _, rfl, rfl, _, rfl, ?_⟩
        generalize ns.getD i.toNat 0 = z
        refine ite2 (fun hz => ?_) (fun hz => ?_)
        · have hz : (10 : Int) ^ (18 : Int).toNat ≤ z := of_decide_eq_true hz
          have z0 : 0 ≤ z := Int.le_trans (by decide) hz
          refine ⟨_, rfl, _, rfl, _, _, rfl, rfl, hdiv _, _, rfl, st, _, _, 3, rfl, rfl, hl1, rfl, ?_⟩
          refine ⟨_, rfl, _, rfl, _, _, rfl, rfl, m0, ?_⟩
          rw [upd_upd]
          exact k (z % many) (i + 1) m (z / many) (Int.emod_nonneg _ (by omega)) (Int.emod_lt_of_pos _ m0) ⟨by omega, d.m0, d.m1, Int.ediv_nonneg z0 (by omega)⟩
        · refine ⟨_, rfl, st, _, _, 3, rfl, rfl, hl1, rfl, ?_⟩
          refine ⟨_, rfl, _, rfl, _, _, rfl, rfl, m0, ?_⟩
          rw [upd_upd]
          exact k (z % many) (i + 1) m 0 (Int.emod_nonneg _ (by omega)) (Int.emod_lt_of_pos _ m0) ⟨by omega, d.m0, d.m1, Int.le_refl _⟩
      · refine ⟨_, rfl, _, _, _, _, rfl, rfl, SqL.of hl1, rfl, _, _, rfl, rfl, wide_mul (a := 31) (b := 17) (by have := d.m0; have := d.m1; omega) (by decide) (by decide) (by decide) (by decide), _, _, rfl, rfl, _, _, rfl, rfl, (by show (0 : Int) < 2147483647; decide), _, rfl, st, _, _, 2, rfl, rfl, hl1, rfl, ?_⟩
        rw [upd_upd]
        have n0 := Int.emod_nonneg (m * 48271 + 11) (show (2147483647 : Int) ≠ 0 by decide)
        have n1 := Int.emod_lt_of_pos (m * 48271 + 11) (show (0 : Int) < 2147483647 by decide)
        have hl2 : (upd H st (.lst [.ref a, .int (i + 1), .int ((m * 48271 + 11) % 2147483647), .int c])) st = some (.lst [.ref a, .int (i + 1), .int ((m * 48271 + 11) % 2147483647), .int c]) := upd_same
        refine ⟨_, rfl, _, _, _, _, rfl, rfl, SqL.of hl2, rfl, _, _, rfl, rfl, wide_div (b := 3) (by decide) (by decide) (by decide) (by decide), _, rfl, _, _, rfl, rfl, m0, ?_⟩
        have i0 := d.i0
        exact k ((m * 48271 + 11) % 2147483647 / 7 % many) (i + 1) ((m * 48271 + 11) % 2147483647) c (Int.emod_nonneg _ (by omega)) (Int.emod_lt_of_pos _ m0) ⟨by omega, n0, n1, d.c0⟩
abbrev s_law_even : Stmt := top 25
theorem sc_law_even : FnScope ["_law_beats", "_law_pulses", "_law_turn", "_law_left", "_law_found", "_law_k"] ["_law_beats", "_law_pulses", "_law_turn"] (defScope s_law_even) := ⟨rfl, rfl, rfl, by decide +kernel, rfl, by decide +kernel, by decide +kernel⟩
/-- _law_even(beats, pulses, turn): the even frame, a new list -/
def spLEven : Sp := fun vs H Q _ => ∃ b p t : Int, vs = [.int b, .int p, .int t] ∧ 0 < b ∧ b ≤ 64 ∧ 0 ≤ p ∧ p ≤ b ∧ t.natAbs < 2 ^ 300 ∧
  ∀ l, H l = none → Q (.ref l) (upd H l (.lst ((evL b p t).map V.int)))
theorem ok_law_even {f : Addr} {fd : FuncData} (F : FunG K mg "_law_even" s_law_even f fd ["_law_beats", "_law_pulses", "_law_turn"]) (T : Txt K mg) : FnOk P w K mg base CX0 1 f fd ["_law_beats", "_law_pulses", "_law_turn"] spLEven := by
  refine F.fn.ok sc_law_even (fun vs H Q E h => ?_) (fun cdv A outer s H vs Q E hr h => ?_)
  · obtain ⟨b, p, t, rfl, _⟩ := h
    rfl
  · obtain ⟨b, p, t, rfl, b0, b1, p0, p1, ht, k⟩ := h
    refine ⟨_, (pss_cons (ps_set (i := 3) sc_law_even.nd rfl (.inl rfl) (pe_op op_mod (pe_op op_mulW (pv 2) (pv 1)) (pv 0)))
      (pss_cons (ps_set (i := 4) sc_law_even.nd rfl (.inl rfl) (pe_lst pa_nil))
      (pss_cons (ps_for PassesOwn.never (by rfl) (pi_range1 (by rfl) T.b_range (pa_cons (pv 0) pa_nil)) (pg_name (i := 5) sc_law_even.nd rfl (.inl rfl)) (pss_cons (ps_set (i := 3) sc_law_even.nd rfl (.inl rfl) (pe_op op_add (pv 3) (pv 1)))
      (pss_cons (ps_expr (pe_bm PySem.F.plainAttrs_list PySem.F.slot_list_append PySem.F.type_list_append mt_append (pv 4) (pa_cons (pe_callTy call_int1 (by rfl) T.b_int (by decide +kernel) (pa_cons (pe_cmpR op_ge (pv 3) (pv 0) (nomark _)) pa_nil)) pa_nil)))
      (pss_one (ps_set (i := 3) sc_law_even.nd rfl (.inl rfl) (pe_op op_sub (pv 3) (pe_op op_mulW (pv 0) (pe_ix (ixL K) (pv 4) (pe_un un_neg pe_int) (fun _ _ => rfl)))))))))
      (pss_one (ps_ret (pv 4)))))), ?_⟩
    refine ⟨_, rfl, _, rfl, _, _, rfl, rfl, wide_mul (a := 300) (b := 7) ht (by omega) (by decide) (by decide) (by decide), _, rfl, _, _, rfl, rfl, b0, ?_⟩
    refine ⟨Nat.zero_le _, fun l hl => ?_⟩
    refine ⟨_, rfl, _, rfl, by omega, by omega, for_range (lo := 0) (n := b.toNat) (fun i σ H' => ∃ v : Option V, σ = [some (.int b), some (.int p), some (.int t), some (.int (evR b p t i)), some (.ref l), v] ∧ H' = upd H l (.lst (((List.range i).map (evB b p t)).map V.int)))
      ⟨none, by unfold evR; simp only [Int.natCast_zero, Int.zero_add]; rfl, rfl⟩ ?_ ?_⟩
    · rintro i σ H' hi ⟨v, rfl, rfl⟩
      refine ⟨_, rfl, _, rfl, _, _, rfl, rfl, ?_⟩
      have hL : upd H l (.lst (((List.range i).map (evB b p t)).map V.int)) l = some (.lst (((List.range i).map (evB b p t)).map V.int)) := upd_same
      refine ⟨_, rfl, .inl ⟨rfl, _, SqL.of hL⟩, _, rfl, _, rfl, _, _, rfl, rfl, .inr ⟨_, rfl, l, _, _, rfl, rfl, hL, small_of (m := 64) (by simp; omega), ?_⟩⟩
      rw [upd_upd]
      have e1 : (if decide (b ≤ evR b p t i + p) = true then (1 : Int) else 0) = evB b p t i := by
        rw [evB_eq b0 p0 p1]
        simp only [decide_eq_true_eq]
      rw [e1]
      have e2 : ((List.range i).map (evB b p t)).map V.int ++ [V.int (evB b p t i)] = ((List.range (i + 1)).map (evB b p t)).map V.int := by
        rw [List.range_succ, List.map_append, List.map_append]; rfl
      have hL2 : upd H l (.lst (((List.range i).map (evB b p t)).map V.int ++ [V.int (evB b p t i)])) l = some (.lst (((List.range i).map (evB b p t)).map V.int ++ [V.int (evB b p t i)])) := upd_same
      refine ⟨_, rfl, _, rfl, _, rfl, _, rfl, _, _, _, _, rfl, rfl, SqL.of hL2, atI_last _ _, _, _, rfl, rfl, wide_mul (a := 7) (b := 2) (by omega) (by rcases evB_01 b0 p0 p1 t i with e | e <;> rw [e] <;> decide) (by decide) (by decide) (by decide), _, _, rfl, rfl, ?_⟩
      refine ⟨some (.int (0 + (i : Int))), ?_, by rw [e2]⟩
      rw [evR_next b0 p0 p1]
      rfl
    · rintro σ H' ⟨v, rfl, rfl⟩
      exact ⟨_, rfl, k l hl⟩
end
end My

namespace My
open PySem L2
section
variable {P : Program} {w : World} {K : PySem.W.Frag} {mg : Str → Option Value} {base : Heap}
abbrev s_need_beats : Stmt := top 5
theorem sc_need_beats : FnScope ["beats"] ["beats"] (defScope s_need_beats) := ⟨rfl, rfl, rfl, by decide +kernel, rfl, by decide +kernel, by decide +kernel⟩
/-- need_beats(beats), good ones -/
def spNeedBeats : Sp := fun vs H Q _ => ∃ b : Int, vs = [.int b] ∧ 1 ≤ b ∧ b ≤ 64 ∧ Q .non H
theorem ok_need_beats {f : Addr} {fd : FuncData} (F : FunG K mg "need_beats" s_need_beats f fd ["beats"]) (T : Txt K mg) : FnOk P w K mg base CX0 1 f fd ["beats"] spNeedBeats := by
  refine F.fn.ok sc_need_beats (fun vs H Q E h => ?_) (fun cdv A outer s H vs Q E hr h => ?_)
  · obtain ⟨b, rfl, _⟩ := h
    rfl
  · obtain ⟨b, rfl, b0, b1, k⟩ := h
    refine ⟨_, (pss_one (ps_if (pt_not (pt_chain op_le op_le pe_int (pv 0) (C8.pe_gc (by rfl) T.k_MOST_BEATS))) (pss_one ps_never) pss_nil)), ?_⟩
    refine ⟨_, rfl, _, _, rfl, rfl, _, rfl, ?_⟩
    rw [decide_eq_true b0]
    refine iteT ⟨_, _, rfl, rfl, _, rfl, ?_⟩
    rw [decide_eq_true b1]
    exact iteF k
abbrev s_need_share : Stmt := top 6
theorem sc_need_share : FnScope ["beats", "pulses"] ["beats", "pulses"] (defScope s_need_share) := ⟨rfl, rfl, rfl, by decide +kernel, rfl, by decide +kernel, by decide +kernel⟩
/-- need_share(beats, pulses), a good one -/
def spNeedShare : Sp := fun vs H Q _ => ∃ b p : Int, vs = [.int b, .int p] ∧ 1 ≤ b ∧ b ≤ 64 ∧ 0 ≤ p ∧ p ≤ b ∧ Q .non H
theorem ok_need_share {f : Addr} {fd : FuncData} (F : FunG K mg "need_share" s_need_share f fd ["beats", "pulses"]) (c_need_beats : Cl P w K mg base CX0 1 "need_beats" spNeedBeats) : FnOk P w K mg base CX0 2 f fd ["beats", "pulses"] spNeedShare := by
  refine F.fn.ok sc_need_share (fun vs H Q E h => ?_) (fun cdv A outer s H vs Q E hr h => ?_)
  · obtain ⟨b, p, rfl, _⟩ := h
    rfl
  · obtain ⟨b, p, rfl, b0, b1, p0, p1, k⟩ := h
    refine ⟨_, (pss_cons (ps_expr (pe_cl c_need_beats hr (by decide) (by rfl) (pa_cons (pv 0) pa_nil)))
      (pss_one (ps_if (pt_not (pt_chain op_le op_le pe_int (pv 1) (pv 0))) (pss_one ps_never) pss_nil))), ?_⟩
    refine ⟨_, rfl, b, rfl, b0, b1, ?_⟩
    refine ⟨_, rfl, _, _, rfl, rfl, _, rfl, ?_⟩
    rw [decide_eq_true p0]
    refine iteT ⟨_, rfl, _, _, rfl, rfl, _, rfl, ?_⟩
    rw [decide_eq_true p1]
    exact iteF k
abbrev s_even_frame : Stmt := top 7
theorem sc_even_frame : FnScope ["beats", "pulses", "turn", "k"] ["beats", "pulses", "turn"] (defScope s_even_frame) := ⟨rfl, rfl, rfl, by decide +kernel, rfl, by decide +kernel, by decide +kernel⟩
/-- even_frame(beats, pulses, turn): a new list -/
def spEven : Sp := fun vs H Q _ => ∃ b p t : Int, vs = [.int b, .int p, .int t] ∧ 1 ≤ b ∧ b ≤ 64 ∧ 0 ≤ p ∧ p ≤ b ∧ t.natAbs < 2 ^ 300 ∧
  ∀ l, H l = none → Q (.ref l) (upd H l (.lst ((evL b p t).map V.int)))
theorem ok_even_frame {f : Addr} {fd : FuncData} (F : FunG K mg "even_frame" s_even_frame f fd ["beats", "pulses", "turn"]) (T : Txt K mg) : FnOk P w K mg base CX0 1 f fd ["beats", "pulses", "turn"] spEven := by
  refine F.fn.ok sc_even_frame (fun vs H Q E h => ?_) (fun cdv A outer s H vs Q E hr h => ?_)
  · obtain ⟨b, p, t, rfl, _⟩ := h
    rfl
  · obtain ⟨b, p, t, rfl, b0, b1, p0, p1, ht, k⟩ := h
    refine ⟨_, (pss_one (ps_ret (pe_lc (own := [("k", 3)]) (g := gName 3) (tt := tYes) (by rfl) sc_even_frame.nd (pi_range1 (by rfl) T.b_range (pa_cons (pv 0) pa_nil)) (blkOk_by (own := [("k", 3)]) (N := ["beats", "pulses", "turn", "k"]) (sc := defScope s_even_frame) (by decide +kernel)) (fun _ _ _ _ _ => (pg_name (i := 3) sc_even_frame.nd rfl (.inl rfl))) (fun _ _ _ _ _ => pts_nil) (fun _ _ _ _ _ => (pe_op op_sub (pe_op op_fdivW (pe_op op_mulW (pe_op op_add (pe_op op_add (pv 3) pe_int) (pv 2)) (pv 1)) (pv 0)) (pe_op op_fdivW (pe_op op_mulW (pe_op op_add (pv 3) (pv 2)) (pv 1)) (pv 0))))))), ?_⟩
    refine ⟨_, rfl, _, rfl, by omega, by omega, fun D hD => lc_range (lo := 0) (n := b.toNat) (fun i H' => H' = upd H D (.lst (((List.range i).map (evB b p t)).map V.int))) rfl ?_ ?_⟩
    · rintro i H' hi rfl
      have hbd : b.natAbs < 2 ^ 7 := by omega
      have hp : p.natAbs < 2 ^ 7 := by omega
      have h301 : ∀ z : Int, 0 ≤ z → z < 100 → (z + t).natAbs < 2 ^ 301 := fun z z0 z1 => by
        have e : (2 : Nat) ^ 301 = 2 ^ 300 + 2 ^ 300 := by rw [Nat.pow_succ]; omega
        have e2 : (100 : Nat) ≤ 2 ^ 300 := by decide
        rw [e]; omega
      have hi' : (i : Int) < 64 := by omega
      have hd : ∀ x : Int, CDivW x b := fun x => wide_div (b := 7) (by omega) hbd (by decide) (by decide)
      refine ⟨rfl, _, rfl, _, _, rfl, rfl, _, rfl, _, _, rfl, rfl, _, rfl, _, _, rfl, rfl, wide_mul (a := 301) (b := 7) (h301 _ (by omega) (by omega)) hp (by decide) (by decide) (by decide), _, rfl, _, _, rfl, rfl, hd _, _, rfl, _, rfl, _, _, rfl, rfl, _, rfl, _, _, rfl, rfl,
        wide_mul (a := 301) (b := 7) (h301 _ (by omega) (by omega)) hp (by decide) (by decide) (by decide), _, rfl, _, _, rfl, rfl, hd _, _, _, rfl, rfl, _, upd_same, small_of (m := 64) (by simp; omega), ?_⟩
      rw [upd_upd, List.range_succ, List.map_append, List.map_append]
      simp only [Int.zero_add]
      rfl
    · rintro H' rfl
      exact k D hD
abbrev s_even : Stmt := top 8
theorem sc_even : FnScope ["beats", "pulses", "turn"] ["beats", "pulses", "turn"] (defScope s_even) := ⟨rfl, rfl, rfl, by decide +kernel, rfl, by decide +kernel, by decide +kernel⟩
/-- even(beats, pulses, turn) -/
theorem ok_even {f : Addr} {fd : FuncData} (F : FunG K mg "even" s_even f fd ["beats", "pulses", "turn"]) (c_need_share : Cl P w K mg base CX0 2 "need_share" spNeedShare) (c_even_frame : Cl P w K mg base CX0 1 "even_frame" spEven) : FnOk P w K mg base CX0 3 f fd ["beats", "pulses", "turn"] spEven := by
  refine F.fn.ok sc_even (fun vs H Q E h => ?_) (fun cdv A outer s H vs Q E hr h => ?_)
  · obtain ⟨b, p, t, rfl, _⟩ := h
    rfl
  · obtain ⟨b, p, t, rfl, b0, b1, p0, p1, ht, k⟩ := h
    refine ⟨_, (pss_cons (ps_expr (pe_cl c_need_share hr (by decide) (by rfl) (pa_cons (pv 0) (pa_cons (pv 1) pa_nil))))
      (pss_one (ps_ret (pe_cl c_even_frame hr (by decide) (by rfl) (pa_cons (pv 0) (pa_cons (pv 1) (pa_cons (pv 2) pa_nil))))))), ?_⟩
    refine ⟨_, rfl, _, rfl, b, p, rfl, b0, b1, p0, p1, ?_⟩
    exact ⟨_, rfl, _, rfl, _, rfl, b, p, t, rfl, b0, b1, p0, p1, ht, k⟩
end
end My

namespace My
open PySem L2
section
variable {P : Program} {w : World} {K : PySem.W.Frag} {mg : Str → Option Value} {base : Heap}
abbrev s_most_on : Stmt := top 17
theorem sc_most_on : FnScope ["beats", "shares", "turns", "share", "turn", "frames", "k", "frame"] ["beats", "shares", "turns"] (defScope s_most_on) := ⟨rfl, rfl, rfl, by decide +kernel, rfl, by decide +kernel, by decide +kernel⟩
/-- most_on(beats, shares, turns), _law_most too -/
def spMost (K : PySem.W.Frag) : Sp := fun vs H Q _ => ∃ (b : Int) (s t : Addr) (sh ts : List Int), vs = [.int b, .ref s, .ref t] ∧ SqL K H s (sh.map V.int) ∧ SqL K H t (ts.map V.int) ∧ 1 ≤ b ∧ b ≤ 64 ∧ (∀ x ∈ sh, 0 ≤ x ∧ x ≤ b) ∧ sh.length = ts.length ∧ sh.length ≤ 12 ∧ (∀ t ∈ ts, 0 ≤ t ∧ t < b) ∧
  ∀ H', Same H H' → Q (.int (mo b sh ts)) H'
theorem ok_most_on {f : Addr} {fd : FuncData} (F : FunG K mg "most_on" s_most_on f fd ["beats", "shares", "turns"]) (T : Txt K mg) (c_even_frame : Cl P w K mg base CX0 1 "even_frame" spEven) : FnOk P w K mg base CX0 2 f fd ["beats", "shares", "turns"] (spMost K) := by
  refine F.fn.ok sc_most_on (fun vs H Q E h => ?_) (fun cdv A outer s H vs Q E hr h => ?_)
  · obtain ⟨b, s, t, sh, ts, rfl, _⟩ := h
    rfl
  · obtain ⟨b, s, t, sh, ts, rfl, hs, ht, b0, b1, hsh, hl, hl2, hts, k⟩ := h
    refine ⟨_, (pss_cons (ps_set (i := 5) sc_most_on.nd rfl (.inr rfl) (pe_lc (own := [("share", 3), ("turn", 4)]) (g := (gTup K 2 (gCons (gName 3) (gCons (gName 4) gNil)))) (tt := tYes) (by rfl) sc_most_on.nd (pi_zip (by rfl) T.b_zip (pa_cons (pv 1) (pa_cons (pv 2) pa_nil))) (blkOk_by (own := [("share", 3), ("turn", 4)]) (N := ["beats", "shares", "turns", "share", "turn", "frames", "k", "frame"]) (sc := defScope s_most_on) (by decide +kernel)) (fun _ _ _ _ _ => (pg_tup (by rfl) (pgs_cons (pg_name (i := 3) sc_most_on.nd rfl (.inl rfl)) (pgs_cons (pg_name (i := 4) sc_most_on.nd rfl (.inl rfl)) pgs_nil)))) (fun _ _ _ _ _ => pts_nil) (fun _ _ _ _ _ => (pe_cl c_even_frame hr (by decide) (by rfl) (pa_cons (pv 0) (pa_cons (pv 3) (pa_cons (pv 4) pa_nil)))))))
      (pss_one (ps_ret (pe_callB (clMax K rfl) (by rfl) T.b_max (by decide +kernel) (pa_cons (pe_lc (own := [("k", 6)]) (g := gName 6) (tt := tYes) (by rfl) sc_most_on.nd (pi_range1 (by rfl) T.b_range (pa_cons (pv 0) pa_nil)) (blkOk_by (own := [("k", 6)]) (N := ["beats", "shares", "turns", "share", "turn", "frames", "k", "frame"]) (sc := defScope s_most_on) (by decide +kernel)) (fun _ _ _ _ _ => (pg_name (i := 6) sc_most_on.nd rfl (.inr rfl))) (fun _ _ _ _ _ => pts_nil) (fun _ _ _ _ _ => (pe_callB (clSum K rfl) (by rfl) T.b_sum (by decide +kernel) (pa_cons (pe_lc (own := [("frame", 7)]) (g := gName 7) (tt := tYes) (by rfl) sc_most_on.nd (piListK K (pv 5)) (blkOk_by (own := [("frame", 7)]) (N := ["beats", "shares", "turns", "share", "turn", "frames", "k", "frame"]) (sc := { kind := .function, names := [(".0", .local), ("k", .cell), ("sum", .globalImplicit), ("frames", .cell)], isGenerator := false, isCoroutine := false }) (by decide +kernel)) (fun _ _ _ _ _ => (pg_name (i := 7) sc_most_on.nd rfl (.inl rfl))) (fun _ _ _ _ _ => pts_nil) (fun _ _ _ _ _ => (pe_ix (ixL K) (pv 7) (pv 6) (fun _ _ => rfl)))) pa_nil)))) pa_nil))))), ?_⟩
    refine ⟨_, rfl, _, rfl, _, _, _, _, rfl, hs, ht, fun D hD => lc_it (walk_zip (K := K) (a := s) (b := t) (xs := sh.map V.int) (ys := ts.map V.int) (n := sh.length) (by rw [List.length_map, List.length_map, ← hl, Nat.min_self])) (fun i H' => Same H H' ∧ ∃ rs : List Addr, H' D = some (.lst (rs.map V.ref)) ∧ Rows D H' rs i (fr b sh ts)) ⟨Same.upd hD, [], upd_same, Rows.nil _ _ _⟩ (fun i H' _ h => ⟨h.1.seq hs, h.1.seq ht⟩) ?_ ?_⟩
    · rintro i v H' H'' hi ⟨e, rs, hd, hrow⟩ ⟨q, x, y, rfl, hq, rfl, hx, hy⟩
      obtain ⟨x, hx', rfl⟩ := getV hx
      obtain ⟨y, hy', rfl⟩ := getV hy
      have e1 := e.new (o := .tup [V.int x, V.int y]) hq
      have hrow1 := hrow.same (Same.upd (o := .tup [V.int x, V.int y]) hq)
      have hd1 : upd H' q (.tup [V.int x, V.int y]) D = some (.lst (rs.map V.ref)) := by rw [upd_ne (ne_of_none hd hq)]; exact hd
      have hq1 : upd H' q (.tup [V.int x, V.int y]) q = some (.tup [V.int x, V.int y]) := upd_same
      generalize upd H' q (.tup [V.int x, V.int y]) = H1 at e1 hrow1 hd1 hq1
      obtain ⟨x0, x1⟩ := hsh x (List.mem_of_getElem? hx')
      obtain ⟨y0, y1⟩ := hts y (List.mem_of_getElem? hy')
      have ef : fr b sh ts i = evL b x y := by
        unfold fr
        rw [List.getD_eq_getElem?_getD, List.getD_eq_getElem?_getD, hx', hy']
        rfl
      refine ⟨_, _, rfl, SqT.of hq1, rfl, _, _, rfl, _, _, rfl, rfl, rfl, _, rfl, _, rfl, _, rfl, b, x, y, rfl, b0, b1, x0, x1, Nat.lt_of_lt_of_le (show y.natAbs < 100 by omega) (by decide), fun p hp => ?_⟩
      have hne : p ≠ D := (ne_of_none hd1 hp).symm
      refine ⟨_, (by rw [upd_ne hne.symm]; exact hd1), small_of (m := 64) (by rw [List.length_map, hrow1.1]; omega), (e1.new hp).mut hD, rs ++ [p], ?_, ?_⟩
      · rw [upd_same, List.map_append]; rfl
      · exact ((hrow1.same (Same.upd hp)).push hne (by rw [upd_same, ef])).atD _
    · rintro HF ⟨eF, rs, hF, hrow⟩
      generalize D = pF at hF hrow
      refine ⟨_, rfl, _, rfl, by omega, by omega, fun D2 hD2 => lc_range (lo := 0) (n := b.toNat) (fun i H' => Same HF H' ∧ H' D2 = some (.lst (((List.range i).map (col (fr b sh ts) sh.length)).map V.int))) ⟨Same.upd hD2, upd_same⟩ ?_ ?_⟩
      · rintro i H' hi ⟨e2, hd2⟩
        refine ⟨rfl, _, rfl, pF, rfl, ⟨_, SqL.of (e2 _ _ hF)⟩, fun D3 hD3 => lc_list (K := K) (a := pF) (xs := rs.map V.ref) (fun j H'' => Same H' H'' ∧ H'' D3 = some (.lst (((List.range j).map fun j => (fr b sh ts j).getD i 0).map V.int))) ⟨Same.upd hD3, upd_same⟩ (fun j H'' _ h => SqL.of (h.1 _ _ (e2 _ _ hF))) ?_ ?_⟩
        · rintro j x H'' hj ⟨e3, hd3⟩
          obtain ⟨a, rfl, _, hjn, _, ha⟩ := hrow.get hj
          have ha' := e3 _ _ (e2 _ _ ha)
          refine ⟨rfl, _, rfl, _, rfl, _, _, _, _, rfl, rfl, SqL.of ha', atV (j := i) (by omega) (by unfold fr; rw [evL_len]; exact hi), _, hd3, small_of (m := 64) (by rw [List.length_map, List.length_map, List.length_range]; omega), e3.mut hD3, ?_⟩
          rw [upd_same, List.range_succ, List.map_append, List.map_append]
          rfl
        · rintro H'' ⟨e3, hd3⟩
          have hle : (rs.map V.ref).length = sh.length := by rw [List.length_map]; exact hrow.1
          rw [hle] at hd3
          refine ⟨_, _, rfl, SqL.of hd3, ?_⟩
          have hne : D2 ≠ D3 := ne_of_none hd2 hD3
          refine ⟨_, e3 _ _ hd2, small_of (m := 64) (by rw [List.length_map, List.length_map, List.length_range]; omega), (e2.trans e3).mut hD2, ?_⟩
          rw [upd_same, List.range_succ, List.map_append, List.map_append]
          rfl
      · rintro H' ⟨e2, hd2⟩
        refine ⟨_, _, rfl, SqL.of hd2, by rw [List.length_map, List.length_range]; omega, fun m hm hle => ?_⟩
        have em : mo b sh ts = m := mx_of hm hle
        have := k H' (eF.trans e2)
        rw [em] at this
        exact this
abbrev s_law_most : Stmt := top 28
theorem sc_law_most : FnScope ["_law_beats", "_law_shares_here", "_law_turns", "_law_k", "_law_frames", "_law_beat", "_law_frame_here"] ["_law_beats", "_law_shares_here", "_law_turns"] (defScope s_law_most) := ⟨rfl, rfl, rfl, by decide +kernel, rfl, by decide +kernel, by decide +kernel⟩
/-- _law_most(beats, shares, turns) -/
theorem ok_law_most {f : Addr} {fd : FuncData} (F : FunG K mg "_law_most" s_law_most f fd ["_law_beats", "_law_shares_here", "_law_turns"]) (T : Txt K mg) (c_law_even : Cl P w K mg base CX0 1 "_law_even" spLEven) : FnOk P w K mg base CX0 2 f fd ["_law_beats", "_law_shares_here", "_law_turns"] (spMost K) := by
  refine F.fn.ok sc_law_most (fun vs H Q E h => ?_) (fun cdv A outer s H vs Q E hr h => ?_)
  · obtain ⟨b, s, t, sh, ts, rfl, _⟩ := h
    rfl
  · obtain ⟨b, s, t, sh, ts, rfl, hs, ht, b0, b1, hsh, hl, hl2, hts, k⟩ := h
    refine ⟨_, (pss_cons (ps_set (i := 4) sc_law_most.nd rfl (.inr rfl) (pe_lc (own := [("_law_k", 3)]) (g := gName 3) (tt := tYes) (by rfl) sc_law_most.nd (pi_range1 (by rfl) T.b_range (pa_cons (pe_callB (clLen K) (by rfl) T.b_len (by decide +kernel) (pa_cons (pv 1) pa_nil)) pa_nil)) (blkOk_by (own := [("_law_k", 3)]) (N := ["_law_beats", "_law_shares_here", "_law_turns", "_law_k", "_law_frames", "_law_beat", "_law_frame_here"]) (sc := defScope s_law_most) (by decide +kernel)) (fun _ _ _ _ _ => (pg_name (i := 3) sc_law_most.nd rfl (.inl rfl))) (fun _ _ _ _ _ => pts_nil) (fun _ _ _ _ _ => (pe_cl c_law_even hr (by decide) (by rfl) (pa_cons (pv 0) (pa_cons (pe_ix (ixL K) (pv 1) (pv 3) (fun _ _ => rfl)) (pa_cons (pe_ix (ixL K) (pv 2) (pv 3) (fun _ _ => rfl)) pa_nil)))))))
      (pss_one (ps_ret (pe_callB (clMax K rfl) (by rfl) T.b_max (by decide +kernel) (pa_cons (pe_lc (own := [("_law_beat", 5)]) (g := gName 5) (tt := tYes) (by rfl) sc_law_most.nd (pi_range1 (by rfl) T.b_range (pa_cons (pv 0) pa_nil)) (blkOk_by (own := [("_law_beat", 5)]) (N := ["_law_beats", "_law_shares_here", "_law_turns", "_law_k", "_law_frames", "_law_beat", "_law_frame_here"]) (sc := defScope s_law_most) (by decide +kernel)) (fun _ _ _ _ _ => (pg_name (i := 5) sc_law_most.nd rfl (.inr rfl))) (fun _ _ _ _ _ => pts_nil) (fun _ _ _ _ _ => (pe_callB (clSum K rfl) (by rfl) T.b_sum (by decide +kernel) (pa_cons (pe_lc (own := [("_law_frame_here", 6)]) (g := gName 6) (tt := tYes) (by rfl) sc_law_most.nd (piListK K (pv 4)) (blkOk_by (own := [("_law_frame_here", 6)]) (N := ["_law_beats", "_law_shares_here", "_law_turns", "_law_k", "_law_frames", "_law_beat", "_law_frame_here"]) (sc := { kind := .function, names := [(".0", .local), ("_law_beat", .cell), ("sum", .globalImplicit), ("_law_frames", .cell)], isGenerator := false, isCoroutine := false }) (by decide +kernel)) (fun _ _ _ _ _ => (pg_name (i := 6) sc_law_most.nd rfl (.inl rfl))) (fun _ _ _ _ _ => pts_nil) (fun _ _ _ _ _ => (pe_ix (ixL K) (pv 6) (pv 5) (fun _ _ => rfl)))) pa_nil)))) pa_nil))))), ?_⟩
    have hlen : (sh.map V.int).length = sh.length := List.length_map _
    refine ⟨_, rfl, _, _, rfl, .inl hs, _, rfl, by rw [hlen]; omega, by rw [hlen]; omega, fun D hD => lc_range (lo := 0) (n := ((sh.map V.int).length : Int).toNat) (fun i H' => Same H H' ∧ ∃ rs : List Addr, H' D = some (.lst (rs.map V.ref)) ∧ Rows D H' rs i (fr b sh ts)) ⟨Same.upd hD, [], upd_same, Rows.nil _ _ _⟩ ?_ ?_⟩
    · rintro i H1 hi ⟨e1, rs, hd1, hrow1⟩
      rw [hlen] at hi
      have hi : i < sh.length := by omega
      have x01 := hsh (sh.getD i 0) (by rw [List.getD_eq_getElem?_getD, List.getElem?_eq_getElem hi]; exact List.getElem_mem hi)
      have y01 := hts (ts.getD i 0) (by rw [List.getD_eq_getElem?_getD, List.getElem?_eq_getElem (by omega)]; exact List.getElem_mem _)
      obtain ⟨x0, x1⟩ := x01
      obtain ⟨y0, y1⟩ := y01
      refine ⟨rfl, _, rfl, _, rfl, _, rfl, _, _, _, _, rfl, rfl, e1.seq hs, atV (j := i) (by omega) hi, _, rfl, _, rfl, _, _, _, _, rfl, rfl, e1.seq ht, atV (j := i) (by omega) (by omega), b, sh.getD i 0, ts.getD i 0, rfl, b0, b1, x0, x1, Nat.lt_of_lt_of_le (show (ts.getD i 0).natAbs < 100 by omega) (by decide), fun p hp => ?_⟩
      have hne : p ≠ D := (ne_of_none hd1 hp).symm
      refine ⟨_, (by rw [upd_ne hne.symm]; exact hd1), small_of (m := 64) (by rw [List.length_map, hrow1.1]; omega), (e1.new hp).mut hD, rs ++ [p], ?_, ?_⟩
      · rw [upd_same, List.map_append]; rfl
      · exact ((hrow1.same (Same.upd hp)).push hne upd_same).atD _
    · rintro HF ⟨eF, rs, hF, hrow⟩
      rw [hlen, Int.toNat_natCast] at hrow
      generalize D = pF at hF hrow
      refine ⟨_, rfl, _, rfl, by omega, by omega, fun D2 hD2 => lc_range (lo := 0) (n := b.toNat) (fun i H' => Same HF H' ∧ H' D2 = some (.lst (((List.range i).map (col (fr b sh ts) sh.length)).map V.int))) ⟨Same.upd hD2, upd_same⟩ ?_ ?_⟩
      · rintro i H' hi ⟨e2, hd2⟩
        refine ⟨rfl, _, rfl, pF, rfl, ⟨_, SqL.of (e2 _ _ hF)⟩, fun D3 hD3 => lc_list (K := K) (a := pF) (xs := rs.map V.ref) (fun j H'' => Same H' H'' ∧ H'' D3 = some (.lst (((List.range j).map fun j => (fr b sh ts j).getD i 0).map V.int))) ⟨Same.upd hD3, upd_same⟩ (fun j H'' _ h => SqL.of (h.1 _ _ (e2 _ _ hF))) ?_ ?_⟩
        · rintro j x H'' hj ⟨e3, hd3⟩
          obtain ⟨a, rfl, _, hjn, _, ha⟩ := hrow.get hj
          have ha' := e3 _ _ (e2 _ _ ha)
          refine ⟨rfl, _, rfl, _, rfl, _, _, _, _, rfl, rfl, SqL.of ha', atV (j := i) (by omega) (by unfold fr; rw [evL_len]; exact hi), _, hd3, small_of (m := 64) (by rw [List.length_map, List.length_map, List.length_range]; omega), e3.mut hD3, ?_⟩
          rw [upd_same, List.range_succ, List.map_append, List.map_append]
          rfl
        · rintro H'' ⟨e3, hd3⟩
          have hle : (rs.map V.ref).length = sh.length := by rw [List.length_map]; exact hrow.1
          rw [hle] at hd3
          refine ⟨_, _, rfl, SqL.of hd3, ?_⟩
          have hne : D2 ≠ D3 := ne_of_none hd2 hD3
          refine ⟨_, e3 _ _ hd2, small_of (m := 64) (by rw [List.length_map, List.length_map, List.length_range]; omega), (e2.trans e3).mut hD2, ?_⟩
          rw [upd_same, List.range_succ, List.map_append, List.map_append]
          rfl
      · rintro H' ⟨e2, hd2⟩
        refine ⟨_, _, rfl, SqL.of hd2, by rw [List.length_map, List.length_range]; omega, fun m hm hle => ?_⟩
        have em : mo b sh ts = m := mx_of hm hle
        have := k H' (eF.trans e2)
        rw [em] at this
        exact this
end
end My

namespace My
open PySem L2
section
variable {P : Program} {w : World} {K : PySem.W.Frag} {mg : Str → Option Value} {base : Heap}
abbrev s_need_shares : Stmt := top 13
theorem sc_need_shares : FnScope ["beats", "shares", "share"] ["beats", "shares"] (defScope s_need_shares) := ⟨rfl, rfl, rfl, by decide +kernel, rfl, by decide +kernel, by decide +kernel⟩
/-- need_shares(beats, shares), good ones -/
def spNeedShares (K : PySem.W.Frag) : Sp := fun vs H Q _ => ∃ (b : Int) (s : Addr) (sh : List Int), vs = [.int b, .ref s] ∧ SqL K H s (sh.map V.int) ∧ 1 ≤ b ∧ b ≤ 64 ∧ (∀ x ∈ sh, 0 ≤ x ∧ x ≤ b) ∧ sh.length ≤ 12 ∧ ∀ H', Same H H' → Q .non H'
theorem ok_need_shares {f : Addr} {fd : FuncData} (F : FunG K mg "need_shares" s_need_shares f fd ["beats", "shares"]) (T : Txt K mg) (c_need_beats : Cl P w K mg base CX0 1 "need_beats" spNeedBeats) : FnOk P w K mg base CX0 2 f fd ["beats", "shares"] (spNeedShares K) := by
  refine F.fn.ok sc_need_shares (fun vs H Q E h => ?_) (fun cdv A outer s H vs Q E hr h => ?_)
  · obtain ⟨b, s, sh, rfl, _⟩ := h
    rfl
  · obtain ⟨b, s, sh, rfl, hs, b0, b1, hsh, hl, k⟩ := h
    refine ⟨_, (pss_cons (ps_expr (pe_cl c_need_beats hr (by decide) (by rfl) (pa_cons (pv 0) pa_nil)))
      (pss_one (ps_if (PW.pt (pw_or (pt_cmpR op_gt (pe_callB (clLen K) (by rfl) T.b_len (by decide +kernel) (pa_cons (pv 1) pa_nil)) (C8.pe_gc (by rfl) T.k_MOST_SHARES) (nomark _)) (pw_or1 (pt_cmpR (opNeD K hr.units) (pe_lc (own := [("share", 2)]) (g := gName 2) (by rfl) sc_need_shares.nd (pi_list (pv 1)) (blkOk_by (own := [("share", 2)]) (N := ["beats", "shares", "share"]) (sc := defScope s_need_shares) (by decide +kernel)) (fun _ _ _ _ _ => (pg_name (i := 2) sc_need_shares.nd rfl (.inl rfl))) (fun _ _ _ _ _ => (pts_one (pt_not (pt_chain op_le op_le pe_int (pv 2) (pv 0))))) (fun _ _ _ _ _ => (pv 2))) (pe_lst pa_nil) (nomark _))))) (pss_one ps_never) pss_nil))), ?_⟩
    have hlen : (sh.map V.int).length = sh.length := List.length_map _
    refine ⟨_, rfl, b, rfl, b0, b1, ?_⟩
    refine ⟨_, rfl, _, _, rfl, .inl hs, _, _, rfl, rfl, _, rfl, iteFe (decide_eq_false (by rw [hlen]; omega)) ?_⟩
    refine ⟨_, rfl, _, rfl, ⟨_, hs⟩, fun D hD => lc_list (K := K) (a := s) (xs := sh.map V.int) (fun i H' => Same H H' ∧ H' D = some (.lst [])) ⟨Same.upd hD, upd_same⟩ (fun i H' _ h => h.1.seq hs) ?_ ?_⟩
    · rintro i x H' hi ⟨e, hd⟩
      obtain ⟨z, hz, rfl⟩ := getV hi
      obtain ⟨z0, z1⟩ := hsh z (List.mem_of_getElem? hz)
      refine ⟨rfl, _, rfl, _, _, rfl, rfl, _, rfl, iteTe (decide_eq_true z0) ⟨_, rfl, _, _, rfl, rfl, _, rfl, ?_⟩⟩
      exact iteFe (c := !decide (z ≤ b)) (by rw [decide_eq_true z1]; rfl) ⟨e, hd⟩
    · rintro H' ⟨e, hd⟩
      refine ⟨Nat.zero_le _, fun q hq => ⟨_, _, dp_nil (SqL.of (by rw [upd_ne (ne_of_none hd hq)]; exact hd)), dp_nil (SqL.of upd_same), dI_shaped _, dI_shaped _, _, rfl, ?_⟩⟩
      rw [dI_eqv]
      exact iteF (k _ (e.new hq))
abbrev s_peak_of : Stmt := top 14
theorem sc_peak_of : FnScope ["beats", "shares"] ["beats", "shares"] (defScope s_peak_of) := ⟨rfl, rfl, rfl, by decide +kernel, rfl, by decide +kernel, by decide +kernel⟩
/-- peak_of(beats, shares) -/
theorem sum_bd {b : Int} : ∀ {sh : List Int}, (∀ x ∈ sh, 0 ≤ x ∧ x ≤ b) → 0 ≤ sh.sum ∧ sh.sum ≤ sh.length * b
  | [], _ => by simp
  | x :: xs, h => by
    have h1 := sum_bd (sh := xs) fun y hy => h y (List.mem_cons_of_mem _ hy)
    have h2 := h x List.mem_cons_self
    rw [List.sum_cons, List.length_cons, Int.natCast_add, Int.add_mul]
    omega
def spPeakOf (K : PySem.W.Frag) : Sp := fun vs H Q _ => ∃ (b : Int) (s : Addr) (sh : List Int), vs = [.int b, .ref s] ∧ SqL K H s (sh.map V.int) ∧ 1 ≤ b ∧ b ≤ 64 ∧ Q (.int ((sh.sum + b - 1) / b)) H
theorem ok_peak_of {f : Addr} {fd : FuncData} (F : FunG K mg "peak_of" s_peak_of f fd ["beats", "shares"]) (T : Txt K mg) : FnOk P w K mg base CX0 1 f fd ["beats", "shares"] (spPeakOf K) := by
  refine F.fn.ok sc_peak_of (fun vs H Q E h => ?_) (fun cdv A outer s H vs Q E hr h => ?_)
  · obtain ⟨b, s, sh, rfl, _⟩ := h
    rfl
  · obtain ⟨b, s, sh, rfl, hs, b0, b1, k⟩ := h
    refine ⟨_, (pss_one (ps_ret (pe_op op_fdivW (pe_op op_sub (pe_op op_add (pe_callB (clSum K rfl) (by rfl) T.b_sum (by decide +kernel) (pa_cons (pv 1) pa_nil)) (pv 0)) pe_int) (pv 0)))), ?_⟩
    exact ⟨_, rfl, _, _, rfl, hs, _, rfl, _, _, rfl, rfl, _, _, rfl, rfl, _, rfl, _, _, rfl, rfl, wide_div (b := 7) (by omega) (by omega) (by decide) (by decide), k⟩
abbrev s_peak : Stmt := top 15
theorem sc_peak : FnScope ["beats", "shares"] ["beats", "shares"] (defScope s_peak) := ⟨rfl, rfl, rfl, by decide +kernel, rfl, by decide +kernel, by decide +kernel⟩
/-- peak(beats, shares) -/
def spPeak (K : PySem.W.Frag) : Sp := fun vs H Q _ => ∃ (b : Int) (s : Addr) (sh : List Int), vs = [.int b, .ref s] ∧ SqL K H s (sh.map V.int) ∧ 1 ≤ b ∧ b ≤ 64 ∧ (∀ x ∈ sh, 0 ≤ x ∧ x ≤ b) ∧ sh.length ≤ 12 ∧ ∀ H', Same H H' → Q (.int ((sh.sum + b - 1) / b)) H'
theorem ok_peak {f : Addr} {fd : FuncData} (F : FunG K mg "peak" s_peak f fd ["beats", "shares"]) (c_need_shares : Cl P w K mg base CX0 2 "need_shares" (spNeedShares K)) (c_peak_of : Cl P w K mg base CX0 1 "peak_of" (spPeakOf K)) : FnOk P w K mg base CX0 3 f fd ["beats", "shares"] (spPeak K) := by
  refine F.fn.ok sc_peak (fun vs H Q E h => ?_) (fun cdv A outer s H vs Q E hr h => ?_)
  · obtain ⟨b, s, sh, rfl, _⟩ := h
    rfl
  · obtain ⟨b, s, sh, rfl, hs, b0, b1, hsh, hl, k⟩ := h
    refine ⟨_, (pss_cons (ps_expr (pe_cl c_need_shares hr (by decide) (by rfl) (pa_cons (pv 0) (pa_cons (pv 1) pa_nil))))
      (pss_one (ps_ret (pe_cl c_peak_of hr (by decide) (by rfl) (pa_cons (pv 0) (pa_cons (pv 1) pa_nil)))))), ?_⟩
    refine ⟨_, rfl, _, rfl, b, s, sh, rfl, hs, b0, b1, hsh, hl, fun H1 e1 => ?_⟩
    exact ⟨_, rfl, _, rfl, b, s, sh, rfl, e1.seq hs, b0, b1, k H1 e1⟩
abbrev s_all_turns : Stmt := top 16
theorem sc_all_turns : FnScope ["beats", "many", "found", "step", "longer", "row", "turn"] ["beats", "many"] (defScope s_all_turns) := ⟨rfl, rfl, rfl, by decide +kernel, rfl, by decide +kernel, by decide +kernel⟩
/-- all_turns(beats, many): new lists -/
def spAllTurns (K : PySem.W.Frag) : Sp := fun vs H Q _ => ∃ b m : Nat, vs = [.int (b : Int), .int (m : Int)] ∧ 1 ≤ b ∧ b ≤ 12 ∧ m ≤ 3 ∧
  ∀ p H' rs, Same H H' → H p = none → H' p = some (.lst (rs.map V.ref)) → Rows p H' rs (b ^ m) (rowD b m) → (∀ a ∈ rs, H a = none) → Q (.ref p) H'
theorem pow_bd {b m : Nat} (h1 : 1 ≤ b) (hb : b ≤ 12) (hm : m ≤ 3) : b ^ m ≤ 1728 :=
  Nat.le_trans (Nat.pow_le_pow_right h1 hm) (Nat.le_trans (Nat.pow_le_pow_left hb 3) (by decide))
theorem ok_all_turns {f : Addr} {fd : FuncData} (F : FunG K mg "all_turns" s_all_turns f fd ["beats", "many"]) (T : Txt K mg) : FnOk P w K mg base CX0 1 f fd ["beats", "many"] (spAllTurns K) := by
  refine F.fn.ok sc_all_turns (fun vs H Q E h => ?_) (fun cdv A outer s H vs Q E hr h => ?_)
  · obtain ⟨b, m, rfl, _⟩ := h
    rfl
  · obtain ⟨b, m, rfl, b0, b1, hm, k⟩ := h
    refine ⟨_, (pss_cons (ps_set (i := 2) sc_all_turns.nd rfl (.inl rfl) (pe_lst (pa_cons (pe_lst pa_nil) pa_nil)))
      (pss_cons (ps_for PassesOwn.never (by rfl) (pi_range1 (by rfl) T.b_range (pa_cons (pv 1) pa_nil)) (pg_name (i := 3) sc_all_turns.nd rfl (.inl rfl)) (pss_cons (ps_set (i := 4) sc_all_turns.nd rfl (.inl rfl) (pe_lst pa_nil))
      (pss_cons (ps_for PassesOwn.never (by rfl) (pi_list (pv 2)) (pg_name (i := 5) sc_all_turns.nd rfl (.inr rfl)) (pss_one (ps_expr (pe_bm PySem.F.plainAttrs_list PySem.F.slot_list_extend PySem.F.type_list_extend mt_extend (pv 4) (pa_cons (pe_lc (own := [("turn", 6)]) (g := gName 6) (tt := tYes) (by rfl) sc_all_turns.nd (pi_range1 (by rfl) T.b_range (pa_cons (pv 0) pa_nil)) (blkOk_by (own := [("turn", 6)]) (N := ["beats", "many", "found", "step", "longer", "row", "turn"]) (sc := defScope s_all_turns) (by decide +kernel)) (fun _ _ _ _ _ => (pg_name (i := 6) sc_all_turns.nd rfl (.inl rfl))) (fun _ _ _ _ _ => pts_nil) (fun _ _ _ _ _ => (pe_op op_cat (pv 5) (pe_lst (pa_cons (pv 6) pa_nil))))) pa_nil)))))
      (pss_one (ps_set (i := 2) sc_all_turns.nd rfl (.inl rfl) (pv 4))))))
      (pss_one (ps_ret (pv 2))))), ?_⟩
    refine ⟨Nat.zero_le _, fun z hz => ⟨(by show 1 ≤ sizeLine; decide), fun p hp => ?_⟩⟩
    have hzp : z ≠ p := ne_of_none upd_same hp
    refine ⟨_, rfl, _, rfl, by omega, by omega, for_range (lo := 0) (n := (m : Int).toNat) (fun i σ H' => (∃ v3 v4 v5 v6 : Option V, ∃ (p : Addr) (rs : List Addr), σ = [some (.int (b : Int)), some (.int (m : Int)), some (.ref p), v3, v4, v5, v6] ∧ H p = none ∧ H' p = some (.lst (rs.map V.ref)) ∧ Rows p H' rs (b ^ i) (rowD b i) ∧ ∀ a ∈ rs, H a = none) ∧ Same H H') ?_ ?_ ?_⟩
    · refine ⟨⟨none, none, none, none, p, [z], rfl, (Same.upd hz).free hp, upd_same, ⟨rfl, fun i a hi => ?_⟩, fun a ha => ?_⟩, (Same.upd hz).new hp⟩
      · have : i = 0 := by
          have := (List.getElem?_eq_some_iff.mp hi).1
          simp at this; omega
        subst this
        cases hi
        exact ⟨hzp, by rw [upd_ne hzp]; exact upd_same⟩
      · rw [List.mem_singleton] at ha
        subst ha; exact hz
    · rintro i σ H1 hi ⟨⟨v3, v4, v5, v6, p, rs, rfl, hpn, hp1, hrow, hfree⟩, e1⟩
      have hi' : i + 1 ≤ 3 := by omega
      refine ⟨Nat.zero_le _, fun L hL => ?_⟩
      have hLn : H L = none := e1.free hL
      have hpL : p ≠ L := ne_of_none hp1 hL
      refine ⟨_, rfl, p, rfl, ⟨_, SqL.of (by rw [upd_ne hpL]; exact hp1)⟩, ?_⟩
      refine for_list (K := K) (a := p) (xs := rs.map V.ref) (fun j σ H' => (∃ v5 v6 : Option V, ∃ qs : List Addr, σ = [some (.int (b : Int)), some (.int (m : Int)), some (.ref p), some (.int (0 + (i : Int))), some (.ref L), v5, v6] ∧ H' L = some (.lst (qs.map V.ref)) ∧ Rows L H' qs (j * b) (rowD b (i + 1)) ∧ ∀ a ∈ qs, H a = none) ∧ Same H1 H') ?_ ?_ ?_ ?_
      · refine ⟨⟨v5, v6, [], rfl, upd_same, by rw [Nat.zero_mul]; exact Rows.nil _ _ _, fun a ha => by simp at ha⟩, Same.upd hL⟩
      · rintro j σ H' _ ⟨_, e⟩
        exact SqL.of (e _ _ hp1)
      · rintro j x σ H2 hj ⟨⟨v5, v6, qs, rfl, hL2, hq2, hfq⟩, e2⟩
        obtain ⟨a, rfl, _, hjn, _, ha⟩ := hrow.get hj
        have ha2 := e2 _ _ ha
        refine ⟨_, rfl, .inl ⟨rfl, _, SqL.of hL2⟩, _, rfl, _, rfl, by omega, by omega, fun D hD => ?_⟩
        have hDL : L ≠ D := ne_of_none hL2 hD
        have eD0 : Same H H2 := e1.trans e2
        refine lc_range (lo := 0) (n := (b : Int).toNat) (fun t H' => Same H2 H' ∧ ∃ ws : List Addr, H' D = some (.lst (ws.map V.ref)) ∧ Rows D H' ws t (fun t => rowD b (i + 1) (j * b + t)) ∧ ∀ a ∈ ws, a ≠ L ∧ H a = none) ⟨Same.upd hD, [], upd_same, Rows.nil _ _ _, fun a ha => by simp at ha⟩ ?_ ?_
        · rintro t H3 ht ⟨e3, ws, hd3, hw3, hf3⟩
          have ht : t < b := by omega
          refine ⟨rfl, _, rfl, _, rfl, (by show 1 ≤ sizeLine; decide), fun u hu => ?_⟩
          have ha3 := e3 _ _ ha2
          have hau : a ≠ u := ne_of_none ha3 hu
          refine ⟨_, _, _, _, rfl, rfl, (by rw [upd_ne hau]; exact ha3), upd_same, small_le (m := 10) (by rw [List.length_map, rowD_len]; show i + 1 ≤ 10; omega), fun r hr' => ?_⟩
          have e4 : Same H3 (upd H3 u (.lst [.int (0 + (t : Int))])) := Same.upd hu
          have ev : (rowD b i j).map V.int ++ [V.int (0 + (t : Int))] = (rowD b (i + 1) (j * b + t)).map V.int := by
            rw [rowD_step ht, List.map_append, Int.zero_add]; rfl
          rw [ev]
          have e5 := e4.new (o := .lst ((rowD b (i + 1) (j * b + t)).map V.int)) hr'
          have hr5 : upd (upd H3 u (.lst [.int (0 + (t : Int))])) r (.lst ((rowD b (i + 1) (j * b + t)).map V.int)) r = some (.lst ((rowD b (i + 1) (j * b + t)).map V.int)) := upd_same
          have hrn : H3 r = none := e4.free hr'
          generalize upd (upd H3 u (.lst [.int (0 + (t : Int))])) r (.lst ((rowD b (i + 1) (j * b + t)).map V.int)) = H5 at e5 hr5
          have hd5 := e5 _ _ hd3
          have hrD : r ≠ D := (ne_of_none hd3 hrn).symm
          have hrL : r ≠ L := (ne_of_none (e3 _ _ hL2) hrn).symm
          refine ⟨_, hd5, small_of (m := 64) (by rw [List.length_map, hw3.1]; omega), (e3.trans e5).mut hD, ws ++ [r], ?_, ((hw3.same e5).push hrD hr5).atD _, fun a ha => ?_⟩
          · rw [upd_same, List.map_append]; rfl
          · rcases List.mem_append.mp ha with h | h
            · exact hf3 a h
            · rw [List.mem_singleton] at h
              subst h
              exact ⟨hrL, eD0.free (e3.free hrn)⟩
        · rintro H3 ⟨e3, ws, hd3, hw3, hf3⟩
          rw [Int.toNat_natCast] at hw3
          have hL3 := e3 _ _ hL2
          have hjb : b ^ i * b ≤ 1728 := by
            have := pow_bd b0 b1 hi'
            rwa [Nat.pow_succ] at this
          have hjj : (j + 1) * b ≤ b ^ i * b := Nat.mul_le_mul_right b hjn
          have hj1 : j * b + b ≤ 1728 := by rw [Nat.add_mul, Nat.one_mul] at hjj; omega
          refine ⟨_, _, _, _, rfl, rfl, hL3, hd3, small_le (m := 1728) (by rw [List.length_map, List.length_map, hq2.1, hw3.1]; exact hj1), ?_⟩
          have hLH1 : H1 L = none := hL
          have hq3 := hq2.same e3
          refine ⟨⟨_, _, qs ++ ws, rfl, by rw [upd_same, List.map_append], ⟨by rw [List.length_append, hq2.1, hw3.1, Nat.add_mul, Nat.one_mul], fun u a hu => ?_⟩, fun a ha => ?_⟩, (e2.trans e3).mut hLH1⟩
          · by_cases c : u < qs.length
            · rw [List.getElem?_append_left c] at hu
              exact ((hq3.atD _).2 u a hu)
            · rw [List.getElem?_append_right (by omega)] at hu
              obtain ⟨_, h2⟩ := hw3.2 _ _ hu
              have hne := (hf3 a (List.mem_of_getElem? hu)).1
              refine ⟨hne, ?_⟩
              rw [upd_ne hne, h2, hq2.1]
              have : j * b + (u - j * b) = u := by
                have := hq2.1
                omega
              simp only [this]
          · rcases List.mem_append.mp ha with h | h
            · exact hfq a h
            · exact (hf3 a h).2
      · rintro σ H2 ⟨⟨v5, v6, qs, rfl, hL2, hq2, hfq⟩, e2⟩
        rw [List.length_map, hrow.1, ← Nat.pow_succ] at hq2
        exact ⟨_, rfl, ⟨_, _, _, _, L, qs, rfl, hLn, hL2, hq2, hfq⟩, e1.trans e2⟩
    · rintro σ H1 ⟨⟨v3, v4, v5, v6, p, rs, rfl, hpn, hp1, hrow, hfree⟩, e1⟩
      rw [Int.toNat_natCast] at hrow
      exact ⟨_, rfl, k p H1 rs e1 hpn hp1 hrow hfree⟩
end
end My

namespace My
open PySem L2
section
variable {P : Program} {w : World} {K : PySem.W.Frag} {mg : Str → Option Value} {base : Heap}
abbrev s_turned : Stmt := top 18
theorem sc_turned : FnScope ["beats", "shares", "rows", "row", "least"] ["beats", "shares"] (defScope s_turned) := ⟨rfl, rfl, rfl, by decide +kernel, rfl, by decide +kernel, by decide +kernel⟩
/-- turned(beats, shares), few beats and few shares: the least, the first turns that have it -/
def spTurned (K : PySem.W.Frag) : Sp := fun vs H Q _ => ∃ (b : Int) (s : Addr) (sh : List Int), vs = [.int b, .ref s] ∧ SqL K H s (sh.map V.int) ∧ 1 ≤ b ∧ b ≤ 12 ∧ (∀ x ∈ sh, 0 ≤ x ∧ x ≤ b) ∧ sh.length ≤ 3 ∧
  ∀ p row i1 H', Same H H' → H p = none → H row = none → H' p = some (.tup [.int (mo b sh (rowD b.toNat sh.length i1)), .ref row]) → H' row = some (.lst ((rowD b.toNat sh.length i1).map V.int)) → i1 < b.toNat ^ sh.length →
    (∀ j, j < b.toNat ^ sh.length → mo b sh (rowD b.toNat sh.length i1) ≤ mo b sh (rowD b.toNat sh.length j)) → (∀ j, j < i1 → mo b sh (rowD b.toNat sh.length j) ≠ mo b sh (rowD b.toNat sh.length i1)) → Q (.ref p) H'
theorem ok_turned {f : Addr} {fd : FuncData} (F : FunG K mg "turned" s_turned f fd ["beats", "shares"]) (T : Txt K mg) (c_need_shares : Cl P w K mg base CX0 2 "need_shares" (spNeedShares K)) (c_all_turns : Cl P w K mg base CX0 1 "all_turns" (spAllTurns K)) (c_most_on : Cl P w K mg base CX0 2 "most_on" (spMost K)) : FnOk P w K mg base CX0 3 f fd ["beats", "shares"] (spTurned K) := by
  refine F.fn.ok sc_turned (fun vs H Q E h => ?_) (fun cdv A outer s H vs Q E hr h => ?_)
  · obtain ⟨b, s, sh, rfl, _⟩ := h
    rfl
  · obtain ⟨b, s, sh, rfl, hs, b0, b1, hsh, hl, k⟩ := h
    refine ⟨_, (pss_cons (ps_expr (pe_cl c_need_shares hr (by decide) (by rfl) (pa_cons (pv 0) (pa_cons (pv 1) pa_nil))))
      (pss_cons (ps_if (PW.pt (pw_or (pt_cmpR op_gt (pv 0) (C8.pe_gc (by rfl) T.k_FEW_BEATS) (nomark _)) (pw_or1 (pt_cmpR op_gt (pe_callB (clLen K) (by rfl) T.b_len (by decide +kernel) (pa_cons (pv 1) pa_nil)) (C8.pe_gc (by rfl) T.k_FEW_SHARES) (nomark _))))) (pss_one ps_never) pss_nil)
      (pss_cons (ps_set (i := 2) sc_turned.nd rfl (.inl rfl) (pe_cl c_all_turns hr (by decide) (by rfl) (pa_cons (pv 0) (pa_cons (pe_callB (clLen K) (by rfl) T.b_len (by decide +kernel) (pa_cons (pv 1) pa_nil)) pa_nil))))
      (pss_cons (ps_set (i := 4) sc_turned.nd rfl (.inr rfl) (pe_callB (clMin K rfl) (by rfl) T.b_min (by decide +kernel) (pa_cons (pe_lc (own := [("row", 3)]) (g := gName 3) (tt := tYes) (by rfl) sc_turned.nd (pi_list (pv 2)) (blkOk_by (own := [("row", 3)]) (N := ["beats", "shares", "rows", "row", "least"]) (sc := defScope s_turned) (by decide +kernel)) (fun _ _ _ _ _ => (pg_name (i := 3) sc_turned.nd rfl (.inl rfl))) (fun _ _ _ _ _ => pts_nil) (fun _ _ _ _ _ => (pe_cl c_most_on hr (by decide) (by rfl) (pa_cons (pv 0) (pa_cons (pv 1) (pa_cons (pv 3) pa_nil)))))) pa_nil)))
      (pss_one (ps_ret (pe_tup (pa_cons (pv 4) (pa_cons (pe_ix (ixL K) (pe_lc (own := [("row", 3)]) (g := gName 3) (by rfl) sc_turned.nd (pi_list (pv 2)) (blkOk_by (own := [("row", 3)]) (N := ["beats", "shares", "rows", "row", "least"]) (sc := defScope s_turned) (by decide +kernel)) (fun _ _ _ _ _ => (pg_name (i := 3) sc_turned.nd rfl (.inl rfl))) (fun _ _ _ _ _ => (pts_one (pt_cmpR op_eq (pe_cl c_most_on hr (by decide) (by rfl) (pa_cons (pv 0) (pa_cons (pv 1) (pa_cons (pv 3) pa_nil)))) (pv 4) (nomark _)))) (fun _ _ _ _ _ => (pv 3))) pe_int (fun _ _ => rfl)) pa_nil))))))))), ?_⟩
    have hlen : (sh.map V.int).length = sh.length := List.length_map _
    have hB : (b.toNat : Int) = b := Int.toNat_of_nonneg (by omega)
    have hB1 : 1 ≤ b.toNat := by omega
    have hrd : ∀ j, ∀ t ∈ rowD b.toNat sh.length j, 0 ≤ t ∧ t < b := fun j t ht => by
      have := rowD_bd hB1 sh.length j t ht
      omega
    have hpow := pow_bd hB1 (show b.toNat ≤ 12 by omega) hl
    have hpos : 0 < b.toNat ^ sh.length := Nat.pow_pos hB1
    refine ⟨_, rfl, _, rfl, b, s, sh, rfl, hs, b0, by omega, hsh, by omega, fun H1 e1 => ?_⟩
    refine ⟨_, rfl, _, _, rfl, rfl, _, rfl, iteFe (decide_eq_false (by omega)) ⟨_, rfl, _, _, rfl, .inl (e1.seq hs), _, _, rfl, rfl, _, rfl, iteFe (decide_eq_false (by rw [hlen]; omega)) ?_⟩⟩
    refine ⟨_, rfl, _, rfl, _, _, rfl, .inl (e1.seq hs), b.toNat, sh.length, by rw [hB, hlen]; rfl, hB1, by omega, hl, fun rp H2 rs e2 hrp hrp2 hrow hfree => ?_⟩
    have e12 := e1.trans e2
    refine ⟨_, rfl, rp, rfl, ⟨_, SqL.of hrp2⟩, fun D hD => ?_⟩
    refine lc_list (K := K) (a := rp) (xs := rs.map V.ref) (fun i H' => Same H2 H' ∧ H' D = some (.lst (((List.range i).map fun j => mo b sh (rowD b.toNat sh.length j)).map V.int))) ⟨Same.upd hD, upd_same⟩ (fun i H' _ h => SqL.of (h.1 _ _ hrp2)) ?_ ?_
    · rintro i x H3 hi ⟨e3, hd3⟩
      obtain ⟨a, rfl, _, hin, _, ha⟩ := hrow.get hi
      refine ⟨rfl, _, rfl, _, rfl, _, rfl, b, s, a, sh, rowD b.toNat sh.length i, rfl, (e12.trans e3).seq hs, SqL.of (e3 _ _ ha), b0, by omega, hsh, (rowD_len _ _ _).symm, by omega, hrd i, fun H4 e4 => ?_⟩
      refine ⟨_, e4 _ _ hd3, small_of (m := 1728) (by rw [List.length_map, List.length_map, List.length_range]; omega), (e3.trans e4).mut hD, ?_⟩
      rw [upd_same, List.range_succ, List.map_append, List.map_append]
      rfl
    · rintro H3 ⟨e3, hd3⟩
      have hln : (rs.map V.ref).length = b.toNat ^ sh.length := by rw [List.length_map]; exact hrow.1
      rw [hln] at hd3
      refine ⟨_, _, rfl, SqL.of hd3, by rw [List.length_map, List.length_range]; exact hpos, fun mn hm hle => ?_⟩
      have e13 := e12.trans e3
      refine ⟨_, rfl, _, rfl, rp, rfl, ⟨_, SqL.of (e3 _ _ hrp2)⟩, fun D2 hD2 => ?_⟩
      refine lc_list (K := K) (a := rp) (xs := rs.map V.ref) (fun i H' => Same H3 H' ∧ ∃ acc : List V, H' D2 = some (.lst acc) ∧ acc.length ≤ i ∧ ((acc = [] ∧ ∀ j, j < i → mo b sh (rowD b.toNat sh.length j) ≠ mn) ∨ ∃ (i1 : Nat) (a : Addr) (rest : List V), acc = .ref a :: rest ∧ rs[i1]? = some a ∧ i1 < i ∧ mo b sh (rowD b.toNat sh.length i1) = mn ∧ ∀ j, j < i1 → mo b sh (rowD b.toNat sh.length j) ≠ mn)) ⟨Same.upd hD2, [], upd_same, Nat.le_refl _, .inl ⟨rfl, fun j hj => absurd hj (Nat.not_lt_zero _)⟩⟩ (fun i H' _ h => SqL.of (h.1 _ _ (e3 _ _ hrp2))) ?_ ?_
      · rintro i x H4 hi ⟨e4, acc, hd4, hal, hacc⟩
        obtain ⟨a, rfl, hia, hin, _, ha⟩ := hrow.get hi
        refine ⟨rfl, _, rfl, _, rfl, _, rfl, b, s, a, sh, rowD b.toNat sh.length i, rfl, (e13.trans e4).seq hs, SqL.of (e4 _ _ (e3 _ _ ha)), b0, by omega, hsh, (rowD_len _ _ _).symm, by omega, hrd i, fun H5 e5 => ?_⟩
        refine ⟨_, rfl, rfl, _, rfl, ?_⟩
        have hd5 := e5 _ _ hd4
        by_cases c : mo b sh (rowD b.toNat sh.length i) = mn
        · refine iteTe (decide_eq_true (congrArg V.int c)) ⟨_, rfl, _, hd5, small_of (m := 1728) (by omega), (e4.trans e5).mut hD2, _, upd_same, by rw [List.length_append]; exact Nat.succ_le_succ hal, ?_⟩
          right
          rcases hacc with ⟨rfl, hn⟩ | ⟨i1, a1, rest, rfl, h1, h2, h3, h4⟩
          · exact ⟨i, a, [], rfl, hia, Nat.lt_succ_self i, c, hn⟩
          · exact ⟨i1, a1, rest ++ [.ref a], rfl, h1, Nat.lt_succ_of_lt h2, h3, h4⟩
        · refine iteFe (decide_eq_false fun z => c (V.int.inj z)) ⟨e4.trans e5, acc, hd5, Nat.le_succ_of_le hal, ?_⟩
          rcases hacc with ⟨rfl, hn⟩ | ⟨i1, a1, rest, rfl, h1, h2, h3, h4⟩
          · refine .inl ⟨rfl, fun j hj => ?_⟩
            by_cases e : j = i
            · subst e; exact c
            · exact hn j (by omega)
          · exact .inr ⟨i1, a1, rest, rfl, h1, Nat.lt_succ_of_lt h2, h3, h4⟩
      · rintro H4 ⟨e4, acc, hd4, hal, hacc⟩
        rw [hln] at hacc
        rcases hacc with ⟨rfl, hn⟩ | ⟨i1, a1, rest, rfl, h1, h2, h3, h4⟩
        · obtain ⟨j, hj, ej⟩ := List.mem_map.mp hm
          exact absurd ej (hn j (List.mem_range.mp hj))
        · refine ⟨_, _, _, _, rfl, rfl, SqL.of hd4, at_of (j := 0) rfl rfl, (by show 2 ≤ sizeLine; decide), fun t ht => ?_⟩
          have ha := e4 _ _ (e3 _ _ (hrow.2 _ _ h1).2)
          subst h3
          refine k t a1 i1 _ ((e13.trans e4).new ht) ((e13.trans e4).free ht) (e1.free (hfree a1 (List.mem_of_getElem? h1))) upd_same ?_ h2 (fun j hj => ?_) h4
          · rw [upd_ne (ne_of_none ha ht)]
            exact ha
          · exact hle _ (List.mem_map.mpr ⟨j, List.mem_range.mpr hj, rfl⟩)
abbrev s_law_shares : Stmt := top 26
theorem sc_law_shares : FnScope ["_law_state", "_law_beats", "_law_most_here", "_law_wide", "_law_k"] ["_law_state", "_law_beats", "_law_most_here"] (defScope s_law_shares) := ⟨rfl, rfl, rfl, by decide +kernel, rfl, by decide +kernel, by decide +kernel⟩
/-- _law_shares(state, beats, most): shares of the beats, a new list -/
def spLShares (K : PySem.W.Frag) : Sp := fun vs H Q _ => ∃ (st a : Addr) (ns : List Int) (b m : Int), vs = [.ref st, .int b, .int m] ∧ SOk K a ns st H ∧ 1 ≤ b ∧ b ≤ 64 ∧ 0 ≤ m ∧ m ≤ 12 ∧
  ∀ (sh : List Int) (p : Addr) (H' : Hp), (∀ x ∈ sh, 0 ≤ x ∧ x ≤ b) → (sh.length : Int) ≤ m → H p = none → Keep st H H' → SOk K a ns st H' → H' p = some (.lst (sh.map V.int)) → Q (.ref p) H'
theorem ok_law_shares {f : Addr} {fd : FuncData} (F : FunG K mg "_law_shares" s_law_shares f fd ["_law_state", "_law_beats", "_law_most_here"]) (T : Txt K mg) (c_law_drawn : Cl P w K mg base CX0 1 "_law_drawn" (spDrawn K)) : FnOk P w K mg base CX0 2 f fd ["_law_state", "_law_beats", "_law_most_here"] (spLShares K) := by
  refine F.fn.ok sc_law_shares (fun vs H Q E h => ?_) (fun cdv A outer s H vs Q E hr h => ?_)
  · obtain ⟨st, a, ns, b, m, rfl, _⟩ := h
    rfl
  · obtain ⟨st, a, ns, b, m, rfl, hs, b0, b1, m0, m1, k⟩ := h
    refine ⟨_, (pss_cons (ps_set (i := 3) sc_law_shares.nd rfl (.inr rfl) (pe_ix (ixL K) (pe_lst (pa_cons (pv 1) (pa_cons (pe_op op_fdivW (pv 1) pe_int) (pa_cons (pe_op op_fdivW (pv 1) pe_int) pa_nil)))) (pe_cl c_law_drawn hr (by decide) (by rfl) (pa_cons (pv 0) (pa_cons pe_int pa_nil))) (fun _ _ => rfl)))
      (pss_one (ps_ret (pe_lc (own := [("_law_k", 4)]) (g := gName 4) (tt := tYes) (by rfl) sc_law_shares.nd (pi_range1 (by rfl) T.b_range (pa_cons (pe_cl c_law_drawn hr (by decide) (by rfl) (pa_cons (pv 0) (pa_cons (pe_op op_add (pv 2) pe_int) pa_nil))) pa_nil)) (blkOk_by (own := [("_law_k", 4)]) (N := ["_law_state", "_law_beats", "_law_most_here", "_law_wide", "_law_k"]) (sc := defScope s_law_shares) (by decide +kernel)) (fun _ _ _ _ _ => (pg_name (i := 4) sc_law_shares.nd rfl (.inl rfl))) (fun _ _ _ _ _ => pts_nil) (fun _ _ _ _ _ => (pe_cl c_law_drawn hr (by decide) (by rfl) (pa_cons (pv 0) (pa_cons (pe_op op_add (pv 3) pe_int) pa_nil)))))))), ?_⟩
    refine ⟨_, rfl, _, rfl, _, _, rfl, rfl, wide_div (b := 2) (by decide) (by decide) (by decide) (by decide), _, rfl, _, _, rfl, rfl, wide_div (b := 3) (by decide) (by decide) (by decide) (by decide), (by show 3 ≤ sizeLine; decide), fun p1 hp1 => ?_⟩
    have s1 := hs.new (o := .lst [.int b, .int (b / 2), .int (b / 4)]) hp1
    have n1 := hs.ne_of hp1
    refine ⟨_, rfl, st, a, ns, 3, rfl, s1, by decide, by decide, fun r i c d r0 r1 dd => ?_⟩
    have s2 := s1.drawn dd
    have k2 : Keep st H (upd (upd H p1 (.lst [.int b, .int (b / 2), .int (b / 4)])) st (StO a i c d)) := ((Keep.refl st H).new hp1).atSt
    have hp2 : (upd (upd H p1 (.lst [.int b, .int (b / 2), .int (b / 4)])) st (StO a i c d)) p1 = some (.lst [.int b, .int (b / 2), .int (b / 4)]) := by rw [upd_ne n1, upd_same]
    generalize upd (upd H p1 (.lst [.int b, .int (b / 2), .int (b / 4)])) st (StO a i c d) = H2 at s2 k2 hp2
    have hat : ∃ v : Int, atI [V.int b, V.int (b / 2), V.int (b / 4)] r = some (.int v) ∧ 0 ≤ v ∧ v ≤ b := by
      rcases pick3 r0 r1 with e | e | e <;> subst e <;> exact ⟨_, rfl, by omega, by omega⟩
    obtain ⟨wd, hwd, w0, w1⟩ := hat
    refine ⟨_, _, _, _, rfl, rfl, SqL.of hp2, hwd, ?_⟩
    refine ⟨_, rfl, _, rfl, _, _, rfl, rfl, st, a, ns, m + 1, rfl, s2, by omega, Int.lt_of_le_of_lt (show m + 1 ≤ 13 by omega) (by decide), fun q i3 c3 d3 q0 q1 dd3 => ?_⟩
    have s3 := s2.drawn dd3
    have k3 := k2.atSt (o := StO a i3 c3 d3)
    generalize upd H2 st (StO a i3 c3 d3) = H3 at s3 k3
    refine ⟨_, rfl, by omega, by omega, fun D hD => ?_⟩
    have nD := s3.ne_of hD
    have hDn := k3.free nD hD
    refine lc_range (lo := 0) (n := q.toNat) (fun i H' => SOk K a ns st H' ∧ Keep st H H' ∧ ∃ sh : List Int, H' D = some (.lst (sh.map V.int)) ∧ sh.length = i ∧ ∀ x ∈ sh, 0 ≤ x ∧ x ≤ b) ⟨s3.new hD, k3.new hD, [], upd_same, rfl, fun x hx => by simp at hx⟩ ?_ ?_
    · rintro i H4 hi ⟨s4, k4, sh, hd4, hl4, hb4⟩
      refine ⟨rfl, _, rfl, _, rfl, _, _, rfl, rfl, st, a, ns, wd + 1, rfl, s4, by omega, Int.lt_of_le_of_lt (show wd + 1 ≤ 65 by omega) (by decide), fun y i5 c5 d5 y0 y1 dd5 => ?_⟩
      have s5 := s4.drawn dd5
      have k5 := k4.atSt (o := StO a i5 c5 d5)
      have hd5 : upd H4 st (StO a i5 c5 d5) D = some (.lst (sh.map V.int)) := by rw [upd_ne nD]; exact hd4
      generalize upd H4 st (StO a i5 c5 d5) = H5 at s5 k5 hd5
      refine ⟨_, hd5, small_of (m := 64) (by rw [List.length_map]; omega), s5.mutK hs k5 hDn, k5.mut hDn, sh ++ [y], ?_, by rw [List.length_append, hl4]; rfl, fun x hx => ?_⟩
      · rw [upd_same, List.map_append]; rfl
      · rcases List.mem_append.mp hx with h | h
        · exact hb4 x h
        · rw [List.mem_singleton] at h
          subst h
          omega
    · rintro H4 ⟨s4, k4, sh, hd4, hl4, hb4⟩
      exact k sh D H4 hb4 (by omega) hDn k4 s4 hd4
abbrev s_law_same : Stmt := top 22
theorem sc_law_same : FnScope ["_law_found", "_law_due", "_law_k"] ["_law_found", "_law_due"] (defScope s_law_same) := ⟨rfl, rfl, rfl, by decide +kernel, rfl, by decide +kernel, by decide +kernel⟩
/-- the same data, at most so deep -/
inductive SameD (H : Hp) : Nat → V → V → Prop
  | non (n : Nat) : SameD H n .non .non
  | bl (n : Nat) (b : Bool) : SameD H n (.bl b) (.bl b)
  | int (n : Nat) (i : Int) : SameD H n (.int i) (.int i)
  | str (n : Nat) (x : Str) : SameD H n (.str x) (.str x)
  | lst (n : Nat) (a b : Addr) (xs ys : List V) : H a = some (.lst xs) → H b = some (.lst ys) → xs.length = ys.length → xs.length ≤ 1000 → (∀ (i : Nat) x y, xs[i]? = some x → ys[i]? = some y → SameD H n x y) → SameD H (n + 1) (.ref a) (.ref b)
  | tup (n : Nat) (a b : Addr) (xs ys : List V) : H a = some (.tup xs) → H b = some (.tup ys) → xs.length = ys.length → xs.length ≤ 1000 → (∀ (i : Nat) x y, xs[i]? = some x → ys[i]? = some y → SameD H n x y) → SameD H (n + 1) (.ref a) (.ref b)
theorem SameD.same {H H' : Hp} (e : Same H H') {n : Nat} {x y : V} (h : SameD H n x y) : SameD H' n x y := by
  induction h with
  | non n => exact .non n
  | bl n b => exact .bl n b
  | int n i => exact .int n i
  | str n x => exact .str n x
  | lst n a b xs ys ha hb hl hm hi ih => exact .lst n a b xs ys (e _ _ ha) (e _ _ hb) hl hm ih
  | tup n a b xs ys ha hb hl hm hi ih => exact .tup n a b xs ys (e _ _ ha) (e _ _ hb) hl hm ih
theorem SameD.ints {H : Hp} {a b : Addr} {ns : List Int} (ha : H a = some (.lst (ns.map V.int))) (hb : H b = some (.lst (ns.map V.int))) (hl : ns.length ≤ 1000) (n : Nat) : SameD H (n + 1) (.ref a) (.ref b) :=
  .lst n a b _ _ ha hb rfl (by rw [List.length_map]; exact hl) fun i x y h1 h2 => by
    rw [h1] at h2; cases h2
    obtain ⟨z, _, rfl⟩ := getV h1
    exact .int n z
/-- _law_same(found, due) of the same: True -/
def spSame (n : Nat) : Sp := fun vs H Q _ => ∃ x y : V, vs = [x, y] ∧ SameD H n x y ∧ ∀ H', Same H H' → Q (.bl true) H'
def spSameR : Nat → Sp
  | 0 => fun _ _ _ _ => False
  | n + 1 => spSame n
theorem cls_tl : Paired ClsV [V.ty "tuple", V.ty "list"] [Value.type "tuple", Value.type "list"] := .cons (.ty _) (.cons (.ty _) .nil)
theorem kitTL {K : PySem.W.Frag} {t : String} {b1 b2 : Bool} (h1 : kitB t "tuple" = some b1) (h2 : kitB t "list" = some b2) : PySem.W.kitAny K (.type t) [.type "tuple", .type "list"] = some (b1 || b2) := by
  refine kitAny_cons (kit_ty h1) (fun e => ?_) (fun e => by rw [e] <;> rfl)
  rw [e, Bool.false_or]
  refine kitAny_cons (kit_ty h2) (fun e => ?_) (fun e => by rw [e] <;> rfl)
  rw [e]
  exact kitAny_nil
theorem and_case {c : Prop} [Decidable c] {A B : Prop} (hc : ¬ c) (h : B) : if (decide c) = true then A else B := by
  rw [decide_eq_false hc]; exact iteF h
theorem same_mk {f : Addr} {fd : FuncData} (F : FunG K mg "_law_same" s_law_same f fd ["_law_found", "_law_due"]) (T : Txt K mg) (k n : Nat) (c_law_same : Cl P w K mg base CX0 k "_law_same" (spSameR n)) :
    FnOk P w K mg base CX0 (k + 1) f fd ["_law_found", "_law_due"] (spSame n) := by
  refine F.fn.ok sc_law_same (fun vs H Q E h => ?_) (fun cdv A outer s H vs Q E hr h => ?_)
  · obtain ⟨x, y, rfl, _⟩ := h
    rfl
  · obtain ⟨x, y, rfl, hs, q⟩ := h
    refine ⟨_, (pss_cons (ps_if (pt_val (pe_callB call_isiT (by rfl) T.b_isinstance (by decide +kernel) (pa_cons (pv 1) (pa_cons (pe_tup (pa_cons (pe_bltn (v := .ty "tuple") (u := .type "tuple") (by rfl) T.b_tuple (by decide +kernel) rfl) (pa_cons (pe_bltn (v := .ty "list") (u := .type "list") (by rfl) T.b_list (by decide +kernel) rfl) pa_nil))) pa_nil)))) (pss_cons (ps_if (PW.pt (pw_or (pt_not (pt_val (pe_callB call_isiT (by rfl) T.b_isinstance (by decide +kernel) (pa_cons (pv 0) (pa_cons (pe_tup (pa_cons (pe_bltn (v := .ty "tuple") (u := .type "tuple") (by rfl) T.b_tuple (by decide +kernel) rfl) (pa_cons (pe_bltn (v := .ty "list") (u := .type "list") (by rfl) T.b_list (by decide +kernel) rfl) pa_nil))) pa_nil))))) (pw_or1 (pt_cmpR op_ne (pe_callB call_isi (by rfl) T.b_isinstance (by decide +kernel) (pa_cons (pv 0) (pa_cons (pe_bltn (v := .ty "list") (u := .type "list") (by rfl) T.b_list (by decide +kernel) rfl) pa_nil))) (pe_callB call_isi (by rfl) T.b_isinstance (by decide +kernel) (pa_cons (pv 1) (pa_cons (pe_bltn (v := .ty "list") (u := .type "list") (by rfl) T.b_list (by decide +kernel) rfl) pa_nil))) (nomark _))))) (pss_one (ps_ret pe_bl)) pss_nil)
      (pss_cons (ps_if (pt_cmpR op_ne (pe_callB (clLen K) (by rfl) T.b_len (by decide +kernel) (pa_cons (pv 0) pa_nil)) (pe_callB (clLen K) (by rfl) T.b_len (by decide +kernel) (pa_cons (pv 1) pa_nil)) (nomark _)) (pss_one (ps_ret pe_bl)) pss_nil)
      (pss_one (ps_ret (pe_cmpR (opEqD K hr.units) (pe_lc (own := [("_law_k", 2)]) (g := gName 2) (by rfl) sc_law_same.nd (pi_range1 (by rfl) T.b_range (pa_cons (pe_callB (clLen K) (by rfl) T.b_len (by decide +kernel) (pa_cons (pv 1) pa_nil)) pa_nil)) (blkOk_by (own := [("_law_k", 2)]) (N := ["_law_found", "_law_due", "_law_k"]) (sc := defScope s_law_same) (by decide +kernel)) (fun _ _ _ _ _ => (pg_name (i := 2) sc_law_same.nd rfl (.inl rfl))) (fun _ _ _ _ _ => (pts_one (pt_not (pt_val (pe_cl c_law_same hr (Nat.le_refl _) (by rfl) (pa_cons (pe_ix (ixQ K) (pv 0) (pv 2) (fun _ _ => rfl)) (pa_cons (pe_ix (ixQ K) (pv 1) (pv 2) (fun _ _ => rfl)) pa_nil))))))) (fun _ _ _ _ _ => (pv 2))) (pe_lst pa_nil) (nomark _)))))) pss_nil)
      (pss_cons (ps_if (pt_cmpR op_isN (pv 1) pe_non (nomark _)) (pss_one (ps_ret (pe_cmpR op_isN (pv 0) pe_non (nomark _)))) pss_nil)
      (pss_cons (ps_if (pt_val (pe_callB call_isi (by rfl) T.b_isinstance (by decide +kernel) (pa_cons (pv 1) (pa_cons (pe_bltn (v := .ty "str") (u := .type "str") (by rfl) T.b_str (by decide +kernel) rfl) pa_nil)))) (pss_one (ps_ret (pe_and (pe_callB call_isi (by rfl) T.b_isinstance (by decide +kernel) (pa_cons (pv 0) (pa_cons (pe_bltn (v := .ty "str") (u := .type "str") (by rfl) T.b_str (by decide +kernel) rfl) pa_nil))) (pe_one (pe_cmpR op_eq (pv 0) (pv 1) (nomark _)))))) pss_nil)
      (pss_cons (ps_if (PW.pt (pw_or (pt_val (pe_callB call_isi (by rfl) T.b_isinstance (by decide +kernel) (pa_cons (pv 1) (pa_cons (pe_bltn (v := .ty "bool") (u := .type "bool") (by rfl) T.b_bool (by decide +kernel) rfl) pa_nil)))) (pw_or1 (pt_val (pe_callB call_isi (by rfl) T.b_isinstance (by decide +kernel) (pa_cons (pv 0) (pa_cons (pe_bltn (v := .ty "bool") (u := .type "bool") (by rfl) T.b_bool (by decide +kernel) rfl) pa_nil))))))) (pss_one (ps_ret (pe_and (pe_callB call_isi (by rfl) T.b_isinstance (by decide +kernel) (pa_cons (pv 1) (pa_cons (pe_bltn (v := .ty "bool") (u := .type "bool") (by rfl) T.b_bool (by decide +kernel) rfl) pa_nil))) (pe_and (pe_callB call_isi (by rfl) T.b_isinstance (by decide +kernel) (pa_cons (pv 0) (pa_cons (pe_bltn (v := .ty "bool") (u := .type "bool") (by rfl) T.b_bool (by decide +kernel) rfl) pa_nil))) (pe_one (pe_cmpR op_eq (pv 0) (pv 1) (nomark _))))))) pss_nil)
      (pss_one (ps_ret (pe_and (pe_callB call_isi (by rfl) T.b_isinstance (by decide +kernel) (pa_cons (pv 0) (pa_cons (pe_bltn (v := .ty "int") (u := .type "int") (by rfl) T.b_int (by decide +kernel) rfl) pa_nil))) (pe_one (pe_cmpR op_eq (pv 0) (pv 1) (nomark _)))))))))), ?_⟩
    have two : (2 : Nat) ≤ sizeLine := by decide
    cases hs with
    | non =>
      refine ⟨_, rfl, two, fun p hp => ⟨_, _, _, _, _, _, rfl, upd_same, cls_tl, (.base .non), kitTL (by decide +kernel : kitB "NoneType" "tuple" = some false) (by decide +kernel : kitB "NoneType" "list" = some false), _, rfl, iteF ?_⟩⟩
      refine ⟨_, rfl, rfl, _, rfl, iteT ?_⟩
      exact ⟨_, rfl, rfl, q _ (Same.upd hp)⟩
    | bl _ b =>
      refine ⟨_, rfl, two, fun p hp => ⟨_, _, _, _, _, _, rfl, upd_same, cls_tl, (.base (.bl b)), kitTL (by decide +kernel : kitB "bool" "tuple" = some false) (by decide +kernel : kitB "bool" "list" = some false), _, rfl, iteF ?_⟩⟩
      refine ⟨_, rfl, rfl, _, rfl, and_case (fun z => V.noConfusion z) ?_⟩
      refine ⟨_, rfl, _, _, _, _, _, rfl, .ty _, (.base (.bl b)), kit_ty (by decide +kernel : kitB "bool" "str" = some false), _, rfl, iteF ?_⟩
      refine ⟨_, rfl, _, _, _, _, _, rfl, .ty _, (.base (.bl b)), kit_ty (by decide +kernel : kitB "bool" "bool" = some true), _, rfl, iteT (iteT ?_)⟩
      refine ⟨_, rfl, _, _, _, _, _, rfl, .ty _, (.base (.bl b)), kit_ty (by decide +kernel : kitB "bool" "bool" = some true), _, rfl, iteT ?_⟩
      refine ⟨_, rfl, _, _, _, _, _, rfl, .ty _, (.base (.bl b)), kit_ty (by decide +kernel : kitB "bool" "bool" = some true), _, rfl, iteT ?_⟩
      refine ⟨_, rfl, _, rfl, rfl, ?_⟩
      rw [decide_eq_true rfl]
      exact q _ (Same.upd hp)
    | int _ i =>
      refine ⟨_, rfl, two, fun p hp => ⟨_, _, _, _, _, _, rfl, upd_same, cls_tl, (.base (.int i)), kitTL (by decide +kernel : kitB "int" "tuple" = some false) (by decide +kernel : kitB "int" "list" = some false), _, rfl, iteF ?_⟩⟩
      refine ⟨_, rfl, rfl, _, rfl, and_case (fun z => V.noConfusion z) ?_⟩
      refine ⟨_, rfl, _, _, _, _, _, rfl, .ty _, (.base (.int i)), kit_ty (by decide +kernel : kitB "int" "str" = some false), _, rfl, iteF ?_⟩
      refine ⟨_, rfl, _, _, _, _, _, rfl, .ty _, (.base (.int i)), kit_ty (by decide +kernel : kitB "int" "bool" = some false), _, rfl, iteF ?_⟩
      refine ⟨_, rfl, _, _, _, _, _, rfl, .ty _, (.base (.int i)), kit_ty (by decide +kernel : kitB "int" "bool" = some false), _, rfl, iteF ?_⟩
      refine ⟨_, rfl, _, _, _, _, _, rfl, .ty _, (.base (.int i)), kit_ty (by decide +kernel : kitB "int" "int" = some true), _, rfl, iteT ?_⟩
      refine ⟨_, rfl, _, rfl, rfl, ?_⟩
      rw [decide_eq_true rfl]
      exact q _ (Same.upd hp)
    | str _ x =>
      refine ⟨_, rfl, two, fun p hp => ⟨_, _, _, _, _, _, rfl, upd_same, cls_tl, (.base (.str x)), kitTL (by decide +kernel : kitB "str" "tuple" = some false) (by decide +kernel : kitB "str" "list" = some false), _, rfl, iteF ?_⟩⟩
      refine ⟨_, rfl, rfl, _, rfl, and_case (fun z => V.noConfusion z) ?_⟩
      refine ⟨_, rfl, _, _, _, _, _, rfl, .ty _, (.base (.str x)), kit_ty (by decide +kernel : kitB "str" "str" = some true), _, rfl, iteT ?_⟩
      refine ⟨_, rfl, _, _, _, _, _, rfl, .ty _, (.base (.str x)), kit_ty (by decide +kernel : kitB "str" "str" = some true), _, rfl, iteT ?_⟩
      refine ⟨_, rfl, _, rfl, rfl, ?_⟩
      rw [decide_eq_true rfl]
      exact q _ (Same.upd hp)
    | lst n a b xs ys ha hb hl hm hi =>
      refine ⟨_, rfl, two, fun p hp => ?_⟩
      have e1 : Same H (upd H p (.tup [.ty "tuple", .ty "list"])) := Same.upd hp
      have hT1 : upd H p (.tup [.ty "tuple", .ty "list"]) p = some (.tup [.ty "tuple", .ty "list"]) := upd_same
      generalize upd H p (.tup [.ty "tuple", .ty "list"]) = H1 at e1 hT1
      refine ⟨_, _, _, _, _, _, rfl, hT1, cls_tl, (.base (.lst (e1 _ _ hb))), kitTL (by decide +kernel : kitB "list" "tuple" = some false) (by decide +kernel : kitB "list" "list" = some true), _, rfl, iteT ?_⟩
      refine ⟨_, rfl, two, fun p2 hp2 => ?_⟩
      have e2 : Same H (upd H1 p2 (.tup [.ty "tuple", .ty "list"])) := e1.new hp2
      have hT2 : upd H1 p2 (.tup [.ty "tuple", .ty "list"]) p2 = some (.tup [.ty "tuple", .ty "list"]) := upd_same
      generalize upd H1 p2 (.tup [.ty "tuple", .ty "list"]) = H2 at e2 hT2
      refine ⟨_, _, _, _, _, _, rfl, hT2, cls_tl, (.base (.lst (e2 _ _ ha))), kitTL (by decide +kernel : kitB "list" "tuple" = some false) (by decide +kernel : kitB "list" "list" = some true), _, rfl, iteF ?_⟩
      refine ⟨_, rfl, _, _, _, _, _, rfl, .ty _, (.base (.lst (e2 _ _ ha))), kit_ty (by decide +kernel : kitB "list" "list" = some true), _, rfl, _, _, _, _, _, rfl, .ty _, (.base (.lst (e2 _ _ hb))), kit_ty (by decide +kernel : kitB "list" "list" = some true), rfl, _, rfl, iteNS rfl ?_⟩
      refine ⟨_, rfl, _, _, rfl, .inl (SqL.of (e2 _ _ ha)), _, rfl, _, _, rfl, .inl (SqL.of (e2 _ _ hb)), rfl, _, rfl, iteNS (by rw [hl]) ?_⟩
      refine ⟨_, rfl, _, _, rfl, .inl (SqL.of (e2 _ _ hb)), _, rfl, by omega, by omega, fun D hD => lc_range (lo := 0) (n := (ys.length : Int).toNat) (fun i H' => Same H2 H' ∧ H' D = some (.lst [])) ⟨Same.upd hD, upd_same⟩ ?_ ?_⟩
      · rintro i H' hi' ⟨e3, hD'⟩
        have hy : i < ys.length := by omega
        have hx : i < xs.length := by omega
        have hs := hi i _ _ (List.getElem?_eq_getElem hx) (List.getElem?_eq_getElem hy)
        refine ⟨rfl, _, rfl, _, rfl, .inl ⟨_, _, _, _, rfl, rfl, SqL.of (e3 _ _ (e2 _ _ ha)), at_of (by omega) (List.getElem?_eq_getElem hx), ?_⟩⟩
        refine ⟨_, rfl, _, rfl, .inl ⟨_, _, _, _, rfl, rfl, SqL.of (e3 _ _ (e2 _ _ hb)), at_of (by omega) (List.getElem?_eq_getElem hy), ?_⟩⟩
        exact ⟨_, _, rfl, hs.same (e2.trans e3), fun H4 e4 => ⟨_, rfl, iteF ⟨e3.trans e4, e4 _ _ hD'⟩⟩⟩
      · rintro H' ⟨e3, hD'⟩
        refine ⟨Nat.zero_le _, fun e he => ⟨_, _, .lst (SqL.of (by rw [upd_ne (ne_of_none hD' he)]; exact hD')) .nil, .lst (SqL.of upd_same) .nil, rfl, rfl, ?_⟩⟩
        exact q _ ((e2.trans e3).new he)
    | tup n a b xs ys ha hb hl hm hi =>
      refine ⟨_, rfl, two, fun p hp => ?_⟩
      have e1 : Same H (upd H p (.tup [.ty "tuple", .ty "list"])) := Same.upd hp
      have hT1 : upd H p (.tup [.ty "tuple", .ty "list"]) p = some (.tup [.ty "tuple", .ty "list"]) := upd_same
      generalize upd H p (.tup [.ty "tuple", .ty "list"]) = H1 at e1 hT1
      refine ⟨_, _, _, _, _, _, rfl, hT1, cls_tl, (.base (.tup (e1 _ _ hb))), kitTL (by decide +kernel : kitB "tuple" "tuple" = some true) (by decide +kernel : kitB "tuple" "list" = some false), _, rfl, iteT ?_⟩
      refine ⟨_, rfl, two, fun p2 hp2 => ?_⟩
      have e2 : Same H (upd H1 p2 (.tup [.ty "tuple", .ty "list"])) := e1.new hp2
      have hT2 : upd H1 p2 (.tup [.ty "tuple", .ty "list"]) p2 = some (.tup [.ty "tuple", .ty "list"]) := upd_same
      generalize upd H1 p2 (.tup [.ty "tuple", .ty "list"]) = H2 at e2 hT2
      refine ⟨_, _, _, _, _, _, rfl, hT2, cls_tl, (.base (.tup (e2 _ _ ha))), kitTL (by decide +kernel : kitB "tuple" "tuple" = some true) (by decide +kernel : kitB "tuple" "list" = some false), _, rfl, iteF ?_⟩
      refine ⟨_, rfl, _, _, _, _, _, rfl, .ty _, (.base (.tup (e2 _ _ ha))), kit_ty (by decide +kernel : kitB "tuple" "list" = some false), _, rfl, _, _, _, _, _, rfl, .ty _, (.base (.tup (e2 _ _ hb))), kit_ty (by decide +kernel : kitB "tuple" "list" = some false), rfl, _, rfl, iteNS rfl ?_⟩
      refine ⟨_, rfl, _, _, rfl, .inr (SqT.of (e2 _ _ ha)), _, rfl, _, _, rfl, .inr (SqT.of (e2 _ _ hb)), rfl, _, rfl, iteNS (by rw [hl]) ?_⟩
      refine ⟨_, rfl, _, _, rfl, .inr (SqT.of (e2 _ _ hb)), _, rfl, by omega, by omega, fun D hD => lc_range (lo := 0) (n := (ys.length : Int).toNat) (fun i H' => Same H2 H' ∧ H' D = some (.lst [])) ⟨Same.upd hD, upd_same⟩ ?_ ?_⟩
      · rintro i H' hi' ⟨e3, hD'⟩
        have hy : i < ys.length := by omega
        have hx : i < xs.length := by omega
        have hs := hi i _ _ (List.getElem?_eq_getElem hx) (List.getElem?_eq_getElem hy)
        refine ⟨rfl, _, rfl, _, rfl, .inr (.inl ⟨_, _, _, _, rfl, rfl, SqT.of (e3 _ _ (e2 _ _ ha)), at_of (by omega) (List.getElem?_eq_getElem hx), ?_⟩)⟩
        refine ⟨_, rfl, _, rfl, .inr (.inl ⟨_, _, _, _, rfl, rfl, SqT.of (e3 _ _ (e2 _ _ hb)), at_of (by omega) (List.getElem?_eq_getElem hy), ?_⟩)⟩
        exact ⟨_, _, rfl, hs.same (e2.trans e3), fun H4 e4 => ⟨_, rfl, iteF ⟨e3.trans e4, e4 _ _ hD'⟩⟩⟩
      · rintro H' ⟨e3, hD'⟩
        refine ⟨Nat.zero_le _, fun e he => ⟨_, _, .lst (SqL.of (by rw [upd_ne (ne_of_none hD' he)]; exact hD')) .nil, .lst (SqL.of upd_same) .nil, rfl, rfl, ?_⟩⟩
        exact q _ ((e2.trans e3).new he)
theorem ok_law_same {f : Addr} {fd : FuncData} (F : FunG K mg "_law_same" s_law_same f fd ["_law_found", "_law_due"]) (T : Txt K mg) : ∀ n : Nat, FnOk P w K mg base CX0 (n + 1) f fd ["_law_found", "_law_due"] (spSame n)
  | 0 => same_mk F T 0 0 (F.cl ⟨fun _ _ _ _ z => z.elim, fun _ _ _ _ _ _ _ _ _ _ _ _ _ z => z.elim⟩)
  | n + 1 => same_mk F T (n + 1) (n + 1) (F.cl (ok_law_same F T n))
end
end My

namespace My
open PySem L2
section
variable {P : Program} {w : World} {K : PySem.W.Frag} {mg : Str → Option Value} {base : Heap}
abbrev s_law : Stmt := top 29
theorem sc_law : FnScope ["_law_script", "_law_state", "_law_beats", "_law_shares_here", "_law_least", "_law_number", "_law_turns", "_law_most_here", "_law_handed", "_law_again", "_law_found", "_law_share_here", "_law_turn", "_law_frames", "_law_beat", "_law_frame_here"] ["_law_script"] (defScope s_law) := ⟨rfl, rfl, rfl, by decide +kernel, rfl, by decide +kernel, by decide +kernel⟩
def spLaw (K : PySem.W.Frag) : Sp := fun vs H Q _ => ∃ (a : Addr) (ns : List Int), vs = [.ref a] ∧ SqL K H a (ns.map V.int) ∧ ns.length ≤ 63 ∧ ∀ H', Q (.bl true) H'
theorem ok_law {f : Addr} {fd : FuncData} (F : FunG K mg "law" s_law f fd ["_law_script"]) (T : Txt K mg) (c_law_start : Cl P w K mg base CX0 1 "_law_start" (spStart K)) (c_law_drawn : Cl P w K mg base CX0 1 "_law_drawn" (spDrawn K)) (c_law_shares : Cl P w K mg base CX0 2 "_law_shares" (spLShares K))
    (c_law_most : Cl P w K mg base CX0 2 "_law_most" (spMost K)) (c_turned : Cl P w K mg base CX0 3 "turned" (spTurned K)) (c_law_same : Cl P w K mg base CX0 3 "_law_same" (spSame 2)) (c_peak : Cl P w K mg base CX0 3 "peak" (spPeak K)) (c_even : Cl P w K mg base CX0 3 "even" spEven) :
    FnOk P w K mg base CX0 4 f fd ["_law_script"] (spLaw K) := by
  refine F.fn.ok sc_law (fun vs H Q E h => ?_) (fun cdv A outer s H vs Q E hr h => ?_)
  · obtain ⟨a, ns, rfl, _⟩ := h
    rfl
  · obtain ⟨a, ns, rfl, hS, hlen, k⟩ := h
    refine ⟨_, (pss_cons (ps_set (i := 1) sc_law.nd rfl (.inl rfl) (pe_cl c_law_start hr (by decide) (by rfl) (pa_cons (pv 0) pa_nil)))
      (pss_cons (ps_set (i := 2) sc_law.nd rfl (.inr rfl) (pe_op op_add pe_int (pe_cl c_law_drawn hr (by decide) (by rfl) (pa_cons (pv 1) (pa_cons (pe_ix (ixL K) (pe_lst (pa_cons pe_int (pa_cons pe_int (pa_cons pe_int (pa_cons pe_int pa_nil))))) (pe_cl c_law_drawn hr (by decide) (by rfl) (pa_cons (pv 1) (pa_cons pe_int pa_nil))) (fun _ _ => rfl)) pa_nil)))))
      (pss_cons (ps_set (i := 3) sc_law.nd rfl (.inl rfl) (pe_cl c_law_shares hr (by decide) (by rfl) (pa_cons (pv 1) (pa_cons (pv 2) (pa_cons pe_int pa_nil)))))
      (pss_cons (ps_set (i := 4) sc_law.nd rfl (.inl rfl) pe_non)
      (pss_cons (ps_for PassesOwn.never (by rfl) (pi_range1 (by rfl) T.b_range (pa_cons (pe_op op_mulW (pe_op op_mulW (pv 2) (pv 2)) (pv 2)) pa_nil)) (pg_name (i := 5) sc_law.nd rfl (.inl rfl)) (pss_cons (ps_set (i := 6) sc_law.nd rfl (.inl rfl) (pe_slice (slL K) (pe_lst (pa_cons (pe_op op_fdivW (pv 5) (pe_op op_mulW (pv 2) (pv 2))) (pa_cons (pe_op op_mod (pe_op op_fdivW (pv 5) (pv 2)) (pv 2)) (pa_cons (pe_op op_mod (pv 5) (pv 2)) pa_nil)))) (po_some (pe_op op_sub pe_int (pe_callB (clLen K) (by rfl) T.b_len (by decide +kernel) (pa_cons (pv 3) pa_nil)))) po_none))
      (pss_cons (ps_set (i := 7) sc_law.nd rfl (.inl rfl) (pe_cl c_law_most hr (by decide) (by rfl) (pa_cons (pv 2) (pa_cons (pv 3) (pa_cons (pv 6) pa_nil)))))
      (pss_one (ps_if (PW.pt (pw_or (pt_cmpR op_isN (pv 4) pe_non (nomark _)) (pw_or1 (pt_cmpR (opLtD K hr.units) (pe_tup (pa_cons (pv 7) (pa_cons (pv 6) pa_nil))) (pv 4) (nomark _))))) (pss_one (ps_set (i := 4) sc_law.nd rfl (.inl rfl) (pe_tup (pa_cons (pv 7) (pa_cons (pv 6) pa_nil))))) pss_nil)))))
      (pss_cons (ps_set (i := 8) sc_law.nd rfl (.inl rfl) (pe_callTy (clList K) (by rfl) T.b_list (by decide +kernel) (pa_cons (pv 3) pa_nil)))
      (pss_cons (ps_for PassesOwn.never (by rfl) (pi_range1 (by rfl) T.b_range (pa_cons pe_int pa_nil)) (pg_name (i := 9) sc_law.nd rfl (.inl rfl)) (pss_cons (ps_set (i := 10) sc_law.nd rfl (.inl rfl) (pe_cl c_turned hr (by decide) (by rfl) (pa_cons (pv 2) (pa_cons (pv 8) pa_nil))))
      (pss_cons (ps_if (PW.pt (pw_or (pt_not (pt_val (pe_cl c_law_same hr (by decide) (by rfl) (pa_cons (pv 10) (pa_cons (pv 4) pa_nil))))) (pw_or (pt_cmpR (opNeD K hr.units) (pv 8) (pv 3) (nomark _)) (pw_or1 (pt_cmpR op_lt (pe_ix (ixT K) (pv 10) pe_int (fun _ _ => rfl)) (pe_cl c_peak hr (by decide) (by rfl) (pa_cons (pv 2) (pa_cons (pv 3) pa_nil))) (nomark _)))))) (pss_one (ps_ret pe_bl)) pss_nil)
      (pss_one (ps_expr (pe_bm PySem.F.plainAttrs_list PySem.F.slot_list_append PySem.F.type_list_append mt_append (pe_ix (ixT K) (pv 10) pe_int (fun _ _ => rfl)) (pa_cons pe_int pa_nil)))))))
      (pss_cons (ps_set (i := 13) sc_law.nd rfl (.inr rfl) (pe_lc (own := [("_law_share_here", 11), ("_law_turn", 12)]) (g := (gTup K 2 (gCons (gName 11) (gCons (gName 12) gNil)))) (tt := tYes) (by rfl) sc_law.nd (pi_zip (by rfl) T.b_zip (pa_cons (pv 3) (pa_cons (pe_ix (ixT K) (pv 4) pe_int (fun _ _ => rfl)) pa_nil))) (blkOk_by (own := [("_law_share_here", 11), ("_law_turn", 12)]) (N := ["_law_script", "_law_state", "_law_beats", "_law_shares_here", "_law_least", "_law_number", "_law_turns", "_law_most_here", "_law_handed", "_law_again", "_law_found", "_law_share_here", "_law_turn", "_law_frames", "_law_beat", "_law_frame_here"]) (sc := defScope s_law) (by decide +kernel)) (fun _ _ _ _ _ => (pg_tup (by rfl) (pgs_cons (pg_name (i := 11) sc_law.nd rfl (.inl rfl)) (pgs_cons (pg_name (i := 12) sc_law.nd rfl (.inl rfl)) pgs_nil)))) (fun _ _ _ _ _ => pts_nil) (fun _ _ _ _ _ => (pe_cl c_even hr (by decide) (by rfl) (pa_cons (pv 2) (pa_cons (pv 11) (pa_cons (pv 12) pa_nil)))))))
      (pss_one (ps_ret (pe_cmpR op_eq (pe_callB (clMax K rfl) (by rfl) T.b_max (by decide +kernel) (pa_cons (pe_lc (own := [("_law_beat", 14)]) (g := gName 14) (tt := tYes) (by rfl) sc_law.nd (pi_range1 (by rfl) T.b_range (pa_cons (pv 2) pa_nil)) (blkOk_by (own := [("_law_beat", 14)]) (N := ["_law_script", "_law_state", "_law_beats", "_law_shares_here", "_law_least", "_law_number", "_law_turns", "_law_most_here", "_law_handed", "_law_again", "_law_found", "_law_share_here", "_law_turn", "_law_frames", "_law_beat", "_law_frame_here"]) (sc := defScope s_law) (by decide +kernel)) (fun _ _ _ _ _ => (pg_name (i := 14) sc_law.nd rfl (.inr rfl))) (fun _ _ _ _ _ => pts_nil) (fun _ _ _ _ _ => (pe_callB (clSum K rfl) (by rfl) T.b_sum (by decide +kernel) (pa_cons (pe_lc (own := [("_law_frame_here", 15)]) (g := gName 15) (tt := tYes) (by rfl) sc_law.nd (piListK K (pv 13)) (blkOk_by (own := [("_law_frame_here", 15)]) (N := ["_law_script", "_law_state", "_law_beats", "_law_shares_here", "_law_least", "_law_number", "_law_turns", "_law_most_here", "_law_handed", "_law_again", "_law_found", "_law_share_here", "_law_turn", "_law_frames", "_law_beat", "_law_frame_here"]) (sc := { kind := .function, names := [(".0", .local), ("_law_beat", .cell), ("sum", .globalImplicit), ("_law_frames", .cell)], isGenerator := false, isCoroutine := false }) (by decide +kernel)) (fun _ _ _ _ _ => (pg_name (i := 15) sc_law.nd rfl (.inl rfl))) (fun _ _ _ _ _ => pts_nil) (fun _ _ _ _ _ => (pe_ix (ixL K) (pv 15) (pv 14) (fun _ _ => rfl)))) pa_nil)))) pa_nil)) (pe_ix (ixT K) (pv 4) pe_int (fun _ _ => rfl)) (nomark _)))))))))))), ?_⟩
    refine ⟨_, rfl, a, ns, rfl, hS, fun st m0 hst d0 => ?_⟩
    have s0 : SOk K a ns st (upd H st (StO a 0 m0 0)) := SOk.make hlen hS hst d0
    have e0 : Same H (upd H st (StO a 0 m0 0)) := Same.upd hst
    generalize upd H st (StO a 0 m0 0) = H0 at s0 e0
    -- beats
    refine ⟨_, rfl, (by show 4 ≤ sizeLine; decide), fun p1 hp1 => ?_⟩
    have s1 := s0.new (o := .lst [.int 8, .int 8, .int 8, .int 12]) hp1
    have e1 := e0.new (o := .lst [.int 8, .int 8, .int 8, .int 12]) hp1
    have n1 := s0.ne_of hp1
    refine ⟨_, rfl, st, a, ns, 4, rfl, s1, by decide, by decide, fun y ia ma ca y0 y1 da => ?_⟩
    have s2 := s1.drawn da
    have e2 := e1.mut (o := StO a ia ma ca) hst
    have hp2 : upd (upd H0 p1 (.lst [.int 8, .int 8, .int 8, .int 12])) st (StO a ia ma ca) p1 = some (.lst [.int 8, .int 8, .int 8, .int 12]) := by rw [upd_ne n1, upd_same]
    generalize upd (upd H0 p1 (.lst [.int 8, .int 8, .int 8, .int 12])) st (StO a ia ma ca) = H2 at s2 e2 hp2
    have hat : ∃ v : Int, atI [V.int 8, V.int 8, V.int 8, V.int 12] y = some (.int v) ∧ 1 ≤ v ∧ v ≤ 12 := by
      rcases pick4 y0 y1 with e | e | e | e <;> subst e <;> exact ⟨_, rfl, by decide, by decide⟩
    obtain ⟨far, hfar, f0, f1⟩ := hat
    refine ⟨_, _, _, _, rfl, rfl, SqL.of hp2, hfar, st, a, ns, far, rfl, s2, by omega, Int.lt_of_le_of_lt f1 (by decide), fun r ib mb cb r0 r1 db => ⟨_, _, rfl, rfl, ?_⟩⟩
    have s3 := s2.drawn db
    have e3 := e2.mut (o := StO a ib mb cb) hst
    generalize upd H2 st (StO a ib mb cb) = H3 at s3 e3
    have b0 : 1 ≤ 1 + r := by omega
    have b1 : 1 + r ≤ 12 := by omega
    have hB : ((1 + r).toNat : Int) = 1 + r := Int.toNat_of_nonneg (by omega)
    -- shares
    refine ⟨_, rfl, _, rfl, st, a, ns, 1 + r, 3, rfl, s3, b0, by omega, by decide, by decide, fun sh s H4 hsh hl3 hsn k4 s4 hs4 => ?_⟩
    have e4 : Same H H4 := e3.keepAll hst k4
    have hl3 : sh.length ≤ 3 := by omega
    have hslen : (sh.map V.int).length = sh.length := List.length_map _
    have hB1 : 1 ≤ (1 + r).toNat := by omega
    have hrd : ∀ j, ∀ t ∈ rowD (1 + r).toNat sh.length j, 0 ≤ t ∧ t < 1 + r := fun j t ht => by
      have := rowD_bd hB1 sh.length j t ht
      omega
    obtain ⟨g, hg⟩ : ∃ g : Nat → Int, ∀ j, g j = mo (1 + r) sh (rowD (1 + r).toNat sh.length j) := ⟨_, fun _ => rfl⟩
    have hmul : ((1 + r) * (1 + r) * (1 + r)).toNat = (1 + r).toNat * (1 + r).toNat * (1 + r).toNat := by
      have : (1 + r) * (1 + r) * (1 + r) = (((1 + r).toNat * (1 + r).toNat * (1 + r).toNat : Nat) : Int) := by
        rw [Int.natCast_mul, Int.natCast_mul, hB]
      rw [this, Int.toNat_natCast]
    have hb2 : (1 + r) * (1 + r) ≤ 144 := by
      have h1 : (1 + r) * (1 + r) ≤ 12 * (1 + r) := Int.mul_le_mul_of_nonneg_right b1 (by omega)
      omega
    have hb20 : 1 ≤ (1 + r) * (1 + r) := Int.mul_pos (by omega) (by omega)
    have hb3 : (1 + r) * (1 + r) * (1 + r) ≤ 1728 := by
      have h1 : (1 + r) * (1 + r) * (1 + r) ≤ 144 * (1 + r) := Int.mul_le_mul_of_nonneg_right hb2 (by omega)
      omega
    have hb30 : 1 ≤ (1 + r) * (1 + r) * (1 + r) := Int.mul_pos (by omega) (by omega)
    -- trying all
    refine ⟨_, rfl, _, rfl, _, _, rfl, rfl, wide_mul (a := 4) (b := 4) (by omega) (by omega) (by decide) (by decide) (by decide), _, rfl, _, _, rfl, rfl, wide_mul (a := 8) (b := 4) (by omega) (by omega) (by decide) (by decide) (by decide), _, rfl, by omega, by omega, ?_⟩
    refine for_range (lo := 0) (n := ((1 + r) * (1 + r) * (1 + r)).toNat) (fun i σ H' => (∃ (v5 v6 v7 v8 v9 v10 v11 v12 v13 v14 v15 : Option V) (vl : V), σ = [some (.ref a), some (.ref st), some (.int (1 + r)), some (.ref s), some vl, v5, v6, v7, v8, v9, v10, v11, v12, v13, v14, v15] ∧
        ((i = 0 ∧ vl = .non) ∨ ∃ (tl ll : Addr) (i0 : Nat), vl = .ref tl ∧ H' tl = some (.tup [.int (g i0), .ref ll]) ∧ H' ll = some (.lst ((rowD (1 + r).toNat sh.length i0).map V.int)) ∧ Best (1 + r).toNat sh.length i i0 g)) ∧ Same H4 H')
      ⟨⟨none, none, none, none, none, none, none, none, none, none, none, .non, rfl, .inl ⟨rfl, rfl⟩⟩, Same.refl _⟩ ?_ ?_
    · rintro i σ H5 hi ⟨⟨v5, v6, v7, v8, v9, v10, v11, v12, v13, v14, v15, vl, rfl, hvl⟩, e5⟩
      have hi3 : i < (1 + r).toNat * (1 + r).toNat * (1 + r).toNat := by rw [← hmul]; exact hi
      have hs5 := e5 _ _ hs4
      refine ⟨_, rfl, _, rfl, _, rfl, _, _, rfl, rfl, wide_mul (a := 4) (b := 4) (by omega) (by omega) (by decide) (by decide) (by decide), _, _, rfl, rfl, wide_div (b := 8) (by omega) (by omega) (by decide) (by decide), _, rfl, _, rfl, _, _, rfl, rfl, wide_div (b := 4) (by omega) (by omega) (by decide) (by decide), _, rfl, _, _, rfl, rfl, (by show (0 : Int) < 1 + r; omega), _, rfl, _, rfl, _, _, rfl, rfl, (by show (0 : Int) < 1 + r; omega), (by show 3 ≤ sizeLine; decide), fun p6 hp6 => ?_⟩
      have e6 := e5.new (o := .lst [V.int ((0 + (i : Int)) / ((1 + r) * (1 + r))), V.int ((0 + (i : Int)) / (1 + r) % (1 + r)), V.int ((0 + (i : Int)) % (1 + r))]) hp6
      have e56 : Same H5 (upd H5 p6 (.lst [V.int ((0 + (i : Int)) / ((1 + r) * (1 + r))), V.int ((0 + (i : Int)) / (1 + r) % (1 + r)), V.int ((0 + (i : Int)) % (1 + r))])) := Same.upd hp6
      have hp6' : upd H5 p6 (.lst [V.int ((0 + (i : Int)) / ((1 + r) * (1 + r))), V.int ((0 + (i : Int)) / (1 + r) % (1 + r)), V.int ((0 + (i : Int)) % (1 + r))]) p6 = some (.lst [V.int ((0 + (i : Int)) / ((1 + r) * (1 + r))), V.int ((0 + (i : Int)) / (1 + r) % (1 + r)), V.int ((0 + (i : Int)) % (1 + r))]) := upd_same
      generalize upd H5 p6 (.lst [V.int ((0 + (i : Int)) / ((1 + r) * (1 + r))), V.int ((0 + (i : Int)) / (1 + r) % (1 + r)), V.int ((0 + (i : Int)) % (1 + r))]) = H6 at e6 e56 hp6'
      refine ⟨_, rfl, _, _, rfl, .inl (SqL.of (e6 _ _ hs4)), _, _, rfl, rfl, _, rfl, _, _, rfl, SqL.of hp6', fun p7 hp7 => ?_⟩
      rw [hslen, turn_list (b := 1 + r) hB.symm hi3 hl3]
      have e7 := e6.new (o := .lst ((rowD (1 + r).toNat sh.length i).map V.int)) hp7
      have e57 := e56.new (o := .lst ((rowD (1 + r).toNat sh.length i).map V.int)) hp7
      have hp7' : upd H6 p7 (.lst ((rowD (1 + r).toNat sh.length i).map V.int)) p7 = some (.lst ((rowD (1 + r).toNat sh.length i).map V.int)) := upd_same
      generalize upd H6 p7 (.lst ((rowD (1 + r).toNat sh.length i).map V.int)) = H7 at e7 e57 hp7'
      refine ⟨_, rfl, _, rfl, _, rfl, 1 + r, s, p7, sh, rowD (1 + r).toNat sh.length i, rfl, SqL.of (e7 _ _ hs4), SqL.of hp7', b0, by omega, hsh, (rowD_len _ _ _).symm, by omega, hrd i, fun H8 e8 => ?_⟩
      rw [← hg i]
      have e58 := e57.trans e8
      have e48 := e5.trans e58
      have hp8 := e8 _ _ hp7'
      rcases hvl with ⟨rfl, rfl⟩ | ⟨tl, ll, i0, rfl, htl, hll, hbest⟩
      · refine ⟨_, rfl, rfl, _, rfl, iteTe (decide_eq_true rfl) ?_⟩
        refine iteT ⟨_, rfl, _, rfl, (by show 2 ≤ sizeLine; decide), fun t ht => ?_⟩
        refine ⟨⟨_, _, _, _, _, _, _, _, _, _, _, _, rfl, .inr ⟨t, p7, 0, rfl, upd_same, by rw [upd_ne (ne_of_none hp8 ht)]; exact hp8, Best.first _ _ _⟩⟩, e48.new ht⟩
      · have htl8 := e58 _ _ htl
        have hll8 := e58 _ _ hll
        refine ⟨_, rfl, rfl, _, rfl, iteFe (decide_eq_false (by simp)) ⟨_, rfl, _, rfl, (by show 2 ≤ sizeLine; decide), fun q hq => ?_⟩⟩
        have e9 := e48.new (o := .tup [.int (g i), .ref p7]) hq
        have hp9 : upd H8 q (.tup [.int (g i), .ref p7]) p7 = _ := (upd_ne (ne_of_none hp8 hq)).trans hp8
        have htl9 : upd H8 q (.tup [.int (g i), .ref p7]) tl = _ := (upd_ne (ne_of_none htl8 hq)).trans htl8
        have hll9 : upd H8 q (.tup [.int (g i), .ref p7]) ll = _ := (upd_ne (ne_of_none hll8 hq)).trans hll8
        have hq9 : upd H8 q (.tup [.int (g i), .ref p7]) q = some (.tup [.int (g i), .ref p7]) := upd_same
        generalize upd H8 q (.tup [.int (g i), .ref p7]) = H9 at e9 hp9 htl9 hll9 hq9
        have hlx : (rowD (1 + r).toNat sh.length i).length = (rowD (1 + r).toNat sh.length i0).length := by rw [rowD_len, rowD_len]
        refine ⟨_, rfl, .tuple [.int (g i), dI (rowD (1 + r).toNat sh.length i)], .tuple [.int (g i0), dI (rowD (1 + r).toNat sh.length i0)], .tup (SqT.of hq9) (.cons (.int _) (.cons (dp_ints (SqL.of hp9)) .nil)), .tup (SqT.of htl9) (.cons (.int _) (.cons (dp_ints (SqL.of hll9)) .nil)), alike_pairs hlx, (by simp), depth_pair _ _, _, rfl, ?_⟩
        rw [lt_pairs hlx]
        refine ite2 (fun c => ?_) (fun c => ?_)
        · refine ⟨_, rfl, _, rfl, (by show 2 ≤ sizeLine; decide), fun t ht => ?_⟩
          exact ⟨⟨_, _, _, _, _, _, _, _, _, _, _, _, rfl, .inr ⟨t, p7, i, rfl, upd_same, by rw [upd_ne (ne_of_none hp9 ht)]; exact hp9, hbest.new c⟩⟩, e9.new ht⟩
        · exact ⟨⟨_, _, _, _, _, _, _, _, _, _, _, _, rfl, .inr ⟨tl, ll, i0, rfl, htl9, hll9, hbest.keep c⟩⟩, e9⟩
    · rintro σ H5 ⟨⟨v5, v6, v7, v8, v9, v10, v11, v12, v13, v14, v15, vl, rfl, hvl⟩, e5⟩
      rcases hvl with ⟨hz, _⟩ | ⟨tl, ll, i0, rfl, htl, hll, hbest⟩
      · omega
      rw [hmul] at hbest
      have hs5 := e5 _ _ hs4
      refine ⟨_, rfl, _, _, rfl, .inl (SqL.of hs5), fun hn hhn => ?_⟩
      have e6 := e5.new (o := .lst (sh.map V.int)) hhn
      have hh6 : upd H5 hn (.lst (sh.map V.int)) hn = some (.lst (sh.map V.int)) := upd_same
      have htl6 : upd H5 hn (.lst (sh.map V.int)) tl = _ := (upd_ne (ne_of_none htl hhn)).trans htl
      have hll6 : upd H5 hn (.lst (sh.map V.int)) ll = _ := (upd_ne (ne_of_none hll hhn)).trans hll
      generalize upd H5 hn (.lst (sh.map V.int)) = H6 at e6 hh6 htl6 hll6
      have hs6 := e6 _ _ hs4
      refine ⟨_, rfl, by decide, by decide, for_range (lo := 0) (n := 2) (fun i σ H' => (∃ v5 v6 v7 v9 v10 v11 v12 v13 v14 v15 : Option V, σ = [some (.ref a), some (.ref st), some (.int (1 + r)), some (.ref s), some (.ref tl), v5, v6, v7, some (.ref hn), v9, v10, v11, v12, v13, v14, v15]) ∧ Same H6 H')
        ⟨⟨v5, v6, v7, v9, v10, v11, v12, v13, v14, v15, rfl⟩, Same.refl _⟩ ?_ ?_⟩
      · rintro i σ H7 hi ⟨⟨v5, v6, v7, v9, v10, v11, v12, v13, v14, v15, rfl⟩, e7⟩
        refine ⟨_, rfl, _, rfl, 1 + r, hn, sh, rfl, SqL.of (e7 _ _ hh6), b0, b1, hsh, hl3, fun t row i1 H8 e8 htn hrn ht8 hr8 hi1 hmin hfst => ?_⟩
        have e68 := e7.trans e8
        rw [← hg i1] at ht8
        simp only [← hg] at hmin hfst
        obtain ⟨hrow, hval⟩ := best_first (f := g) (g := g) hB1 hl3 (fun n => by rw [hg, hg, rowD_mod hB1]) (fun _ _ => rfl) hbest hi1 hmin hfst
        have hsame : SameD H8 2 (.ref t) (.ref tl) := .tup 1 t tl _ _ ht8 (e68 _ _ htl6) rfl (by show 2 ≤ 1000; decide) fun j x y h1 h2 => by
          match j, h1, h2 with
          | 0, h1, h2 => cases h1; cases h2; rw [hval]; exact .int 1 _
          | 1, h1, h2 =>
            cases h1; cases h2
            rw [hrow] at hr8
            exact .ints hr8 (e68 _ _ hll6) (by rw [rowD_len]; omega) 0
          | j + 2, h1, h2 => cases h1
        refine ⟨_, rfl, _, rfl, _, _, rfl, hsame, fun H9 e9 => ⟨_, rfl, iteF ?_⟩⟩
        have e69 := e68.trans e9
        refine ⟨_, rfl, _, rfl, _, _, dp_ints (SqL.of (e69 _ _ hh6)), dp_ints (SqL.of (e69 _ _ hs6)), dI_shaped _, dI_shaped _, _, rfl, ?_⟩
        refine iteFe (by rw [dI_eqv, decide_eq_true rfl]; rfl) ?_
        have ht9 := e9 _ _ ht8
        refine ⟨_, rfl, _, _, _, _, rfl, rfl, SqT.of ht9, at_of (j := 0) rfl rfl, _, rfl, _, rfl, 1 + r, s, sh, rfl, SqL.of (e69 _ _ hs6), b0, by omega, hsh, by omega, fun Ha ea => ?_⟩
        have hpk := mo_peak (b := 1 + r) (by omega) sh (rowD (1 + r).toNat sh.length i1)
        rw [← hg i1] at hpk
        refine ⟨_, _, rfl, rfl, _, rfl, iteFe (decide_eq_false (by omega)) ?_⟩
        have hta := ea _ _ ht9
        have hra := ea _ _ (e9 _ _ hr8)
        refine ⟨_, rfl, _, _, _, _, rfl, rfl, SqT.of hta, at_of (j := 1) rfl rfl, .inl ⟨rfl, _, SqL.of hra⟩, row, _, _, rfl, rfl, hra, small_of (m := 64) (by rw [List.length_map, rowD_len]; omega), ?_⟩
        exact ⟨⟨_, _, _, _, _, _, _, _, _, _, rfl⟩, (e69.trans ea).mut (e7.free hrn)⟩
      · rintro σ H7 ⟨⟨v5, v6, v7, v9, v10, v11, v12, v13, v14, v15, rfl⟩, e7⟩
        have htl7 := e7 _ _ htl6
        have hll7 := e7 _ _ hll6
        have hs7 := e7 _ _ hs6
        obtain ⟨ts, hts⟩ : ∃ ts, ts = rowD (1 + r).toNat sh.length i0 := ⟨_, rfl⟩
        have hlts : sh.length = ts.length := by rw [hts, rowD_len]
        have htb := hrd i0
        rw [← hts] at hll7 htb
        refine ⟨_, rfl, _, rfl, _, _, _, _, rfl, rfl, SqT.of htl7, at_of (j := 1) rfl rfl, _, _, _, _, rfl, SqL.of hs7, SqL.of hll7, fun D hD => lc_it (walk_zip (K := K) (a := s) (b := ll) (xs := sh.map V.int) (ys := ts.map V.int) (n := sh.length) (by rw [List.length_map, List.length_map, ← hlts, Nat.min_self])) (fun i H' => Same H7 H' ∧ ∃ rs : List Addr, H' D = some (.lst (rs.map V.ref)) ∧ Rows D H' rs i (fr (1 + r) sh ts)) ⟨Same.upd hD, [], upd_same, Rows.nil _ _ _⟩ (fun i H' _ h => ⟨SqL.of (h.1 _ _ hs7), SqL.of (h.1 _ _ hll7)⟩) ?_ ?_⟩
        · rintro i v H' H'' hi ⟨e, rs, hd, hrow⟩ ⟨q, x, y, rfl, hq, rfl, hx, hy⟩
          obtain ⟨x, hx', rfl⟩ := getV hx
          obtain ⟨y, hy', rfl⟩ := getV hy
          have e1 := e.new (o := .tup [V.int x, V.int y]) hq
          have hrow1 := hrow.same (Same.upd (o := .tup [V.int x, V.int y]) hq)
          have hd1 : upd H' q (.tup [V.int x, V.int y]) D = some (.lst (rs.map V.ref)) := by rw [upd_ne (ne_of_none hd hq)]; exact hd
          have hq1 : upd H' q (.tup [V.int x, V.int y]) q = some (.tup [V.int x, V.int y]) := upd_same
          generalize upd H' q (.tup [V.int x, V.int y]) = H1 at e1 hrow1 hd1 hq1
          obtain ⟨x0, x1⟩ := hsh x (List.mem_of_getElem? hx')
          obtain ⟨y0, y1⟩ := htb y (List.mem_of_getElem? hy')
          have ef : fr (1 + r) sh ts i = evL (1 + r) x y := by
            unfold fr
            rw [List.getD_eq_getElem?_getD, List.getD_eq_getElem?_getD, hx', hy']
            rfl
          refine ⟨_, _, rfl, SqT.of hq1, rfl, _, _, rfl, _, _, rfl, rfl, rfl, _, rfl, _, rfl, _, rfl, 1 + r, x, y, rfl, b0, by omega, x0, x1, Nat.lt_of_lt_of_le (show y.natAbs < 100 by omega) (by decide), fun p hp => ?_⟩
          have hne : p ≠ D := (ne_of_none hd1 hp).symm
          refine ⟨_, (by rw [upd_ne hne.symm]; exact hd1), small_of (m := 64) (by rw [List.length_map, hrow1.1]; omega), (e1.new hp).mut hD, rs ++ [p], ?_, ?_⟩
          · rw [upd_same, List.map_append]; rfl
          · exact ((hrow1.same (Same.upd hp)).push hne (by rw [upd_same, ef])).atD _
        · rintro HF ⟨eF, rs, hF, hrow⟩
          generalize D = pF at hF hrow
          refine ⟨_, rfl, _, rfl, by omega, by omega, fun D2 hD2 => lc_range (lo := 0) (n := (1 + r).toNat) (fun i H' => Same HF H' ∧ H' D2 = some (.lst (((List.range i).map (col (fr (1 + r) sh ts) sh.length)).map V.int))) ⟨Same.upd hD2, upd_same⟩ ?_ ?_⟩
          · rintro i H' hi ⟨e2, hd2⟩
            refine ⟨rfl, _, rfl, pF, rfl, ⟨_, SqL.of (e2 _ _ hF)⟩, fun D3 hD3 => lc_list (K := K) (a := pF) (xs := rs.map V.ref) (fun j H'' => Same H' H'' ∧ H'' D3 = some (.lst (((List.range j).map fun j => (fr (1 + r) sh ts j).getD i 0).map V.int))) ⟨Same.upd hD3, upd_same⟩ (fun j H'' _ h => SqL.of (h.1 _ _ (e2 _ _ hF))) ?_ ?_⟩
            · rintro j x H'' hj ⟨e3, hd3⟩
              obtain ⟨a, rfl, _, hjn, _, ha⟩ := hrow.get hj
              have ha' := e3 _ _ (e2 _ _ ha)
              refine ⟨rfl, _, rfl, _, rfl, _, _, _, _, rfl, rfl, SqL.of ha', atV (j := i) (by omega) (by unfold fr; rw [evL_len]; exact hi), _, hd3, small_of (m := 64) (by rw [List.length_map, List.length_map, List.length_range]; omega), e3.mut hD3, ?_⟩
              rw [upd_same, List.range_succ, List.map_append, List.map_append]
              rfl
            · rintro H'' ⟨e3, hd3⟩
              have hle : (rs.map V.ref).length = sh.length := by rw [List.length_map]; exact hrow.1
              rw [hle] at hd3
              refine ⟨_, _, rfl, SqL.of hd3, ?_⟩
              have hne : D2 ≠ D3 := ne_of_none hd2 hD3
              refine ⟨_, e3 _ _ hd2, small_of (m := 64) (by rw [List.length_map, List.length_map, List.length_range]; omega), (e2.trans e3).mut hD2, ?_⟩
              rw [upd_same, List.range_succ, List.map_append, List.map_append]
              rfl
          · rintro H' ⟨e2, hd2⟩
            refine ⟨_, _, rfl, SqL.of hd2, by rw [List.length_map, List.length_range]; omega, fun m hm hle => ?_⟩
            have em : mo (1 + r) sh ts = m := mx_of hm hle
            have htl8 := e2 _ _ (eF _ _ htl7)
            refine ⟨_, rfl, _, _, _, _, rfl, rfl, SqT.of htl8, at_of (j := 0) rfl rfl, rfl, ?_⟩
            have ev : m = g i0 := by rw [← em, hg i0, hts]
            have := k H'
            rw [show true = decide (V.int m = V.int (g i0)) from (decide_eq_true (congrArg V.int ev)).symm] at this
            exact this
end
end My

namespace My
open PySem L2
theorem all_mk {P : Program} {w : World} {K : PySem.W.Frag} {h : Heap} {mg : Str → Option Value} {fa : Addr} (X : K.In h) (G : h.Ns mainGlobals mg) (hfa : mg "law" = some (.ref fa))
    {f_law_start : Addr} {od_law_start an_law_start : Option Addr} {sl_law_start : Array (Option Value)} {oc_law_start kV_law_start dc_law_start pm_law_start cd_law_start ct_law_start : Value}
    {f_law_drawn : Addr} {od_law_drawn an_law_drawn : Option Addr} {sl_law_drawn : Array (Option Value)} {oc_law_drawn kV_law_drawn dc_law_drawn pm_law_drawn cd_law_drawn ct_law_drawn : Value}
    {f_law_even : Addr} {od_law_even an_law_even : Option Addr} {sl_law_even : Array (Option Value)} {oc_law_even kV_law_even dc_law_even pm_law_even cd_law_even ct_law_even : Value}
    {f_need_beats : Addr} {od_need_beats an_need_beats : Option Addr} {sl_need_beats : Array (Option Value)} {oc_need_beats kV_need_beats dc_need_beats pm_need_beats cd_need_beats ct_need_beats : Value}
    {f_need_share : Addr} {od_need_share an_need_share : Option Addr} {sl_need_share : Array (Option Value)} {oc_need_share kV_need_share dc_need_share pm_need_share cd_need_share ct_need_share : Value}
    {f_even_frame : Addr} {od_even_frame an_even_frame : Option Addr} {sl_even_frame : Array (Option Value)} {oc_even_frame kV_even_frame dc_even_frame pm_even_frame cd_even_frame ct_even_frame : Value}
    {f_even : Addr} {od_even an_even : Option Addr} {sl_even : Array (Option Value)} {oc_even kV_even dc_even pm_even cd_even ct_even : Value}
    {f_most_on : Addr} {od_most_on an_most_on : Option Addr} {sl_most_on : Array (Option Value)} {oc_most_on kV_most_on dc_most_on pm_most_on cd_most_on ct_most_on : Value}
    {f_law_most : Addr} {od_law_most an_law_most : Option Addr} {sl_law_most : Array (Option Value)} {oc_law_most kV_law_most dc_law_most pm_law_most cd_law_most ct_law_most : Value}
    {f_need_shares : Addr} {od_need_shares an_need_shares : Option Addr} {sl_need_shares : Array (Option Value)} {oc_need_shares kV_need_shares dc_need_shares pm_need_shares cd_need_shares ct_need_shares : Value}
    {f_peak_of : Addr} {od_peak_of an_peak_of : Option Addr} {sl_peak_of : Array (Option Value)} {oc_peak_of kV_peak_of dc_peak_of pm_peak_of cd_peak_of ct_peak_of : Value}
    {f_peak : Addr} {od_peak an_peak : Option Addr} {sl_peak : Array (Option Value)} {oc_peak kV_peak dc_peak pm_peak cd_peak ct_peak : Value}
    {f_all_turns : Addr} {od_all_turns an_all_turns : Option Addr} {sl_all_turns : Array (Option Value)} {oc_all_turns kV_all_turns dc_all_turns pm_all_turns cd_all_turns ct_all_turns : Value}
    {f_turned : Addr} {od_turned an_turned : Option Addr} {sl_turned : Array (Option Value)} {oc_turned kV_turned dc_turned pm_turned cd_turned ct_turned : Value}
    {f_law_shares : Addr} {od_law_shares an_law_shares : Option Addr} {sl_law_shares : Array (Option Value)} {oc_law_shares kV_law_shares dc_law_shares pm_law_shares cd_law_shares ct_law_shares : Value}
    {f_law_same : Addr} {od_law_same an_law_same : Option Addr} {sl_law_same : Array (Option Value)} {oc_law_same kV_law_same dc_law_same pm_law_same cd_law_same ct_law_same : Value}
    {f_law : Addr} {od_law an_law : Option Addr} {sl_law : Array (Option Value)} {oc_law kV_law dc_law pm_law cd_law ct_law : Value}
    {t_FEW_BEATS : Tok}
    {t_FEW_SHARES : Tok}
    {t_MOST_BEATS : Tok}
    {t_MOST_SHARES : Tok}
    (a_law_start : PySem.W.nsIn K mainGlobals "_law_start" = some (some (.ref f_law_start)))
    (l_law_start : K.lookup f_law_start = some ⟨oc_law_start, od_law_start, .func (PySem.W.fnOf "_law_start" "_law_start" (defArgs s_law_start) (defBody s_law_start) (defScope s_law_start) .none kV_law_start dc_law_start pm_law_start an_law_start cd_law_start ct_law_start), sl_law_start⟩)
    (c_law_start : PySem.W.codeIn K cd_law_start "_law_start" = true)
    (k_law_start : PySem.W.keepIn K (.ref f_law_start) = true)
    (a_law_drawn : PySem.W.nsIn K mainGlobals "_law_drawn" = some (some (.ref f_law_drawn)))
    (l_law_drawn : K.lookup f_law_drawn = some ⟨oc_law_drawn, od_law_drawn, .func (PySem.W.fnOf "_law_drawn" "_law_drawn" (defArgs s_law_drawn) (defBody s_law_drawn) (defScope s_law_drawn) .none kV_law_drawn dc_law_drawn pm_law_drawn an_law_drawn cd_law_drawn ct_law_drawn), sl_law_drawn⟩)
    (c_law_drawn : PySem.W.codeIn K cd_law_drawn "_law_drawn" = true)
    (k_law_drawn : PySem.W.keepIn K (.ref f_law_drawn) = true)
    (a_law_even : PySem.W.nsIn K mainGlobals "_law_even" = some (some (.ref f_law_even)))
    (l_law_even : K.lookup f_law_even = some ⟨oc_law_even, od_law_even, .func (PySem.W.fnOf "_law_even" "_law_even" (defArgs s_law_even) (defBody s_law_even) (defScope s_law_even) .none kV_law_even dc_law_even pm_law_even an_law_even cd_law_even ct_law_even), sl_law_even⟩)
    (c_law_even : PySem.W.codeIn K cd_law_even "_law_even" = true)
    (k_law_even : PySem.W.keepIn K (.ref f_law_even) = true)
    (a_need_beats : PySem.W.nsIn K mainGlobals "need_beats" = some (some (.ref f_need_beats)))
    (l_need_beats : K.lookup f_need_beats = some ⟨oc_need_beats, od_need_beats, .func (PySem.W.fnOf "need_beats" "need_beats" (defArgs s_need_beats) (defBody s_need_beats) (defScope s_need_beats) .none kV_need_beats dc_need_beats pm_need_beats an_need_beats cd_need_beats ct_need_beats), sl_need_beats⟩)
    (c_need_beats : PySem.W.codeIn K cd_need_beats "need_beats" = true)
    (k_need_beats : PySem.W.keepIn K (.ref f_need_beats) = true)
    (a_need_share : PySem.W.nsIn K mainGlobals "need_share" = some (some (.ref f_need_share)))
    (l_need_share : K.lookup f_need_share = some ⟨oc_need_share, od_need_share, .func (PySem.W.fnOf "need_share" "need_share" (defArgs s_need_share) (defBody s_need_share) (defScope s_need_share) .none kV_need_share dc_need_share pm_need_share an_need_share cd_need_share ct_need_share), sl_need_share⟩)
    (c_need_share : PySem.W.codeIn K cd_need_share "need_share" = true)
    (k_need_share : PySem.W.keepIn K (.ref f_need_share) = true)
    (a_even_frame : PySem.W.nsIn K mainGlobals "even_frame" = some (some (.ref f_even_frame)))
    (l_even_frame : K.lookup f_even_frame = some ⟨oc_even_frame, od_even_frame, .func (PySem.W.fnOf "even_frame" "even_frame" (defArgs s_even_frame) (defBody s_even_frame) (defScope s_even_frame) .none kV_even_frame dc_even_frame pm_even_frame an_even_frame cd_even_frame ct_even_frame), sl_even_frame⟩)
    (c_even_frame : PySem.W.codeIn K cd_even_frame "even_frame" = true)
    (k_even_frame : PySem.W.keepIn K (.ref f_even_frame) = true)
    (a_even : PySem.W.nsIn K mainGlobals "even" = some (some (.ref f_even)))
    (l_even : K.lookup f_even = some ⟨oc_even, od_even, .func (PySem.W.fnOf "even" "even" (defArgs s_even) (defBody s_even) (defScope s_even) .none kV_even dc_even pm_even an_even cd_even ct_even), sl_even⟩)
    (c_even : PySem.W.codeIn K cd_even "even" = true)
    (k_even : PySem.W.keepIn K (.ref f_even) = true)
    (a_most_on : PySem.W.nsIn K mainGlobals "most_on" = some (some (.ref f_most_on)))
    (l_most_on : K.lookup f_most_on = some ⟨oc_most_on, od_most_on, .func (PySem.W.fnOf "most_on" "most_on" (defArgs s_most_on) (defBody s_most_on) (defScope s_most_on) .none kV_most_on dc_most_on pm_most_on an_most_on cd_most_on ct_most_on), sl_most_on⟩)
    (c_most_on : PySem.W.codeIn K cd_most_on "most_on" = true)
    (k_most_on : PySem.W.keepIn K (.ref f_most_on) = true)
    (a_law_most : PySem.W.nsIn K mainGlobals "_law_most" = some (some (.ref f_law_most)))
    (l_law_most : K.lookup f_law_most = some ⟨oc_law_most, od_law_most, .func (PySem.W.fnOf "_law_most" "_law_most" (defArgs s_law_most) (defBody s_law_most) (defScope s_law_most) .none kV_law_most dc_law_most pm_law_most an_law_most cd_law_most ct_law_most), sl_law_most⟩)
    (c_law_most : PySem.W.codeIn K cd_law_most "_law_most" = true)
    (k_law_most : PySem.W.keepIn K (.ref f_law_most) = true)
    (a_need_shares : PySem.W.nsIn K mainGlobals "need_shares" = some (some (.ref f_need_shares)))
    (l_need_shares : K.lookup f_need_shares = some ⟨oc_need_shares, od_need_shares, .func (PySem.W.fnOf "need_shares" "need_shares" (defArgs s_need_shares) (defBody s_need_shares) (defScope s_need_shares) .none kV_need_shares dc_need_shares pm_need_shares an_need_shares cd_need_shares ct_need_shares), sl_need_shares⟩)
    (c_need_shares : PySem.W.codeIn K cd_need_shares "need_shares" = true)
    (k_need_shares : PySem.W.keepIn K (.ref f_need_shares) = true)
    (a_peak_of : PySem.W.nsIn K mainGlobals "peak_of" = some (some (.ref f_peak_of)))
    (l_peak_of : K.lookup f_peak_of = some ⟨oc_peak_of, od_peak_of, .func (PySem.W.fnOf "peak_of" "peak_of" (defArgs s_peak_of) (defBody s_peak_of) (defScope s_peak_of) .none kV_peak_of dc_peak_of pm_peak_of an_peak_of cd_peak_of ct_peak_of), sl_peak_of⟩)
    (c_peak_of : PySem.W.codeIn K cd_peak_of "peak_of" = true)
    (k_peak_of : PySem.W.keepIn K (.ref f_peak_of) = true)
    (a_peak : PySem.W.nsIn K mainGlobals "peak" = some (some (.ref f_peak)))
    (l_peak : K.lookup f_peak = some ⟨oc_peak, od_peak, .func (PySem.W.fnOf "peak" "peak" (defArgs s_peak) (defBody s_peak) (defScope s_peak) .none kV_peak dc_peak pm_peak an_peak cd_peak ct_peak), sl_peak⟩)
    (c_peak : PySem.W.codeIn K cd_peak "peak" = true)
    (k_peak : PySem.W.keepIn K (.ref f_peak) = true)
    (a_all_turns : PySem.W.nsIn K mainGlobals "all_turns" = some (some (.ref f_all_turns)))
    (l_all_turns : K.lookup f_all_turns = some ⟨oc_all_turns, od_all_turns, .func (PySem.W.fnOf "all_turns" "all_turns" (defArgs s_all_turns) (defBody s_all_turns) (defScope s_all_turns) .none kV_all_turns dc_all_turns pm_all_turns an_all_turns cd_all_turns ct_all_turns), sl_all_turns⟩)
    (c_all_turns : PySem.W.codeIn K cd_all_turns "all_turns" = true)
    (k_all_turns : PySem.W.keepIn K (.ref f_all_turns) = true)
    (a_turned : PySem.W.nsIn K mainGlobals "turned" = some (some (.ref f_turned)))
    (l_turned : K.lookup f_turned = some ⟨oc_turned, od_turned, .func (PySem.W.fnOf "turned" "turned" (defArgs s_turned) (defBody s_turned) (defScope s_turned) .none kV_turned dc_turned pm_turned an_turned cd_turned ct_turned), sl_turned⟩)
    (c_turned : PySem.W.codeIn K cd_turned "turned" = true)
    (k_turned : PySem.W.keepIn K (.ref f_turned) = true)
    (a_law_shares : PySem.W.nsIn K mainGlobals "_law_shares" = some (some (.ref f_law_shares)))
    (l_law_shares : K.lookup f_law_shares = some ⟨oc_law_shares, od_law_shares, .func (PySem.W.fnOf "_law_shares" "_law_shares" (defArgs s_law_shares) (defBody s_law_shares) (defScope s_law_shares) .none kV_law_shares dc_law_shares pm_law_shares an_law_shares cd_law_shares ct_law_shares), sl_law_shares⟩)
    (c_law_shares : PySem.W.codeIn K cd_law_shares "_law_shares" = true)
    (k_law_shares : PySem.W.keepIn K (.ref f_law_shares) = true)
    (a_law_same : PySem.W.nsIn K mainGlobals "_law_same" = some (some (.ref f_law_same)))
    (l_law_same : K.lookup f_law_same = some ⟨oc_law_same, od_law_same, .func (PySem.W.fnOf "_law_same" "_law_same" (defArgs s_law_same) (defBody s_law_same) (defScope s_law_same) .none kV_law_same dc_law_same pm_law_same an_law_same cd_law_same ct_law_same), sl_law_same⟩)
    (c_law_same : PySem.W.codeIn K cd_law_same "_law_same" = true)
    (k_law_same : PySem.W.keepIn K (.ref f_law_same) = true)
    (a_law : PySem.W.nsIn K mainGlobals "law" = some (some (.ref f_law)))
    (l_law : K.lookup f_law = some ⟨oc_law, od_law, .func (PySem.W.fnOf "law" "law" (defArgs s_law) (defBody s_law) (defScope s_law) .none kV_law dc_law pm_law an_law cd_law ct_law), sl_law⟩)
    (c_law : PySem.W.codeIn K cd_law "law" = true)
    (k_law : PySem.W.keepIn K (.ref f_law) = true)
    (g_FEW_BEATS : PySem.W.nsIn K mainGlobals "FEW_BEATS" = some (some (.int 12 t_FEW_BEATS)))
    (g_FEW_SHARES : PySem.W.nsIn K mainGlobals "FEW_SHARES" = some (some (.int 3 t_FEW_SHARES)))
    (g_MOST_BEATS : PySem.W.nsIn K mainGlobals "MOST_BEATS" = some (some (.int 64 t_MOST_BEATS)))
    (g_MOST_SHARES : PySem.W.nsIn K mainGlobals "MOST_SHARES" = some (some (.int 12 t_MOST_SHARES)))
    (z_bool : PySem.W.nsIn K mainGlobals "bool" = some none)
    (z_int : PySem.W.nsIn K mainGlobals "int" = some none)
    (z_isinstance : PySem.W.nsIn K mainGlobals "isinstance" = some none)
    (z_len : PySem.W.nsIn K mainGlobals "len" = some none)
    (z_list : PySem.W.nsIn K mainGlobals "list" = some none)
    (z_max : PySem.W.nsIn K mainGlobals "max" = some none)
    (z_min : PySem.W.nsIn K mainGlobals "min" = some none)
    (z_range : PySem.W.nsIn K mainGlobals "range" = some none)
    (z_str : PySem.W.nsIn K mainGlobals "str" = some none)
    (z_sum : PySem.W.nsIn K mainGlobals "sum" = some none)
    (z_tuple : PySem.W.nsIn K mainGlobals "tuple" = some none)
    (z_zip : PySem.W.nsIn K mainGlobals "zip" = some none) :
    ∃ fd : FuncData, (∀ (s : Shared) (v : Value), BindsTo s fd ⟨[v], []⟩ [("_law_script", v)]) ∧ ∀ base : Heap, K.In base → base.Ns mainGlobals mg → FnOk P w K mg base CX0 4 fa fd ["_law_script"] (spLaw K) := by
  have e := hfa.symm.trans (PySem.W.mg_of X G a_law)
  cases e
  have T : Txt K mg := ⟨⟨_, PySem.W.mg_of X G g_FEW_BEATS, _, rfl⟩, ⟨_, PySem.W.mg_of X G g_FEW_SHARES, _, rfl⟩, ⟨_, PySem.W.mg_of X G g_MOST_BEATS, _, rfl⟩, ⟨_, PySem.W.mg_of X G g_MOST_SHARES, _, rfl⟩, PySem.W.mg_none_of X G z_bool, PySem.W.mg_none_of X G z_int, PySem.W.mg_none_of X G z_isinstance, PySem.W.mg_none_of X G z_len, PySem.W.mg_none_of X G z_list, PySem.W.mg_none_of X G z_max, PySem.W.mg_none_of X G z_min, PySem.W.mg_none_of X G z_range, PySem.W.mg_none_of X G z_str, PySem.W.mg_none_of X G z_sum, PySem.W.mg_none_of X G z_tuple, PySem.W.mg_none_of X G z_zip⟩
  have F_law_start := fun_mk (st := s_law_start) l_law_start c_law_start k_law_start
  have G_law_start : FunG K mg "_law_start" s_law_start _ _ ["_law_script"] := ⟨F_law_start, PySem.W.mg_of X G a_law_start, F_law_start.binds (ps := ["_law_script"]) fun _ _ _ _ _ _ us hl => match us, hl with | [_], _ => rfl⟩
  have F_law_drawn := fun_mk (st := s_law_drawn) l_law_drawn c_law_drawn k_law_drawn
  have G_law_drawn : FunG K mg "_law_drawn" s_law_drawn _ _ ["_law_state", "_law_many"] := ⟨F_law_drawn, PySem.W.mg_of X G a_law_drawn, F_law_drawn.binds (ps := ["_law_state", "_law_many"]) fun _ _ _ _ _ _ us hl => match us, hl with | [_, _], _ => rfl⟩
  have F_law_even := fun_mk (st := s_law_even) l_law_even c_law_even k_law_even
  have G_law_even : FunG K mg "_law_even" s_law_even _ _ ["_law_beats", "_law_pulses", "_law_turn"] := ⟨F_law_even, PySem.W.mg_of X G a_law_even, F_law_even.binds (ps := ["_law_beats", "_law_pulses", "_law_turn"]) fun _ _ _ _ _ _ us hl => match us, hl with | [_, _, _], _ => rfl⟩
  have F_need_beats := fun_mk (st := s_need_beats) l_need_beats c_need_beats k_need_beats
  have G_need_beats : FunG K mg "need_beats" s_need_beats _ _ ["beats"] := ⟨F_need_beats, PySem.W.mg_of X G a_need_beats, F_need_beats.binds (ps := ["beats"]) fun _ _ _ _ _ _ us hl => match us, hl with | [_], _ => rfl⟩
  have F_need_share := fun_mk (st := s_need_share) l_need_share c_need_share k_need_share
  have G_need_share : FunG K mg "need_share" s_need_share _ _ ["beats", "pulses"] := ⟨F_need_share, PySem.W.mg_of X G a_need_share, F_need_share.binds (ps := ["beats", "pulses"]) fun _ _ _ _ _ _ us hl => match us, hl with | [_, _], _ => rfl⟩
  have F_even_frame := fun_mk (st := s_even_frame) l_even_frame c_even_frame k_even_frame
  have G_even_frame : FunG K mg "even_frame" s_even_frame _ _ ["beats", "pulses", "turn"] := ⟨F_even_frame, PySem.W.mg_of X G a_even_frame, F_even_frame.binds (ps := ["beats", "pulses", "turn"]) fun _ _ _ _ _ _ us hl => match us, hl with | [_, _, _], _ => rfl⟩
  have F_even := fun_mk (st := s_even) l_even c_even k_even
  have G_even : FunG K mg "even" s_even _ _ ["beats", "pulses", "turn"] := ⟨F_even, PySem.W.mg_of X G a_even, F_even.binds (ps := ["beats", "pulses", "turn"]) fun _ _ _ _ _ _ us hl => match us, hl with | [_, _, _], _ => rfl⟩
  have F_most_on := fun_mk (st := s_most_on) l_most_on c_most_on k_most_on
  have G_most_on : FunG K mg "most_on" s_most_on _ _ ["beats", "shares", "turns"] := ⟨F_most_on, PySem.W.mg_of X G a_most_on, F_most_on.binds (ps := ["beats", "shares", "turns"]) fun _ _ _ _ _ _ us hl => match us, hl with | [_, _, _], _ => rfl⟩
  have F_law_most := fun_mk (st := s_law_most) l_law_most c_law_most k_law_most
  have G_law_most : FunG K mg "_law_most" s_law_most _ _ ["_law_beats", "_law_shares_here", "_law_turns"] := ⟨F_law_most, PySem.W.mg_of X G a_law_most, F_law_most.binds (ps := ["_law_beats", "_law_shares_here", "_law_turns"]) fun _ _ _ _ _ _ us hl => match us, hl with | [_, _, _], _ => rfl⟩
  have F_need_shares := fun_mk (st := s_need_shares) l_need_shares c_need_shares k_need_shares
  have G_need_shares : FunG K mg "need_shares" s_need_shares _ _ ["beats", "shares"] := ⟨F_need_shares, PySem.W.mg_of X G a_need_shares, F_need_shares.binds (ps := ["beats", "shares"]) fun _ _ _ _ _ _ us hl => match us, hl with | [_, _], _ => rfl⟩
  have F_peak_of := fun_mk (st := s_peak_of) l_peak_of c_peak_of k_peak_of
  have G_peak_of : FunG K mg "peak_of" s_peak_of _ _ ["beats", "shares"] := ⟨F_peak_of, PySem.W.mg_of X G a_peak_of, F_peak_of.binds (ps := ["beats", "shares"]) fun _ _ _ _ _ _ us hl => match us, hl with | [_, _], _ => rfl⟩
  have F_peak := fun_mk (st := s_peak) l_peak c_peak k_peak
  have G_peak : FunG K mg "peak" s_peak _ _ ["beats", "shares"] := ⟨F_peak, PySem.W.mg_of X G a_peak, F_peak.binds (ps := ["beats", "shares"]) fun _ _ _ _ _ _ us hl => match us, hl with | [_, _], _ => rfl⟩
  have F_all_turns := fun_mk (st := s_all_turns) l_all_turns c_all_turns k_all_turns
  have G_all_turns : FunG K mg "all_turns" s_all_turns _ _ ["beats", "many"] := ⟨F_all_turns, PySem.W.mg_of X G a_all_turns, F_all_turns.binds (ps := ["beats", "many"]) fun _ _ _ _ _ _ us hl => match us, hl with | [_, _], _ => rfl⟩
  have F_turned := fun_mk (st := s_turned) l_turned c_turned k_turned
  have G_turned : FunG K mg "turned" s_turned _ _ ["beats", "shares"] := ⟨F_turned, PySem.W.mg_of X G a_turned, F_turned.binds (ps := ["beats", "shares"]) fun _ _ _ _ _ _ us hl => match us, hl with | [_, _], _ => rfl⟩
  have F_law_shares := fun_mk (st := s_law_shares) l_law_shares c_law_shares k_law_shares
  have G_law_shares : FunG K mg "_law_shares" s_law_shares _ _ ["_law_state", "_law_beats", "_law_most_here"] := ⟨F_law_shares, PySem.W.mg_of X G a_law_shares, F_law_shares.binds (ps := ["_law_state", "_law_beats", "_law_most_here"]) fun _ _ _ _ _ _ us hl => match us, hl with | [_, _, _], _ => rfl⟩
  have F_law_same := fun_mk (st := s_law_same) l_law_same c_law_same k_law_same
  have G_law_same : FunG K mg "_law_same" s_law_same _ _ ["_law_found", "_law_due"] := ⟨F_law_same, PySem.W.mg_of X G a_law_same, F_law_same.binds (ps := ["_law_found", "_law_due"]) fun _ _ _ _ _ _ us hl => match us, hl with | [_, _], _ => rfl⟩
  have F_law := fun_mk (st := s_law) l_law c_law k_law
  have G_law : FunG K mg "law" s_law _ _ ["_law_script"] := ⟨F_law, PySem.W.mg_of X G a_law, F_law.binds (ps := ["_law_script"]) fun _ _ _ _ _ _ us hl => match us, hl with | [_], _ => rfl⟩
  refine ⟨PySem.W.fnOf "law" "law" (defArgs s_law) (defBody s_law) (defScope s_law) .none kV_law dc_law pm_law an_law cd_law ct_law, fun s v => .of_eq rfl, fun base KB GB => ?_⟩
  have c_law_start := G_law_start.cl (ok_law_start (P := P) (w := w) (base := base) G_law_start )
  have c_law_drawn := G_law_drawn.cl (ok_law_drawn (P := P) (w := w) (base := base) G_law_drawn T)
  have c_law_even := G_law_even.cl (ok_law_even (P := P) (w := w) (base := base) G_law_even T)
  have c_need_beats := G_need_beats.cl (ok_need_beats (P := P) (w := w) (base := base) G_need_beats T)
  have c_need_share := G_need_share.cl (ok_need_share (P := P) (w := w) (base := base) G_need_share c_need_beats)
  have c_even_frame := G_even_frame.cl (ok_even_frame (P := P) (w := w) (base := base) G_even_frame T)
  have c_even := G_even.cl (ok_even (P := P) (w := w) (base := base) G_even c_need_share c_even_frame)
  have c_most_on := G_most_on.cl (ok_most_on (P := P) (w := w) (base := base) G_most_on T c_even_frame)
  have c_law_most := G_law_most.cl (ok_law_most (P := P) (w := w) (base := base) G_law_most T c_law_even)
  have c_need_shares := G_need_shares.cl (ok_need_shares (P := P) (w := w) (base := base) G_need_shares T c_need_beats)
  have c_peak_of := G_peak_of.cl (ok_peak_of (P := P) (w := w) (base := base) G_peak_of T)
  have c_peak := G_peak.cl (ok_peak (P := P) (w := w) (base := base) G_peak c_need_shares c_peak_of)
  have c_all_turns := G_all_turns.cl (ok_all_turns (P := P) (w := w) (base := base) G_all_turns T)
  have c_turned := G_turned.cl (ok_turned (P := P) (w := w) (base := base) G_turned T c_need_shares c_all_turns c_most_on)
  have c_law_shares := G_law_shares.cl (ok_law_shares (P := P) (w := w) (base := base) G_law_shares T c_law_drawn)
  have c_law_same := G_law_same.cl (ok_law_same (P := P) (w := w) (base := base) G_law_same T 2)
  exact ok_law (P := P) (w := w) (base := base) G_law T c_law_start c_law_drawn c_law_shares c_law_most c_turned c_law_same c_peak c_even
theorem walk {l : PySem.W.OpenLaw} {q : Program} {loose : List Str} {XP : (Str → Option Value) → Heap → Prop} {YP : World → Heap → Prop} {d : DefRec} {K : Params → PySem.W.Frag} (hn : l.most = some 63) (hdf : d.params.defaults = [])
    (hY : ∀ (w : World) (h : Heap), YP w h → (K w.params).In h)
    (F : ∀ (w : World) (mg : Str → Option Value) (fa : Addr) (h : Heap), (K w.params).In h → h.Ns mainGlobals mg → mg d.name = some (.ref fa) →
      ∃ fd : FuncData, (∀ (s : Shared) (u : Value), BindsTo s fd ⟨[u], []⟩ [("_law_script", u)]) ∧ ∀ base : Heap, (K w.params).In base → base.Ns mainGlobals mg → FnOk l.prog w (K w.params) mg base CX0 4 fa fd ["_law_script"] (spLaw (K w.params))) :
    PySem.W.WalkO q loose XP YP l.row.toRowW d [] (fun f vs => PySem.call f vs) :=
  L2.walk_of (n := 63) (k := 4) (x := "_law_script") (CX := fun _ => CX0) (sp := fun w => spLaw (K w.params)) hn (by decide) hdf ⟨rfl, by decide, by decide⟩ hY F (fun _ _ a ns hl _ hS => ⟨a, ns, rfl, hS, hl, fun _ => rfl⟩) fun _ _ _ _ _ z => z
end My
open PySem PySem.W PyProof.Rows in
set_option maxRecDepth 100000 in
set_option maxHeartbeats 0 in
theorem PySem.Challenge.cw_pulseshare_k11_whole_even_frames_turned_holds : PySem.Challenge.rw_pulseshare_k11_whole_even_frames_turned.Holds := by
  w_on; o_law; k_head; (case hw => w_witness2)
  k_fill
  refine My.walk (l := PySem.Challenge.rw_pulseshare_k11_whole_even_frames_turned) rfl rfl (fun w h Y => PySem.W.kIn_of Y) ?F
  case F =>
    intro w mg fa h KX G hmg
    refine' My.all_mk KX G hmg ?a_law_start ?l_law_start ?c_law_start ?k_law_start ?a_law_drawn ?l_law_drawn ?c_law_drawn ?k_law_drawn ?a_law_even ?l_law_even ?c_law_even ?k_law_even ?a_need_beats ?l_need_beats ?c_need_beats ?k_need_beats ?a_need_share ?l_need_share ?c_need_share ?k_need_share ?a_even_frame ?l_even_frame ?c_even_frame ?k_even_frame ?a_even ?l_even ?c_even ?k_even ?a_most_on ?l_most_on ?c_most_on ?k_most_on ?a_law_most ?l_law_most ?c_law_most ?k_law_most ?a_need_shares ?l_need_shares ?c_need_shares ?k_need_shares ?a_peak_of ?l_peak_of ?c_peak_of ?k_peak_of ?a_peak ?l_peak ?c_peak ?k_peak ?a_all_turns ?l_all_turns ?c_all_turns ?k_all_turns ?a_turned ?l_turned ?c_turned ?k_turned ?a_law_shares ?l_law_shares ?c_law_shares ?k_law_shares ?a_law_same ?l_law_same ?c_law_same ?k_law_same ?a_law ?l_law ?c_law ?k_law ?g_FEW_BEATS ?g_FEW_SHARES ?g_MOST_BEATS ?g_MOST_SHARES ?z_bool ?z_int ?z_isinstance ?z_len ?z_list ?z_max ?z_min ?z_range ?z_str ?z_sum ?z_tuple ?z_zip
    (case a_law_start => k_is)
    (case l_law_start => k_is)
    (case c_law_start => k_is)
    (case k_law_start => k_is)
    (case a_law_drawn => k_is)
    (case l_law_drawn => k_is)
    (case c_law_drawn => k_is)
    (case k_law_drawn => k_is)
    (case a_law_even => k_is)
    (case l_law_even => k_is)
    (case c_law_even => k_is)
    (case k_law_even => k_is)
    (case a_need_beats => k_is)
    (case l_need_beats => k_is)
    (case c_need_beats => k_is)
    (case k_need_beats => k_is)
    (case a_need_share => k_is)
    (case l_need_share => k_is)
    (case c_need_share => k_is)
    (case k_need_share => k_is)
    (case a_even_frame => k_is)
    (case l_even_frame => k_is)
    (case c_even_frame => k_is)
    (case k_even_frame => k_is)
    (case a_even => k_is)
    (case l_even => k_is)
    (case c_even => k_is)
    (case k_even => k_is)
    (case a_most_on => k_is)
    (case l_most_on => k_is)
    (case c_most_on => k_is)
    (case k_most_on => k_is)
    (case a_law_most => k_is)
    (case l_law_most => k_is)
    (case c_law_most => k_is)
    (case k_law_most => k_is)
    (case a_need_shares => k_is)
    (case l_need_shares => k_is)
    (case c_need_shares => k_is)
    (case k_need_shares => k_is)
    (case a_peak_of => k_is)
    (case l_peak_of => k_is)
    (case c_peak_of => k_is)
    (case k_peak_of => k_is)
    (case a_peak => k_is)
    (case l_peak => k_is)
    (case c_peak => k_is)
    (case k_peak => k_is)
    (case a_all_turns => k_is)
    (case l_all_turns => k_is)
    (case c_all_turns => k_is)
    (case k_all_turns => k_is)
    (case a_turned => k_is)
    (case l_turned => k_is)
    (case c_turned => k_is)
    (case k_turned => k_is)
    (case a_law_shares => k_is)
    (case l_law_shares => k_is)
    (case c_law_shares => k_is)
    (case k_law_shares => k_is)
    (case a_law_same => k_is)
    (case l_law_same => k_is)
    (case c_law_same => k_is)
    (case k_law_same => k_is)
    (case a_law => k_is)
    (case l_law => k_is)
    (case c_law => k_is)
    (case k_law => k_is)
    (case g_FEW_BEATS => k_is)
    (case g_FEW_SHARES => k_is)
    (case g_MOST_BEATS => k_is)
    (case g_MOST_SHARES => k_is)
    (case z_bool => k_is)
    (case z_int => k_is)
    (case z_isinstance => k_is)
    (case z_len => k_is)
    (case z_list => k_is)
    (case z_max => k_is)
    (case z_min => k_is)
    (case z_range => k_is)
    (case z_str => k_is)
    (case z_sum => k_is)
    (case z_tuple => k_is)
    (case z_zip => k_is)
