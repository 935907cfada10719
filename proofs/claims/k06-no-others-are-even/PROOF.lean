import PyProof.Rows.All
import Wide.All
import OpenK.AllK
import Wide.FinOn
import HandS.ForMost
import HandS.Wide
import HandS.WideBits
import HandS.IsInst
import HandS.Codes
import HandS.SetKeys
import HandS.NamedTupSort
import KE.LtData
import KE.SortData
import PySem.Challenge.RW_pulseshare_k06_whole_no_others_are_even
set_option Elab.async false
set_option linter.all false
set_option maxRecDepth 100000
set_option maxHeartbeats 4000000
namespace My
open PySem L2
def top (i : Nat) : Stmt := PySem.Challenge.pw_pulseshare_k06_whole_no_others_are_even.main.body.getD i (.Pass ⟨0, 0, 0, 0⟩)
/-! ### calls in short -/
/-- a def of the text, where it stands, and how its arguments bind -/
structure FunG (K : PySem.W.Frag) (mg : Str → Option Value) (x : Str) (st : Stmt) (f : Addr) (fd : FuncData) (ps : List Str) : Prop where
  fn : Fun K x x st f fd
  mgf : mg x = some (.ref f)
  b : Binds K fd ps []
/-- a def that may be called by its name -/
structure Cl (P : Program) (w : World) (K : PySem.W.Frag) (mg : Str → Option Value) (base : Heap) (CX : CXT) (k : Nat) (x : Str) (sp : Sp) : Prop where
  ex : ∃ (f : Addr) (fd : FuncData) (ps : List Str), FnOk P w K mg base CX k f fd ps sp ∧ mg x = some (.ref f) ∧ PySem.W.keepIn K (.ref f) = true ∧ Binds K fd ps []
theorem FunG.cl {P : Program} {w : World} {K : PySem.W.Frag} {mg : Str → Option Value} {base : Heap} {CX : CXT} {k : Nat} {x : Str} {st : Stmt} {f : Addr} {fd : FuncData} {ps : List Str} {sp : Sp} (F : FunG K mg x st f fd ps) (h : FnOk P w K mg base CX k f fd ps sp) :
    Cl P w K mg base CX k x sp := ⟨f, fd, ps, h, F.mgf, F.fn.kp, F.b⟩
section
variable {X : Cx} {k j : Nat} {x : Str} {p pos : Pos} {e : Expr} {es : List Expr} {t : TA} {sp : Sp}
theorem pe_cl (c : Cl X.prog X.w X.K X.mg X.base CX0 k x sp) (hr : Room j X.A) (hk : k ≤ j) (hg : Gl X x) (ha : PA X (e :: es) t)
    (hdb : (x == ("__debug__" : Str)) = false := by decide) (he : starEach (e :: es) X.env = (false, eval e X.env) :: starEach es X.env := by rfl) (hpl : (backTo pos (starEach es X.env)).any (·.1) = false := by rfl) :
    PE X (.Call (.Name x p) (e :: es) [] pos) (tCall sp [] E0 t) := by
  obtain ⟨f, fd, ps, F, hm, kp, b⟩ := c.ex
  exact pe_call F (hr.mono hk) hg hm kp b .nil pass0 ha hdb he hpl
end
/-! ### words -/
theorem iteFe {c : Bool} {A B : Prop} (h : c = false) (k : B) : if c = true then A else B := by
  subst h; exact iteF k
theorem iteTe {c : Bool} {A B : Prop} (h : c = true) (k : A) : if c = true then A else B := by
  subst h; exact iteT k
theorem iteJoin {c : Bool} {A B R : Prop} (hA : c = true → R → A) (hB : c = false → R → B) (r : R) : if c = true then A else B := by
  cases c with
  | true => exact iteT (hA rfl r)
  | false => exact iteF (hB rfl r)
theorem neqF {x y : V} (h : x = y) : (!decide (x = y)) = false := by rw [decide_eq_true h]; rfl
/-! ### rules with the written part said (within a comprehension's block it can't be found by unification) -/
section
variable (K : PySem.W.Frag) {X : Cx}
theorem ixL (h : X.K = K := by rfl) : IxR X (rIxL K) := h ▸ ix_list
theorem ixT (h : X.K = K := by rfl) : IxR X (rIxT K) := h ▸ ix_tup
theorem ixQ (h : X.K = K := by rfl) : IxR X (rIx K) := h ▸ ix_seq
theorem slL (h : X.K = K := by rfl) : SlR X (rSlL K) := h ▸ sl_list
theorem opEqD (hu : X.A.units + 64 < cLine) (h : X.K = K := by rfl) : OpR X (compareOp .Eq) (rEqD K) := h ▸ op_eqD hu
theorem opNeD (hu : X.A.units + 64 < cLine) (h : X.K = K := by rfl) : OpR X (compareOp .NotEq) (rNeD K) := h ▸ op_neD hu
theorem opInQ (h : X.K = K := by rfl) : OpR X (compareOp .In) (rIn K false) := h ▸ op_in_seq
theorem opNotInQ (h : X.K = K := by rfl) : OpR X (compareOp .NotIn) (rIn K true) := h ▸ op_notIn_seq
theorem piListK {tg l : Expr} {tl : TE} (hl : PE X l tl) (h : X.K = K := by rfl) : PI X tg l (iList K tl) := h ▸ pi_list hl
theorem clLen (h : X.K = K := by rfl) : CallR X (.builtin "len") (fun xs H Q => ∃ p ys, xs = [.ref p] ∧ (SqL K H p ys ∨ SqT K H p ys) ∧ Q (.int ys.length) H) := h ▸ call_len_seq
theorem clList (h : X.K = K := by rfl) : CallR X (.type "list") (fun xs H Q => ∃ p ys, xs = [.ref p] ∧ (SqL K H p ys ∨ SqT K H p ys) ∧ ∀ l, H l = none → Q (.ref l) (upd H l (.lst ys))) := h ▸ call_list_of
theorem clSum (hc : X.calm = true) (h : X.K = K := by rfl) : CallR X (.builtin "sum") (rSum K) := h ▸ cr_sum hc
theorem clMax (hc : X.calm = true) (h : X.K = K := by rfl) : CallR X (.builtin "max") (rMax K) := h ▸ cr_max hc
theorem clMin (hc : X.calm = true) (h : X.K = K := by rfl) : CallR X (.builtin "min") (rMin K) := h ▸ cr_min hc
end
theorem units1 {n : Nat} (h : n + 64 < cLine) : n + 1 < cLine := by omega
/-! ### the drawing state -/
/-- [script, cells begun, mixed, left of a cell] -/
def StO (a : Addr) (i m c : Int) : HO := .lst [.ref a, .int i, .int m, .int c]
structure Drw (i m c : Int) : Prop where
  i0 : 0 ≤ i
  m0 : 0 ≤ m
  m1 : m < 2147483647
  c0 : 0 ≤ c
/-- all but the state is kept -/
def Keep (st : Addr) (H H' : Hp) : Prop := ∀ b o, b ≠ st → H b = some o → H' b = some o
/-- the state at st is good: its script is the list at a of the ints ns -/
structure SOk (K : PySem.W.Frag) (a : Addr) (ns : List Int) (st : Addr) (H : Hp) : Prop where
  len : ns.length ≤ 63
  sq : ∀ H', Keep st H H' → SqL K H' a (ns.map V.int)
  at_ : ∃ i m c, Drw i m c ∧ H st = some (StO a i m c)
section
variable {K : PySem.W.Frag} {a st p : Addr} {ns : List Int} {H H1 H2 : Hp} {o u : HO} {xs : List V}
theorem Keep.refl (st : Addr) (H : Hp) : Keep st H H := fun _ _ _ h => h
theorem Keep.trans (h : Keep st H H1) (h' : Keep st H1 H2) : Keep st H H2 := fun b o hb e => h' b o hb (h b o hb e)
theorem Keep.new (h : Keep st H H1) (hp : H1 p = none) : Keep st H (upd H1 p o) := fun b u hb e => by
  rw [upd_ne (ne_of_none (h b u hb e) hp)]; exact h b u hb e
theorem Keep.mut (h : Keep st H H1) (hp : H p = none) : Keep st H (upd H1 p o) := fun b u hb e => by
  rw [upd_ne (ne_of_none e hp)]; exact h b u hb e
theorem Keep.atSt (h : Keep st H H1) : Keep st H (upd H1 st o) := fun b u hb e => by
  rw [upd_ne hb]; exact h b u hb e
theorem Keep.free (h : Keep st H H1) (hp : p ≠ st) (e : H1 p = none) : H p = none := by
  cases q : H p with
  | none => rfl
  | some o => rw [h p o hp q] at e; cases e
theorem _root_.L2.Same.keep (h : Same H H1) : Keep st H H1 := fun b u _ e => h b u e
theorem _root_.L2.Same.new (h : Same H H1) (hp : H1 p = none) : Same H (upd H1 p o) := fun b u e => by
  rw [upd_ne (ne_of_none (h b u e) hp)]; exact h b u e
theorem _root_.L2.Same.mut (h : Same H H1) (hp : H p = none) : Same H (upd H1 p o) := fun b u e => by
  rw [upd_ne (ne_of_none e hp)]; exact h b u e
theorem _root_.L2.Same.upd (hp : H p = none) : Same H (upd H p o) := (Same.refl H).new hp
/-- the base heap, in which the state does not stand, is kept -/
theorem _root_.L2.Same.keepAll (h : Same H H1) (hst : H st = none) (k : Keep st H1 H2) : Same H H2 := fun b u e => k b u (ne_of_none e hst) (h b u e)
theorem SOk.now (s : SOk K a ns st H) : SqL K H a (ns.map V.int) := s.sq H (Keep.refl st H)
/-- a script that stood in H stands where all but the state is kept -/
theorem SOk.keep (s : SOk K a ns st H) (k : Keep st H H1) {i m c : Int} (d : Drw i m c) (h : H1 st = some (StO a i m c)) : SOk K a ns st H1 := ⟨s.len, fun H' k' => s.sq H' (k.trans k'), i, m, c, d, h⟩
theorem SOk.same (s : SOk K a ns st H) (k : Same H H1) : SOk K a ns st H1 := by
  obtain ⟨i, m, c, d, h⟩ := s.at_
  exact s.keep k.keep d (k _ _ h)
theorem SOk.new (s : SOk K a ns st H) (hp : H p = none) : SOk K a ns st (L2.upd H p o) := s.same (Same.upd hp)
/-- the state's making -/
theorem SOk.make (hl : ns.length ≤ 63) (hq : SqL K H a (ns.map V.int)) (hst : H st = none) {i m c : Int} (d : Drw i m c) : SOk K a ns st (L2.upd H st (StO a i m c)) :=
  ⟨hl, fun _ k' => ((Same.upd hst).keepAll hst k').seq hq, i, m, c, d, upd_same⟩
/-- a list that did not stand in the base heap H0 is changed -/
theorem SOk.mut {H0 : Hp} (s : SOk K a ns st H) (hq : SqL K H0 a (ns.map V.int)) (hst : H0 st = none) (k : Same H0 H) (hp : H0 p = none) (hps : p ≠ st) : SOk K a ns st (L2.upd H p o) := by
  obtain ⟨i, m, c, d, h⟩ := s.at_
  exact ⟨s.len, fun _ k' => ((k.mut hp).keepAll hst k').seq hq, i, m, c, d, by rw [upd_ne hps.symm]; exact h⟩
theorem SOk.ne_of (s : SOk K a ns st H) (hp : H p = none) : p ≠ st := by
  obtain ⟨i, m, c, d, h⟩ := s.at_
  exact (ne_of_none h hp).symm
/-- .. that did not stand in a heap with a good state -/
theorem SOk.mutK {H0 : Hp} (s : SOk K a ns st H) (s0 : SOk K a ns st H0) (k : Keep st H0 H) (hp : H0 p = none) : SOk K a ns st (L2.upd H p o) := by
  obtain ⟨i, m, c, d, h⟩ := s.at_
  have hps : p ≠ st := s0.ne_of hp
  exact ⟨s.len, fun H' k' => s0.sq H' ((k.mut hp).trans k'), i, m, c, d, by rw [upd_ne hps.symm]; exact h⟩
end
/-! ### lists of ints -/
theorem getV {ns : List Int} {i : Nat} {y : V} (h : (ns.map V.int)[i]? = some y) : ∃ z, ns[i]? = some z ∧ y = V.int z := by
  rw [List.getElem?_map] at h
  cases e : ns[i]? with
  | none => rw [e] at h; cases h
  | some z => rw [e] at h; exact ⟨z, rfl, (Option.some.inj h).symm⟩
theorem atV {ns : List Int} {z : Int} {j : Nat} (e : z = (j : Int)) (h : j < ns.length) : atI (ns.map V.int) z = some (V.int (ns.getD j 0)) := by
  refine at_of e ?_
  rw [List.getElem?_map, List.getElem?_eq_getElem h]
  simp [List.getD, List.getElem?_eq_getElem h]
theorem small_of {n m : Nat} (h : n ≤ m) (hm : m < 16000000 := by decide) : n < sizeLine := by rw [sizeLine_eq]; omega
theorem small_le {n m : Nat} (h : n ≤ m) (hm : m < 16000000 := by decide) : n ≤ sizeLine := by rw [sizeLine_eq]; omega
theorem nat_pow {z : Int} {n : Nat} (h0 : 0 ≤ z) (h1 : z < 2 ^ n) : z.natAbs < 2 ^ n := by
  have e : ((2 ^ n : Nat) : Int) = (2 : Int) ^ n := by simp
  omega
theorem pick3 {r : Int} (h0 : 0 ≤ r) (h1 : r < 3) : r = 0 ∨ r = 1 ∨ r = 2 := by omega
theorem pick4 {r : Int} (h0 : 0 ≤ r) (h1 : r < 4) : r = 0 ∨ r = 1 ∨ r = 2 ∨ r = 3 := by omega
theorem pick5 {r : Int} (h0 : 0 ≤ r) (h1 : r < 5) : r = 0 ∨ r = 1 ∨ r = 2 ∨ r = 3 ∨ r = 4 := by omega
/-! ### even frames -/
/-- beat k of the even frame of a share by a turn -/
def evB (b p t : Int) (k : Nat) : Int := ((k : Int) + 1 + t) * p / b - ((k : Int) + t) * p / b
def evL (b p t : Int) : List Int := (List.range b.toNat).map (evB b p t)
theorem evL_len (b p t : Int) : (evL b p t).length = b.toNat := by simp [evL]
/-- what is left beside wholes ahead of beat k -/
def evR (b p t : Int) (k : Nat) : Int := ((k : Int) + t) * p % b
theorem evR_range {b : Int} (hb : 0 < b) (p t : Int) (k : Nat) : 0 ≤ evR b p t k ∧ evR b p t k < b := ⟨Int.emod_nonneg _ (by omega), Int.emod_lt_of_pos _ hb⟩
theorem ev_step (b p t : Int) (k : Nat) : ((k : Int) + 1 + t) * p = ((k : Int) + t) * p + p := by
  rw [show (k : Int) + 1 + t = ((k : Int) + t) + 1 by omega, Int.add_mul, Int.one_mul]
/-- the beat by what is left -/
theorem evB_eq {b p : Int} (hb : 0 < b) (h0 : 0 ≤ p) (h1 : p ≤ b) (t : Int) (k : Nat) : evB b p t k = if b ≤ evR b p t k + p then 1 else 0 := by
  unfold evB evR
  rw [ev_step b]
  generalize ((k : Int) + t) * p = z
  have e := Int.mul_ediv_add_emod z b
  have r0 := Int.emod_nonneg z (show b ≠ 0 by omega)
  have r1 := Int.emod_lt_of_pos z hb
  have q : z + p = (z % b + p) + z / b * b := by rw [Int.mul_comm]; omega
  rw [q, Int.add_mul_ediv_right _ _ (show b ≠ 0 by omega)]
  by_cases c : b ≤ z % b + p
  · rw [if_pos c]
    have : (z % b + p) / b = 1 := by
      have e1 : z % b + p = (z % b + p - b) + 1 * b := by omega
      rw [e1, Int.add_mul_ediv_right _ _ (show b ≠ 0 by omega), Int.ediv_eq_zero_of_lt (by omega) (by omega)]
      omega
    omega
  · rw [if_neg c, Int.ediv_eq_zero_of_lt (by omega) (by omega)]
    omega
theorem evR_next {b p : Int} (hb : 0 < b) (h0 : 0 ≤ p) (h1 : p ≤ b) (t : Int) (k : Nat) : evR b p t (k + 1) = evR b p t k + p - b * evB b p t k := by
  rw [evB_eq hb h0 h1]
  unfold evR
  have e0 : (((k + 1 : Nat) : Int) + t) * p = ((k : Int) + t) * p + p := by
    have e1 : (((k + 1 : Nat) : Int) + t) = (k : Int) + 1 + t := by omega
    rw [e1, ev_step b]
  rw [e0]
  generalize ((k : Int) + t) * p = z
  have e := Int.mul_ediv_add_emod z b
  have r0 := Int.emod_nonneg z (show b ≠ 0 by omega)
  have r1 := Int.emod_lt_of_pos z hb
  have q : z + p = (z % b + p) + z / b * b := by rw [Int.mul_comm]; omega
  rw [q, Int.add_mul_emod_self_right]
  by_cases c : b ≤ z % b + p
  · rw [if_pos c]
    have e1 : z % b + p = (z % b + p - b) + 1 * b := by omega
    rw [e1, Int.add_mul_emod_self_right]
    by_cases c2 : z % b + p - b < b
    · rw [Int.emod_eq_of_lt (by omega) c2]; omega
    · omega
  · rw [if_neg c, Int.emod_eq_of_lt (by omega) (by omega)]; omega
theorem evB_01 {b p : Int} (hb : 0 < b) (h0 : 0 ≤ p) (h1 : p ≤ b) (t : Int) (k : Nat) : evB b p t k = 0 ∨ evB b p t k = 1 := by
  rw [evB_eq hb h0 h1]; split <;> simp
theorem evL_get {b p t : Int} {k : Nat} (h : k < b.toNat) : (evL b p t)[k]? = some (evB b p t k) := by
  unfold evL; simp [h]
theorem evL_take_sum (b p t : Int) : ∀ n : Nat, (((List.range n).map (evB b p t)).sum : Int) = ((n : Int) + t) * p / b - t * p / b
  | 0 => by simp
  | n + 1 => by
    rw [List.range_succ, List.map_append, List.sum_append, evL_take_sum b p t n]
    simp only [List.map_cons, List.map_nil, List.sum_cons, List.sum_nil, evB]
    have : (((n + 1 : Nat) : Int) + t) = (n : Int) + 1 + t := by omega
    rw [this]; omega
theorem evL_sum {b : Int} (hb : 0 < b) (p t : Int) : (evL b p t).sum = p := by
  unfold evL
  rw [evL_take_sum, Int.toNat_of_nonneg (by omega), Int.add_mul, Int.add_comm, Int.mul_comm b p, Int.add_mul_ediv_right _ _ (show b ≠ 0 by omega)]
  omega
/-! ### windows of frames -/
/-- beat k of a frame that goes round -/
def cyc (fs : List Int) (k : Nat) : Int := fs.getD (k % fs.length) 0
/-- the first k beats together, going round -/
def psum (fs : List Int) : Nat → Int
  | 0 => 0
  | k + 1 => psum fs k + cyc fs k
/-- how many are on in the window of w beats from k on -/
def win (fs : List Int) (w k : Nat) : Int := psum fs (k + w) - psum fs k
theorem cyc_add (fs : List Int) (k : Nat) : cyc fs (k + fs.length) = cyc fs k := by simp [cyc]
theorem cyc_lt {fs : List Int} {k : Nat} (h : k < fs.length) : cyc fs k = fs.getD k 0 := by simp [cyc, Nat.mod_eq_of_lt h]
theorem psum_take (fs : List Int) : ∀ k, k ≤ fs.length → psum fs k = (fs.take k).sum
  | 0, _ => by simp [psum]
  | k + 1, h => by
    have hk : k < fs.length := by omega
    rw [psum, psum_take fs k (by omega), cyc_lt hk, List.take_succ_eq_append_getElem hk, List.sum_append]
    simp [List.getD, List.getElem?_eq_getElem hk]
theorem psum_len (fs : List Int) : psum fs fs.length = fs.sum := by rw [psum_take fs _ (Nat.le_refl _), List.take_length]
theorem psum_add_len (fs : List Int) : ∀ k, psum fs (k + fs.length) = psum fs k + fs.sum
  | 0 => by rw [Nat.zero_add, psum_len]; simp [psum]
  | k + 1 => by
    rw [show k + 1 + fs.length = (k + fs.length) + 1 by omega, psum, psum_add_len fs k, cyc_add, psum]; omega
theorem psum_mul (fs : List Int) (r : Nat) : ∀ q : Nat, psum fs (q * fs.length + r) = fs.sum * q + psum fs r
  | 0 => by simp
  | q + 1 => by
    rw [show (q + 1) * fs.length + r = (q * fs.length + r) + fs.length by rw [Nat.add_mul]; omega, psum_add_len, psum_mul fs r q, Int.natCast_add, Int.mul_add]; simp; omega
theorem win_zero (fs : List Int) (w : Nat) : win fs w 0 = psum fs w := by simp [win, psum]
theorem win_next (fs : List Int) (w k : Nat) : win fs w (k + 1) = win fs w k - cyc fs k + cyc fs (k + w) := by
  unfold win
  rw [show k + 1 + w = (k + w) + 1 by omega, psum, psum]; omega
theorem win_first {fs : List Int} (w : Nat) : fs.sum * ((w / fs.length : Nat) : Int) + (fs.take (w % fs.length)).sum = win fs w 0 := by
  rw [win_zero]
  by_cases hn : fs.length = 0
  · have : fs = [] := List.eq_nil_of_length_eq_zero hn
    subst this
    have z : ∀ k, psum [] k = 0 := fun k => by
      induction k with
      | zero => rfl
      | succ k ih => rw [psum, ih]; simp [cyc]
    simp [z]
  · have e : w = (w / fs.length) * fs.length + w % fs.length := by rw [Nat.mul_comm]; exact (Nat.div_add_mod w fs.length).symm
    have hr : w % fs.length ≤ fs.length := Nat.le_of_lt (Nat.mod_lt _ (by omega))
    have h1 := psum_mul fs (w % fs.length) (w / fs.length)
    rw [← e] at h1
    rw [h1, psum_take fs _ hr]
theorem win_round (fs : List Int) (w k : Nat) : win fs w (k + fs.length) = win fs w k := by
  unfold win
  rw [show k + fs.length + w = (k + w) + fs.length by omega, psum_add_len, psum_add_len]; omega
theorem win_mod {fs : List Int} (w : Nat) : ∀ k, win fs w k = win fs w (k % fs.length) := by
  intro k
  have e := Nat.div_add_mod k fs.length
  have h : ∀ q r, win fs w (q * fs.length + r) = win fs w r := fun q r => by
    induction q with
    | zero => simp
    | succ q ih => rw [show (q + 1) * fs.length + r = (q * fs.length + r) + fs.length by rw [Nat.add_mul]; omega, win_round, ih]
  conv => lhs; rw [← e, Nat.mul_comm]
  exact h _ _
/-- all windows of a width -/
def wins (fs : List Int) (w : Nat) : List Int := (List.range fs.length).map (win fs w)
theorem wins_len (fs : List Int) (w : Nat) : (wins fs w).length = fs.length := by simp [wins]
theorem mem_wins {fs : List Int} {w : Nat} {x : Int} : x ∈ wins fs w ↔ ∃ k, k < fs.length ∧ win fs w k = x := by simp [wins]
theorem win_mem {fs : List Int} (h : 0 < fs.length) (w k : Nat) : win fs w k ∈ wins fs w := by
  rw [win_mod]
  exact mem_wins.mpr ⟨_, Nat.mod_lt _ h, rfl⟩
/-! sums over a round -/
def tsum (f : Nat → Int) (n : Nat) : Int := ((List.range n).map f).sum
theorem tsum_zero (f : Nat → Int) : tsum f 0 = 0 := rfl
theorem tsum_succ (f : Nat → Int) (n : Nat) : tsum f (n + 1) = tsum f n + f n := by
  unfold tsum; rw [List.range_succ, List.map_append, List.sum_append]; simp
theorem tsum_add (f g : Nat → Int) : ∀ n, tsum (fun k => f k + g k) n = tsum f n + tsum g n
  | 0 => rfl
  | n + 1 => by rw [tsum_succ, tsum_succ, tsum_succ, tsum_add f g n]; omega
theorem tsum_le {f g : Nat → Int} : ∀ n, (∀ k, k < n → f k ≤ g k) → tsum f n ≤ tsum g n
  | 0, _ => Int.le_refl _
  | n + 1, h => by
    rw [tsum_succ, tsum_succ]
    have := tsum_le n fun k hk => h k (by omega)
    have := h n (by omega)
    omega
theorem tsum_lt {f g : Nat → Int} : ∀ n, (∀ k, k < n → f k ≤ g k) → (∃ k, k < n ∧ f k < g k) → tsum f n < tsum g n
  | 0, _, ⟨k, hk, _⟩ => by omega
  | n + 1, h, ⟨k, hk, hl⟩ => by
    rw [tsum_succ, tsum_succ]
    have h1 := h n (by omega)
    by_cases e : k = n
    · subst e
      have := tsum_le k fun j hj => h j (by omega)
      omega
    · have := tsum_lt n (fun j hj => h j (by omega)) ⟨k, by omega, hl⟩
      omega
theorem tsum_const (c : Int) : ∀ n : Nat, tsum (fun _ => c) n = n * c
  | 0 => by simp [tsum_zero]
  | n + 1 => by rw [tsum_succ, tsum_const c n, Int.natCast_add, Int.add_mul]; simp
theorem tsum_congr {f g : Nat → Int} (n : Nat) (h : ∀ k, k < n → f k = g k) : tsum f n = tsum g n := by
  have h1 := tsum_le n fun k hk => Int.le_of_eq (h k hk)
  have h2 := tsum_le n fun k hk => Int.le_of_eq (h k hk).symm
  omega
theorem psum_tsum (fs : List Int) : ∀ k, psum fs k = tsum (cyc fs) k
  | 0 => rfl
  | k + 1 => by rw [psum, tsum_succ, psum_tsum fs k]
theorem tsum_shift (fs : List Int) : ∀ d, tsum (fun k => cyc fs (k + d)) fs.length = fs.sum := by
  intro d
  have h : ∀ n, tsum (fun k => cyc fs (k + d)) n = psum fs (n + d) - psum fs d := fun n => by
    induction n with
    | zero => simp [tsum_zero]
    | succ n ih => rw [tsum_succ, ih, show n + 1 + d = (n + d) + 1 by omega, psum]; omega
  rw [h, Nat.add_comm, psum_add_len]; omega
/-- all windows of a width together -/
theorem wins_sum (fs : List Int) : ∀ w : Nat, tsum (win fs w) fs.length = w * fs.sum
  | 0 => by
    have h : tsum (win fs 0) fs.length = tsum (fun _ => (0 : Int)) fs.length := tsum_congr _ fun k _ => by simp [win]
    rw [h, tsum_const]; simp
  | w + 1 => by
    have h : tsum (win fs (w + 1)) fs.length = tsum (fun k => win fs w k + cyc fs (k + w)) fs.length := tsum_congr _ fun k _ => by
      unfold win
      rw [show k + (w + 1) = (k + w) + 1 by omega, psum]; omega
    rw [h, tsum_add, wins_sum fs w, tsum_shift, Int.natCast_add, Int.add_mul]; simp
/-! ### spread -/
/-- windows of each width up to the beats are at most one apart -/
def Spread (fs : List Int) : Prop := ∀ w, 1 ≤ w → w ≤ fs.length → ∀ i j, i < fs.length → j < fs.length → win fs w i - win fs w j ≤ 1
theorem Spread.near {fs : List Int} (h : Spread fs) (h0 : 0 < fs.length) (w i : Nat) (hw : w ≤ fs.length) : (fs.length : Int) * win fs w i - w * fs.sum < fs.length ∧ -(fs.length : Int) < (fs.length : Int) * win fs w i - w * fs.sum := by
  rcases Nat.eq_zero_or_pos w with e | hw0
  · subst e
    have : win fs 0 i = 0 := by simp [win]
    rw [this]; simp; omega
  rw [win_mod]
  have hi : i % fs.length < fs.length := Nat.mod_lt _ h0
  generalize i % fs.length = k at hi
  have s := wins_sum fs w
  have up : tsum (win fs w) fs.length < tsum (fun _ => win fs w k + 1) fs.length := tsum_lt _ (fun j hj => by have := h w hw0 hw j k hj hi; omega) ⟨k, hi, by omega⟩
  have dn : tsum (fun _ => win fs w k - 1) fs.length < tsum (win fs w) fs.length := tsum_lt _ (fun j hj => by have := h w hw0 hw k j hi hj; omega) ⟨k, hi, by omega⟩
  rw [tsum_const] at up dn
  rw [s] at up dn
  rw [Int.mul_add] at up
  rw [Int.mul_sub] at dn
  constructor <;> omega
/-- the least, the greatest of finitely many -/
theorem exists_max (f : Nat → Int) : ∀ n, 0 < n → ∃ k, k < n ∧ ∀ j, j < n → f j ≤ f k
  | 1, _ => ⟨0, by omega, fun j hj => by have : j = 0 := by omega
                                         subst this; exact Int.le_refl _⟩
  | n + 2, _ => by
    obtain ⟨k, hk, h⟩ := exists_max f (n + 1) (by omega)
    by_cases c : f k ≤ f (n + 1)
    · refine ⟨n + 1, by omega, fun j hj => ?_⟩
      by_cases e : j = n + 1
      · subst e; exact Int.le_refl _
      · exact Int.le_trans (h j (by omega)) c
    · refine ⟨k, by omega, fun j hj => ?_⟩
      by_cases e : j = n + 1
      · subst e; omega
      · exact h j (by omega)
/-- a spread frame is an even one -/
theorem Spread.even {fs : List Int} (h : Spread fs) (h0 : 0 < fs.length) : ∃ t : Nat, t < fs.length ∧ evL (fs.length : Int) fs.sum (t : Int) = fs := by
  obtain ⟨k0, hk0, hmax⟩ := exists_max (fun k => (fs.length : Int) * psum fs k - k * fs.sum) fs.length h0
  -- the greatest lies less than the beats above any
  have key : ∀ k, (fs.length : Int) * psum fs k - k * fs.sum ≤ (fs.length : Int) * psum fs k0 - k0 * fs.sum ∧ (fs.length : Int) * psum fs k0 - k0 * fs.sum < (fs.length : Int) * psum fs k - k * fs.sum + fs.length := by
    have base : ∀ k, k < fs.length → (fs.length : Int) * psum fs k - k * fs.sum ≤ (fs.length : Int) * psum fs k0 - k0 * fs.sum ∧ (fs.length : Int) * psum fs k0 - k0 * fs.sum < (fs.length : Int) * psum fs k - k * fs.sum + fs.length := by
      intro k hk
      refine ⟨hmax k hk, ?_⟩
      by_cases c : k ≤ k0
      · obtain ⟨d, rfl⟩ : ∃ d, k0 = k + d := ⟨k0 - k, by omega⟩
        have n := (h.near h0 d k (by omega)).1
        unfold win at n
        rw [Int.mul_sub] at n
        rw [Int.natCast_add, Int.add_mul]
        omega
      · obtain ⟨d, rfl⟩ : ∃ d, k = k0 + d := ⟨k - k0, by omega⟩
        have n := (h.near h0 d k0 (by omega)).2
        unfold win at n
        rw [Int.mul_sub] at n
        rw [Int.natCast_add, Int.add_mul]
        omega
    intro k
    have e := Nat.div_add_mod k fs.length
    have hk := base (k % fs.length) (Nat.mod_lt _ h0)
    have h1 := psum_mul fs (k % fs.length) (k / fs.length)
    rw [Nat.mul_comm, ] at e
    rw [e] at h1
    have e2 : (k : Int) = (k / fs.length : Nat) * (fs.length : Int) + (k % fs.length : Nat) := by
      have := congrArg (fun z : Nat => (z : Int)) e
      simp only [Int.natCast_add, Int.natCast_mul] at this
      omega
    have e3 : (fs.length : Int) * psum fs k - k * fs.sum = (fs.length : Int) * psum fs (k % fs.length) - (k % fs.length : Nat) * fs.sum := by
      rw [h1]
      have : (k : Int) * fs.sum = (k / fs.length : Nat) * (fs.length : Int) * fs.sum + (k % fs.length : Nat) * fs.sum := by
        rw [← Int.add_mul]; congr 1
      rw [this, Int.mul_add, show (fs.length : Int) * (fs.sum * ((k / fs.length : Nat) : Int)) = ((k / fs.length : Nat) : Int) * (fs.length : Int) * fs.sum by
        rw [Int.mul_comm fs.sum, ← Int.mul_assoc, Int.mul_comm (fs.length : Int)]]
      omega
    rw [e3]; exact hk
  -- so the sums are floors
  have floor : ∀ k : Nat, psum fs k = ((k : Int) - k0) * fs.sum / fs.length + psum fs k0 := by
    intro k
    obtain ⟨a, b⟩ := key k
    have hn : (0 : Int) < fs.length := by omega
    have e : ((k : Int) - k0) * fs.sum = (fs.length : Int) * (psum fs k - psum fs k0) + (((fs.length : Int) * psum fs k0 - k0 * fs.sum) - ((fs.length : Int) * psum fs k - k * fs.sum)) := by
      rw [Int.sub_mul, Int.mul_sub]; omega
    rw [e, Int.add_comm ((fs.length : Int) * _), Int.add_mul_ediv_left _ _ (by omega), Int.ediv_eq_zero_of_lt (by omega) (by omega)]
    omega
  refine ⟨(fs.length - k0) % fs.length, Nat.mod_lt _ h0, ?_⟩
  -- the turn: less k0, going round
  have turn : ∀ k : Nat, evB (fs.length : Int) fs.sum (((fs.length - k0) % fs.length : Nat) : Int) k = evB (fs.length : Int) fs.sum (-(k0 : Int)) k := by
    intro k
    by_cases c : k0 = 0
    · subst c; simp
    · rw [Nat.mod_eq_of_lt (by omega)]
      have hn : (fs.length : Int) ≠ 0 := by omega
      unfold evB
      have e1 : ((k : Int) + 1 + ((fs.length - k0 : Nat) : Int)) * fs.sum = ((k : Int) + 1 + -(k0 : Int)) * fs.sum + fs.length * fs.sum := by
        rw [← Int.add_mul]; congr 1; omega
      have e2 : ((k : Int) + ((fs.length - k0 : Nat) : Int)) * fs.sum = ((k : Int) + -(k0 : Int)) * fs.sum + fs.length * fs.sum := by
        rw [← Int.add_mul]; congr 1; omega
      rw [e1, e2, Int.add_mul_ediv_left _ _ hn, Int.add_mul_ediv_left _ _ hn]
      omega
  apply List.ext_getElem
  · rw [evL_len]; simp
  · intro k h1 h2
    have hk : k < ((fs.length : Nat) : Int).toNat := by simpa [evL_len] using h1
    have g : (evL (fs.length : Int) fs.sum (((fs.length - k0) % fs.length : Nat) : Int))[k]? = some (evB (fs.length : Int) fs.sum (((fs.length - k0) % fs.length : Nat) : Int) k) := evL_get hk
    rw [List.getElem?_eq_getElem h1] at g
    rw [Option.some.inj g, turn]
    unfold evB
    have f1 := floor (k + 1)
    have f0 := floor k
    rw [psum, cyc_lt h2] at f1
    have e1 : ((k + 1 : Nat) : Int) - k0 = (k : Int) + 1 + -(k0 : Int) := by omega
    have e0 : (k : Int) - k0 = (k : Int) + -(k0 : Int) := by omega
    rw [e1] at f1
    rw [e0] at f0
    have : fs.getD k 0 = fs[k] := by simp [List.getD, List.getElem?_eq_getElem h2]
    omega
/-! ### windows of even frames -/
theorem evL_cyc {b p t : Int} (hb : 0 < b) (k : Nat) : cyc (evL b p t) k = evB b p t k := by
  have hl : (evL b p t).length = b.toNat := evL_len b p t
  have h0 : 0 < (evL b p t).length := by omega
  unfold cyc
  have g := evL_get (b := b) (p := p) (t := t) (k := k % (evL b p t).length) (by have := Nat.mod_lt k h0; omega)
  rw [List.getD, g, Option.getD_some]
  have e := Nat.div_add_mod k (evL b p t).length
  generalize k % (evL b p t).length = r at e
  generalize k / (evL b p t).length = q at e
  subst e
  unfold evB
  have e1 : (((evL b p t).length * q + r : Nat) : Int) = b * (q : Int) + (r : Int) := by rw [hl]; simp [Int.toNat_of_nonneg (Int.le_of_lt hb)]
  have e2 : ((b * (q : Int) + (r : Int)) + 1 + t) * p = ((r : Int) + 1 + t) * p + b * ((q : Int) * p) := by
    rw [show (b * (q : Int) + (r : Int)) + 1 + t = ((r : Int) + 1 + t) + b * (q : Int) by omega, Int.add_mul, Int.mul_assoc]
  have e3 : ((b * (q : Int) + (r : Int)) + t) * p = ((r : Int) + t) * p + b * ((q : Int) * p) := by
    rw [show (b * (q : Int) + (r : Int)) + t = ((r : Int) + t) + b * (q : Int) by omega, Int.add_mul, Int.mul_assoc]
  rw [e1, e2, e3, Int.add_mul_ediv_left _ _ (show b ≠ 0 by omega), Int.add_mul_ediv_left _ _ (show b ≠ 0 by omega)]
  omega
theorem evL_psum {b p t : Int} (hb : 0 < b) : ∀ k : Nat, psum (evL b p t) k = ((k : Int) + t) * p / b - t * p / b
  | 0 => by simp [psum]
  | k + 1 => by
    rw [psum, evL_psum hb k, evL_cyc hb, evB]
    have e1 : (((k + 1 : Nat) : Int) + t) = (k : Int) + 1 + t := by omega
    rw [e1]; omega
theorem evL_win {b p t : Int} (hb : 0 < b) (w k : Nat) : win (evL b p t) w k = (((k : Int) + t) * p + (w : Int) * p) / b - ((k : Int) + t) * p / b := by
  unfold win
  rw [evL_psum hb, evL_psum hb]
  have e : (((k + w : Nat) : Int) + t) * p = ((k : Int) + t) * p + (w : Int) * p := by
    rw [← Int.add_mul]; congr 1; omega
  rw [e]; omega
theorem div_part {x y b : Int} (hb : 0 < b) : y / b ≤ (x + y) / b - x / b ∧ (x + y) / b - x / b ≤ y / b + 1 := by
  have ex := Int.mul_ediv_add_emod x b
  have ey := Int.mul_ediv_add_emod y b
  have rx0 := Int.emod_nonneg x (show b ≠ 0 by omega)
  have rx1 := Int.emod_lt_of_pos x hb
  have ry0 := Int.emod_nonneg y (show b ≠ 0 by omega)
  have ry1 := Int.emod_lt_of_pos y hb
  have q : x + y = (x % b + y % b) + b * (x / b + y / b) := by rw [Int.mul_add]; omega
  rw [q, Int.add_mul_ediv_left _ _ (show b ≠ 0 by omega)]
  by_cases c : x % b + y % b < b
  · rw [Int.ediv_eq_zero_of_lt (by omega) c]; omega
  · have : (x % b + y % b) / b = 1 := by
      have e1 : x % b + y % b = (x % b + y % b - b) + b * 1 := by omega
      rw [e1, Int.add_mul_ediv_left _ _ (show b ≠ 0 by omega), Int.ediv_eq_zero_of_lt (by omega) (by omega)]; omega
    omega
/-- the windows of an even frame have the width's part, down to a whole one, or one more -/
theorem evL_part {b p t : Int} (hb : 0 < b) (w k : Nat) : (w : Int) * p / b ≤ win (evL b p t) w k ∧ win (evL b p t) w k ≤ (w : Int) * p / b + 1 := by
  rw [evL_win hb]; exact div_part hb
theorem evL_spread {b p t : Int} (hb : 0 < b) : Spread (evL b p t) := fun w _ _ i j _ _ => by
  have h1 := evL_part (p := p) (t := t) hb w i
  have h2 := evL_part (p := p) (t := t) hb w j
  omega
/-- all as many just where beats go into the width times the pulses -/
theorem evL_exact {b p t : Int} (hb : 0 < b) (w : Nat) : (∀ i j, i < b.toNat → j < b.toNat → win (evL b p t) w i = win (evL b p t) w j) ↔ (w : Int) * p % b = 0 := by
  have hl := evL_len b p t
  constructor
  · intro h
    have s := wins_sum (evL b p t) w
    rw [evL_sum hb, hl] at s
    have c : tsum (win (evL b p t) w) b.toNat = tsum (fun _ => win (evL b p t) w 0) b.toNat := tsum_congr _ fun k hk => h k 0 hk (by omega)
    rw [c, tsum_const, Int.toNat_of_nonneg (by omega)] at s
    rw [← s]
    exact Int.mul_emod_right b _
  · intro h i j _ _
    have e := Int.mul_ediv_add_emod ((w : Int) * p) b
    rw [h] at e
    rw [evL_win hb, evL_win hb]
    have e2 : (w : Int) * p = b * ((w : Int) * p / b) := by omega
    rw [e2, Int.add_mul_ediv_left _ _ (show b ≠ 0 by omega), Int.add_mul_ediv_left _ _ (show b ≠ 0 by omega)]
    omega
/-! ### windows cut out of a frame laid several times -/
def around (fs : List Int) (m : Nat) : List Int := (List.replicate m fs).flatten
theorem around_len (fs : List Int) (m : Nat) : (around fs m).length = m * fs.length := by simp [around]
theorem around_succ (fs : List Int) (m : Nat) : around fs (m + 1) = fs ++ around fs m := by simp [around, List.replicate_succ]
theorem around_take (fs : List Int) : ∀ (m k : Nat), k ≤ m * fs.length → ((around fs m).take k).sum = psum fs k
  | 0, k, h => by
    have : k = 0 := by omega
    subst this; simp [psum]
  | m + 1, k, h => by
    rw [around_succ]
    by_cases c : k ≤ fs.length
    · rw [List.take_append_of_le_length c, psum_take fs k c]
    · obtain ⟨d, rfl⟩ : ∃ d, k = fs.length + d := ⟨k - fs.length, by omega⟩
      rw [List.take_append, List.sum_append, List.take_of_length_le (by omega), show fs.length + d - fs.length = d by omega, around_take fs m d (by rw [Nat.add_mul] at h; omega), Nat.add_comm fs.length d, psum_add_len]
      omega
theorem drop_take_sum (l : List Int) (k w : Nat) : ((l.drop k).take w).sum = (l.take (k + w)).sum - (l.take k).sum := by
  rw [List.take_add, List.sum_append]; omega
theorem around_win {fs : List Int} {m k w : Nat} (h : k + w ≤ m * fs.length) : (((around fs m).drop k).take w).sum = win fs w k := by
  rw [drop_take_sum, around_take fs m _ h, around_take fs m k (by omega)]; rfl
/-! ### turns of a frame -/
def TS (fs : List Int) (n : Nat) : List Nat := (List.range n).filter fun j => decide (evL (fs.length : Int) fs.sum (j : Int) = fs)
theorem TS_succ (fs : List Int) (n : Nat) : TS fs (n + 1) = if evL (fs.length : Int) fs.sum (n : Int) = fs then TS fs n ++ [n] else TS fs n := by
  unfold TS
  rw [List.range_succ, List.filter_append]
  by_cases c : evL (fs.length : Int) fs.sum (n : Int) = fs
  · rw [if_pos c]; simp [c]
  · rw [if_neg c]; simp [c]
theorem TS_none {fs : List Int} : ∀ {n : Nat}, (∀ j, j < n → evL (fs.length : Int) fs.sum (j : Int) ≠ fs) → TS fs n = []
  | 0, _ => rfl
  | n + 1, h => by rw [TS_succ, if_neg (h n (by omega)), TS_none fun j hj => h j (by omega)]
theorem TS_first {fs : List Int} {t : Nat} (ht : evL (fs.length : Int) fs.sum (t : Int) = fs) (hn : ∀ j, j < t → evL (fs.length : Int) fs.sum (j : Int) ≠ fs) : ∀ n, t < n → ∃ r, TS fs n = t :: r
  | 0, h => absurd h (Nat.not_lt_zero _)
  | n + 1, h => by
    rw [TS_succ]
    by_cases e : t = n
    · subst e
      rw [if_pos ht, TS_none hn]
      exact ⟨[], rfl⟩
    · obtain ⟨r, hr⟩ := TS_first ht hn n (by omega)
      rw [hr]
      split
      · exact ⟨_, rfl⟩
      · exact ⟨_, rfl⟩
theorem TS_len (fs : List Int) (n : Nat) : (TS fs n).length ≤ n := by
  unfold TS
  have := List.length_filter_le (fun j : Nat => decide (evL (fs.length : Int) fs.sum (j : Int) = fs)) (List.range n)
  rw [List.length_range] at this
  exact this
theorem TS_ne {fs : List Int} {n : Nat} : TS fs n ≠ [] ↔ ∃ t, t < n ∧ evL (fs.length : Int) fs.sum (t : Int) = fs := by
  constructor
  · intro h
    obtain ⟨t, ht⟩ := List.exists_mem_of_ne_nil _ h
    unfold TS at ht
    obtain ⟨h1, h2⟩ := List.mem_filter.mp ht
    exact ⟨t, List.mem_range.mp h1, of_decide_eq_true h2⟩
  · rintro ⟨t, ht, e⟩ h
    have : t ∈ TS fs n := List.mem_filter.mpr ⟨List.mem_range.mpr ht, decide_eq_true e⟩
    rw [h] at this
    cases this
/-- a frame is spread just where some turn tells it -/
theorem spread_iff {fs : List Int} (h0 : 0 < fs.length) : Spread fs ↔ TS fs fs.length ≠ [] := by
  rw [TS_ne]
  constructor
  · exact fun h => h.even h0
  · rintro ⟨t, _, e⟩
    rw [← e]
    exact evL_spread (by omega)
def SpreadTo (fs : List Int) (n : Nat) : Prop := ∀ w, 1 ≤ w → w ≤ n → ∀ i j, i < fs.length → j < fs.length → win fs w i - win fs w j ≤ 1
theorem SpreadTo.zero (fs : List Int) : SpreadTo fs 0 := fun w h1 h2 => by omega
theorem spreadTo_succ {fs : List Int} {n : Nat} {lo hi : Int} (l1 : lo ∈ wins fs (n + 1)) (l2 : ∀ y, y ∈ wins fs (n + 1) → lo ≤ y) (h1 : hi ∈ wins fs (n + 1)) (h2 : ∀ y, y ∈ wins fs (n + 1) → y ≤ hi) : SpreadTo fs (n + 1) ↔ SpreadTo fs n ∧ hi - lo < 2 := by
  constructor
  · intro h
    refine ⟨fun w a b => h w a (by omega), ?_⟩
    obtain ⟨i, hi', rfl⟩ := mem_wins.mp l1
    obtain ⟨j, hj, rfl⟩ := mem_wins.mp h1
    have := h (n + 1) (by omega) (Nat.le_refl _) j i hj hi'
    omega
  · rintro ⟨h, d⟩ w a b i j hi' hj
    by_cases e : w = n + 1
    · subst e
      have := l2 _ (mem_wins.mpr ⟨j, hj, rfl⟩)
      have := h2 _ (mem_wins.mpr ⟨i, hi', rfl⟩)
      omega
    · exact h w a (by omega) i j hi' hj
/-! ### data of ints -/
def dI (ns : List Int) : PyData := .list (ns.map PyData.int)
theorem dI_layA : ∀ ns : List Int, PyData.canLayAll0 (ns.map PyData.int) = true
  | [] => by simp [PyData.canLayAll0]
  | z :: zs => by simp [PyData.canLayAll0, PyData.canLay0, dI_layA zs]
theorem dI_depthA : ∀ ns : List Int, PyData.depthAll (ns.map PyData.int) ≤ 1
  | [] => by simp [PyData.depthAll]
  | z :: zs => by
    have h1 := dI_depthA zs
    simp only [List.map_cons, PyData.depthAll, PyData.depth]
    omega
theorem dI_shaped (ns : List Int) : SeqAt.shaped (dI ns) = true := by
  have h1 := dI_depthA ns
  have h2 : PyData.depth (dI ns) ≤ 64 := by
    unfold dI
    simp only [PyData.depth]
    omega
  show (PyData.canLay0 (dI ns) && decide (PyData.depth (dI ns) ≤ 64)) = true
  rw [Bool.and_eq_true]
  exact ⟨by unfold dI; simp only [PyData.canLay0]; exact dI_layA ns, decide_eq_true h2⟩
theorem dI_eqvA : ∀ ns ms : List Int, PyData.eqvAll (ns.map PyData.int) (ms.map PyData.int) = decide (ns = ms)
  | [], [] => by simp [PyData.eqvAll]
  | [], _ :: _ => by simp [PyData.eqvAll]
  | _ :: _, [] => by simp [PyData.eqvAll]
  | n :: ns, m :: ms => by
    rw [List.map_cons, List.map_cons, PyData.eqvAll, dI_eqvA ns ms]
    by_cases e : n = m
    · subst e; simp [PyData.eqv]
    · simp [PyData.eqv, e]
theorem dI_eqv (ns ms : List Int) : PyData.eqv (dI ns) (dI ms) = decide (ns = ms) := by
  unfold dI
  simp only [PyData.eqv]
  exact dI_eqvA ns ms
theorem dpA_ints {K : PySem.W.Frag} {H : Hp} : ∀ ns : List Int, DpAll K H (ns.map V.int) (ns.map PyData.int)
  | [] => .nil
  | n :: ns => .cons (.int n) (dpA_ints ns)
theorem dp_ints {K : PySem.W.Frag} {H : Hp} {a : Addr} {ns : List Int} (h : SqL K H a (ns.map V.int)) : Dp K H (.ref a) (dI ns) := .lst h (dpA_ints ns)
theorem dp_nil {K : PySem.W.Frag} {H : Hp} {a : Addr} (h : SqL K H a []) : Dp K H (.ref a) (dI []) := dp_ints (ns := []) h
/-! ### cuts of lists of ints -/
theorem cut_to {ns : List Int} {k : Nat} (hk : k ≤ ns.length) : cutV (ns.map V.int) none (some (k : Int)) = (ns.take k).map V.int := by
  unfold cutV
  rw [HT.sIx_none, HT.sIx_nat, List.length_map, Nat.min_eq_left hk, List.drop_zero, Nat.sub_zero, List.map_take]
theorem cut_from {ns : List Int} {k : Nat} (hk : k ≤ ns.length) : cutV (ns.map V.int) (some (k : Int)) none = (ns.drop k).map V.int := by
  unfold cutV
  rw [HT.sIx_none, HT.sIx_nat, List.length_map, Nat.min_eq_left hk, List.map_drop]
  exact List.take_of_length_le (by rw [List.length_drop, List.length_map]; exact Nat.le_refl _)
theorem cut_mid {ns : List Int} {i j : Nat} (hi : i ≤ j) (hj : j ≤ ns.length) : cutV (ns.map V.int) (some (i : Int)) (some (j : Int)) = ((ns.drop i).take (j - i)).map V.int := by
  unfold cutV
  rw [HT.sIx_nat, HT.sIx_nat, List.length_map, Nat.min_eq_left (show i ≤ ns.length by omega), Nat.min_eq_left hj, List.map_take, List.map_drop]
/-! ### frames -/
structure Frm (fs : List Int) : Prop where
  pos : 0 < fs.length
  le : fs.length ≤ 64
  bit : ∀ f ∈ fs, f = 0 ∨ f = 1
theorem bits_sum : ∀ {fs : List Int}, (∀ f ∈ fs, f = 0 ∨ f = 1) → 0 ≤ fs.sum ∧ fs.sum ≤ fs.length
  | [], _ => by simp
  | f :: fs, h => by
    have h1 := bits_sum (fs := fs) fun g hg => h g (List.mem_cons_of_mem _ hg)
    have h2 := h f List.mem_cons_self
    rw [List.sum_cons, List.length_cons]
    omega
theorem Frm.sum {fs : List Int} (h : Frm fs) : 0 ≤ fs.sum ∧ fs.sum ≤ fs.length := bits_sum h.bit
theorem Frm.getD {fs : List Int} (h : Frm fs) (k : Nat) : fs.getD k 0 = 0 ∨ fs.getD k 0 = 1 := by
  by_cases c : k < fs.length
  · have e : fs.getD k 0 = fs[k] := by simp [List.getD, List.getElem?_eq_getElem c]
    rw [e]
    exact h.bit _ (List.getElem_mem c)
  · left
    simp [List.getD, List.getElem?_eq_none (Nat.le_of_not_lt c)]
theorem evL_frm {b p : Int} (b0 : 1 ≤ b) (b1 : b ≤ 64) (p0 : 0 ≤ p) (p1 : p ≤ b) (t : Int) : Frm (evL b p t) := by
  refine ⟨by rw [evL_len]; omega, by rw [evL_len]; omega, fun f hf => ?_⟩
  unfold evL at hf
  obtain ⟨k, _, rfl⟩ := List.mem_map.mp hf
  exact evB_01 (by omega) p0 p1 t k
def Lo (ws : List Int) (m : Int) : Prop := m ∈ ws ∧ ∀ y, y ∈ ws → m ≤ y
def Hi (ws : List Int) (m : Int) : Prop := m ∈ ws ∧ ∀ y, y ∈ ws → y ≤ m
theorem divP {i j : Int} {b : Nat} (h : 0 < j) (hb : j.natAbs < 2 ^ b) (h0 : 0 < b) (h9 : b ≤ 9000) : CDivP i j := ⟨h, PyProof.noPylong_of_log2 (Nat.lt_of_lt_of_le (PySem.Flt.log2_lt_of h0 hb) h9)⟩
/-! ### x < y of alike data -/
section
open PySem.W
def rLtD (K : PySem.W.Frag) : R2 := fun x y H Q => ∃ d e, Dp K H x d ∧ Dp K H y e ∧ alike d e = true ∧ d ≠ PyData.none ∧ d.depth ≤ 64 ∧ Q (.bl (dataLt d e)) H
theorem op_ltD {X : L2.Cx} (hu : X.A.units + 64 < cLine) : OpR X (compareOp .Lt) (rLtD X.K) := by
  intro pins s σ H x y v u Q I rx ry h
  obtain ⟨d, e, hd, he, ha, hn, hdep, q⟩ := h
  obtain ⟨as, r1⟩ := Dp.reads I d x v hd rx
  obtain ⟨bs, r2⟩ := Dp.reads I e y u he ry
  exact rcLt_alike d e X.A s v u as bs r1 r2 ha hn (by omega) _ _ _ _ ⟨.bl _, H, I, rfl, q⟩
theorem opLtD {X : L2.Cx} (K : PySem.W.Frag) (hu : X.A.units + 64 < cLine) (h : X.K = K := by rfl) : OpR X (compareOp .Lt) (rLtD K) := h ▸ op_ltD hu
theorem alike_ints : ∀ xs ys : List Int, xs.length = ys.length → alikeAll (xs.map PyData.int) (ys.map PyData.int) = true
  | [], [], _ => by simp [alikeAll]
  | x :: xs, y :: ys, h => by
    have ih := alike_ints xs ys (by simpa using h)
    simp [alikeAll, alike, ih]
  | [], _ :: _, h => by simp at h
  | _ :: _, [], h => by simp at h
theorem toks_ints : ∀ xs ys : List Int, xs.length = ys.length → PyProof.Rows.lexLt PyProof.Rows.itemOrd (keyToksAll (xs.map PyData.int)) (keyToksAll (ys.map PyData.int)) = HT.lexLt xs ys
  | [], [], _ => by rw [HT.lexLt_nil_nil]; simp [PyProof.Rows.lex_irrefl]
  | x :: xs, y :: ys, h => by
    have ih := toks_ints xs ys (by simpa using h)
    rw [HT.lexLt_cons]
    by_cases e : x = y
    · subst e
      rw [if_pos rfl, List.map_cons, List.map_cons, dataLt_all_yes (by simp [alike]) (by simp [PyData.eqv]), ih]
    · rw [if_neg e, List.map_cons, List.map_cons, dataLt_all_no (by simp [alike]) (by simp [PyData.eqv, e]), dataLt_int]
  | [], _ :: _, h => by simp at h
  | _ :: _, [], h => by simp at h
theorem lt_pairs {a b : Int} {xs ys : List Int} (h : xs.length = ys.length) : dataLt (.tuple [.int a, dI xs]) (.tuple [.int b, dI ys]) = if a = b then HT.lexLt xs ys else decide (a < b) := by
  rw [dataLt_tuple]
  by_cases e : a = b
  · subst e
    rw [if_pos rfl, dataLt_all_yes (by simp [alike]) (by simp [PyData.eqv])]
    by_cases e2 : xs = ys
    · subst e2
      have hx : HT.lexLt xs xs = false := by rw [← toks_ints xs xs rfl, PyProof.Rows.lex_irrefl]
      rw [hx, PyProof.Rows.lex_irrefl]
    · rw [dataLt_all_no (by simp only [dI, alike]; exact alike_ints _ _ h) (by rw [dI_eqv]; exact decide_eq_false e2)]
      unfold dI
      rw [dataLt_list, toks_ints _ _ h]
  · rw [if_neg e, dataLt_all_no (by simp [alike]) (by simp [PyData.eqv, e]), dataLt_int]
theorem alike_pairs {a b : Int} {xs ys : List Int} (h : xs.length = ys.length) : alike (.tuple [.int a, dI xs]) (.tuple [.int b, dI ys]) = true := by
  simp [alike, alikeAll, dI, alike_ints _ _ h]
theorem depth_pair (a : Int) (xs : List Int) : (PyData.tuple [.int a, dI xs]).depth ≤ 64 := by
  have h1 := dI_depthA xs
  simp only [PyData.depth, PyData.depthAll, dI]
  omega
end
/-! ### exact -/
def exN (b p : Nat) : Nat := b / Nat.gcd b p
theorem gcd_pos {b p : Nat} (hb : 0 < b) : 0 < Nat.gcd b p := Nat.gcd_pos_of_pos_left p hb
theorem exN_pos {b p : Nat} (hb : 0 < b) : 0 < exN b p := Nat.div_pos (Nat.le_of_dvd hb (Nat.gcd_dvd_left b p)) (gcd_pos hb)
theorem exN_le (b p : Nat) : exN b p ≤ b := Nat.div_le_self _ _
theorem exN_dvd (b p : Nat) : b % exN b p = 0 := Nat.mod_eq_zero_of_dvd (Nat.div_dvd_of_dvd (Nat.gcd_dvd_left b p))
theorem exN_iff {b p : Nat} (hb : 0 < b) (w : Nat) : (w * p) % b = 0 ↔ w % exN b p = 0 := by
  have hg := gcd_pos (p := p) hb
  obtain ⟨p', hp⟩ := Nat.gcd_dvd_right b p
  obtain ⟨b', hb'⟩ := Nat.gcd_dvd_left b p
  have hco : Nat.Coprime (b / Nat.gcd b p) (p / Nat.gcd b p) := Nat.coprime_div_gcd_div_gcd hg
  have e1 : b / Nat.gcd b p = b' := by conv => lhs; lhs; rw [hb']
                                       exact Nat.mul_div_cancel_left _ hg
  have e2 : p / Nat.gcd b p = p' := by conv => lhs; lhs; rw [hp]
                                       exact Nat.mul_div_cancel_left _ hg
  rw [e1, e2] at hco
  unfold exN
  rw [e1]
  constructor
  · intro h
    refine Nat.mod_eq_zero_of_dvd ?_
    have d : b ∣ w * p := Nat.dvd_of_mod_eq_zero h
    have d2 : Nat.gcd b p * b' ∣ Nat.gcd b p * (w * p') := by
      rw [← hb', Nat.mul_left_comm, ← hp]; exact d
    have d3 : b' ∣ w * p' := Nat.dvd_of_mul_dvd_mul_left hg d2
    exact Nat.Coprime.dvd_of_dvd_mul_right hco d3
  · intro h
    refine Nat.mod_eq_zero_of_dvd ?_
    have d : b' ∣ w := Nat.dvd_of_mod_eq_zero h
    have k : Nat.gcd b p * b' ∣ Nat.gcd b p * (w * p') := Nat.mul_dvd_mul_left _ (Nat.dvd_trans d (Nat.dvd_mul_right w p'))
    rw [← hb', Nat.mul_left_comm, ← hp] at k
    exact k
theorem exact_iff {b p : Int} (hb : 1 ≤ b) (hp : 0 ≤ p) (w : Nat) : (w : Int) * p % b = 0 ↔ (w : Int) % ((exN b.toNat p.toNat : Nat) : Int) = 0 := by
  have eb : b = (b.toNat : Int) := by omega
  have ep : p = (p.toNat : Int) := by omega
  have h := exN_iff (b := b.toNat) (p := p.toNat) (by omega) w
  constructor
  · intro z
    rw [ep, eb, ← Int.natCast_mul, ← Int.natCast_emod] at z
    have := h.mp (by omega)
    rw [← Int.natCast_emod, this]; rfl
  · intro z
    rw [← Int.natCast_emod] at z
    have := h.mpr (by omega)
    rw [ep, eb, ← Int.natCast_mul, ← Int.natCast_emod, this]; rfl
/-! ### least and greatest window of an even frame -/
structure EvSpan (b p : Int) (ws : List Int) (w : Nat) (lo hi : Int) : Prop where
  near : lo ≤ hi ∧ hi ≤ lo + 1
  eq : lo = hi ↔ (w : Int) % ((exN b.toNat p.toNat : Nat) : Int) = 0
  low : lo * b ≤ (w : Int) * p
  high : (w : Int) * p ≤ hi * b
  mem : ∀ y, y ∈ ws ↔ y = lo ∨ y = hi
  pos : 0 ≤ lo
  top : hi ≤ (w : Int) + 1
theorem evSpan {b p t : Int} (hb : 1 ≤ b) (hp : 0 ≤ p) (hpb : p ≤ b) (w : Nat) {lo hi : Int} (l1 : lo ∈ wins (evL b p t) w) (l2 : ∀ y, y ∈ wins (evL b p t) w → lo ≤ y) (h1 : hi ∈ wins (evL b p t) w) (h2 : ∀ y, y ∈ wins (evL b p t) w → y ≤ hi) : EvSpan b p (wins (evL b p t) w) w lo hi := by
  have hl := evL_len b p t
  have s := wins_sum (evL b p t) w
  rw [evL_sum (by omega), hl] at s
  have nb : (b.toNat : Int) = b := by omega
  have inw : ∀ k, k < b.toNat → win (evL b p t) w k ∈ wins (evL b p t) w := fun k hk => mem_wins.mpr ⟨k, by omega, rfl⟩
  have part : ∀ y, y ∈ wins (evL b p t) w → (w : Int) * p / b ≤ y ∧ y ≤ (w : Int) * p / b + 1 := fun y hy => by
    obtain ⟨k, _, rfl⟩ := mem_wins.mp hy
    exact evL_part (by omega) w k
  have pl := part lo l1
  have ph := part hi h1
  have lh := l2 hi h1
  refine ⟨⟨lh, by omega⟩, ?_, ?_, ?_, fun y => ⟨fun hy => ?_, fun hy => ?_⟩, ?_, ?_⟩
  · rw [← exact_iff hb hp, ← evL_exact (t := t) (by omega)]
    constructor
    · intro e i j hi' hj
      have a1 := l2 _ (inw i hi')
      have a2 := h2 _ (inw i hi')
      have a3 := l2 _ (inw j hj)
      have a4 := h2 _ (inw j hj)
      omega
    · intro h
      obtain ⟨i, hi', rfl⟩ := mem_wins.mp l1
      obtain ⟨j, hj, rfl⟩ := mem_wins.mp h1
      exact h i j (by omega) (by omega)
  · have := tsum_le (f := fun _ => lo) (g := win (evL b p t) w) b.toNat fun k hk => l2 _ (inw k hk)
    rw [tsum_const, s, nb, Int.mul_comm] at this
    exact this
  · have := tsum_le (f := win (evL b p t) w) (g := fun _ => hi) b.toNat fun k hk => h2 _ (inw k hk)
    rw [tsum_const, s, nb, Int.mul_comm b hi] at this
    exact this
  · have := l2 y hy
    have := h2 y hy
    omega
  · rcases hy with e | e <;> subst e
    · exact l1
    · exact h1
  · have : 0 ≤ (w : Int) * p / b := Int.ediv_nonneg (Int.mul_nonneg (by omega) hp) (by omega)
    omega
  · have : (w : Int) * p / b ≤ (w : Int) := by
      refine Int.ediv_le_of_le_mul (by omega) ?_
      exact Int.mul_le_mul_of_nonneg_left hpb (by omega)
    omega
/-! ### sorted(list of lists of ints) -/
section
open PySem.W
abbrev leL (x y : Addr × List Int) : Bool := dataLe false (fun z : Addr × List Int => dI z.2) x y
def rSortL (K : PySem.W.Frag) : List V → Hp → VK → Prop := fun vs H Q => ∃ (a : Addr) (bs : List (Addr × List Int)), vs = [.ref a] ∧ SqL K H a (bs.map fun z => V.ref z.1) ∧ (∀ z ∈ bs, SqL K H z.1 (z.2.map V.int)) ∧ bs.length ≤ 1000 ∧
  ∀ p, H p = none → Q (.ref p) (upd H p (.lst ((bs.mergeSort leL).map fun z => V.ref z.1)))
theorem each_ref : ∀ {bs : List (Addr × List Int)} {its : List Value}, Vals (bs.map fun z => V.ref z.1) its → EachIs (fun v (z : Addr × List Int) => v = Value.ref z.1) its bs
  | [], _, r => by cases r; exact .nil
  | z :: bs, _, r => by
    cases r with
    | cons h t => exact .cons h (each_ref t)
theorem each_vals : ∀ {bs : List (Addr × List Int)} {its : List Value}, EachIs (fun v (z : Addr × List Int) => v = Value.ref z.1) its bs → Vals (bs.map fun z => V.ref z.1) its
  | [], _, r => by cases r; exact .nil
  | z :: bs, _, r => by
    cases r with
    | cons h t => exact .cons h (each_vals t)
theorem each_imp {α : Type} {R S : Value → α → Prop} : ∀ {bs : List α} {its : List Value}, EachIs R its bs → (∀ v z, z ∈ bs → R v z → S v z) → EachIs S its bs
  | [], _, r, _ => by cases r; exact .nil
  | z :: bs, _, r, f => by
    cases r with
    | cons h t => exact .cons (f _ _ List.mem_cons_self h) (each_imp t fun v y hy => f v y (List.mem_cons_of_mem _ hy))
theorem cr_sortL {X : L2.Cx} (hu : X.A.units + 64 < cLine) : CallR X (.builtin "sorted") (rSortL X.K) := by
  intro pins s σ H vs us Q I r h
  obtain ⟨a, bs, rfl, hs, hb, hl, q⟩ := h
  obtain ⟨its, rv, pl, _⟩ := I.list hs
  rw [Vals.ref1 r]
  have e1 := each_ref rv
  have e2 : EachIs (fun v (z : Addr × List Int) => ∃ as, Reads s.heap v (dI z.2) as) its bs := each_imp e1 fun v z hz e => Dp.reads I _ (.ref z.1) v (dp_ints (hb z hz)) e
  have hlen : bs.length ≤ sizeLine := by rw [sizeLine_eq]; omega
  refine sorted_data (enc := fun z : Addr × List Int => dI z.2) pl.isList e1 e2 (AllAlike.of fun x y => ?_) (Sortable.others fun x => ⟨by simp [dI], by simp [dI]⟩) hlen (fun b _ => ?_) fun out ho eo => ?_
  · simp [dI, PySem.W.alike, PySem.W.alike_ints]
  · have h1 := dI_depthA b.2
    show X.A.units + 2 + PyData.depth (dI b.2) < cLine
    unfold dI
    simp only [PyData.depth]
    omega
  · obtain ⟨ep, he'⟩ := PyProof.Rows.sortedAll_at s.heap its (List.toArray out)
    exact ⟨.ref _, upd H (s.heap.objs.size + 1) (.lst ((bs.mergeSort leL).map fun z => V.ref z.1)), I.laid (t' := s.toks) (fun _ _ => PyProof.Rows.sortedAll_old) (Nat.le_succ _) ⟨by rw [List.length_map, List.length_mergeSort]; exact hlen, out, ep, each_vals eo, he'⟩, rfl, q _ (I.hok.fresh (Nat.le_succ _))⟩
theorem sortLK {X : L2.Cx} (K : PySem.W.Frag) (hu : X.A.units + 64 < cLine) (h : X.K = K := by rfl) : CallR X (.builtin "sorted") (rSortL K) := h ▸ cr_sortL hu
/-- as lists ascend -/
def leI (xs ys : List Int) : Bool := !HT.lexLt ys xs
theorem pw_ext {α : Type} {r : α → α → Prop} (asym : ∀ a b, r a b → ¬ r b a) : ∀ {xs ys : List α}, xs.Pairwise r → ys.Pairwise r → (∀ k, k ∈ xs ↔ k ∈ ys) → xs = ys
  | [], [], _, _, _ => rfl
  | [], y :: ys, _, _, h => absurd ((h y).mpr List.mem_cons_self) (by simp)
  | x :: xs, [], _, _, h => absurd ((h x).mp List.mem_cons_self) (by simp)
  | x :: xs, y :: ys, hx, hy, h => by
    obtain ⟨x1, x2⟩ := List.pairwise_cons.mp hx
    obtain ⟨y1, y2⟩ := List.pairwise_cons.mp hy
    have e : x = y := by
      rcases List.mem_cons.mp ((h x).mp List.mem_cons_self) with e | m
      · exact e
      · rcases List.mem_cons.mp ((h y).mpr List.mem_cons_self) with e | m2
        · exact e.symm
        · exact absurd (x1 y m2) (asym _ _ (y1 x m))
    subst e
    rw [pw_ext asym x2 y2 fun k => ?_]
    constructor
    · intro m
      rcases List.mem_cons.mp ((h k).mp (List.mem_cons_of_mem _ m)) with e | m2
      · subst e; exact absurd (x1 k m) (asym _ _ (x1 k m))
      · exact m2
    · intro m
      rcases List.mem_cons.mp ((h k).mpr (List.mem_cons_of_mem _ m)) with e | m2
      · subst e; exact absurd (y1 k m) (asym _ _ (y1 k m))
      · exact m2
theorem lex_tot : ∀ {xs ys : List Int}, xs ≠ ys → HT.lexLt xs ys = false → HT.lexLt ys xs = true
  | [], [], h, _ => absurd rfl h
  | [], _ :: _, _, h => by cases h
  | _ :: _, [], _, _ => rfl
  | x :: xs, y :: ys, h, h2 => by
    rw [HT.lexLt_cons] at h2 ⊢
    by_cases e : x = y
    · subst e
      rw [if_pos rfl] at h2 ⊢
      exact lex_tot (fun z => h (by rw [z])) h2
    · rw [if_neg e] at h2
      rw [if_neg (fun z => e z.symm)]
      have := of_decide_eq_false h2
      exact decide_eq_true (by omega)
theorem sort_snd {n : Nat} {bs : List (Addr × List Int)} (hn : ∀ z ∈ bs, z.2.length = n) : (bs.mergeSort leL).map Prod.snd = (bs.map Prod.snd).mergeSort leI := by
  refine List.map_mergeSort fun a ha b hb => ?_
  show dataLe false (fun z : Addr × List Int => dI z.2) a b = leI a.2 b.2
  rw [dataLe_eq]
  show (!dataLt (dI b.2) (dI a.2)) = !HT.lexLt b.2 a.2
  unfold dI
  rw [dataLt_list, toks_ints _ _ (by rw [hn a ha, hn b hb])]
theorem sorted_strict {xs : List (List Int)} (nd : xs.Nodup) : (xs.mergeSort leI).Pairwise fun a b => HT.lexLt a b = true := by
  have h1 : (xs.mergeSort leI).Pairwise fun a b => leI a b = true := List.pairwise_mergeSort (fun a b c h1 h2 => by
    unfold leI at *
    simp only [Bool.not_eq_true'] at *
    exact NtL.lex_tr _ _ _ h1 h2) (fun a b => by
    unfold leI
    by_cases h : HT.lexLt b a = true
    · rw [NtL.lex_asym _ _ h]; simp
    · simp at h; rw [h]; simp) xs
  have h2 : (xs.mergeSort leI).Nodup := (List.mergeSort_perm xs leI).nodup_iff.mpr nd
  refine (List.pairwise_and_iff.mpr ⟨h1, h2⟩).imp fun {a b} ⟨p, q⟩ => ?_
  unfold leI at p
  simp only [Bool.not_eq_true'] at p
  exact lex_tot (fun z => q z.symm) p
theorem sort_same {xs ys : List (List Int)} (h1 : xs.Nodup) (h2 : ys.Nodup) (h : ∀ k, k ∈ xs ↔ k ∈ ys) : xs.mergeSort leI = ys.mergeSort leI := by
  refine pw_ext (r := fun a b => HT.lexLt a b = true) (fun a b p q => ?_) (sorted_strict h1) (sorted_strict h2) fun k => ?_
  · rw [NtL.lex_asym _ _ p] at q; cases q
  · rw [List.mem_mergeSort, List.mem_mergeSort]; exact h k
/-! data of lists of lists -/
def dLL (xs : List (List Int)) : PyData := .list (xs.map dI)
theorem dpA_lists {K : PySem.W.Frag} {H : Hp} : ∀ bs : List (Addr × List Int), (∀ z ∈ bs, SqL K H z.1 (z.2.map V.int)) → DpAll K H (bs.map fun z => V.ref z.1) ((bs.map Prod.snd).map dI)
  | [], _ => .nil
  | z :: bs, h => .cons (dp_ints (h z List.mem_cons_self)) (dpA_lists bs fun y hy => h y (List.mem_cons_of_mem _ hy))
theorem dp_lists {K : PySem.W.Frag} {H : Hp} {a : Addr} {bs : List (Addr × List Int)} (h : SqL K H a (bs.map fun z => V.ref z.1)) (h2 : ∀ z ∈ bs, SqL K H z.1 (z.2.map V.int)) : Dp K H (.ref a) (dLL (bs.map Prod.snd)) := .lst h (dpA_lists bs h2)
theorem dLL_layA : ∀ xs : List (List Int), PyData.canLayAll0 (xs.map dI) = true
  | [] => by simp [PyData.canLayAll0]
  | z :: zs => by simp [PyData.canLayAll0, PyData.canLay0, dI, dI_layA, dLL_layA zs]
theorem dLL_depthA : ∀ xs : List (List Int), PyData.depthAll (xs.map dI) ≤ 3
  | [] => by simp [PyData.depthAll]
  | z :: zs => by
    have h1 := dLL_depthA zs
    have h2 := dI_depthA z
    simp only [List.map_cons, PyData.depthAll, dI, PyData.depth]
    omega
theorem dLL_shaped (xs : List (List Int)) : SeqAt.shaped (dLL xs) = true := by
  have h1 := dLL_depthA xs
  have h2 : PyData.depth (dLL xs) ≤ 64 := by
    unfold dLL
    simp only [PyData.depth]
    omega
  show (PyData.canLay0 (dLL xs) && decide (PyData.depth (dLL xs) ≤ 64)) = true
  rw [Bool.and_eq_true]
  exact ⟨by unfold dLL; simp only [PyData.canLay0]; exact dLL_layA xs, decide_eq_true h2⟩
theorem dLL_eqvA : ∀ xs : List (List Int), PyData.eqvAll (xs.map dI) (xs.map dI) = true
  | [] => by simp [PyData.eqvAll]
  | x :: xs => by
    rw [List.map_cons, PyData.eqvAll, dLL_eqvA xs, dI_eqv]
    simp
theorem dLL_eqv (xs : List (List Int)) : PyData.eqv (dLL xs) (dLL xs) = true := by
  unfold dLL
  simp only [PyData.eqv]
  exact dLL_eqvA xs
end
theorem nodup_leL : ∀ (ks xs : List (List Int)), ks.Nodup → (∀ k, k ∈ ks → k ∈ xs) → ks.length ≤ xs.length
  | [], _, _, _ => Nat.zero_le _
  | k :: ks, xs, nd, h => by
    obtain ⟨n1, n2⟩ := List.nodup_cons.mp nd
    have ih := nodup_leL ks (xs.erase k) n2 fun j hj => (List.mem_erase_of_ne (fun e => n1 (by rw [← e]; exact hj))).mpr (h j (List.mem_cons_of_mem _ hj))
    have hk := h k List.mem_cons_self
    rw [List.length_erase_of_mem hk] at ih
    have := List.length_pos_of_mem hk
    rw [List.length_cons]
    omega
/-! ### all frames by their numbers -/
def frB (B n : Nat) : List Int := (List.range B).map fun k => ((n / 2 ^ k % 2 : Nat) : Int)
theorem frB_len (B n : Nat) : (frB B n).length = B := by simp [frB]
theorem frB_succ (B n : Nat) : frB (B + 1) n = ((n % 2 : Nat) : Int) :: frB B (n / 2) := by
  unfold frB
  rw [List.range_succ_eq_map, List.map_cons, List.map_map, Nat.pow_zero, Nat.div_one]
  congr 1
  apply List.map_congr_left
  intro k _
  show ((n / 2 ^ (k + 1) % 2 : Nat) : Int) = ((n / 2 / 2 ^ k % 2 : Nat) : Int)
  rw [Nat.div_div_eq_div_mul, Nat.pow_succ, Nat.mul_comm (2 ^ k) 2]
theorem frB_bit (B n : Nat) : ∀ f ∈ frB B n, f = 0 ∨ f = 1 := fun f hf => by
  unfold frB at hf
  obtain ⟨k, _, rfl⟩ := List.mem_map.mp hf
  omega
theorem frB_inj : ∀ {B n m : Nat}, n < 2 ^ B → m < 2 ^ B → frB B n = frB B m → n = m
  | 0, n, m, h1, h2, _ => by simp at h1 h2; omega
  | B + 1, n, m, h1, h2, h => by
    rw [frB_succ, frB_succ] at h
    obtain ⟨e1, e2⟩ := List.cons.inj h
    rw [Nat.pow_succ] at h1 h2
    have := frB_inj (B := B) (n := n / 2) (m := m / 2) (by omega) (by omega) e2
    omega
theorem frB_sur : ∀ {fs : List Int}, (∀ f ∈ fs, f = 0 ∨ f = 1) → ∃ n, n < 2 ^ fs.length ∧ frB fs.length n = fs
  | [], _ => ⟨0, by simp, rfl⟩
  | f :: fs, h => by
    obtain ⟨n, h1, h2⟩ := frB_sur (fs := fs) fun g hg => h g (List.mem_cons_of_mem _ hg)
    have hf := h f List.mem_cons_self
    refine ⟨2 * n + f.toNat, by rw [List.length_cons, Nat.pow_succ]; omega, ?_⟩
    rw [List.length_cons, frB_succ]
    congr 1
    · omega
    · rw [show (2 * n + f.toNat) / 2 = n by omega]
      exact h2
/-! ### turns by the exact width -/
theorem evB_mod {b p : Int} (hb : 1 ≤ b) (hp : 0 ≤ p) (t k : Nat) : evB b p (t : Int) k = evB b p ((t % exN b.toNat p.toNat : Nat) : Int) k := by
  obtain ⟨n, hn⟩ : ∃ n, n = exN b.toNat p.toNat := ⟨_, rfl⟩
  have hd := Nat.div_add_mod t n
  have hz : ((n * (t / n) : Nat) : Int) * p % b = 0 := (exact_iff hb hp (n * (t / n))).mpr (by
    rw [← hn, Int.natCast_mul, Int.mul_emod_right])
  obtain ⟨c, hc⟩ := Int.dvd_of_emod_eq_zero hz
  rw [← hn]
  unfold evB
  have ht : (t : Int) = ((n * (t / n) : Nat) : Int) + ((t % n : Nat) : Int) := by
    rw [← Int.natCast_add, hd]
  have e1 : ((k : Int) + 1 + (t : Int)) * p = ((k : Int) + 1 + ((t % n : Nat) : Int)) * p + b * c := by
    rw [← hc, ht, ← Int.add_mul]; congr 1; omega
  have e2 : ((k : Int) + (t : Int)) * p = ((k : Int) + ((t % n : Nat) : Int)) * p + b * c := by
    rw [← hc, ht, ← Int.add_mul]; congr 1; omega
  rw [e1, e2, Int.add_mul_ediv_left _ _ (by omega), Int.add_mul_ediv_left _ _ (by omega)]
  omega
theorem evL_mod {b p : Int} (hb : 1 ≤ b) (hp : 0 ≤ p) (t : Nat) : evL b p (t : Int) = evL b p ((t % exN b.toNat p.toNat : Nat) : Int) := by
  unfold evL
  apply List.map_congr_left
  intro k _
  exact evB_mod hb hp t k
theorem ev_rem {b p : Int} (hb : 1 ≤ b) {t u : Nat} (hu : (u : Int) < b) (h : evL b p (t : Int) = evL b p (u : Int)) : (u : Int) * p % b ≤ (t : Int) * p % b := by
  have h1 := evL_psum (p := p) (t := (t : Int)) (show 0 < b by omega) (b.toNat - u)
  have h2 := evL_psum (p := p) (t := (u : Int)) (show 0 < b by omega) (b.toNat - u)
  rw [h] at h1
  have hk : ((b.toNat - u : Nat) : Int) = b - (u : Int) := by omega
  rw [h1, hk] at h2
  have a1 : (b - (u : Int) + (u : Int)) * p / b = p := by
    rw [show b - (u : Int) + (u : Int) = b by omega, Int.mul_comm, Int.mul_ediv_cancel _ (by omega)]
  rw [a1] at h2
  have q1 := Int.mul_ediv_add_emod ((t : Int) * p) b
  have q2 := Int.mul_ediv_add_emod ((u : Int) * p) b
  have r1 := Int.emod_nonneg ((t : Int) * p) (show b ≠ 0 by omega)
  have r2 := Int.emod_nonneg ((u : Int) * p) (show b ≠ 0 by omega)
  have r3 := Int.emod_lt_of_pos ((t : Int) * p) (show 0 < b by omega)
  have r4 := Int.emod_lt_of_pos ((u : Int) * p) (show 0 < b by omega)
  obtain ⟨qt, hqt⟩ : ∃ q, q = (t : Int) * p / b := ⟨_, rfl⟩
  obtain ⟨qu, hqu⟩ : ∃ q, q = (u : Int) * p / b := ⟨_, rfl⟩
  obtain ⟨rt, hrt⟩ : ∃ q, q = (t : Int) * p % b := ⟨_, rfl⟩
  obtain ⟨ru, hru⟩ : ∃ q, q = (u : Int) * p % b := ⟨_, rfl⟩
  rw [← hqt, ← hrt] at q1
  rw [← hqu, ← hru] at q2
  rw [← hrt] at r1 r3 ⊢
  rw [← hru] at r2 r4 ⊢
  rw [← hqt, ← hqu] at h2
  have e : (b - (u : Int) + (t : Int)) * p = (rt - ru) + b * (p + qt - qu) := by
    have x1 : (b - (u : Int) + (t : Int)) * p = b * p - (u : Int) * p + (t : Int) * p := by
      rw [Int.add_mul, Int.sub_mul]
    have x2 : b * (p + qt - qu) = b * p + b * qt - b * qu := by
      rw [Int.mul_sub, Int.mul_add]
    rw [x1, x2]
    omega
  rw [e, Int.add_mul_ediv_left _ _ (by omega)] at h2
  have : (rt - ru) / b = 0 := by omega
  have := Int.mul_ediv_add_emod (rt - ru) b
  have := Int.emod_nonneg (rt - ru) (show b ≠ 0 by omega)
  rename_i z _
  rw [z] at *
  omega
theorem ev_inj {b p : Int} (hb : 1 ≤ b) (hp : 0 ≤ p) {t u : Nat} (ht : t < exN b.toNat p.toNat) (hu : u < exN b.toNat p.toNat) (h : evL b p (t : Int) = evL b p (u : Int)) : t = u := by
  have hx := exN_le b.toNat p.toNat
  have h1 := ev_rem (p := p) hb (t := t) (u := u) (by omega) h
  have h2 := ev_rem (p := p) hb (t := u) (u := t) (by omega) h.symm
  have e : (t : Int) * p % b = (u : Int) * p % b := by omega
  -- the difference goes by exact
  have key : ∀ {x y : Nat}, y ≤ x → x < exN b.toNat p.toNat → (x : Int) * p % b = (y : Int) * p % b → x = y := fun {x y} hle hlt he => by
    have hz : ((x - y : Nat) : Int) * p % b = 0 := by
      have : ((x - y : Nat) : Int) * p = (x : Int) * p - (y : Int) * p := by
        rw [← Int.sub_mul]; congr 1; omega
      rw [this]
      rw [Int.sub_emod, he, Int.sub_self, Int.zero_emod]
    have := (exact_iff hb hp (x - y)).mp hz
    rw [← Int.natCast_emod, Nat.mod_eq_of_lt (by omega)] at this
    omega
  rcases Nat.le_total u t with c | c
  · exact key c ht e
  · exact (key c hu e.symm).symm
/-- all told frames of a share -/
def tolds (b p : Int) : List (List Int) := (List.range (exN b.toNat p.toNat)).map fun t : Nat => evL b p (t : Int)
theorem tolds_nd {b p : Int} (hb : 1 ≤ b) (hp : 0 ≤ p) : (tolds b p).Nodup := by
  unfold tolds
  refine List.pairwise_map.mpr ?_
  refine List.Pairwise.imp_of_mem (fun {x y} hx hy hlt => ?_) List.pairwise_lt_range
  intro h
  have := ev_inj hb hp (List.mem_range.mp hx) (List.mem_range.mp hy) h
  omega
structure GoodF (b p : Int) (fs : List Int) : Prop where
  len : fs.length = b.toNat
  bit : ∀ f ∈ fs, f = 0 ∨ f = 1
  sum : fs.sum = p
  spread : Spread fs
theorem tolds_mem {b p : Int} (hb : 1 ≤ b) (hp : 0 ≤ p) (hpb : p ≤ b) (fs : List Int) : fs ∈ tolds b p ↔ GoodF b p fs := by
  unfold tolds
  rw [List.mem_map]
  constructor
  · rintro ⟨t, ht, rfl⟩
    refine ⟨evL_len _ _ _, fun f hf => ?_, evL_sum (by omega) _ _, evL_spread (by omega)⟩
    unfold evL at hf
    obtain ⟨k, _, rfl⟩ := List.mem_map.mp hf
    exact evB_01 (by omega) hp hpb _ k
  · rintro ⟨h1, h2, h3, h4⟩
    obtain ⟨t, ht, he⟩ := h4.even (by omega)
    have hx : 0 < exN b.toNat p.toNat := exN_pos (by omega)
    refine ⟨t % exN b.toNat p.toNat, List.mem_range.mpr (Nat.mod_lt _ hx), ?_⟩
    rw [← evL_mod hb hp, ← he, h3, show ((fs.length : Nat) : Int) = b by omega]
/-! ### the groups of k06's dict -/
def InG (B : Nat) (p : Int) (j : Nat) : Prop := j < 2 ^ B ∧ Spread (frB B j) ∧ (frB B j).sum = p
structure GrpL (B : Nat) (H : Hp) (p : Int) (n : Nat) (l : Addr) (bs : List (Addr × List Int)) : Prop where
  at_ : H l = some (.lst (bs.map fun z => V.ref z.1))
  rows : ∀ z ∈ bs, H z.1 = some (.lst (z.2.map V.int)) ∧ ∃ j, j < n ∧ InG B p j ∧ z.2 = frB B j
  all : ∀ j, j < n → InG B p j → ∃ z ∈ bs, z.2 = frB B j
  nd : (bs.map Prod.snd).Nodup
  len : bs.length ≤ n
structure Grp (B : Nat) (H : Hp) (kvs : List (Key × V)) (n : Nat) : Prop where
  no : ∀ p : Int, valV kvs (.inl p) = none → ∀ j, j < n → ¬ InG B p j
  yes : ∀ (p : Int) v, valV kvs (.inl p) = some v → ∃ (l : Addr) (bs : List (Addr × List Int)), v = .ref l ∧ GrpL B H p n l bs
  inj : ∀ (p q : Int) (l : Addr), valV kvs (.inl p) = some (.ref l) → valV kvs (.inl q) = some (.ref l) → p = q
section
variable {B : Nat} {H H' : Hp} {kvs : List (Key × V)} {n : Nat}
theorem GrpL.same {p : Int} {l : Addr} {bs : List (Addr × List Int)} (h : GrpL B H p n l bs) (e : Same H H') : GrpL B H' p n l bs :=
  ⟨e _ _ h.at_, fun z hz => ⟨e _ _ (h.rows z hz).1, (h.rows z hz).2⟩, h.all, h.nd, h.len⟩
theorem Grp.same (h : Grp B H kvs n) (e : Same H H') : Grp B H' kvs n :=
  ⟨h.no, fun p v hv => by obtain ⟨l, bs, h1, h2⟩ := h.yes p v hv; exact ⟨l, bs, h1, h2.same e⟩, h.inj⟩
theorem GrpL.skip {p : Int} {l : Addr} {bs : List (Addr × List Int)} (h : GrpL B H p n l bs) (hn : ¬ InG B p n) : GrpL B H p (n + 1) l bs :=
  ⟨h.at_, fun z hz => by obtain ⟨h1, j, h2, h3⟩ := h.rows z hz; exact ⟨h1, j, Nat.lt_succ_of_lt h2, h3⟩, fun j hj hg => by
    by_cases c : j = n
    · subst c; exact absurd hg hn
    · exact h.all j (by omega) hg, h.nd, Nat.le_succ_of_le h.len⟩
theorem Grp.skip (h : Grp B H kvs n) (hn : ∀ p, ¬ InG B p n) : Grp B H kvs (n + 1) :=
  ⟨fun p hp j hj hg => by
    by_cases c : j = n
    · subst c; exact hn p hg
    · exact h.no p hp j (by omega) hg, fun p v hv => by obtain ⟨l, bs, h1, h2⟩ := h.yes p v hv; exact ⟨l, bs, h1, h2.skip (hn p)⟩, h.inj⟩
theorem row_ne {a l : Addr} {fs : List Int} {bs : List (Addr × List Int)} (hf : fs ≠ []) (ha : H a = some (.lst (fs.map V.int))) (hl : H l = some (.lst (bs.map fun z => V.ref z.1))) : a ≠ l := fun e => by
  subst e
  rw [ha] at hl
  cases fs with
  | nil => exact hf rfl
  | cons f fs =>
    cases bs with
    | nil => simp at hl
    | cons b bs => simp at hl
theorem frB_ne (hB : 0 < B) (j : Nat) : frB B j ≠ [] := fun e => by
  have := frB_len B j
  rw [e] at this
  simp at this
  omega
/-- a group but the changed one stays -/
theorem GrpL.off {p : Int} {l l' : Addr} {bs : List (Addr × List Int)} (hB : 0 < B) (h : GrpL B H p n l bs) (hne : l ≠ l') (h' : ∃ bs' : List (Addr × List Int), H l' = some (.lst (bs'.map fun z => V.ref z.1))) (o : HO) : GrpL B (upd H l' o) p n l bs := by
  obtain ⟨bs', hl'⟩ := h'
  refine ⟨by rw [upd_ne hne]; exact h.at_, fun z hz => ?_, h.all, h.nd, h.len⟩
  obtain ⟨h1, j, h2, h3, h4⟩ := h.rows z hz
  refine ⟨?_, j, h2, h3, h4⟩
  rw [upd_ne (row_ne (by rw [h4]; exact frB_ne hB j) h1 hl')]
  exact h1
/-- the group itself takes one more -/
theorem GrpL.push {p : Int} {l f : Addr} {bs : List (Addr × List Int)} (hB : 0 < B) (h : GrpL B H p n l bs) (hf : H f = some (.lst ((frB B n).map V.int))) (hg : InG B p n) : GrpL B (upd H l (.lst (bs.map (fun z => V.ref z.1) ++ [V.ref f]))) p (n + 1) l (bs ++ [(f, frB B n)]) := by
  have hfl : f ≠ l := row_ne (frB_ne hB n) hf h.at_
  refine ⟨by rw [upd_same, List.map_append]; rfl, fun z hz => ?_, fun j hj hgj => ?_, ?_, by rw [List.length_append]; exact Nat.succ_le_succ h.len⟩
  · rcases List.mem_append.mp hz with m | m
    · obtain ⟨h1, j, h2, h3, h4⟩ := h.rows z m
      refine ⟨?_, j, Nat.lt_succ_of_lt h2, h3, h4⟩
      rw [upd_ne (row_ne (by rw [h4]; exact frB_ne hB j) h1 h.at_)]
      exact h1
    · rw [List.mem_singleton] at m
      subst m
      exact ⟨by rw [upd_ne hfl]; exact hf, n, Nat.lt_succ_self n, hg, rfl⟩
  · by_cases c : j = n
    · subst c; exact ⟨(f, frB B j), List.mem_append_right _ List.mem_cons_self, rfl⟩
    · obtain ⟨z, hz, e⟩ := h.all j (by omega) hgj
      exact ⟨z, List.mem_append_left _ hz, e⟩
  · rw [List.map_append]
    refine List.nodup_append.mpr ⟨h.nd, by simp, fun a ha c hc => ?_⟩
    simp only [List.map_cons, List.map_nil, List.mem_singleton] at hc
    subst hc
    obtain ⟨z, hz, rfl⟩ := List.mem_map.mp ha
    obtain ⟨_, j, h2, h3, h4⟩ := h.rows z hz
    rw [h4]
    intro e
    have := frB_inj h3.1 hg.1 e
    omega
theorem Grp.add {p : Int} {l f : Addr} {xs : List V} (hB : 0 < B) (h : Grp B H kvs n) (hl : valV kvs (.inl p) = some (.ref l)) (hx : H l = some (.lst xs)) (hf : H f = some (.lst ((frB B n).map V.int))) (hg : InG B p n) : Grp B (upd H l (.lst (xs ++ [V.ref f]))) kvs (n + 1) := by
  obtain ⟨l0, bs, e0, hb⟩ := h.yes p _ hl
  cases e0
  have ex : xs = bs.map fun z => V.ref z.1 := by
    have := hb.at_
    rw [hx] at this
    exact HO.lst.inj (Option.some.inj this)
  subst ex
  refine ⟨fun q hq j hj hgj => ?_, fun q v hv => ?_, h.inj⟩
  · by_cases c : j = n
    · subst c
      have : q = p := by rw [← hgj.2.2, hg.2.2]
      subst this
      rw [hq] at hl; cases hl
    · exact h.no q hq j (by omega) hgj
  · by_cases c : q = p
    · subst c
      rw [hl] at hv
      cases hv
      exact ⟨l, _, rfl, hb.push hB hf hg⟩
    · obtain ⟨l2, bs2, rfl, hb2⟩ := h.yes q v hv
      have hne : l2 ≠ l := fun e => by subst e; exact c (h.inj q p _ hv hl)
      refine ⟨l2, bs2, rfl, (hb2.skip fun z => c ?_).off hB hne ⟨bs, hb.at_⟩ _⟩
      rw [← z.2.2, hg.2.2]
theorem Grp.put {p : Int} {z d f : Addr} (hB : 0 < B) (h : Grp B H kvs n) (hd : H d = some (.dK kvs)) (hl : valV kvs (.inl p) = none) (hz : H z = none) (hf : H f = some (.lst ((frB B n).map V.int))) (hg : InG B p n) :
    Grp B (upd (upd (upd H z (.lst [])) d (.dK (putK kvs (.inl p) (.ref z)))) z (.lst ([] ++ [V.ref f]))) (putK kvs (.inl p) (.ref z)) (n + 1) := by
  have hfz : f ≠ z := ne_of_none hf hz
  have hfd : f ≠ d := fun e => by subst e; rw [hf] at hd; cases hd
  have hkeep : ∀ (b : Addr) (xs : List V), H b = some (.lst xs) → (upd (upd (upd H z (.lst [])) d (.dK (putK kvs (.inl p) (.ref z)))) z (.lst ([] ++ [V.ref f]))) b = some (.lst xs) := fun b xs hb => by
    have h1 : b ≠ z := ne_of_none hb hz
    have h2 : b ≠ d := fun e => by subst e; rw [hb] at hd; cases hd
    rw [upd_ne h1, upd_ne h2, upd_ne h1]
    exact hb
  refine ⟨fun q hq j hj hgj => ?_, fun q v hv => ?_, fun q r l h1 h2 => ?_⟩
  · rw [valV_put] at hq
    by_cases c : (Sum.inl q : Key) = .inl p
    · rw [if_pos c] at hq; cases hq
    · rw [if_neg c] at hq
      by_cases e : j = n
      · subst e
        exact c (by rw [← hgj.2.2, hg.2.2])
      · exact h.no q hq j (by omega) hgj
  · rw [valV_put] at hv
    by_cases c : (Sum.inl q : Key) = .inl p
    · rw [if_pos c] at hv
      cases hv
      obtain rfl : q = p := Sum.inl.inj c
      refine ⟨z, [(f, frB B n)], rfl, ⟨upd_same, fun y hy => ?_, fun j hj hgj => ?_, by simp, by simp⟩⟩
      · rw [List.mem_singleton] at hy
        subst hy
        exact ⟨hkeep _ _ hf, n, Nat.lt_succ_self n, hg, rfl⟩
      · by_cases e : j = n
        · subst e; exact ⟨_, List.mem_cons_self, rfl⟩
        · exact absurd hgj (h.no q hl j (by omega))
    · rw [if_neg c] at hv
      obtain ⟨l, bs, rfl, hb⟩ := h.yes q v hv
      refine ⟨l, bs, rfl, ?_⟩
      have hs := hb.skip (fun y => c (by rw [← y.2.2, hg.2.2]))
      exact ⟨hkeep _ _ hs.at_, fun y hy => ⟨hkeep _ _ (hs.rows y hy).1, (hs.rows y hy).2⟩, hs.all, hs.nd, hs.len⟩
  · rw [valV_put] at h1 h2
    by_cases c1 : (Sum.inl q : Key) = .inl p
    · by_cases c2 : (Sum.inl r : Key) = .inl p
      · rw [← Sum.inl.inj c1] at c2; exact (Sum.inl.inj c2).symm
      · rw [if_pos c1] at h1
        rw [if_neg c2] at h2
        cases h1
        obtain ⟨l, bs, e, hb⟩ := h.yes r _ h2
        cases e
        rw [hb.at_] at hz; cases hz
    · by_cases c2 : (Sum.inl r : Key) = .inl p
      · rw [if_neg c1] at h1
        rw [if_pos c2] at h2
        cases h2
        obtain ⟨l, bs, e, hb⟩ := h.yes q _ h1
        cases e
        rw [hb.at_] at hz; cases hz
      · rw [if_neg c1] at h1
        rw [if_neg c2] at h2
        exact h.inj q r l h1 h2
/-- at the end: just the good frames -/
theorem GrpL.whole {b p : Int} {l : Addr} {bs : List (Addr × List Int)} (hb : 0 ≤ b) (h : GrpL b.toNat H p n l bs) (hn : 2 ^ b.toNat ≤ n) (fs : List Int) : fs ∈ bs.map Prod.snd ↔ GoodF b p fs := by
  rw [List.mem_map]
  constructor
  · rintro ⟨z, hz, rfl⟩
    obtain ⟨_, j, _, h3, h4⟩ := h.rows z hz
    rw [h4]
    exact ⟨frB_len _ _, frB_bit _ _, h3.2.2, h3.2.1⟩
  · rintro ⟨h1, h2, h3, h4⟩
    obtain ⟨j, hj, he⟩ := frB_sur h2
    rw [h1] at hj he
    obtain ⟨z, hz, e⟩ := h.all j (Nat.lt_of_lt_of_le hj hn) ⟨hj, by rw [he]; exact h4, by rw [he]; exact h3⟩
    exact ⟨z, hz, by rw [e, he]⟩
end
structure Txt (K : PySem.W.Frag) (mg : Str → Option Value) : Prop where
  k_MOST_BEATS : ∃ u, mg "MOST_BEATS" = some u ∧ RelV (.int 64) u
  b_divmod : mg "divmod" = none
  b_int : mg "int" = none
  b_len : mg "len" = none
  b_list : mg "list" = none
  b_max : mg "max" = none
  b_min : mg "min" = none
  b_range : mg "range" = none
  b_sorted : mg "sorted" = none
  b_sum : mg "sum" = none
section
variable {P : Program} {w : World} {K : PySem.W.Frag} {mg : Str → Option Value} {base : Heap}
abbrev s_law_start : Stmt := top 19
theorem sc_law_start : FnScope ["_law_script", "_law_mixed", "_law_cell"] ["_law_script"] (defScope s_law_start) := ⟨rfl, rfl, rfl, by decide +kernel, rfl, by decide +kernel, by decide +kernel⟩
/-- _law_start(script): a new good state -/
def spStart (K : PySem.W.Frag) : Sp := fun vs H Q _ => ∃ (a : Addr) (ns : List Int), vs = [.ref a] ∧ SqL K H a (ns.map V.int) ∧ ∀ (st : Addr) (m : Int), H st = none → Drw 0 m 0 → Q (.ref st) (upd H st (StO a 0 m 0))
theorem ok_law_start {f : Addr} {fd : FuncData} (F : FunG K mg "_law_start" s_law_start f fd ["_law_script"]) : FnOk P w K mg base CX0 1 f fd ["_law_script"] (spStart K) := by
  refine F.fn.ok sc_law_start (fun vs H Q E h => ?_) (fun cdv A outer s H vs Q E hr h => ?_)
  · obtain ⟨a, ns, rfl, _⟩ := h
    rfl
  · obtain ⟨a, ns, rfl, hS, k⟩ := h
    refine ⟨_, (pss_cons (ps_set (i := 1) sc_law_start.nd rfl (.inl rfl) pe_int)
      (pss_cons (ps_for PassesOwn.never (by rfl) (pi_list (pv 0)) (pg_name (i := 2) sc_law_start.nd rfl (.inl rfl)) (pss_one (ps_set (i := 1) sc_law_start.nd rfl (.inl rfl) (pe_op op_mod (pe_op op_add (pe_op op_add (pe_op op_mulW (pv 1) pe_int) (pv 2)) pe_int) pe_int))))
      (pss_one (ps_ret (pe_lst (pa_cons (pv 0) (pa_cons pe_int (pa_cons (pv 1) (pa_cons pe_int pa_nil))))))))), ?_⟩
    refine ⟨_, rfl, a, rfl, ⟨_, hS⟩, for_list (K := K) (a := a) (xs := ns.map V.int) (fun i σ H' => ∃ (m : Int) (v : Option V), σ = [some (.ref a), some (.int m), v] ∧ H' = H ∧ 0 ≤ m ∧ m < 2147483647)
      ⟨1, none, rfl, rfl, by decide, by decide⟩ (fun i σ H' _ ⟨_, _, _, e, _⟩ => e ▸ hS) ?_ ?_⟩
    · rintro i y σ H' hi ⟨m, v, rfl, rfl, m0, m1⟩
      obtain ⟨z, hz, rfl⟩ := getV hi
      refine ⟨_, rfl, _, _, rfl, rfl, wide_mul (a := 31) (b := 17) (by omega) (by decide) (by decide) (by decide) (by decide), _, rfl, _, _, rfl, rfl, _, _, rfl, rfl, _, _, rfl, rfl, (by show (0 : Int) < 2147483647; decide), ?_⟩
      exact ⟨_, _, rfl, rfl, Int.emod_nonneg _ (by decide), Int.emod_lt_of_pos _ (by decide)⟩
    · rintro σ H' ⟨m, v, rfl, rfl, m0, m1⟩
      refine ⟨_, rfl, _, rfl, (by show 4 ≤ sizeLine; decide), fun p hp => ?_⟩
      exact k p m hp ⟨Int.le_refl _, m0, m1, Int.le_refl _⟩
abbrev s_law_drawn : Stmt := top 20
theorem sc_law_drawn : FnScope ["_law_state", "_law_many", "_law_found", "_law_cell"] ["_law_state", "_law_many"] (defScope s_law_drawn) := ⟨rfl, rfl, rfl, by decide +kernel, rfl, by decide +kernel, by decide +kernel⟩
/-- _law_drawn(state, many): some number from 0 on below many; the state is good behind it, all else as it was -/
def spDrawn (K : PySem.W.Frag) : Sp := fun vs H Q _ => ∃ (st a : Addr) (ns : List Int) (many : Int), vs = [.ref st, .int many] ∧ SOk K a ns st H ∧ 0 < many ∧ many < 2 ^ 200 ∧
  ∀ r i m c : Int, 0 ≤ r → r < many → Drw i m c → Q (.int r) (upd H st (StO a i m c))
theorem SOk.drawn {K : PySem.W.Frag} {a st : Addr} {ns : List Int} {H : Hp} (s : SOk K a ns st H) {i m c : Int} (d : Drw i m c) : SOk K a ns st (upd H st (StO a i m c)) := s.keep (Keep.refl st H).atSt d upd_same
theorem ok_law_drawn {f : Addr} {fd : FuncData} (F : FunG K mg "_law_drawn" s_law_drawn f fd ["_law_state", "_law_many"]) (T : Txt K mg) : FnOk P w K mg base CX0 1 f fd ["_law_state", "_law_many"] (spDrawn K) := by
  refine F.fn.ok sc_law_drawn (fun vs H Q E h => ?_) (fun cdv A outer s H vs Q E hr h => ?_)
  · obtain ⟨st, a, ns, many, rfl, _⟩ := h
    rfl
  · obtain ⟨st, a, ns, many, rfl, hs, m0, m1, k⟩ := h
    obtain ⟨i, m, c, d, hst⟩ := hs.at_
    have hdiv : ∀ x : Int, CDivW x many := fun x => wide_div (b := 200) m0 (by omega) (by decide) (by decide)
    have hl : H st = some (.lst [.ref a, .int i, .int m, .int c]) := hst
    refine ⟨_, (pss_cons (ps_if (pt_cmpR op_gt (pe_ix (ixL K) (pv 0) pe_int (fun _ _ => rfl)) pe_int (nomark _)) (pss_cons (ps_set (i := 2) sc_law_drawn.nd rfl (.inl rfl) (pe_op op_mod (pe_ix (ixL K) (pv 0) pe_int (fun _ _ => rfl)) (pv 1)))
      (pss_cons (ps_asg (pe_op op_fdivW (pe_ix (ixL K) (pv 0) pe_int (fun _ _ => rfl)) (pv 1)) (pg_sub (pv 0) pe_int set_list))
      (pss_one (ps_ret (pv 2))))) pss_nil)
      (pss_cons (ps_asg (pe_op op_add (pe_ix (ixL K) (pv 0) pe_int (fun _ _ => rfl)) pe_int) (pg_sub (pv 0) pe_int set_list))
      (pss_cons (ps_if (pt_cmpR op_le (pe_ix (ixL K) (pv 0) pe_int (fun _ _ => rfl)) (pe_callB (clLen K) (by rfl) T.b_len (by decide +kernel) (pa_cons (pe_ix (ixL K) (pv 0) pe_int (fun _ _ => rfl)) pa_nil)) (nomark _)) (pss_cons (ps_set (i := 3) sc_law_drawn.nd rfl (.inl rfl) (pe_ix (ixL K) (pe_ix (ixL K) (pv 0) pe_int (fun _ _ => rfl)) (pe_op op_sub (pe_ix (ixL K) (pv 0) pe_int (fun _ _ => rfl)) pe_int) (fun _ _ => rfl)))
      (pss_cons (ps_asg (pe_ifExp (pt_cmpR op_ge (pv 3) (pe_op op_pow pe_int pe_int) (nomark _)) (pe_op op_fdivW (pv 3) (pv 1)) pe_int) (pg_sub (pv 0) pe_int set_list))
      (pss_one (ps_ret (pe_op op_mod (pv 3) (pv 1)))))) pss_nil)
      (pss_cons (ps_asg (pe_op op_mod (pe_op op_add (pe_op op_mulW (pe_ix (ixL K) (pv 0) pe_int (fun _ _ => rfl)) pe_int) pe_int) pe_int) (pg_sub (pv 0) pe_int set_list))
      (pss_one (ps_ret (pe_op op_mod (pe_op op_fdivW (pe_ix (ixL K) (pv 0) pe_int (fun _ _ => rfl)) pe_int) (pv 1)))))))), ?_⟩
    refine ⟨_, rfl, _, _, _, _, rfl, rfl, SqL.of hl, rfl, _, _, rfl, rfl, _, rfl, ?_⟩
    refine ite2 (fun hc => ?_) (fun hc => ?_)
    · have hc : 0 < c := of_decide_eq_true hc
      refine ⟨_, rfl, _, _, _, _, rfl, rfl, SqL.of hl, rfl, _, rfl, _, _, rfl, rfl, m0, ?_⟩
      refine ⟨_, rfl, _, _, _, _, rfl, rfl, SqL.of hl, rfl, _, rfl, _, _, rfl, rfl, hdiv _, _, rfl, st, _, _, 3, rfl, rfl, hl, rfl, ?_⟩
      refine ⟨_, rfl, ?_⟩
      exact k (c % many) i m (c / many) (Int.emod_nonneg _ (by omega)) (Int.emod_lt_of_pos _ m0) ⟨d.i0, d.m0, d.m1, Int.ediv_nonneg d.c0 (by omega)⟩
    · refine ⟨_, rfl, _, _, _, _, rfl, rfl, SqL.of hl, rfl, _, _, rfl, rfl, _, rfl, st, _, _, 1, rfl, rfl, hl, rfl, ?_⟩
      have hl1 : (upd H st (.lst [.ref a, .int (i + 1), .int m, .int c])) st = some (.lst [.ref a, .int (i + 1), .int m, .int c]) := upd_same
      have hS1 : SqL K (upd H st (.lst [.ref a, .int (i + 1), .int m, .int c])) a (ns.map V.int) := hs.sq _ (Keep.refl st H).atSt
      refine ⟨_, rfl, _, _, _, _, rfl, rfl, SqL.of hl1, rfl, _, rfl, _, _, _, _, rfl, rfl, SqL.of hl1, rfl, _, _, rfl, .inl hS1, _, _, rfl, rfl, _, rfl, ?_⟩
      refine ite2 (fun hb => ?_) (fun hb => ?_)
      · have hb : i + 1 ≤ ((ns.map V.int).length : Int) := of_decide_eq_true hb
        rw [List.length_map] at hb
        have i0 := d.i0
        refine ⟨_, rfl, _, _, _, _, rfl, rfl, SqL.of hl1, rfl, _, rfl, _, _, _, _, rfl, rfl, SqL.of hl1, rfl, _, _, rfl, rfl, _, _, _, _, rfl, rfl, hS1, atV (j := i.toNat) (by omega) (by omega), ?_⟩
        refine ⟨_, rfl, _, _, rfl, rfl, ⟨by decide, by decide, by decide⟩, _, _, rfl, rfl, _, rfl, ?_⟩
        generalize ns.getD i.toNat 0 = z
        refine ite2 (fun hz => ?_) (fun hz => ?_)
        · have hz : (10 : Int) ^ (18 : Int).toNat ≤ z := of_decide_eq_true hz
          have z0 : 0 ≤ z := Int.le_trans (by decide) hz
          refine ⟨_, rfl, _, rfl, _, _, rfl, rfl, hdiv _, _, rfl, st, _, _, 3, rfl, rfl, hl1, rfl, ?_⟩
          refine ⟨_, rfl, _, rfl, _, _, rfl, rfl, m0, ?_⟩
          rw [upd_upd]
          exact k (z % many) (i + 1) m (z / many) (Int.emod_nonneg _ (by omega)) (Int.emod_lt_of_pos _ m0) ⟨by omega, d.m0, d.m1, Int.ediv_nonneg z0 (by omega)⟩
        · refine ⟨_, rfl, st, _, _, 3, rfl, rfl, hl1, rfl, ?_⟩
          refine ⟨_, rfl, _, rfl, _, _, rfl, rfl, m0, ?_⟩
          rw [upd_upd]
          exact k (z % many) (i + 1) m 0 (Int.emod_nonneg _ (by omega)) (Int.emod_lt_of_pos _ m0) ⟨by omega, d.m0, d.m1, Int.le_refl _⟩
      · refine ⟨_, rfl, _, _, _, _, rfl, rfl, SqL.of hl1, rfl, _, _, rfl, rfl, wide_mul (a := 31) (b := 17) (by have := d.m0; have := d.m1; omega) (by decide) (by decide) (by decide) (by decide), _, _, rfl, rfl, _, _, rfl, rfl, (by show (0 : Int) < 2147483647; decide), _, rfl, st, _, _, 2, rfl, rfl, hl1, rfl, ?_⟩
        rw [upd_upd]
        have n0 := Int.emod_nonneg (m * 48271 + 11) (show (2147483647 : Int) ≠ 0 by decide)
        have n1 := Int.emod_lt_of_pos (m * 48271 + 11) (show (0 : Int) < 2147483647 by decide)
        have hl2 : (upd H st (.lst [.ref a, .int (i + 1), .int ((m * 48271 + 11) % 2147483647), .int c])) st = some (.lst [.ref a, .int (i + 1), .int ((m * 48271 + 11) % 2147483647), .int c]) := upd_same
        refine ⟨_, rfl, _, _, _, _, rfl, rfl, SqL.of hl2, rfl, _, _, rfl, rfl, wide_div (b := 3) (by decide) (by decide) (by decide) (by decide), _, rfl, _, _, rfl, rfl, m0, ?_⟩
        have i0 := d.i0
        exact k ((m * 48271 + 11) % 2147483647 / 7 % many) (i + 1) ((m * 48271 + 11) % 2147483647) c (Int.emod_nonneg _ (by omega)) (Int.emod_lt_of_pos _ m0) ⟨by omega, n0, n1, d.c0⟩
end
end My

namespace My
open PySem L2
section
variable {P : Program} {w : World} {K : PySem.W.Frag} {mg : Str → Option Value} {base : Heap}
abbrev s_need_beats : Stmt := top 7
theorem sc_need_beats : FnScope ["beats"] ["beats"] (defScope s_need_beats) := ⟨rfl, rfl, rfl, by decide +kernel, rfl, by decide +kernel, by decide +kernel⟩
/-- need_beats(beats), good ones -/
def spNeedBeats : Sp := fun vs H Q _ => ∃ b : Int, vs = [.int b] ∧ 1 ≤ b ∧ b ≤ 64 ∧ Q .non H
theorem ok_need_beats {f : Addr} {fd : FuncData} (F : FunG K mg "need_beats" s_need_beats f fd ["beats"]) (T : Txt K mg) : FnOk P w K mg base CX0 1 f fd ["beats"] spNeedBeats := by
  refine F.fn.ok sc_need_beats (fun vs H Q E h => ?_) (fun cdv A outer s H vs Q E hr h => ?_)
  · obtain ⟨b, rfl, _⟩ := h
    rfl
  · obtain ⟨b, rfl, b0, b1, k⟩ := h
    refine ⟨_, (pss_one (ps_if (pt_not (pt_chain op_le op_le pe_int (pv 0) (C8.pe_gc (by rfl) T.k_MOST_BEATS))) (pss_one ps_never) pss_nil)), ?_⟩
    refine ⟨_, rfl, _, _, rfl, rfl, _, rfl, ?_⟩
    rw [decide_eq_true b0]
    refine iteT ⟨_, _, rfl, rfl, _, rfl, ?_⟩
    rw [decide_eq_true b1]
    exact iteF k
abbrev s_need_share : Stmt := top 8
theorem sc_need_share : FnScope ["beats", "pulses"] ["beats", "pulses"] (defScope s_need_share) := ⟨rfl, rfl, rfl, by decide +kernel, rfl, by decide +kernel, by decide +kernel⟩
/-- need_share(beats, pulses), a good one -/
def spNeedShare : Sp := fun vs H Q _ => ∃ b p : Int, vs = [.int b, .int p] ∧ 1 ≤ b ∧ b ≤ 64 ∧ 0 ≤ p ∧ p ≤ b ∧ Q .non H
theorem ok_need_share {f : Addr} {fd : FuncData} (F : FunG K mg "need_share" s_need_share f fd ["beats", "pulses"]) (c_need_beats : Cl P w K mg base CX0 1 "need_beats" spNeedBeats) : FnOk P w K mg base CX0 2 f fd ["beats", "pulses"] spNeedShare := by
  refine F.fn.ok sc_need_share (fun vs H Q E h => ?_) (fun cdv A outer s H vs Q E hr h => ?_)
  · obtain ⟨b, p, rfl, _⟩ := h
    rfl
  · obtain ⟨b, p, rfl, b0, b1, p0, p1, k⟩ := h
    refine ⟨_, (pss_cons (ps_expr (pe_cl c_need_beats hr (by decide) (by rfl) (pa_cons (pv 0) pa_nil)))
      (pss_one (ps_if (pt_not (pt_chain op_le op_le pe_int (pv 1) (pv 0))) (pss_one ps_never) pss_nil))), ?_⟩
    refine ⟨_, rfl, b, rfl, b0, b1, ?_⟩
    refine ⟨_, rfl, _, _, rfl, rfl, _, rfl, ?_⟩
    rw [decide_eq_true p0]
    refine iteT ⟨_, rfl, _, _, rfl, rfl, _, rfl, ?_⟩
    rw [decide_eq_true p1]
    exact iteF k
abbrev s_even_frame : Stmt := top 9
theorem sc_even_frame : FnScope ["beats", "pulses", "turn", "k"] ["beats", "pulses", "turn"] (defScope s_even_frame) := ⟨rfl, rfl, rfl, by decide +kernel, rfl, by decide +kernel, by decide +kernel⟩
/-- even_frame(beats, pulses, turn): a new list -/
def spEven : Sp := fun vs H Q _ => ∃ b p t : Int, vs = [.int b, .int p, .int t] ∧ 1 ≤ b ∧ b ≤ 64 ∧ 0 ≤ p ∧ p ≤ b ∧ t.natAbs < 2 ^ 300 ∧
  ∀ l, H l = none → Q (.ref l) (upd H l (.lst ((evL b p t).map V.int)))
theorem ok_even_frame {f : Addr} {fd : FuncData} (F : FunG K mg "even_frame" s_even_frame f fd ["beats", "pulses", "turn"]) (T : Txt K mg) : FnOk P w K mg base CX0 1 f fd ["beats", "pulses", "turn"] spEven := by
  refine F.fn.ok sc_even_frame (fun vs H Q E h => ?_) (fun cdv A outer s H vs Q E hr h => ?_)
  · obtain ⟨b, p, t, rfl, _⟩ := h
    rfl
  · obtain ⟨b, p, t, rfl, b0, b1, p0, p1, ht, k⟩ := h
    refine ⟨_, (pss_one (ps_ret (pe_lc (own := [("k", 3)]) (g := gName 3) (tt := tYes) (by rfl) sc_even_frame.nd (pi_range1 (by rfl) T.b_range (pa_cons (pv 0) pa_nil)) (blkOk_by (own := [("k", 3)]) (N := ["beats", "pulses", "turn", "k"]) (sc := defScope s_even_frame) (by decide +kernel)) (fun _ _ _ _ _ => (pg_name (i := 3) sc_even_frame.nd rfl (.inl rfl))) (fun _ _ _ _ _ => pts_nil) (fun _ _ _ _ _ => (pe_op op_sub (pe_op op_fdivW (pe_op op_mulW (pe_op op_add (pe_op op_add (pv 3) pe_int) (pv 2)) (pv 1)) (pv 0)) (pe_op op_fdivW (pe_op op_mulW (pe_op op_add (pv 3) (pv 2)) (pv 1)) (pv 0))))))), ?_⟩
    refine ⟨_, rfl, _, rfl, by omega, by omega, fun D hD => lc_range (lo := 0) (n := b.toNat) (fun i H' => H' = upd H D (.lst (((List.range i).map (evB b p t)).map V.int))) rfl ?_ ?_⟩
    · rintro i H' hi rfl
      have hbd : b.natAbs < 2 ^ 7 := by omega
      have hp : p.natAbs < 2 ^ 7 := by omega
      have h301 : ∀ z : Int, 0 ≤ z → z < 100 → (z + t).natAbs < 2 ^ 301 := fun z z0 z1 => by
        have e : (2 : Nat) ^ 301 = 2 ^ 300 + 2 ^ 300 := by rw [Nat.pow_succ]; omega
        have e2 : (100 : Nat) ≤ 2 ^ 300 := by decide
        rw [e]; omega
      have hi' : (i : Int) < 64 := by omega
      have hd : ∀ x : Int, CDivW x b := fun x => wide_div (b := 7) (by omega) hbd (by decide) (by decide)
      refine ⟨rfl, _, rfl, _, _, rfl, rfl, _, rfl, _, _, rfl, rfl, _, rfl, _, _, rfl, rfl, wide_mul (a := 301) (b := 7) (h301 _ (by omega) (by omega)) hp (by decide) (by decide) (by decide), _, rfl, _, _, rfl, rfl, hd _, _, rfl, _, rfl, _, _, rfl, rfl, _, rfl, _, _, rfl, rfl,
        wide_mul (a := 301) (b := 7) (h301 _ (by omega) (by omega)) hp (by decide) (by decide) (by decide), _, rfl, _, _, rfl, rfl, hd _, _, _, rfl, rfl, _, upd_same, small_of (m := 64) (by simp; omega), ?_⟩
      rw [upd_upd, List.range_succ, List.map_append, List.map_append]
      simp only [Int.zero_add]
      rfl
    · rintro H' rfl
      exact k D hD
abbrev s_even : Stmt := top 10
theorem sc_even : FnScope ["beats", "pulses", "turn"] ["beats", "pulses", "turn"] (defScope s_even) := ⟨rfl, rfl, rfl, by decide +kernel, rfl, by decide +kernel, by decide +kernel⟩
/-- even(beats, pulses, turn) -/
theorem ok_even {f : Addr} {fd : FuncData} (F : FunG K mg "even" s_even f fd ["beats", "pulses", "turn"]) (c_need_share : Cl P w K mg base CX0 2 "need_share" spNeedShare) (c_even_frame : Cl P w K mg base CX0 1 "even_frame" spEven) : FnOk P w K mg base CX0 3 f fd ["beats", "pulses", "turn"] spEven := by
  refine F.fn.ok sc_even (fun vs H Q E h => ?_) (fun cdv A outer s H vs Q E hr h => ?_)
  · obtain ⟨b, p, t, rfl, _⟩ := h
    rfl
  · obtain ⟨b, p, t, rfl, b0, b1, p0, p1, ht, k⟩ := h
    refine ⟨_, (pss_cons (ps_expr (pe_cl c_need_share hr (by decide) (by rfl) (pa_cons (pv 0) (pa_cons (pv 1) pa_nil))))
      (pss_one (ps_ret (pe_cl c_even_frame hr (by decide) (by rfl) (pa_cons (pv 0) (pa_cons (pv 1) (pa_cons (pv 2) pa_nil))))))), ?_⟩
    refine ⟨_, rfl, _, rfl, b, p, rfl, b0, b1, p0, p1, ?_⟩
    exact ⟨_, rfl, _, rfl, _, rfl, b, p, t, rfl, b0, b1, p0, p1, ht, k⟩
abbrev s_need_frame : Stmt := top 6
theorem sc_need_frame : FnScope ["frame", "beat"] ["frame"] (defScope s_need_frame) := ⟨rfl, rfl, rfl, by decide +kernel, rfl, by decide +kernel, by decide +kernel⟩
/-- need_frame(frame), a good one -/
def spNeedFrame (K : PySem.W.Frag) : Sp := fun vs H Q _ => ∃ (l : Addr) (fs : List Int), vs = [.ref l] ∧ SqL K H l (fs.map V.int) ∧ Frm fs ∧ ∀ H', Same H H' → Q .non H'
theorem ok_need_frame {f : Addr} {fd : FuncData} (F : FunG K mg "need_frame" s_need_frame f fd ["frame"]) (T : Txt K mg) : FnOk P w K mg base CX0 1 f fd ["frame"] (spNeedFrame K) := by
  refine F.fn.ok sc_need_frame (fun vs H Q E h => ?_) (fun cdv A outer s H vs Q E hr h => ?_)
  · obtain ⟨l, fs, rfl, _⟩ := h
    rfl
  · obtain ⟨l, fs, rfl, hS, hf, k⟩ := h
    refine ⟨_, (pss_one (ps_if (PW.pt (pw_or (pt_not (pt_chain op_le op_le pe_int (pe_callB (clLen K) (by rfl) T.b_len (by decide +kernel) (pa_cons (pv 0) pa_nil)) (C8.pe_gc (by rfl) T.k_MOST_BEATS))) (pw_or1 (pt_cmpR (opNeD K hr.units) (pe_lc (own := [("beat", 1)]) (g := gName 1) (by rfl) sc_need_frame.nd (pi_list (pv 0)) (blkOk_by (own := [("beat", 1)]) (N := ["frame", "beat"]) (sc := defScope s_need_frame) (by decide +kernel)) (fun _ _ _ _ _ => (pg_name (i := 1) sc_need_frame.nd rfl (.inl rfl))) (fun _ _ _ _ _ => (pts_one (pt_cmpR (opNotInQ K) (pv 1) (pe_tup (pa_cons pe_int (pa_cons pe_int pa_nil))) (by rfl)))) (fun _ _ _ _ _ => (pv 1))) (pe_lst pa_nil) (nomark _))))) (pss_one ps_never) pss_nil)), ?_⟩
    have h0 := hf.pos
    have h1 := hf.le
    refine ⟨_, rfl, _, _, rfl, .inl hS, _, _, rfl, rfl, _, rfl, ?_⟩
    rw [decide_eq_true (show (1 : Int) ≤ ((fs.map V.int).length : Int) by rw [List.length_map]; omega)]
    refine iteT ⟨_, _, rfl, rfl, _, rfl, ?_⟩
    rw [decide_eq_true (show ((fs.map V.int).length : Int) ≤ 64 by rw [List.length_map]; omega)]
    refine iteF ⟨_, rfl, _, rfl, ⟨_, hS⟩, fun D hD => lc_list (K := K) (a := l) (xs := fs.map V.int) (fun i H' => Same H H' ∧ H' D = some (.lst [])) ⟨Same.upd hD, upd_same⟩ (fun i H' _ h => h.1.seq hS) ?_ ?_⟩
    · rintro i x H' hi ⟨e, hd⟩
      obtain ⟨z, hz, rfl⟩ := getV hi
      refine ⟨rfl, _, rfl, (by show 2 ≤ sizeLine; decide), fun p hp => ⟨_, _, rfl, .inr (SqT.of upd_same), rfl, rfl, _, rfl, ?_⟩⟩
      have hb : inV (.int z) [.int 0, .int 1] = true := by
        rcases hf.bit z (List.mem_of_getElem? hz) with e | e <;> subst e <;> rfl
      show (if (!inV (.int z) [.int 0, .int 1]) = true then _ else _)
      rw [hb]
      exact iteF ⟨e.new hp, by rw [upd_ne (ne_of_none hd hp)]; exact hd⟩
    · rintro H' ⟨e, hd⟩
      refine ⟨Nat.zero_le _, fun q hq => ⟨_, _, dp_nil (SqL.of (by rw [upd_ne (ne_of_none hd hq)]; exact hd)), dp_nil (SqL.of upd_same), dI_shaped _, dI_shaped _, _, rfl, ?_⟩⟩
      rw [dI_eqv]
      exact iteF (k _ (e.new hq))
abbrev s_sums_of : Stmt := top 11
theorem sc_sums_of : FnScope ["frame", "width", "around", "rest", "here", "found", "k"] ["frame", "width"] (defScope s_sums_of) := ⟨rfl, rfl, rfl, by decide +kernel, rfl, by decide +kernel, by decide +kernel⟩
/-- sums_of(frame, width): all windows of the width, a new list -/
def spSums (K : PySem.W.Frag) : Sp := fun vs H Q _ => ∃ (l : Addr) (fs : List Int) (w : Nat), vs = [.ref l, .int (w : Int)] ∧ SqL K H l (fs.map V.int) ∧ Frm fs ∧ w ≤ 10000 ∧
  ∀ p H', Same H H' → H p = none → H' p = some (.lst ((wins fs w).map V.int)) → Q (.ref p) H'
theorem ok_sums_of {f : Addr} {fd : FuncData} (F : FunG K mg "sums_of" s_sums_of f fd ["frame", "width"]) (T : Txt K mg) : FnOk P w K mg base CX0 1 f fd ["frame", "width"] (spSums K) := by
  refine F.fn.ok sc_sums_of (fun vs H Q E h => ?_) (fun cdv A outer s H vs Q E hr h => ?_)
  · obtain ⟨l, fs, w, rfl, _⟩ := h
    rfl
  · obtain ⟨l, fs, w, rfl, hS, hf, hw, k⟩ := h
    refine ⟨_, (pss_cons (ps_asg (pe_callB call_divmodW (by rfl) T.b_divmod (by decide +kernel) (pa_cons (pv 1) (pa_cons (pe_callB (clLen K) (by rfl) T.b_len (by decide +kernel) (pa_cons (pv 0) pa_nil)) pa_nil))) (pg_tup (by rfl) (pgs_cons (pg_name (i := 2) sc_sums_of.nd rfl (.inl rfl)) (pgs_cons (pg_name (i := 3) sc_sums_of.nd rfl (.inl rfl)) pgs_nil))))
      (pss_cons (ps_set (i := 4) sc_sums_of.nd rfl (.inl rfl) (pe_op op_add (pe_op op_mulW (pe_callB (clSum K rfl) (by rfl) T.b_sum (by decide +kernel) (pa_cons (pv 0) pa_nil)) (pv 2)) (pe_callB (clSum K rfl) (by rfl) T.b_sum (by decide +kernel) (pa_cons (pe_slice (slL K) (pv 0) po_none (po_some (pv 3))) pa_nil))))
      (pss_cons (ps_set (i := 5) sc_sums_of.nd rfl (.inl rfl) (pe_lst pa_nil))
      (pss_cons (ps_for PassesOwn.never (by rfl) (pi_range1 (by rfl) T.b_range (pa_cons (pe_callB (clLen K) (by rfl) T.b_len (by decide +kernel) (pa_cons (pv 0) pa_nil)) pa_nil)) (pg_name (i := 6) sc_sums_of.nd rfl (.inl rfl)) (pss_cons (ps_expr (pe_bm PySem.F.plainAttrs_list PySem.F.slot_list_append PySem.F.type_list_append mt_append (pv 5) (pa_cons (pv 4) pa_nil)))
      (pss_one (ps_set (i := 4) sc_sums_of.nd rfl (.inl rfl) (pe_op op_add (pe_op op_sub (pv 4) (pe_ix (ixL K) (pv 0) (pv 6) (fun _ _ => rfl))) (pe_ix (ixL K) (pv 0) (pe_op op_mod (pe_op op_add (pv 6) (pv 3)) (pe_callB (clLen K) (by rfl) T.b_len (by decide +kernel) (pa_cons (pv 0) pa_nil))) (fun _ _ => rfl)))))))
      (pss_one (ps_ret (pv 5))))))), ?_⟩
    have h0 := hf.pos
    have h1 := hf.le
    obtain ⟨sm0, sm1⟩ := hf.sum
    have hlen : (fs.map V.int).length = fs.length := List.length_map _
    have hr0 : w % fs.length < fs.length := Nat.mod_lt _ h0
    -- around, rest = divmod(width, len(frame))
    refine ⟨_, rfl, _, rfl, _, _, rfl, .inl hS, _, _, rfl, divP (b := 7) (by rw [hlen]; omega) (by rw [hlen]; omega) (by decide) (by decide), fun q hq => ⟨_, _, rfl, SqT.of upd_same, rfl, ?_⟩⟩
    have e1 : Same H (upd H q (.tup [.int ((w : Int) / ((fs.map V.int).length : Int)), .int ((w : Int) % ((fs.map V.int).length : Int))])) := Same.upd hq
    rw [hlen, show (w : Int) / (fs.length : Int) = ((w / fs.length : Nat) : Int) from (Int.natCast_ediv _ _).symm, show (w : Int) % (fs.length : Int) = ((w % fs.length : Nat) : Int) from (Int.natCast_emod _ _).symm] at e1 ⊢
    refine ⟨_, _, rfl, _, _, rfl, rfl, ?_⟩
    generalize upd H q (.tup [.int ((w / fs.length : Nat) : Int), .int ((w % fs.length : Nat) : Int)]) = H1 at e1
    have hS1 := e1.seq hS
    -- here = sum(frame) * around + sum(frame[:rest])
    have hq10 : w / fs.length ≤ 10000 := Nat.le_trans (Nat.div_le_self _ _) hw
    refine ⟨_, rfl, _, _, rfl, hS1, _, rfl, _, _, rfl, rfl, wide_mul (a := 7) (b := 14) (by omega) (by rw [Int.natAbs_natCast]; exact Nat.lt_of_le_of_lt hq10 (by decide)) (by decide) (by decide) (by decide), _, rfl, _, rfl, _, rfl, _, _, rfl, hS1, fun p hp => ?_⟩
    rw [cut_to (Nat.le_of_lt hr0)]
    have e2 : Same H (upd H1 p (.lst ((fs.take (w % fs.length)).map V.int))) := e1.new hp
    refine ⟨_, _, rfl, SqL.of upd_same, _, _, rfl, rfl, ?_⟩
    generalize upd H1 p (.lst ((fs.take (w % fs.length)).map V.int)) = H2 at e2
    have hS2 := e2.seq hS
    -- found = []
    refine ⟨Nat.zero_le _, fun D hD => ?_⟩
    have hDn : H D = none := e2.free hD
    refine ⟨_, rfl, _, _, rfl, .inl ((e2.new hD).seq hS), _, rfl, by rw [hlen]; omega, by rw [hlen]; omega, for_range (lo := 0) (n := ((fs.map V.int).length : Int).toNat) (fun i σ H' => (∃ v : Option V, σ = [some (.ref l), some (.int (w : Int)), some (.int ((w / fs.length : Nat) : Int)), some (.int ((w % fs.length : Nat) : Int)), some (.int (win fs w i)), some (.ref D), v]) ∧ Same H H' ∧ H' D = some (.lst (((List.range i).map (win fs w)).map V.int)))
      ?_ ?_ ?_⟩
    · refine ⟨⟨none, ?_⟩, e2.new hD, upd_same⟩
      rw [← win_first w]
      rfl
    · rintro i σ H' hi ⟨⟨v, rfl⟩, e3, hd⟩
      rw [hlen, Int.toNat_natCast] at hi
      refine ⟨_, rfl, .inl ⟨rfl, _, SqL.of hd⟩, _, rfl, D, _, _, rfl, rfl, hd, small_of (m := 64) (by simp; omega), ?_⟩
      have e4 : Same H (upd H' D (.lst (((List.range i).map (win fs w)).map V.int ++ [.int (win fs w i)]))) := e3.mut hDn
      have e5 : ((List.range i).map (win fs w)).map V.int ++ [.int (win fs w i)] = ((List.range (i + 1)).map (win fs w)).map V.int := by
        rw [List.range_succ, List.map_append, List.map_append]; rfl
      rw [e5] at e4 ⊢
      have hS4 := e4.seq hS
      have hj : (i + w % fs.length) % fs.length < fs.length := Nat.mod_lt _ h0
      refine ⟨_, rfl, _, rfl, _, rfl, _, _, _, _, rfl, rfl, hS4, atV (j := i) (by omega) hi, _, _, rfl, rfl, _, rfl, _, rfl, _, rfl, _, _, rfl, rfl, _, rfl, _, _, rfl, .inl hS4, _, _, rfl, rfl, (by show (0 : Int) < ((fs.map V.int).length : Int); rw [hlen]; omega), _, _, _, _, rfl, rfl, hS4, atV (j := (i + w % fs.length) % fs.length) ?_ hj, _, _, rfl, rfl, ?_⟩
      · rw [hlen]
        show (0 + (i : Int) + ((w % fs.length : Nat) : Int)) % (fs.length : Int) = _
        rw [Int.zero_add]
        simp only [Int.natCast_emod, Int.natCast_add]
      · refine ⟨⟨some (.int (0 + (i : Int))), ?_⟩, e4, upd_same⟩
        have c1 : cyc fs i = fs.getD i 0 := cyc_lt hi
        have c2 : cyc fs (i + w) = fs.getD ((i + w % fs.length) % fs.length) 0 := by
          unfold cyc
          rw [Nat.add_mod_mod]
        have e6 : win fs w (i + 1) = win fs w i - fs.getD i 0 + fs.getD ((i + w % fs.length) % fs.length) 0 := by rw [win_next, c1, c2]
        rw [e6]
        rfl
    · rintro σ H' ⟨⟨v, rfl⟩, e3, hd⟩
      rw [hlen, Int.toNat_natCast] at hd
      exact ⟨_, rfl, k D H' e3 hDn hd⟩
abbrev s_spans_of : Stmt := top 12
theorem sc_spans_of : FnScope ["frame", "width", "some"] ["frame", "width"] (defScope s_spans_of) := ⟨rfl, rfl, rfl, by decide +kernel, rfl, by decide +kernel, by decide +kernel⟩
/-- spans_of(frame, width): a new pair -/
def spSpans (K : PySem.W.Frag) : Sp := fun vs H Q _ => ∃ (l : Addr) (fs : List Int) (w : Nat), vs = [.ref l, .int (w : Int)] ∧ SqL K H l (fs.map V.int) ∧ Frm fs ∧ 1 ≤ w ∧ w ≤ 10000 ∧
  ∀ lo hi t H', Lo (wins fs w) lo → Hi (wins fs w) hi → Same H H' → H t = none → H' t = some (.tup [.int lo, .int hi]) → Q (.ref t) H'
theorem ok_spans_of {f : Addr} {fd : FuncData} (F : FunG K mg "spans_of" s_spans_of f fd ["frame", "width"]) (T : Txt K mg) (c_sums_of : Cl P w K mg base CX0 1 "sums_of" (spSums K)) : FnOk P w K mg base CX0 2 f fd ["frame", "width"] (spSpans K) := by
  refine F.fn.ok sc_spans_of (fun vs H Q E h => ?_) (fun cdv A outer s H vs Q E hr h => ?_)
  · obtain ⟨l, fs, w, rfl, _⟩ := h
    rfl
  · obtain ⟨l, fs, w, rfl, hS, hf, _, hw, k⟩ := h
    refine ⟨_, (pss_cons (ps_set (i := 2) sc_spans_of.nd rfl (.inl rfl) (pe_cl c_sums_of hr (by decide) (by rfl) (pa_cons (pv 0) (pa_cons (pv 1) pa_nil))))
      (pss_one (ps_ret (pe_tup (pa_cons (pe_callB (clMin K rfl) (by rfl) T.b_min (by decide +kernel) (pa_cons (pv 2) pa_nil)) (pa_cons (pe_callB (clMax K rfl) (by rfl) T.b_max (by decide +kernel) (pa_cons (pv 2) pa_nil)) pa_nil)))))), ?_⟩
    have h0 := hf.pos
    have hl : 0 < (wins fs w).length := by rw [wins_len]; exact h0
    refine ⟨_, rfl, _, rfl, l, fs, w, rfl, hS, hf, hw, fun p H1 e1 hp hp1 => ?_⟩
    refine ⟨_, rfl, _, _, rfl, SqL.of hp1, hl, fun lo l1 l2 => ⟨_, rfl, _, _, rfl, SqL.of hp1, hl, fun hi h1 h2 => ⟨(by show 2 ≤ sizeLine; decide), fun t ht => ?_⟩⟩⟩
    exact k lo hi t _ ⟨l1, l2⟩ ⟨h1, h2⟩ (e1.new ht) (e1.free ht) upd_same
end
end My

namespace My
open PySem L2
section
variable {P : Program} {w : World} {K : PySem.W.Frag} {mg : Str → Option Value} {base : Heap}
abbrev s_is_spread : Stmt := top 13
theorem sc_is_spread : FnScope ["frame", "width", "rows", "row"] ["frame"] (defScope s_is_spread) := ⟨rfl, rfl, rfl, by decide +kernel, rfl, by decide +kernel, by decide +kernel⟩
/-- is_spread(frame) -/
def spSpread (K : PySem.W.Frag) : Sp := fun vs H Q _ => ∃ (l : Addr) (fs : List Int), vs = [.ref l] ∧ SqL K H l (fs.map V.int) ∧ Frm fs ∧ ∀ b H', (b = true ↔ Spread fs) → Same H H' → Q (.bl b) H'
/-- what is told of widths 1 .. n: pairs of least and greatest, laid at the addresses -/
def RowsAt (fs : List Int) (H : Hp) (n : Nat) (ts : List (Addr × Int × Int)) : Prop :=
  ts.length = n ∧ ∀ i t lo hi, ts[i]? = some (t, lo, hi) → H t = some (.tup [.int lo, .int hi]) ∧ Lo (wins fs (i + 1)) lo ∧ Hi (wins fs (i + 1)) hi
theorem RowsAt.same {fs : List Int} {H H' : Hp} {n : Nat} {ts : List (Addr × Int × Int)} (h : RowsAt fs H n ts) (e : Same H H') : RowsAt fs H' n ts :=
  ⟨h.1, fun i t lo hi hi' => ⟨e _ _ (h.2 i t lo hi hi').1, (h.2 i t lo hi hi').2⟩⟩
theorem RowsAt.push {fs : List Int} {H : Hp} {n : Nat} {ts : List (Addr × Int × Int)} (h : RowsAt fs H n ts) {t : Addr} {lo hi : Int} (ht : H t = some (.tup [.int lo, .int hi])) (hl : Lo (wins fs (n + 1)) lo) (hh : Hi (wins fs (n + 1)) hi) : RowsAt fs H (n + 1) (ts ++ [(t, lo, hi)]) := by
  obtain ⟨h1, h2⟩ := h
  refine ⟨by rw [List.length_append, h1]; rfl, fun i t' lo' hi' hi2 => ?_⟩
  by_cases c : i < ts.length
  · rw [List.getElem?_append_left c] at hi2
    exact h2 i t' lo' hi' hi2
  · have e : i = n := by
      have := (List.getElem?_eq_some_iff.mp hi2).1
      rw [List.length_append, h1] at this
      simp at this
      omega
    subst e
    rw [List.getElem?_append_right (by omega), h1, Nat.sub_self] at hi2
    cases hi2
    exact ⟨ht, hl, hh⟩
theorem spread_rows {fs : List Int} {H : Hp} {ts : List (Addr × Int × Int)} (h : RowsAt fs H fs.length ts) : (ts.all fun r => decide (r.2.2 - r.2.1 ≤ 1)) = true ↔ Spread fs := by
  obtain ⟨h1, h2⟩ := h
  rw [List.all_eq_true]
  constructor
  · intro ha w hw1 hw2 i j hi hj
    have hlt : w - 1 < ts.length := by omega
    rcases hr : ts[w - 1] with ⟨t, lo, hi'⟩
    have g : ts[w - 1]? = some (t, lo, hi') := by rw [List.getElem?_eq_getElem hlt, hr]
    obtain ⟨_, hlo, hhi⟩ := h2 _ _ _ _ g
    rw [show w - 1 + 1 = w by omega] at hlo hhi
    have d := of_decide_eq_true (ha _ (List.mem_of_getElem? g))
    have := hlo.2 _ (mem_wins.mpr ⟨j, hj, rfl⟩)
    have := hhi.2 _ (mem_wins.mpr ⟨i, hi, rfl⟩)
    simp only at d
    omega
  · intro hs r hr
    obtain ⟨i, hi, rfl⟩ := List.getElem_of_mem hr
    rcases hr' : ts[i] with ⟨t, lo, hi'⟩
    have g : ts[i]? = some (t, lo, hi') := by rw [List.getElem?_eq_getElem hi, hr']
    obtain ⟨_, hlo, hhi⟩ := h2 _ _ _ _ g
    obtain ⟨a, ha, rfl⟩ := mem_wins.mp hlo.1
    obtain ⟨b, hb, rfl⟩ := mem_wins.mp hhi.1
    exact decide_eq_true (hs (i + 1) (by omega) (by omega) b a hb ha)
def rowD (r : Addr × Int × Int) : PyData := .tuple [.int r.2.1, .int r.2.2]
theorem rows_layA : ∀ ts : List (Addr × Int × Int), PyData.canLayAll0 (ts.map rowD) = true
  | [] => by simp [PyData.canLayAll0]
  | z :: zs => by simp [PyData.canLayAll0, PyData.canLay0, rowD, rows_layA zs]
theorem rows_depthA : ∀ ts : List (Addr × Int × Int), PyData.depthAll (ts.map rowD) ≤ 2
  | [] => by simp [PyData.depthAll]
  | z :: zs => by
    have h1 := rows_depthA zs
    simp only [List.map_cons, PyData.depthAll, PyData.depth, rowD]
    omega
theorem rows_shaped (ts : List (Addr × Int × Int)) : SeqAt.shaped (.list (ts.map rowD)) = true := by
  have h1 := rows_depthA ts
  have h2 : PyData.depth (.list (ts.map rowD)) ≤ 64 := by
    simp only [PyData.depth]
    omega
  show (PyData.canLay0 (.list (ts.map rowD)) && decide (PyData.depth (.list (ts.map rowD)) ≤ 64)) = true
  rw [Bool.and_eq_true]
  exact ⟨by simp only [PyData.canLay0]; exact rows_layA ts, decide_eq_true h2⟩
theorem rows_eqv (ts : List (Addr × Int × Int)) : PyData.eqv (.list (ts.map rowD)) (dI []) = ts.isEmpty := by
  cases ts <;> simp [PyData.eqv, PyData.eqvAll, dI]
theorem rows_dp {K : PySem.W.Frag} {H : Hp} : ∀ ts : List (Addr × Int × Int), (∀ r ∈ ts, H r.1 = some (.tup [.int r.2.1, .int r.2.2])) → DpAll K H (ts.map fun r => V.ref r.1) (ts.map rowD)
  | [], _ => .nil
  | r :: ts, h => .cons (.tup (SqT.of (h r List.mem_cons_self)) (.cons (.int _) (.cons (.int _) .nil))) (rows_dp ts fun q hq => h q (List.mem_cons_of_mem _ hq))
theorem ok_is_spread {f : Addr} {fd : FuncData} (F : FunG K mg "is_spread" s_is_spread f fd ["frame"]) (T : Txt K mg) (c_spans_of : Cl P w K mg base CX0 2 "spans_of" (spSpans K)) : FnOk P w K mg base CX0 3 f fd ["frame"] (spSpread K) := by
  refine F.fn.ok sc_is_spread (fun vs H Q E h => ?_) (fun cdv A outer s H vs Q E hr h => ?_)
  · obtain ⟨l, fs, rfl, _⟩ := h
    rfl
  · obtain ⟨l, fs, rfl, hS, hf, k⟩ := h
    refine ⟨_, (pss_cons (ps_setLc (i := 2) (own := [("width", 1)]) (g := gName 1) (tt := tYes) rfl sc_is_spread.nd rfl rfl (sw_true rfl rfl rfl (by decide +kernel)) (pi_range2 (by rfl) T.b_range (pa_cons pe_int (pa_cons (pe_op op_add (pe_callB (clLen K) (by rfl) T.b_len (by decide +kernel) (pa_cons (pv 0) pa_nil)) pe_int) pa_nil))) (blkOk_by (own := [("width", 1)]) (N := ["frame", "width", "rows", "row"]) (sc := defScope s_is_spread) (by decide +kernel)) (fun _ _ _ _ _ => (pg_name (i := 1) sc_is_spread.nd rfl (.inl rfl))) (fun _ _ _ _ _ => pts_nil) (fun _ _ _ _ _ => (pe_cl c_spans_of hr (by decide) (by rfl) (pa_cons (pv 0) (pa_cons (pv 1) pa_nil)))))
      (pss_one (ps_ret (pe_cmpR (opEqD K hr.units) (pe_lc (own := [("row", 3)]) (g := gName 3) (by rfl) sc_is_spread.nd (pi_list (pv 2)) (blkOk_by (own := [("row", 3)]) (N := ["frame", "width", "rows", "row"]) (sc := defScope s_is_spread) (by decide +kernel)) (fun _ _ _ _ _ => (pg_name (i := 3) sc_is_spread.nd rfl (.inl rfl))) (fun _ _ _ _ _ => (pts_one (pt_cmpR op_gt (pe_op op_sub (pe_ix (ixT K) (pv 3) pe_int (fun _ _ => rfl)) (pe_ix (ixT K) (pv 3) pe_int (fun _ _ => rfl))) pe_int (nomark _)))) (fun _ _ _ _ _ => (pv 3))) (pe_lst pa_nil) (nomark _))))), ?_⟩
    have h0 := hf.pos
    have h1 := hf.le
    have hlen : (fs.map V.int).length = fs.length := List.length_map _
    refine ⟨_, rfl, _, _, rfl, .inl hS, _, _, rfl, rfl, _, _, rfl, ⟨by decide, by decide, by rw [hlen]; omega, by rw [hlen]; omega⟩, fun D hD => ?_⟩
    rw [hlen, show ((fs.length : Int) + 1 - 1).toNat = fs.length by omega]
    refine lc_range (lo := 1) (n := fs.length) (fun i H' => Same H H' ∧ ∃ ts, RowsAt fs H' i ts ∧ H' D = some (.lst (ts.map fun r => V.ref r.1))) ⟨Same.upd hD, [], ⟨rfl, fun i t lo hi h => by simp at h⟩, upd_same⟩ ?_ ?_
    · rintro i H' hi ⟨e, ts, hR, hd⟩
      refine ⟨rfl, _, rfl, _, rfl, l, fs, i + 1, by rw [show ((i + 1 : Nat) : Int) = 1 + (i : Int) by omega]; rfl, e.seq hS, hf, by omega, by omega, fun lo hi' t H2 hlo hhi e2 ht ht2 => ⟨_, e2 _ _ hd, small_of (m := 64) (by rw [List.length_map, hR.1]; omega), ?_⟩⟩
      have e3 : Same H' (upd H2 D (.lst ((ts.map fun r => V.ref r.1) ++ [.ref t]))) → True := fun _ => trivial
      have nDt : t ≠ D := fun z => by rw [z, hd] at ht; cases ht
      refine ⟨(e.trans e2).mut hD, ts ++ [(t, lo, hi')], ?_, by rw [List.map_append, upd_same]; rfl⟩
      refine RowsAt.push (H := upd H2 D _) ⟨hR.1, fun j t' lo' hi2 hj => ?_⟩ (by rw [upd_ne nDt]; exact ht2) hlo hhi
      obtain ⟨a1, a2⟩ := hR.2 j t' lo' hi2 hj
      have nD' : t' ≠ D := ne_of a1 hd (by intro z; cases z)
      exact ⟨by rw [upd_ne nD']; exact e2 _ _ a1, a2⟩
    · rintro H1 ⟨e1, ts, hR, hd⟩
      refine ⟨_, rfl, _, rfl, ⟨_, SqL.of hd⟩, fun D2 hD2 => lc_list (K := K) (a := D) (xs := ts.map fun r => V.ref r.1) (fun i H' => Same H1 H' ∧ H' D2 = some (.lst (((ts.take i).filter fun r => decide (1 < r.2.2 - r.2.1)).map fun r => V.ref r.1))) ⟨Same.upd hD2, by rw [upd_same]; simp⟩ (fun i H' _ h => SqL.of (h.1 _ _ hd)) ?_ ?_⟩
      · rintro i x H' hi ⟨e2, hd2⟩
        rw [List.getElem?_map] at hi
        obtain ⟨⟨t, lo, hi'⟩, hr'⟩ : ∃ r, ts[i]? = some r := by
          cases q : ts[i]? with
          | none => rw [q] at hi; cases hi
          | some r => exact ⟨r, rfl⟩
        rw [hr'] at hi
        cases hi
        obtain ⟨a1, a2, a3⟩ := hR.2 i t lo hi' hr'
        have ht := e2 _ _ a1
        have etake : ts.take (i + 1) = ts.take i ++ [(t, lo, hi')] := by
          rw [List.take_succ, hr']; rfl
        refine ⟨rfl, _, rfl, _, _, _, _, rfl, rfl, SqT.of ht, rfl, _, rfl, _, _, _, _, rfl, rfl, SqT.of ht, rfl, _, _, rfl, rfl, _, _, rfl, rfl, _, rfl, ?_⟩
        by_cases c : 1 < hi' - lo
        · show (if decide (1 < hi' - lo) = true then _ else _)
          rw [decide_eq_true c]
          refine iteT ⟨_, rfl, _, hd2, small_of (m := 64) (by rw [List.length_map]; exact Nat.le_trans (List.length_filter_le _ _) (by rw [List.length_take, hR.1]; omega)), e2.mut hD2, ?_⟩
          rw [upd_same, etake, List.filter_append, List.map_append]
          simp [c]
        · show (if decide (1 < hi' - lo) = true then _ else _)
          rw [decide_eq_false c]
          refine iteF ⟨e2, ?_⟩
          rw [hd2, etake, List.filter_append, List.map_append]
          simp [c]
      · rintro H2 ⟨e2, hd2⟩
        rw [List.length_map, List.take_length] at hd2
        refine ⟨Nat.zero_le _, fun q hq => ⟨_, _, .lst (SqL.of (by rw [upd_ne (ne_of_none hd2 hq)]; exact hd2)) (rows_dp _ fun r hr => ?_), dp_nil (SqL.of upd_same), rows_shaped _, dI_shaped _, ?_⟩⟩
        · obtain ⟨j, hj, rfl⟩ := List.getElem_of_mem (List.mem_filter.mp hr).1
          rcases hq' : ts[j] with ⟨t, lo, hi'⟩
          have g : ts[j]? = some (t, lo, hi') := by rw [List.getElem?_eq_getElem hj, hq']
          have a1 := e2 _ _ (hR.2 j t lo hi' g).1
          simp only
          rw [upd_ne (ne_of_none a1 hq)]
          exact a1
        · rw [rows_eqv]
          refine k _ _ ?_ ((e1.trans e2).new hq)
          rw [← spread_rows hR]
          rw [List.isEmpty_iff, List.filter_eq_nil_iff, List.all_eq_true]
          constructor
          · intro h r hr
            have := h r hr
            simp only [decide_eq_true_eq] at this ⊢
            omega
          · intro h r hr
            have := h r hr
            simp only [decide_eq_true_eq] at this ⊢
            omega
abbrev s_is_even : Stmt := top 14
theorem sc_is_even : FnScope ["frame"] ["frame"] (defScope s_is_even) := ⟨rfl, rfl, rfl, by decide +kernel, rfl, by decide +kernel, by decide +kernel⟩
/-- is_even(frame) -/
theorem ok_is_even {f : Addr} {fd : FuncData} (F : FunG K mg "is_even" s_is_even f fd ["frame"]) (c_need_frame : Cl P w K mg base CX0 1 "need_frame" (spNeedFrame K)) (c_is_spread : Cl P w K mg base CX0 3 "is_spread" (spSpread K)) : FnOk P w K mg base CX0 4 f fd ["frame"] (spSpread K) := by
  refine F.fn.ok sc_is_even (fun vs H Q E h => ?_) (fun cdv A outer s H vs Q E hr h => ?_)
  · obtain ⟨l, fs, rfl, _⟩ := h
    rfl
  · obtain ⟨l, fs, rfl, hS, hf, k⟩ := h
    refine ⟨_, (pss_cons (ps_expr (pe_cl c_need_frame hr (by decide) (by rfl) (pa_cons (pv 0) pa_nil)))
      (pss_one (ps_ret (pe_cl c_is_spread hr (by decide) (by rfl) (pa_cons (pv 0) pa_nil))))), ?_⟩
    refine ⟨_, rfl, l, fs, rfl, hS, hf, fun H1 e1 => ?_⟩
    exact ⟨_, rfl, l, fs, rfl, e1.seq hS, hf, fun b H2 hb e2 => k b H2 hb (e1.trans e2)⟩
end
end My

namespace My
open PySem L2
section
variable {P : Program} {w : World} {K : PySem.W.Frag} {mg : Str → Option Value} {base : Heap}
abbrev s_turn_of : Stmt := top 15
theorem sc_turn_of : FnScope ["frame", "turn"] ["frame"] (defScope s_turn_of) := ⟨rfl, rfl, rfl, by decide +kernel, rfl, by decide +kernel, by decide +kernel⟩
/-- turn_of(frame): the least turn, or None -/
def IsTurn (fs : List Int) (v : V) : Prop := (∃ t : Nat, v = .int (t : Int) ∧ t < fs.length ∧ evL (fs.length : Int) fs.sum (t : Int) = fs ∧ ∀ j : Nat, j < t → evL (fs.length : Int) fs.sum (j : Int) ≠ fs) ∨ (v = .non ∧ ∀ j : Nat, j < fs.length → evL (fs.length : Int) fs.sum (j : Int) ≠ fs)
def spTurn (K : PySem.W.Frag) : Sp := fun vs H Q _ => ∃ (l : Addr) (fs : List Int), vs = [.ref l] ∧ SqL K H l (fs.map V.int) ∧ Frm fs ∧ ∀ v H', IsTurn fs v → Same H H' → Q v H'
theorem ok_turn_of {f : Addr} {fd : FuncData} (F : FunG K mg "turn_of" s_turn_of f fd ["frame"]) (T : Txt K mg) (c_need_frame : Cl P w K mg base CX0 1 "need_frame" (spNeedFrame K)) (c_even_frame : Cl P w K mg base CX0 1 "even_frame" spEven) : FnOk P w K mg base CX0 2 f fd ["frame"] (spTurn K) := by
  refine F.fn.ok sc_turn_of (fun vs H Q E h => ?_) (fun cdv A outer s H vs Q E hr h => ?_)
  · obtain ⟨l, fs, rfl, _⟩ := h
    rfl
  · obtain ⟨l, fs, rfl, hS, hf, k⟩ := h
    refine ⟨_, (pss_cons (ps_expr (pe_cl c_need_frame hr (by decide) (by rfl) (pa_cons (pv 0) pa_nil)))
      (pss_cons (ps_for PassesOwn.never (by rfl) (pi_range1 (by rfl) T.b_range (pa_cons (pe_callB (clLen K) (by rfl) T.b_len (by decide +kernel) (pa_cons (pv 0) pa_nil)) pa_nil)) (pg_name (i := 1) sc_turn_of.nd rfl (.inl rfl)) (pss_one (ps_if (pt_cmpR (opEqD K hr.units) (pe_cl c_even_frame hr (by decide) (by rfl) (pa_cons (pe_callB (clLen K) (by rfl) T.b_len (by decide +kernel) (pa_cons (pv 0) pa_nil)) (pa_cons (pe_callB (clSum K rfl) (by rfl) T.b_sum (by decide +kernel) (pa_cons (pv 0) pa_nil)) (pa_cons (pv 1) pa_nil)))) (pe_callTy (clList K) (by rfl) T.b_list (by decide +kernel) (pa_cons (pv 0) pa_nil)) (nomark _)) (pss_one (ps_ret (pv 1))) pss_nil)))
      (pss_one (ps_ret pe_non)))), ?_⟩
    have h0 := hf.pos
    have h1 := hf.le
    obtain ⟨sm0, sm1⟩ := hf.sum
    have hlen : (fs.map V.int).length = fs.length := List.length_map _
    refine ⟨_, rfl, l, fs, rfl, hS, hf, fun H1 e1 => ?_⟩
    refine ⟨_, rfl, _, _, rfl, .inl (e1.seq hS), _, rfl, by rw [hlen]; omega, by rw [hlen]; omega, for_range (lo := 0) (n := ((fs.map V.int).length : Int).toNat) (fun i σ H' => (∃ v : Option V, σ = [some (.ref l), v]) ∧ Same H H' ∧ ∀ j : Nat, j < i → evL (fs.length : Int) fs.sum (j : Int) ≠ fs) ⟨⟨none, rfl⟩, e1, fun j hj => absurd hj (Nat.not_lt_zero _)⟩ ?_ ?_⟩
    · rintro i σ H' hi ⟨⟨v, rfl⟩, e2, hn⟩
      rw [hlen] at hi
      have hi : i < fs.length := by omega
      have hS2 := e2.seq hS
      refine ⟨_, rfl, _, _, rfl, .inl hS2, _, rfl, _, _, rfl, hS2, _, rfl, (fs.length : Int), fs.sum, (i : Int), by rw [hlen, Int.zero_add]; rfl, by omega, by omega, sm0, sm1, Nat.lt_of_lt_of_le (show (i : Int).natAbs < 100 by omega) (by decide), fun q hq => ?_⟩
      have e3 := e2.new (o := .lst ((evL (fs.length : Int) fs.sum (i : Int)).map V.int)) hq
      refine ⟨_, rfl, _, _, rfl, .inl (e3.seq hS), fun p hp => ⟨_, _, dp_ints (SqL.of (by rw [upd_ne (ne_of_none upd_same hp)]; exact upd_same)), dp_ints (SqL.of upd_same), dI_shaped _, dI_shaped _, _, rfl, ?_⟩⟩
      rw [dI_eqv]
      refine ite2 (fun c => ?_) (fun c => ?_)
      · have c := of_decide_eq_true c
        refine ⟨_, rfl, ?_⟩
        rw [Int.zero_add]
        exact k _ _ (.inl ⟨i, rfl, hi, c, hn⟩) (e3.new hp)
      · have c : ¬ evL (fs.length : Int) fs.sum (i : Int) = fs := fun z => c (decide_eq_true z)
        refine ⟨⟨_, rfl⟩, e3.new hp, fun j hj => ?_⟩
        by_cases e : j = i
        · subst e; exact c
        · exact hn j (by omega)
    · rintro σ H' ⟨⟨v, rfl⟩, e2, hn⟩
      rw [hlen] at hn
      exact k _ _ (.inr ⟨rfl, fun j hj => hn j (by omega)⟩) e2
abbrev s_divisor : Stmt := top 16
theorem sc_divisor : FnScope ["one", "other", "rest"] ["one", "other"] (defScope s_divisor) := ⟨rfl, rfl, rfl, by decide +kernel, rfl, by decide +kernel, by decide +kernel⟩
/-- divisor(one, other): the greatest common divisor -/
def spDivisor : Sp := fun vs H Q _ => ∃ x y : Nat, vs = [.int (x : Int), .int (y : Int)] ∧ y ≤ 64 ∧ Q (.int ((Nat.gcd x y : Nat) : Int)) H
theorem ok_divisor {f : Addr} {fd : FuncData} (F : FunG K mg "divisor" s_divisor f fd ["one", "other"]) : FnOk P w K mg base CX0 1 f fd ["one", "other"] spDivisor := by
  refine F.fn.ok sc_divisor (fun vs H Q E h => ?_) (fun cdv A outer s H vs Q E hr h => ?_)
  · obtain ⟨x, y, rfl, _⟩ := h
    rfl
  · obtain ⟨x, y, rfl, hy, k⟩ := h
    refine ⟨_, (pss_cons (ps_while PassesOwn.never (pt_cmpR op_gt (pv 1) pe_int (nomark _)) (pss_cons (ps_set (i := 2) sc_divisor.nd rfl (.inl rfl) (pe_op op_mod (pv 0) (pv 1)))
      (pss_cons (ps_set (i := 0) sc_divisor.nd rfl (.inl rfl) (pv 1))
      (pss_one (ps_set (i := 1) sc_divisor.nd rfl (.inl rfl) (pv 2))))))
      (pss_one (ps_ret (pv 0)))), ?_⟩
    refine while_by (fun σ H' => H' = H ∧ ∃ (x' y' : Nat) (v : Option V), σ = [some (.int (x' : Int)), some (.int (y' : Int)), v] ∧ y' ≤ 64 ∧ Nat.gcd x' y' = Nat.gcd x y) (fun σ _ => match σ with | [_, some (.int z), _] => z.toNat | _ => 0) ⟨rfl, x, y, none, rfl, hy, rfl⟩ ?_ ?_
    · rintro σ H' ⟨rfl, x', y', v, rfl, hy', hg⟩
      refine ⟨_, rfl, _, _, rfl, rfl, _, rfl, ?_⟩
      refine ite2 (fun c => ?_) (fun c => ?_)
      · have c : (0 : Int) < (y' : Int) := of_decide_eq_true c
        refine ⟨_, rfl, _, rfl, _, _, rfl, rfl, c, _, rfl, _, rfl, ?_⟩
        have hm : x' % y' < y' := Nat.mod_lt _ (by omega)
        refine ⟨⟨rfl, y', x' % y', some (.int (x' % y')), rfl, by omega, ?_⟩, ?_⟩
        · rw [← hg, Nat.gcd_comm y', ← Nat.gcd_rec, Nat.gcd_comm]
        · show ((x' : Int) % (y' : Int)).toNat < (y' : Int).toNat
          omega
      · have c : ¬ (0 : Int) < (y' : Int) := fun z => c (decide_eq_true z)
        have e : y' = 0 := by omega
        subst e
        rw [Nat.gcd_zero_right] at hg
        refine ⟨_, rfl, ?_⟩
        rw [hg]
        exact k
    · rintro σ H' Q1 Q2 hq ⟨a1, b1, a2, a3, b2, b3, a4, b4, q⟩
      exact ⟨a1, b1, a2, a3, b2, b3, a4, b4, hq _ _ q⟩
abbrev s_exact : Stmt := top 17
theorem sc_exact : FnScope ["beats", "pulses"] ["beats", "pulses"] (defScope s_exact) := ⟨rfl, rfl, rfl, by decide +kernel, rfl, by decide +kernel, by decide +kernel⟩
/-- exact(beats, pulses) -/
def spExact : Sp := fun vs H Q _ => ∃ b p : Int, vs = [.int b, .int p] ∧ 1 ≤ b ∧ b ≤ 64 ∧ 0 ≤ p ∧ p ≤ b ∧ Q (.int ((exN b.toNat p.toNat : Nat) : Int)) H
theorem ok_exact {f : Addr} {fd : FuncData} (F : FunG K mg "exact" s_exact f fd ["beats", "pulses"]) (c_need_share : Cl P w K mg base CX0 2 "need_share" spNeedShare) (c_divisor : Cl P w K mg base CX0 1 "divisor" spDivisor) : FnOk P w K mg base CX0 3 f fd ["beats", "pulses"] spExact := by
  refine F.fn.ok sc_exact (fun vs H Q E h => ?_) (fun cdv A outer s H vs Q E hr h => ?_)
  · obtain ⟨b, p, rfl, _⟩ := h
    rfl
  · obtain ⟨b, p, rfl, b0, b1, p0, p1, k⟩ := h
    refine ⟨_, (pss_cons (ps_expr (pe_cl c_need_share hr (by decide) (by rfl) (pa_cons (pv 0) (pa_cons (pv 1) pa_nil))))
      (pss_one (ps_ret (pe_op op_fdivW (pv 0) (pe_cl c_divisor hr (by decide) (by rfl) (pa_cons (pv 0) (pa_cons (pv 1) pa_nil))))))), ?_⟩
    have eb : b = (b.toNat : Int) := by omega
    have ep : p = (p.toNat : Int) := by omega
    have hg : 0 < Nat.gcd b.toNat p.toNat := gcd_pos (by omega)
    have hle : Nat.gcd b.toNat p.toNat ≤ b.toNat := Nat.le_of_dvd (by omega) (Nat.gcd_dvd_left _ _)
    refine ⟨_, rfl, _, rfl, b, p, rfl, b0, b1, p0, p1, ?_⟩
    refine ⟨_, rfl, _, rfl, _, rfl, b.toNat, p.toNat, by rw [← eb, ← ep]; rfl, by omega, _, _, rfl, rfl, wide_div (b := 7) (by omega) (by omega) (by decide) (by decide), ?_⟩
    have e : b / ((Nat.gcd b.toNat p.toNat : Nat) : Int) = ((exN b.toNat p.toNat : Nat) : Int) := by
      unfold exN
      rw [Int.natCast_ediv, ← eb]
    show Q (.int (b / ((Nat.gcd b.toNat p.toNat : Nat) : Int))) H
    rw [e]
    exact k
end
end My

namespace My
open PySem L2
section
variable {P : Program} {w : World} {K : PySem.W.Frag} {mg : Str → Option Value} {base : Heap}
abbrev s_law : Stmt := top 21
theorem sc_law : FnScope ["_law_script", "_law_state", "_law_beats", "_law_found", "_law_number", "_law_k", "_law_frame", "_law_good", "_law_pulses", "_law_turn", "_law_told"] ["_law_script"] (defScope s_law) := ⟨rfl, rfl, rfl, by decide +kernel, rfl, by decide +kernel, by decide +kernel⟩
theorem lt11 {b : Int} (b0 : 1 ≤ b) (b1 : b ≤ 10) : b = 1 ∨ b = 2 ∨ b = 3 ∨ b = 4 ∨ b = 5 ∨ b = 6 ∨ b = 7 ∨ b = 8 ∨ b = 9 ∨ b = 10 := by omega
theorem pow_list {k : Nat} (hk : k < 10) {z : Int} (hz : z = (k : Int)) : atI [V.int 1, V.int 2, V.int 4, V.int 8, V.int 16, V.int 32, V.int 64, V.int 128, V.int 256, V.int 512] z = some (V.int ((2 ^ k : Nat) : Int)) := by
  subst hz
  match k, hk with
  | 0, _ => rfl
  | 1, _ => rfl
  | 2, _ => rfl
  | 3, _ => rfl
  | 4, _ => rfl
  | 5, _ => rfl
  | 6, _ => rfl
  | 7, _ => rfl
  | 8, _ => rfl
  | 9, _ => rfl
  | k + 10, h => omega
theorem pow_list2 {k : Nat} (hk : k < 10) {z : Int} (hz : z = (k : Int)) : atI [V.int 2, V.int 4, V.int 8, V.int 16, V.int 32, V.int 64, V.int 128, V.int 256, V.int 512, V.int 1024] z = some (V.int ((2 ^ (k + 1) : Nat) : Int)) := by
  subst hz
  match k, hk with
  | 0, _ => rfl
  | 1, _ => rfl
  | 2, _ => rfl
  | 3, _ => rfl
  | 4, _ => rfl
  | 5, _ => rfl
  | 6, _ => rfl
  | 7, _ => rfl
  | 8, _ => rfl
  | 9, _ => rfl
  | k + 10, h => omega
theorem turn_iff {fs : List Int} {v : V} (h : IsTurn fs v) (h0 : 0 < fs.length) : (!decide (v = V.non)) = true ↔ Spread fs := by
  rw [spread_iff h0]
  rcases h with ⟨t, rfl, ht, e, hn⟩ | ⟨rfl, hn⟩
  · refine iff_of_true rfl ?_
    obtain ⟨r, hr⟩ := TS_first e hn fs.length ht
    rw [hr]; simp
  · exact iff_of_false (by decide) (fun z => z (TS_none hn))
def spLaw (K : PySem.W.Frag) : Sp := fun vs H Q _ => ∃ (a : Addr) (ns : List Int), vs = [.ref a] ∧ SqL K H a (ns.map V.int) ∧ ns.length ≤ 63 ∧ ∀ H', Q (.bl true) H'
theorem ok_law {f : Addr} {fd : FuncData} (F : FunG K mg "law" s_law f fd ["_law_script"]) (T : Txt K mg) (c_law_start : Cl P w K mg base CX0 1 "_law_start" (spStart K)) (c_law_drawn : Cl P w K mg base CX0 1 "_law_drawn" (spDrawn K)) (c_is_even : Cl P w K mg base CX0 4 "is_even" (spSpread K)) (c_turn_of : Cl P w K mg base CX0 2 "turn_of" (spTurn K))
    (c_even : Cl P w K mg base CX0 3 "even" spEven) (c_exact : Cl P w K mg base CX0 3 "exact" spExact) : FnOk P w K mg base CX0 5 f fd ["_law_script"] (spLaw K) := by
  refine F.fn.ok sc_law (fun vs H Q E h => ?_) (fun cdv A outer s H vs Q E hr h => ?_)
  · obtain ⟨a, ns, rfl, _⟩ := h
    rfl
  · obtain ⟨a, ns, rfl, hS, hlen, k⟩ := h
    refine ⟨_, (pss_cons (ps_set (i := 1) sc_law.nd rfl (.inl rfl) (pe_cl c_law_start hr (by decide) (by rfl) (pa_cons (pv 0) pa_nil)))
      (pss_cons (ps_set (i := 2) sc_law.nd rfl (.inr rfl) (pe_op op_add pe_int (pe_cl c_law_drawn hr (by decide) (by rfl) (pa_cons (pv 1) (pa_cons (pe_ix (ixL K) (pe_lst (pa_cons pe_int (pa_cons pe_int pa_nil))) (pe_callTy call_int1 (by rfl) T.b_int (by decide +kernel) (pa_cons (pe_cmpR op_eq (pe_cl c_law_drawn hr (by decide) (by rfl) (pa_cons (pv 1) (pa_cons pe_int pa_nil))) pe_int (nomark _)) pa_nil)) (fun _ _ => rfl)) pa_nil)))))
      (pss_cons (ps_set (i := 3) sc_law.nd rfl (.inl rfl) pe_dnewK)
      (pss_cons (ps_for PassesOwn.never (by rfl) (pi_range1 (by rfl) T.b_range (pa_cons (pe_op op_pow pe_int pe_int) pa_nil)) (pg_name (i := 4) sc_law.nd rfl (.inr rfl)) (pss_cons (ps_setLc (i := 6) (own := [("_law_k", 5)]) (g := gName 5) (tt := tYes) rfl sc_law.nd rfl rfl (sw_true rfl rfl rfl (by decide +kernel)) (pi_range1 (by rfl) T.b_range (pa_cons (pv 2) pa_nil)) (blkOk_by (own := [("_law_k", 5)]) (N := ["_law_script", "_law_state", "_law_beats", "_law_found", "_law_number", "_law_k", "_law_frame", "_law_good", "_law_pulses", "_law_turn", "_law_told"]) (sc := defScope s_law) (by decide +kernel)) (fun _ _ _ _ _ => (pg_name (i := 5) sc_law.nd rfl (.inl rfl))) (fun _ _ _ _ _ => pts_nil) (fun _ _ _ _ _ => (pe_op op_mod (pe_op op_fdivW (pv 4) (pe_ix (ixL K) (pe_lst (pa_cons pe_int (pa_cons pe_int (pa_cons pe_int (pa_cons pe_int (pa_cons pe_int (pa_cons pe_int (pa_cons pe_int (pa_cons pe_int (pa_cons pe_int (pa_cons pe_int pa_nil))))))))))) (pv 5) (fun _ _ => rfl))) pe_int)))
      (pss_one (ps_if (pt_cmpR op_lt (pv 4) (pe_ix (ixL K) (pe_lst (pa_cons pe_int (pa_cons pe_int (pa_cons pe_int (pa_cons pe_int (pa_cons pe_int (pa_cons pe_int (pa_cons pe_int (pa_cons pe_int (pa_cons pe_int (pa_cons pe_int pa_nil))))))))))) (pe_op op_sub (pv 2) pe_int) (fun _ _ => rfl)) (nomark _)) (pss_cons (ps_set (i := 7) sc_law.nd rfl (.inl rfl) (pe_cl c_is_even hr (by decide) (by rfl) (pa_cons (pv 6) pa_nil)))
      (pss_cons (ps_if (pt_cmpR op_ne (pv 7) (pe_cmpR op_notN (pe_cl c_turn_of hr (by decide) (by rfl) (pa_cons (pv 6) pa_nil)) pe_non (nomark _)) (nomark _)) (pss_one (ps_ret pe_bl)) pss_nil)
      (pss_one (ps_if (pt_val (pv 7)) (pss_one (ps_expr (pe_bm PySem.F.plainAttrs_list PySem.F.slot_list_append PySem.F.type_list_append mt_append (pe_dsetd (pv 3) (pe_callB (clSum K rfl) (by rfl) T.b_sum (by decide +kernel) (pa_cons (pv 6) pa_nil)) (pe_lst pa_nil) ⟨by rfl, by rfl, by rfl, by rfl⟩) (pa_cons (pv 6) pa_nil)))) pss_nil)))) pss_nil))))
      (pss_cons (ps_for PassesOwn.never (by rfl) (pi_range1 (by rfl) T.b_range (pa_cons (pe_op op_add (pv 2) pe_int) pa_nil)) (pg_name (i := 8) sc_law.nd rfl (.inr rfl)) (pss_cons (ps_set (i := 10) sc_law.nd rfl (.inl rfl) (pe_callB (sortLK K hr.units) (by rfl) T.b_sorted (by decide +kernel) (pa_cons (pe_lc (own := [("_law_turn", 9)]) (g := gName 9) (tt := tYes) (by rfl) sc_law.nd (pi_range1 (by rfl) T.b_range (pa_cons (pe_cl c_exact hr (by decide) (by rfl) (pa_cons (pv 2) (pa_cons (pv 8) pa_nil))) pa_nil)) (blkOk_by (own := [("_law_turn", 9)]) (N := ["_law_script", "_law_state", "_law_beats", "_law_found", "_law_number", "_law_k", "_law_frame", "_law_good", "_law_pulses", "_law_turn", "_law_told"]) (sc := defScope s_law) (by decide +kernel)) (fun _ _ _ _ _ => (pg_name (i := 9) sc_law.nd rfl (.inl rfl))) (fun _ _ _ _ _ => pts_nil) (fun _ _ _ _ _ => (pe_cl c_even hr (by decide) (by rfl) (pa_cons (pv 2) (pa_cons (pv 8) (pa_cons (pv 9) pa_nil)))))) pa_nil)))
      (pss_one (ps_if (pt_cmpR (opNeD K hr.units) (pv 10) (pe_callB (sortLK K hr.units) (by rfl) T.b_sorted (by decide +kernel) (pa_cons (pe_dget2 (units1 hr.units) (pv 3) (pv 8) (pe_lst pa_nil) ⟨by rfl, by rfl, by rfl, by rfl⟩) pa_nil)) (nomark _)) (pss_one (ps_ret pe_bl)) pss_nil))))
      (pss_one (ps_ret pe_bl))))))), ?_⟩
    refine ⟨_, rfl, a, ns, rfl, hS, fun st m0 hst d0 => ?_⟩
    have s0 : SOk K a ns st (upd H st (StO a 0 m0 0)) := SOk.make hlen hS hst d0
    generalize upd H st (StO a 0 m0 0) = H0 at s0
    -- beats
    refine ⟨_, rfl, (by show 2 ≤ sizeLine; decide), fun p1 hp1 => ?_⟩
    have s1 := s0.new (o := .lst [.int 8, .int 10]) hp1
    have n1 := s0.ne_of hp1
    refine ⟨_, rfl, st, a, ns, 4, rfl, s1, by decide, by decide, fun y ia ma ca y0 y1 da => ?_⟩
    have s2 := s1.drawn da
    have hp2 : upd (upd H0 p1 (.lst [.int 8, .int 10])) st (StO a ia ma ca) p1 = some (.lst [.int 8, .int 10]) := by rw [upd_ne n1, upd_same]
    generalize upd (upd H0 p1 (.lst [.int 8, .int 10])) st (StO a ia ma ca) = H2 at s2 hp2
    obtain ⟨x, hx, hx01⟩ : ∃ x : Int, x = (if decide (V.int y = V.int 3) = true then 1 else 0) ∧ (x = 0 ∨ x = 1) := ⟨_, rfl, by split <;> omega⟩
    have hat : ∃ v : Int, atI [V.int 8, V.int 10] x = some (.int v) ∧ 1 ≤ v ∧ v ≤ 10 := by
      rcases hx01 with e | e <;> rw [e] <;> exact ⟨_, rfl, by decide, by decide⟩
    obtain ⟨far, hfar, f0, f1⟩ := hat
    rw [hx] at hfar
    refine ⟨rfl, .inr ⟨_, rfl, _, _, _, _, rfl, rfl, SqL.of hp2, hfar, st, a, ns, far, rfl, s2, by omega, Int.lt_of_le_of_lt f1 (by decide), fun r ib mb cb r0 r1 db => ⟨_, _, rfl, rfl, ?_⟩⟩⟩
    generalize upd H2 st (StO a ib mb cb) = H3
    have b0 : 1 ≤ 1 + r := by omega
    have b1 : 1 + r ≤ 10 := by omega
    obtain ⟨B, hB⟩ : ∃ B : Nat, B = (1 + r).toNat := ⟨_, rfl⟩
    have hB1 : 0 < B := by omega
    have hB2 : B ≤ 10 := by omega
    have hBp : 2 ^ B ≤ 1024 := Nat.le_trans (Nat.pow_le_pow_right (by decide) hB2) (by decide)
    refine fun d hd => ?_
    have hd4 : upd H3 d (.dK []) d = some (.dK []) := upd_same
    generalize upd H3 d (.dK []) = H4 at hd4
    refine ⟨_, _, rfl, rfl, ⟨by decide, by decide, by decide⟩, _, rfl, by decide, by decide, for_range (lo := 0) (n := ((2 : Int) ^ (10 : Int).toNat).toNat) (fun i σ H' => (∃ v4 v5 v6 v7 v8 v9 v10 : Option V, σ = [some (.ref a), some (.ref st), some (.int (1 + r)), some (.ref d), v4, v5, v6, v7, v8, v9, v10]) ∧ ∃ kvs : List (Key × V), H' d = some (.dK kvs) ∧ kvs.length ≤ i ∧ Grp B H' kvs i)
      ⟨⟨none, none, none, none, none, none, none, rfl⟩, [], hd4, Nat.le_refl _, ⟨fun p _ j hj => absurd hj (Nat.not_lt_zero _), fun p v hv => (by cases hv), fun p q l h1 _ => (by cases h1)⟩⟩ ?_ ?_⟩
    · rintro i σ H5 hi ⟨⟨v4, v5, v6, v7, v8, v9, v10, rfl⟩, kvs, hd5, hkl, hg⟩
      have hi : i < 1024 := hi
      refine ⟨_, rfl, _, rfl, by omega, by omega, fun D hD => lc_range (lo := 0) (n := (1 + r).toNat) (fun j H' => Same H5 H' ∧ H' D = some (.lst (((List.range j).map fun k => ((i / 2 ^ k % 2 : Nat) : Int)).map V.int))) ⟨Same.upd hD, upd_same⟩ ?_ ?_⟩
      · rintro j H6 hj ⟨e6, hd6⟩
        refine ⟨rfl, _, rfl, (by show 10 ≤ sizeLine; decide), fun q hq => ?_⟩
        have e7 := e6.new (o := .lst [.int 1, .int 2, .int 4, .int 8, .int 16, .int 32, .int 64, .int 128, .int 256, .int 512]) hq
        have hpos : 0 < 2 ^ j := Nat.pow_pos (by decide)
        have hlt : 2 ^ j ≤ 1024 := Nat.le_trans (Nat.pow_le_pow_right (by decide) (show j ≤ 10 by omega)) (by decide)
        refine ⟨_, rfl, _, _, _, _, rfl, rfl, SqL.of upd_same, pow_list (k := j) (by omega) (by omega), _, _, rfl, rfl, wide_div (b := 11) (by omega) (by omega) (by decide) (by decide), _, _, rfl, rfl, (by show (0 : Int) < 2; decide), ?_⟩
        refine ⟨_, (by rw [upd_ne (ne_of_none hd6 hq)]; exact hd6), small_of (m := 64) (by rw [List.length_map, List.length_map, List.length_range]; omega), e7.mut hD, ?_⟩
        rw [upd_same, List.range_succ, List.map_append, List.map_append]
        have hv : V.int ((0 + (i : Int)) / ((2 ^ j : Nat) : Int) % 2) = V.int ((i / 2 ^ j % 2 : Nat) : Int) := by
          rw [Int.zero_add, Int.natCast_emod, Int.natCast_ediv]; rfl
        exact congrArg (fun v => some (HO.lst (((List.range j).map fun k => ((i / 2 ^ k % 2 : Nat) : Int)).map V.int ++ [v]))) hv
      · rintro H6 ⟨e6, hd6⟩
        have hd6 : H6 D = some (.lst ((frB B i).map V.int)) := by rw [hd6]; unfold frB; rw [hB]
        have hg6 := hg.same e6
        have hdd6 := e6 _ _ hd5
        have hfl : (frB B i).length = B := frB_len B i
        have hf : Frm (frB B i) := ⟨by omega, by omega, frB_bit B i⟩
        generalize hLL : ([.int 2, .int 4, .int 8, .int 16, .int 32, .int 64, .int 128, .int 256, .int 512, .int 1024] : List V) = LL
        refine ⟨_, rfl, (by show 10 ≤ sizeLine; decide), fun q hq => ?_⟩
        have e7 : Same H6 (upd H6 q (.lst [.int 2, .int 4, .int 8, .int 16, .int 32, .int 64, .int 128, .int 256, .int 512, .int 1024])) := Same.upd hq
        have hq7 : upd H6 q (.lst [.int 2, .int 4, .int 8, .int 16, .int 32, .int 64, .int 128, .int 256, .int 512, .int 1024]) q = some (.lst [.int 2, .int 4, .int 8, .int 16, .int 32, .int 64, .int 128, .int 256, .int 512, .int 1024]) := upd_same
        generalize upd H6 q (.lst [.int 2, .int 4, .int 8, .int 16, .int 32, .int 64, .int 128, .int 256, .int 512, .int 1024]) = H7 at e7 hq7
        have hg7 := hg6.same e7
        have hdd7 := e7 _ _ hdd6
        have hD7 := e7 _ _ hd6
        refine ⟨_, rfl, _, _, rfl, rfl, _, _, _, _, rfl, rfl, SqL.of hq7, pow_list2 (k := B - 1) (by omega) (by omega), _, _, rfl, rfl, _, rfl, ?_⟩
        rw [show B - 1 + 1 = B by omega]
        by_cases hlt : i < 2 ^ B
        · refine iteTe (decide_eq_true (by omega)) ?_
          refine ⟨_, rfl, D, frB B i, rfl, SqL.of hD7, hf, fun g H8 hgd e8 => ?_⟩
          refine ⟨_, rfl, _, rfl, D, frB B i, rfl, SqL.of (e8 _ _ hD7), hf, fun v H9 hv e9 => ?_⟩
          have e79 := e8.trans e9
          have hgv : g = !decide (v = V.non) := by
            have h1 := turn_iff hv hf.pos
            cases g with
            | true => exact (h1.mpr (hgd.mp rfl)).symm
            | false =>
              cases hh : (!decide (v = V.non)) with
              | false => rfl
              | true => exact hgd.mpr (h1.mp hh)
          refine ⟨rfl, rfl, _, rfl, iteFe (neqF (congrArg V.bl hgv)) ?_⟩
          have hg9 := hg7.same e79
          have hdd9 := e79 _ _ hdd7
          have hD9 := e79 _ _ hD7
          cases g with
          | false =>
            refine ⟨_, rfl, _, rfl, iteF ⟨⟨_, _, _, _, _, _, _, rfl⟩, kvs, hdd9, Nat.le_succ_of_le hkl, hg9.skip fun p z => ?_⟩⟩
            exact absurd (hgd.mpr z.2.1) (by decide)
          | true =>
            have hin : InG B (frB B i).sum i := ⟨hlt, hgd.mp rfl, rfl⟩
            refine ⟨_, rfl, _, rfl, iteT ?_⟩
            refine ⟨_, rfl, d, rfl, .inl ⟨kvs, .inl hdd9⟩, _, rfl, _, _, rfl, SqL.of hD9, Nat.zero_le _, fun z hz => ?_⟩
            have hdz : d ≠ z := ne_of_none hdd9 hz
            have hzd : upd H9 z (.lst []) d = some (.dK kvs) := by rw [upd_ne hdz]; exact hdd9
            refine ⟨kvs, .inl (frB B i).sum, hzd, rfl, small_of (m := 1024) (by omega), fun v hv => ?_, fun hn => ?_⟩
            · obtain ⟨l, bs, rfl, hb⟩ := (hg9.same (Same.upd (o := .lst []) hz)).yes _ _ hv
              refine ⟨.inl ⟨rfl, _, SqL.of hb.at_⟩, _, rfl, l, _, _, rfl, rfl, hb.at_, small_of (m := 1024) (by rw [List.length_map]; have := hb.len; omega), ?_⟩
              have hld : d ≠ l := fun e => by subst e; have := hb.at_; rw [hzd] at this; cases this
              refine ⟨⟨_, _, _, _, _, _, _, rfl⟩, kvs, by rw [upd_ne hld]; exact hzd, Nat.le_succ_of_le hkl, ?_⟩
              exact (hg9.same (Same.upd (o := .lst []) hz)).add hB1 hv hb.at_ (by rw [upd_ne (ne_of_none hD9 hz)]; exact hD9) hin
            · have hz2 : upd (upd H9 z (.lst [])) d (.dK (putK kvs (.inl (frB B i).sum) (.ref z))) z = some (.lst []) := by rw [upd_ne hdz.symm, upd_same]
              refine ⟨.inl ⟨rfl, _, SqL.of hz2⟩, _, rfl, z, _, _, rfl, rfl, hz2, small_of (m := 1024) (by show 0 ≤ 1024; omega), ?_⟩
              refine ⟨⟨_, _, _, _, _, _, _, rfl⟩, putK kvs (.inl (frB B i).sum) (.ref z), by rw [upd_ne hdz, upd_same], Nat.le_trans (length_putK _ _ _) (Nat.succ_le_succ hkl), ?_⟩
              exact hg9.put hB1 hdd9 hn hz hD9 hin
        · refine iteFe (decide_eq_false (by omega)) ⟨⟨_, _, _, _, _, _, _, rfl⟩, kvs, hdd7, Nat.le_succ_of_le hkl, hg7.skip fun p z => hlt z.1⟩
    · rintro σ H5 ⟨⟨v4, v5, v6, v7, v8, v9, v10, rfl⟩, kvs, hd5, hkl, hg⟩
      have hg : Grp (1 + r).toNat H5 kvs 1024 := by rw [← hB]; exact hg
      refine ⟨_, rfl, _, _, rfl, rfl, _, rfl, by omega, by omega, for_range (lo := 0) (n := (1 + r + 1).toNat) (fun i σ H' => (∃ v4 v5 v6 v7 v8 v9 v10 : Option V, σ = [some (.ref a), some (.ref st), some (.int (1 + r)), some (.ref d), v4, v5, v6, v7, v8, v9, v10]) ∧ Same H5 H')
        ⟨⟨v4, v5, v6, v7, v8, v9, v10, rfl⟩, Same.refl _⟩ ?_ ?_⟩
      · rintro p σ H6 hp ⟨⟨v4, v5, v6, v7, v8, v9, v10, rfl⟩, e6⟩
        obtain ⟨P', hP⟩ : ∃ P' : Int, P' = 0 + (p : Int) := ⟨_, rfl⟩
        have hp0 : 0 ≤ (p : Int) := by omega
        have hp1 : (p : Int) ≤ 1 + r := by omega
        have hxp : exN (1 + r).toNat (p : Int).toNat ≤ (1 + r).toNat := exN_le _ _
        refine ⟨_, rfl, _, rfl, 1 + r, (p : Int), by rw [Int.zero_add]; rfl, b0, by omega, hp0, hp1, ?_⟩
        refine ⟨_, rfl, by omega, by omega, fun D hD => lc_range (lo := 0) (n := ((exN (1 + r).toNat (p : Int).toNat : Nat) : Int).toNat) (fun t H' => Same H6 H' ∧ ∃ bs : List (Addr × List Int), H' D = some (.lst (bs.map fun z => V.ref z.1)) ∧ bs.map Prod.snd = (List.range t).map (fun t : Nat => evL (1 + r) (p : Int) (t : Int)) ∧ ∀ z ∈ bs, z.1 ≠ D ∧ H' z.1 = some (.lst (z.2.map V.int))) ⟨Same.upd hD, [], upd_same, rfl, fun z hz => by simp at hz⟩ ?_ ?_⟩
        · rintro t H7 ht ⟨e7, bs, hd7, hs7, hb7⟩
          refine ⟨rfl, _, rfl, _, rfl, _, rfl, 1 + r, (p : Int), (t : Int), by rw [Int.zero_add, Int.zero_add]; rfl, b0, by omega, hp0, hp1, Nat.lt_of_lt_of_le (show (t : Int).natAbs < 100 by omega) (by decide), fun q hq => ?_⟩
          have hqD : q ≠ D := (ne_of_none hd7 hq).symm
          have hbl : bs.length = t := by
            have := congrArg List.length hs7
            simpa using this
          refine ⟨_, (by rw [upd_ne hqD.symm]; exact hd7), small_of (m := 64) (by rw [List.length_map, hbl]; omega), (e7.new hq).mut hD, bs ++ [(q, evL (1 + r) (p : Int) (t : Int))], ?_, ?_, fun z hz => ?_⟩
          · rw [upd_same, List.map_append]; rfl
          · rw [List.map_append, hs7, List.range_succ, List.map_append]; rfl
          · rcases List.mem_append.mp hz with m | m
            · obtain ⟨h1, h2⟩ := hb7 z m
              exact ⟨h1, by rw [upd_ne h1, upd_ne (ne_of_none h2 hq)]; exact h2⟩
            · rw [List.mem_singleton] at m
              subst m
              exact ⟨hqD, by rw [upd_ne hqD, upd_same]⟩
        · rintro H7 ⟨e7, bs, hd7, hs7, hb7⟩
          rw [Int.toNat_natCast] at hs7
          have hs7 : bs.map Prod.snd = tolds (1 + r) (p : Int) := hs7
          have hbl : bs.length ≤ 64 := by
            have := congrArg List.length hs7
            unfold tolds at this
            simp only [List.length_map, List.length_range] at this
            omega
          have hb7' : ∀ z ∈ bs, H7 z.1 = some (.lst (z.2.map V.int)) := fun z hz => (hb7 z hz).2
          have hlz : ∀ z ∈ bs, z.2.length = (1 + r).toNat := fun z hz => by
            have : z.2 ∈ tolds (1 + r) (p : Int) := by rw [← hs7]; exact List.mem_map.mpr ⟨z, hz, rfl⟩
            exact ((tolds_mem b0 hp0 hp1 _).mp this).len
          refine ⟨_, bs, rfl, SqL.of hd7, fun z hz => SqL.of (hb7' z hz), by omega, fun s1' hs1 => ?_⟩
          have e8 : Same H7 (upd H7 s1' (.lst ((bs.mergeSort leL).map fun z => V.ref z.1))) := Same.upd hs1
          have h18 : upd H7 s1' (.lst ((bs.mergeSort leL).map fun z => V.ref z.1)) s1' = some (.lst ((bs.mergeSort leL).map fun z => V.ref z.1)) := upd_same
          generalize upd H7 s1' (.lst ((bs.mergeSort leL).map fun z => V.ref z.1)) = H8 at e8 h18
          have e58 := (e6.trans e7).trans e8
          have hd8 := e58 _ _ hd5
          refine ⟨_, rfl, _, rfl, d, rfl, .inl ⟨kvs, .inl hd8⟩, _, rfl, Nat.zero_le _, fun z0 hz0 => ?_⟩
          have e9 : Same H8 (upd H8 z0 (.lst [])) := Same.upd hz0
          have h09 : upd H8 z0 (.lst []) z0 = some (.lst []) := upd_same
          generalize upd H8 z0 (.lst []) = H9 at e9 h09
          have hd9 := e9 _ _ hd8
          have hg9 := (hg.same e58).same e9
          -- what get gives
          have hget : ∃ (l : Addr) (cs : List (Addr × List Int)), (valV kvs (.inl (0 + (p : Int)))).getD (.ref z0) = .ref l ∧ H9 l = some (.lst (cs.map fun z => V.ref z.1)) ∧ (∀ z ∈ cs, H9 z.1 = some (.lst (z.2.map V.int))) ∧ (cs.map Prod.snd).Nodup ∧ (∀ fs, fs ∈ cs.map Prod.snd ↔ GoodF (1 + r) (p : Int) fs) := by
            rw [Int.zero_add]
            cases hv : valV kvs (.inl (p : Int)) with
            | none =>
              refine ⟨z0, [], rfl, h09, fun z hz => by simp at hz, by simp, fun fs => iff_of_false (by simp) fun hgf => ?_⟩
              obtain ⟨j, hj, he⟩ := frB_sur hgf.bit
              rw [hgf.len] at hj he
              have hBp' : 2 ^ (1 + r).toNat ≤ 1024 := by rw [← hB]; exact hBp
              exact hg9.no _ hv j (Nat.lt_of_lt_of_le hj hBp') ⟨hj, by rw [he]; exact hgf.spread, by rw [he]; exact hgf.sum⟩
            | some v =>
              obtain ⟨l, cs, rfl, hb⟩ := hg9.yes _ _ hv
              refine ⟨l, cs, rfl, hb.at_, fun z hz => (hb.rows z hz).1, hb.nd, fun fs => hb.whole (by omega) (by rw [← hB]; exact hBp) fs⟩
          obtain ⟨l, cs, hval, hl9, hc9, hnd, hmem⟩ := hget
          refine ⟨_, DGet.k (k := .inl (0 + (p : Int))) hd9, ?_⟩
          have hcl : cs.length ≤ 64 := by
            have h1 : (cs.map Prod.snd).length ≤ (tolds (1 + r) (p : Int)).length := nodup_leL _ _ hnd fun k hk => (tolds_mem b0 hp0 hp1 _).mpr ((hmem k).mp hk)
            unfold tolds at h1
            simp only [List.length_map, List.length_range] at h1
            omega
          have hlc : ∀ z ∈ cs, z.2.length = (1 + r).toNat := fun z hz => ((hmem z.2).mp (List.mem_map.mpr ⟨z, hz, rfl⟩)).len
          refine ⟨l, cs, by rw [hval], SqL.of hl9, fun z hz => SqL.of (hc9 z hz), by omega, fun s2' hs2 => ?_⟩
          have ea : Same H9 (upd H9 s2' (.lst ((cs.mergeSort leL).map fun z => V.ref z.1))) := Same.upd hs2
          have h2a : upd H9 s2' (.lst ((cs.mergeSort leL).map fun z => V.ref z.1)) s2' = some (.lst ((cs.mergeSort leL).map fun z => V.ref z.1)) := upd_same
          generalize upd H9 s2' (.lst ((cs.mergeSort leL).map fun z => V.ref z.1)) = Ha at ea h2a
          have hsame : (bs.mergeSort leL).map Prod.snd = (cs.mergeSort leL).map Prod.snd := by
            rw [sort_snd hlz, sort_snd hlc]
            refine sort_same (by rw [hs7]; exact tolds_nd b0 hp0) hnd fun fs => ?_
            rw [hs7, tolds_mem b0 hp0 hp1, hmem]
          refine ⟨_, _, dp_lists (bs := bs.mergeSort leL) (SqL.of (ea _ _ (e9 _ _ h18))) (fun z hz => SqL.of (ea _ _ (e9 _ _ (e8 _ _ (hb7' z (List.mem_mergeSort.mp hz)))))), dp_lists (bs := cs.mergeSort leL) (SqL.of h2a) (fun z hz => SqL.of (ea _ _ (hc9 z (List.mem_mergeSort.mp hz)))), dLL_shaped _, dLL_shaped _, _, rfl, ?_⟩
          rw [hsame, dLL_eqv]
          exact iteF ⟨⟨_, _, _, _, _, _, _, rfl⟩, (e58.trans e9).trans ea⟩
      · rintro σ H6 ⟨⟨v4, v5, v6, v7, v8, v9, v10, rfl⟩, e6⟩
        exact k _
end
end My

namespace My
open PySem L2
theorem all_mk {P : Program} {w : World} {K : PySem.W.Frag} {h : Heap} {mg : Str → Option Value} {fa : Addr} (X : K.In h) (G : h.Ns mainGlobals mg) (hfa : mg "law" = some (.ref fa))
    {f_law_start : Addr} {od_law_start an_law_start : Option Addr} {sl_law_start : Array (Option Value)} {oc_law_start kV_law_start dc_law_start pm_law_start cd_law_start ct_law_start : Value}
    {f_law_drawn : Addr} {od_law_drawn an_law_drawn : Option Addr} {sl_law_drawn : Array (Option Value)} {oc_law_drawn kV_law_drawn dc_law_drawn pm_law_drawn cd_law_drawn ct_law_drawn : Value}
    {f_need_beats : Addr} {od_need_beats an_need_beats : Option Addr} {sl_need_beats : Array (Option Value)} {oc_need_beats kV_need_beats dc_need_beats pm_need_beats cd_need_beats ct_need_beats : Value}
    {f_need_share : Addr} {od_need_share an_need_share : Option Addr} {sl_need_share : Array (Option Value)} {oc_need_share kV_need_share dc_need_share pm_need_share cd_need_share ct_need_share : Value}
    {f_even_frame : Addr} {od_even_frame an_even_frame : Option Addr} {sl_even_frame : Array (Option Value)} {oc_even_frame kV_even_frame dc_even_frame pm_even_frame cd_even_frame ct_even_frame : Value}
    {f_even : Addr} {od_even an_even : Option Addr} {sl_even : Array (Option Value)} {oc_even kV_even dc_even pm_even cd_even ct_even : Value}
    {f_need_frame : Addr} {od_need_frame an_need_frame : Option Addr} {sl_need_frame : Array (Option Value)} {oc_need_frame kV_need_frame dc_need_frame pm_need_frame cd_need_frame ct_need_frame : Value}
    {f_sums_of : Addr} {od_sums_of an_sums_of : Option Addr} {sl_sums_of : Array (Option Value)} {oc_sums_of kV_sums_of dc_sums_of pm_sums_of cd_sums_of ct_sums_of : Value}
    {f_spans_of : Addr} {od_spans_of an_spans_of : Option Addr} {sl_spans_of : Array (Option Value)} {oc_spans_of kV_spans_of dc_spans_of pm_spans_of cd_spans_of ct_spans_of : Value}
    {f_is_spread : Addr} {od_is_spread an_is_spread : Option Addr} {sl_is_spread : Array (Option Value)} {oc_is_spread kV_is_spread dc_is_spread pm_is_spread cd_is_spread ct_is_spread : Value}
    {f_is_even : Addr} {od_is_even an_is_even : Option Addr} {sl_is_even : Array (Option Value)} {oc_is_even kV_is_even dc_is_even pm_is_even cd_is_even ct_is_even : Value}
    {f_turn_of : Addr} {od_turn_of an_turn_of : Option Addr} {sl_turn_of : Array (Option Value)} {oc_turn_of kV_turn_of dc_turn_of pm_turn_of cd_turn_of ct_turn_of : Value}
    {f_divisor : Addr} {od_divisor an_divisor : Option Addr} {sl_divisor : Array (Option Value)} {oc_divisor kV_divisor dc_divisor pm_divisor cd_divisor ct_divisor : Value}
    {f_exact : Addr} {od_exact an_exact : Option Addr} {sl_exact : Array (Option Value)} {oc_exact kV_exact dc_exact pm_exact cd_exact ct_exact : Value}
    {f_law : Addr} {od_law an_law : Option Addr} {sl_law : Array (Option Value)} {oc_law kV_law dc_law pm_law cd_law ct_law : Value}
    {t_MOST_BEATS : Tok}
    (a_law_start : PySem.W.nsIn K mainGlobals "_law_start" = some (some (.ref f_law_start)))
    (l_law_start : K.lookup f_law_start = some ⟨oc_law_start, od_law_start, .func (PySem.W.fnOf "_law_start" "_law_start" (defArgs s_law_start) (defBody s_law_start) (defScope s_law_start) .none kV_law_start dc_law_start pm_law_start an_law_start cd_law_start ct_law_start), sl_law_start⟩)
    (c_law_start : PySem.W.codeIn K cd_law_start "_law_start" = true)
    (k_law_start : PySem.W.keepIn K (.ref f_law_start) = true)
    (a_law_drawn : PySem.W.nsIn K mainGlobals "_law_drawn" = some (some (.ref f_law_drawn)))
    (l_law_drawn : K.lookup f_law_drawn = some ⟨oc_law_drawn, od_law_drawn, .func (PySem.W.fnOf "_law_drawn" "_law_drawn" (defArgs s_law_drawn) (defBody s_law_drawn) (defScope s_law_drawn) .none kV_law_drawn dc_law_drawn pm_law_drawn an_law_drawn cd_law_drawn ct_law_drawn), sl_law_drawn⟩)
    (c_law_drawn : PySem.W.codeIn K cd_law_drawn "_law_drawn" = true)
    (k_law_drawn : PySem.W.keepIn K (.ref f_law_drawn) = true)
    (a_need_beats : PySem.W.nsIn K mainGlobals "need_beats" = some (some (.ref f_need_beats)))
    (l_need_beats : K.lookup f_need_beats = some ⟨oc_need_beats, od_need_beats, .func (PySem.W.fnOf "need_beats" "need_beats" (defArgs s_need_beats) (defBody s_need_beats) (defScope s_need_beats) .none kV_need_beats dc_need_beats pm_need_beats an_need_beats cd_need_beats ct_need_beats), sl_need_beats⟩)
    (c_need_beats : PySem.W.codeIn K cd_need_beats "need_beats" = true)
    (k_need_beats : PySem.W.keepIn K (.ref f_need_beats) = true)
    (a_need_share : PySem.W.nsIn K mainGlobals "need_share" = some (some (.ref f_need_share)))
    (l_need_share : K.lookup f_need_share = some ⟨oc_need_share, od_need_share, .func (PySem.W.fnOf "need_share" "need_share" (defArgs s_need_share) (defBody s_need_share) (defScope s_need_share) .none kV_need_share dc_need_share pm_need_share an_need_share cd_need_share ct_need_share), sl_need_share⟩)
    (c_need_share : PySem.W.codeIn K cd_need_share "need_share" = true)
    (k_need_share : PySem.W.keepIn K (.ref f_need_share) = true)
    (a_even_frame : PySem.W.nsIn K mainGlobals "even_frame" = some (some (.ref f_even_frame)))
    (l_even_frame : K.lookup f_even_frame = some ⟨oc_even_frame, od_even_frame, .func (PySem.W.fnOf "even_frame" "even_frame" (defArgs s_even_frame) (defBody s_even_frame) (defScope s_even_frame) .none kV_even_frame dc_even_frame pm_even_frame an_even_frame cd_even_frame ct_even_frame), sl_even_frame⟩)
    (c_even_frame : PySem.W.codeIn K cd_even_frame "even_frame" = true)
    (k_even_frame : PySem.W.keepIn K (.ref f_even_frame) = true)
    (a_even : PySem.W.nsIn K mainGlobals "even" = some (some (.ref f_even)))
    (l_even : K.lookup f_even = some ⟨oc_even, od_even, .func (PySem.W.fnOf "even" "even" (defArgs s_even) (defBody s_even) (defScope s_even) .none kV_even dc_even pm_even an_even cd_even ct_even), sl_even⟩)
    (c_even : PySem.W.codeIn K cd_even "even" = true)
    (k_even : PySem.W.keepIn K (.ref f_even) = true)
    (a_need_frame : PySem.W.nsIn K mainGlobals "need_frame" = some (some (.ref f_need_frame)))
    (l_need_frame : K.lookup f_need_frame = some ⟨oc_need_frame, od_need_frame, .func (PySem.W.fnOf "need_frame" "need_frame" (defArgs s_need_frame) (defBody s_need_frame) (defScope s_need_frame) .none kV_need_frame dc_need_frame pm_need_frame an_need_frame cd_need_frame ct_need_frame), sl_need_frame⟩)
    (c_need_frame : PySem.W.codeIn K cd_need_frame "need_frame" = true)
    (k_need_frame : PySem.W.keepIn K (.ref f_need_frame) = true)
    (a_sums_of : PySem.W.nsIn K mainGlobals "sums_of" = some (some (.ref f_sums_of)))
    (l_sums_of : K.lookup f_sums_of = some ⟨oc_sums_of, od_sums_of, .func (PySem.W.fnOf "sums_of" "sums_of" (defArgs s_sums_of) (defBody s_sums_of) (defScope s_sums_of) .none kV_sums_of dc_sums_of pm_sums_of an_sums_of cd_sums_of ct_sums_of), sl_sums_of⟩)
    (c_sums_of : PySem.W.codeIn K cd_sums_of "sums_of" = true)
    (k_sums_of : PySem.W.keepIn K (.ref f_sums_of) = true)
    (a_spans_of : PySem.W.nsIn K mainGlobals "spans_of" = some (some (.ref f_spans_of)))
    (l_spans_of : K.lookup f_spans_of = some ⟨oc_spans_of, od_spans_of, .func (PySem.W.fnOf "spans_of" "spans_of" (defArgs s_spans_of) (defBody s_spans_of) (defScope s_spans_of) .none kV_spans_of dc_spans_of pm_spans_of an_spans_of cd_spans_of ct_spans_of), sl_spans_of⟩)
    (c_spans_of : PySem.W.codeIn K cd_spans_of "spans_of" = true)
    (k_spans_of : PySem.W.keepIn K (.ref f_spans_of) = true)
    (a_is_spread : PySem.W.nsIn K mainGlobals "is_spread" = some (some (.ref f_is_spread)))
    (l_is_spread : K.lookup f_is_spread = some ⟨oc_is_spread, od_is_spread, .func (PySem.W.fnOf "is_spread" "is_spread" (defArgs s_is_spread) (defBody s_is_spread) (defScope s_is_spread) .none kV_is_spread dc_is_spread pm_is_spread an_is_spread cd_is_spread ct_is_spread), sl_is_spread⟩)
    (c_is_spread : PySem.W.codeIn K cd_is_spread "is_spread" = true)
    (k_is_spread : PySem.W.keepIn K (.ref f_is_spread) = true)
    (a_is_even : PySem.W.nsIn K mainGlobals "is_even" = some (some (.ref f_is_even)))
    (l_is_even : K.lookup f_is_even = some ⟨oc_is_even, od_is_even, .func (PySem.W.fnOf "is_even" "is_even" (defArgs s_is_even) (defBody s_is_even) (defScope s_is_even) .none kV_is_even dc_is_even pm_is_even an_is_even cd_is_even ct_is_even), sl_is_even⟩)
    (c_is_even : PySem.W.codeIn K cd_is_even "is_even" = true)
    (k_is_even : PySem.W.keepIn K (.ref f_is_even) = true)
    (a_turn_of : PySem.W.nsIn K mainGlobals "turn_of" = some (some (.ref f_turn_of)))
    (l_turn_of : K.lookup f_turn_of = some ⟨oc_turn_of, od_turn_of, .func (PySem.W.fnOf "turn_of" "turn_of" (defArgs s_turn_of) (defBody s_turn_of) (defScope s_turn_of) .none kV_turn_of dc_turn_of pm_turn_of an_turn_of cd_turn_of ct_turn_of), sl_turn_of⟩)
    (c_turn_of : PySem.W.codeIn K cd_turn_of "turn_of" = true)
    (k_turn_of : PySem.W.keepIn K (.ref f_turn_of) = true)
    (a_divisor : PySem.W.nsIn K mainGlobals "divisor" = some (some (.ref f_divisor)))
    (l_divisor : K.lookup f_divisor = some ⟨oc_divisor, od_divisor, .func (PySem.W.fnOf "divisor" "divisor" (defArgs s_divisor) (defBody s_divisor) (defScope s_divisor) .none kV_divisor dc_divisor pm_divisor an_divisor cd_divisor ct_divisor), sl_divisor⟩)
    (c_divisor : PySem.W.codeIn K cd_divisor "divisor" = true)
    (k_divisor : PySem.W.keepIn K (.ref f_divisor) = true)
    (a_exact : PySem.W.nsIn K mainGlobals "exact" = some (some (.ref f_exact)))
    (l_exact : K.lookup f_exact = some ⟨oc_exact, od_exact, .func (PySem.W.fnOf "exact" "exact" (defArgs s_exact) (defBody s_exact) (defScope s_exact) .none kV_exact dc_exact pm_exact an_exact cd_exact ct_exact), sl_exact⟩)
    (c_exact : PySem.W.codeIn K cd_exact "exact" = true)
    (k_exact : PySem.W.keepIn K (.ref f_exact) = true)
    (a_law : PySem.W.nsIn K mainGlobals "law" = some (some (.ref f_law)))
    (l_law : K.lookup f_law = some ⟨oc_law, od_law, .func (PySem.W.fnOf "law" "law" (defArgs s_law) (defBody s_law) (defScope s_law) .none kV_law dc_law pm_law an_law cd_law ct_law), sl_law⟩)
    (c_law : PySem.W.codeIn K cd_law "law" = true)
    (k_law : PySem.W.keepIn K (.ref f_law) = true)
    (g_MOST_BEATS : PySem.W.nsIn K mainGlobals "MOST_BEATS" = some (some (.int 64 t_MOST_BEATS)))
    (z_divmod : PySem.W.nsIn K mainGlobals "divmod" = some none)
    (z_int : PySem.W.nsIn K mainGlobals "int" = some none)
    (z_len : PySem.W.nsIn K mainGlobals "len" = some none)
    (z_list : PySem.W.nsIn K mainGlobals "list" = some none)
    (z_max : PySem.W.nsIn K mainGlobals "max" = some none)
    (z_min : PySem.W.nsIn K mainGlobals "min" = some none)
    (z_range : PySem.W.nsIn K mainGlobals "range" = some none)
    (z_sorted : PySem.W.nsIn K mainGlobals "sorted" = some none)
    (z_sum : PySem.W.nsIn K mainGlobals "sum" = some none) :
    ∃ fd : FuncData, (∀ (s : Shared) (v : Value), BindsTo s fd ⟨[v], []⟩ [("_law_script", v)]) ∧ ∀ base : Heap, K.In base → base.Ns mainGlobals mg → FnOk P w K mg base CX0 5 fa fd ["_law_script"] (spLaw K) := by
  have e := hfa.symm.trans (PySem.W.mg_of X G a_law)
  cases e
  have T : Txt K mg := ⟨⟨_, PySem.W.mg_of X G g_MOST_BEATS, _, rfl⟩, PySem.W.mg_none_of X G z_divmod, PySem.W.mg_none_of X G z_int, PySem.W.mg_none_of X G z_len, PySem.W.mg_none_of X G z_list, PySem.W.mg_none_of X G z_max, PySem.W.mg_none_of X G z_min, PySem.W.mg_none_of X G z_range, PySem.W.mg_none_of X G z_sorted, PySem.W.mg_none_of X G z_sum⟩
  have F_law_start := fun_mk (st := s_law_start) l_law_start c_law_start k_law_start
  have G_law_start : FunG K mg "_law_start" s_law_start _ _ ["_law_script"] := ⟨F_law_start, PySem.W.mg_of X G a_law_start, F_law_start.binds (ps := ["_law_script"]) fun _ _ _ _ _ _ us hl => match us, hl with | [_], _ => rfl⟩
  have F_law_drawn := fun_mk (st := s_law_drawn) l_law_drawn c_law_drawn k_law_drawn
  have G_law_drawn : FunG K mg "_law_drawn" s_law_drawn _ _ ["_law_state", "_law_many"] := ⟨F_law_drawn, PySem.W.mg_of X G a_law_drawn, F_law_drawn.binds (ps := ["_law_state", "_law_many"]) fun _ _ _ _ _ _ us hl => match us, hl with | [_, _], _ => rfl⟩
  have F_need_beats := fun_mk (st := s_need_beats) l_need_beats c_need_beats k_need_beats
  have G_need_beats : FunG K mg "need_beats" s_need_beats _ _ ["beats"] := ⟨F_need_beats, PySem.W.mg_of X G a_need_beats, F_need_beats.binds (ps := ["beats"]) fun _ _ _ _ _ _ us hl => match us, hl with | [_], _ => rfl⟩
  have F_need_share := fun_mk (st := s_need_share) l_need_share c_need_share k_need_share
  have G_need_share : FunG K mg "need_share" s_need_share _ _ ["beats", "pulses"] := ⟨F_need_share, PySem.W.mg_of X G a_need_share, F_need_share.binds (ps := ["beats", "pulses"]) fun _ _ _ _ _ _ us hl => match us, hl with | [_, _], _ => rfl⟩
  have F_even_frame := fun_mk (st := s_even_frame) l_even_frame c_even_frame k_even_frame
  have G_even_frame : FunG K mg "even_frame" s_even_frame _ _ ["beats", "pulses", "turn"] := ⟨F_even_frame, PySem.W.mg_of X G a_even_frame, F_even_frame.binds (ps := ["beats", "pulses", "turn"]) fun _ _ _ _ _ _ us hl => match us, hl with | [_, _, _], _ => rfl⟩
  have F_even := fun_mk (st := s_even) l_even c_even k_even
  have G_even : FunG K mg "even" s_even _ _ ["beats", "pulses", "turn"] := ⟨F_even, PySem.W.mg_of X G a_even, F_even.binds (ps := ["beats", "pulses", "turn"]) fun _ _ _ _ _ _ us hl => match us, hl with | [_, _, _], _ => rfl⟩
  have F_need_frame := fun_mk (st := s_need_frame) l_need_frame c_need_frame k_need_frame
  have G_need_frame : FunG K mg "need_frame" s_need_frame _ _ ["frame"] := ⟨F_need_frame, PySem.W.mg_of X G a_need_frame, F_need_frame.binds (ps := ["frame"]) fun _ _ _ _ _ _ us hl => match us, hl with | [_], _ => rfl⟩
  have F_sums_of := fun_mk (st := s_sums_of) l_sums_of c_sums_of k_sums_of
  have G_sums_of : FunG K mg "sums_of" s_sums_of _ _ ["frame", "width"] := ⟨F_sums_of, PySem.W.mg_of X G a_sums_of, F_sums_of.binds (ps := ["frame", "width"]) fun _ _ _ _ _ _ us hl => match us, hl with | [_, _], _ => rfl⟩
  have F_spans_of := fun_mk (st := s_spans_of) l_spans_of c_spans_of k_spans_of
  have G_spans_of : FunG K mg "spans_of" s_spans_of _ _ ["frame", "width"] := ⟨F_spans_of, PySem.W.mg_of X G a_spans_of, F_spans_of.binds (ps := ["frame", "width"]) fun _ _ _ _ _ _ us hl => match us, hl with | [_, _], _ => rfl⟩
  have F_is_spread := fun_mk (st := s_is_spread) l_is_spread c_is_spread k_is_spread
  have G_is_spread : FunG K mg "is_spread" s_is_spread _ _ ["frame"] := ⟨F_is_spread, PySem.W.mg_of X G a_is_spread, F_is_spread.binds (ps := ["frame"]) fun _ _ _ _ _ _ us hl => match us, hl with | [_], _ => rfl⟩
  have F_is_even := fun_mk (st := s_is_even) l_is_even c_is_even k_is_even
  have G_is_even : FunG K mg "is_even" s_is_even _ _ ["frame"] := ⟨F_is_even, PySem.W.mg_of X G a_is_even, F_is_even.binds (ps := ["frame"]) fun _ _ _ _ _ _ us hl => match us, hl with | [_], _ => rfl⟩
  have F_turn_of := fun_mk (st := s_turn_of) l_turn_of c_turn_of k_turn_of
  have G_turn_of : FunG K mg "turn_of" s_turn_of _ _ ["frame"] := ⟨F_turn_of, PySem.W.mg_of X G a_turn_of, F_turn_of.binds (ps := ["frame"]) fun _ _ _ _ _ _ us hl => match us, hl with | [_], _ => rfl⟩
  have F_divisor := fun_mk (st := s_divisor) l_divisor c_divisor k_divisor
  have G_divisor : FunG K mg "divisor" s_divisor _ _ ["one", "other"] := ⟨F_divisor, PySem.W.mg_of X G a_divisor, F_divisor.binds (ps := ["one", "other"]) fun _ _ _ _ _ _ us hl => match us, hl with | [_, _], _ => rfl⟩
  have F_exact := fun_mk (st := s_exact) l_exact c_exact k_exact
  have G_exact : FunG K mg "exact" s_exact _ _ ["beats", "pulses"] := ⟨F_exact, PySem.W.mg_of X G a_exact, F_exact.binds (ps := ["beats", "pulses"]) fun _ _ _ _ _ _ us hl => match us, hl with | [_, _], _ => rfl⟩
  have F_law := fun_mk (st := s_law) l_law c_law k_law
  have G_law : FunG K mg "law" s_law _ _ ["_law_script"] := ⟨F_law, PySem.W.mg_of X G a_law, F_law.binds (ps := ["_law_script"]) fun _ _ _ _ _ _ us hl => match us, hl with | [_], _ => rfl⟩
  refine ⟨PySem.W.fnOf "law" "law" (defArgs s_law) (defBody s_law) (defScope s_law) .none kV_law dc_law pm_law an_law cd_law ct_law, fun s v => .of_eq rfl, fun base KB GB => ?_⟩
  have c_law_start := G_law_start.cl (ok_law_start (P := P) (w := w) (base := base) G_law_start )
  have c_law_drawn := G_law_drawn.cl (ok_law_drawn (P := P) (w := w) (base := base) G_law_drawn T)
  have c_need_beats := G_need_beats.cl (ok_need_beats (P := P) (w := w) (base := base) G_need_beats T)
  have c_need_share := G_need_share.cl (ok_need_share (P := P) (w := w) (base := base) G_need_share c_need_beats)
  have c_even_frame := G_even_frame.cl (ok_even_frame (P := P) (w := w) (base := base) G_even_frame T)
  have c_even := G_even.cl (ok_even (P := P) (w := w) (base := base) G_even c_need_share c_even_frame)
  have c_need_frame := G_need_frame.cl (ok_need_frame (P := P) (w := w) (base := base) G_need_frame T)
  have c_sums_of := G_sums_of.cl (ok_sums_of (P := P) (w := w) (base := base) G_sums_of T)
  have c_spans_of := G_spans_of.cl (ok_spans_of (P := P) (w := w) (base := base) G_spans_of T c_sums_of)
  have c_is_spread := G_is_spread.cl (ok_is_spread (P := P) (w := w) (base := base) G_is_spread T c_spans_of)
  have c_is_even := G_is_even.cl (ok_is_even (P := P) (w := w) (base := base) G_is_even c_need_frame c_is_spread)
  have c_turn_of := G_turn_of.cl (ok_turn_of (P := P) (w := w) (base := base) G_turn_of T c_need_frame c_even_frame)
  have c_divisor := G_divisor.cl (ok_divisor (P := P) (w := w) (base := base) G_divisor )
  have c_exact := G_exact.cl (ok_exact (P := P) (w := w) (base := base) G_exact c_need_share c_divisor)
  exact ok_law (P := P) (w := w) (base := base) G_law T c_law_start c_law_drawn c_is_even c_turn_of c_even c_exact
theorem walk {l : PySem.W.OpenLaw} {q : Program} {loose : List Str} {XP : (Str → Option Value) → Heap → Prop} {YP : World → Heap → Prop} {d : DefRec} {K : Params → PySem.W.Frag} (hn : l.most = some 63) (hdf : d.params.defaults = [])
    (hY : ∀ (w : World) (h : Heap), YP w h → (K w.params).In h)
    (F : ∀ (w : World) (mg : Str → Option Value) (fa : Addr) (h : Heap), (K w.params).In h → h.Ns mainGlobals mg → mg d.name = some (.ref fa) →
      ∃ fd : FuncData, (∀ (s : Shared) (u : Value), BindsTo s fd ⟨[u], []⟩ [("_law_script", u)]) ∧ ∀ base : Heap, (K w.params).In base → base.Ns mainGlobals mg → FnOk l.prog w (K w.params) mg base CX0 5 fa fd ["_law_script"] (spLaw (K w.params))) :
    PySem.W.WalkO q loose XP YP l.row.toRowW d [] (fun f vs => PySem.call f vs) :=
  L2.walk_of (n := 63) (k := 5) (x := "_law_script") (CX := fun _ => CX0) (sp := fun w => spLaw (K w.params)) hn (by decide) hdf ⟨rfl, by decide, by decide⟩ hY F (fun _ _ a ns hl _ hS => ⟨a, ns, rfl, hS, hl, fun _ => rfl⟩) fun _ _ _ _ _ z => z
end My
open PySem PySem.W PyProof.Rows in
set_option maxRecDepth 100000 in
set_option maxHeartbeats 0 in
theorem PySem.Challenge.cw_pulseshare_k06_whole_no_others_are_even_holds : PySem.Challenge.rw_pulseshare_k06_whole_no_others_are_even.Holds := by
  w_on; o_law; k_head; (case hw => w_witness2)
  k_fill
  refine My.walk (l := PySem.Challenge.rw_pulseshare_k06_whole_no_others_are_even) rfl rfl (fun w h Y => PySem.W.kIn_of Y) ?F
  case F =>
    intro w mg fa h KX G hmg
    refine' My.all_mk KX G hmg ?a_law_start ?l_law_start ?c_law_start ?k_law_start ?a_law_drawn ?l_law_drawn ?c_law_drawn ?k_law_drawn ?a_need_beats ?l_need_beats ?c_need_beats ?k_need_beats ?a_need_share ?l_need_share ?c_need_share ?k_need_share ?a_even_frame ?l_even_frame ?c_even_frame ?k_even_frame ?a_even ?l_even ?c_even ?k_even ?a_need_frame ?l_need_frame ?c_need_frame ?k_need_frame ?a_sums_of ?l_sums_of ?c_sums_of ?k_sums_of ?a_spans_of ?l_spans_of ?c_spans_of ?k_spans_of ?a_is_spread ?l_is_spread ?c_is_spread ?k_is_spread ?a_is_even ?l_is_even ?c_is_even ?k_is_even ?a_turn_of ?l_turn_of ?c_turn_of ?k_turn_of ?a_divisor ?l_divisor ?c_divisor ?k_divisor ?a_exact ?l_exact ?c_exact ?k_exact ?a_law ?l_law ?c_law ?k_law ?g_MOST_BEATS ?z_divmod ?z_int ?z_len ?z_list ?z_max ?z_min ?z_range ?z_sorted ?z_sum
    (case a_law_start => k_is)
    (case l_law_start => k_is)
    (case c_law_start => k_is)
    (case k_law_start => k_is)
    (case a_law_drawn => k_is)
    (case l_law_drawn => k_is)
    (case c_law_drawn => k_is)
    (case k_law_drawn => k_is)
    (case a_need_beats => k_is)
    (case l_need_beats => k_is)
    (case c_need_beats => k_is)
    (case k_need_beats => k_is)
    (case a_need_share => k_is)
    (case l_need_share => k_is)
    (case c_need_share => k_is)
    (case k_need_share => k_is)
    (case a_even_frame => k_is)
    (case l_even_frame => k_is)
    (case c_even_frame => k_is)
    (case k_even_frame => k_is)
    (case a_even => k_is)
    (case l_even => k_is)
    (case c_even => k_is)
    (case k_even => k_is)
    (case a_need_frame => k_is)
    (case l_need_frame => k_is)
    (case c_need_frame => k_is)
    (case k_need_frame => k_is)
    (case a_sums_of => k_is)
    (case l_sums_of => k_is)
    (case c_sums_of => k_is)
    (case k_sums_of => k_is)
    (case a_spans_of => k_is)
    (case l_spans_of => k_is)
    (case c_spans_of => k_is)
    (case k_spans_of => k_is)
    (case a_is_spread => k_is)
    (case l_is_spread => k_is)
    (case c_is_spread => k_is)
    (case k_is_spread => k_is)
    (case a_is_even => k_is)
    (case l_is_even => k_is)
    (case c_is_even => k_is)
    (case k_is_even => k_is)
    (case a_turn_of => k_is)
    (case l_turn_of => k_is)
    (case c_turn_of => k_is)
    (case k_turn_of => k_is)
    (case a_divisor => k_is)
    (case l_divisor => k_is)
    (case c_divisor => k_is)
    (case k_divisor => k_is)
    (case a_exact => k_is)
    (case l_exact => k_is)
    (case c_exact => k_is)
    (case k_exact => k_is)
    (case a_law => k_is)
    (case l_law => k_is)
    (case c_law => k_is)
    (case k_law => k_is)
    (case g_MOST_BEATS => k_is)
    (case z_divmod => k_is)
    (case z_int => k_is)
    (case z_len => k_is)
    (case z_list => k_is)
    (case z_max => k_is)
    (case z_min => k_is)
    (case z_range => k_is)
    (case z_sorted => k_is)
    (case z_sum => k_is)
