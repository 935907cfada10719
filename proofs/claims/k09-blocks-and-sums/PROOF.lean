import PyProof.Rows.All
import Wide.All
import OpenK.AllK
import Wide.FinOn
import HandS.ForMost
import HandS.Wide
import HandS.WideBits
import HandS.IsInst
import HandS.Codes
import KE.KStateDown
import HandS.ExcIs
import HandS.WordsExc
import HandS.Defaults
import HandS.Head0
import HandS.Head1
import HandS.Head2
import HandS.HeadEnd
import HandS.HeadHook1
import HandS.HeadHook2
import HandS.HeadHook3
import HandS.HeadHook4
import HandS.HeadWalk
import HandS.EndTab
import HandS.Lambda
import HandS.Zip
import HandS.Walk
import HandS.Nested
import PySem.Challenge.RW_pulseshare_k09_blocks_and_sums
set_option Elab.async false
set_option linter.all false
set_option maxRecDepth 100000
set_option maxHeartbeats 4000000
namespace My
open PySem PySem.Spec PyProof.Rows LamX L2
def top (i : Nat) : Stmt := PySem.Challenge.pw_pulseshare_k09_blocks_and_sums.main.body.getD i (.Pass ⟨0, 0, 0, 0⟩)
/-! ### calls in short -/
/-- a def of the text, where it stands, and how its arguments bind -/
structure FunG (K : PySem.W.Frag) (mg : Str → Option Value) (x : Str) (st : Stmt) (f : Addr) (fd : FuncData) (ps : List Str) : Prop where
  fn : Fun K x x st f fd
  mgf : mg x = some (.ref f)
  b : Binds K fd ps []
/-- a def that may be called by its name -/
structure Cl (P : Program) (w : World) (K : PySem.W.Frag) (mg : Str → Option Value) (base : Heap) (CX : CXT) (k : Nat) (x : Str) (sp : Sp) : Prop where
  ex : ∃ (f : Addr) (fd : FuncData) (ps : List Str), FnOk P w K mg base CX k f fd ps sp ∧ mg x = some (.ref f) ∧ PySem.W.keepIn K (.ref f) = true ∧ Binds K fd ps []
theorem FunG.cl {P : Program} {w : World} {K : PySem.W.Frag} {mg : Str → Option Value} {base : Heap} {CX : CXT} {k : Nat} {x : Str} {st : Stmt} {f : Addr} {fd : FuncData} {ps : List Str} {sp : Sp} (F : FunG K mg x st f fd ps) (h : FnOk P w K mg base CX k f fd ps sp) :
    Cl P w K mg base CX k x sp := ⟨f, fd, ps, h, F.mgf, F.fn.kp, F.b⟩
section
variable {X : Cx} {k j : Nat} {x : Str} {p pos : Pos} {e : Expr} {es : List Expr} {t : TA} {sp : Sp}
theorem pe_cl (c : Cl X.prog X.w X.K X.mg X.base CX0 k x sp) (hr : Room j X.A) (hk : k ≤ j) (hg : Gl X x) (ha : PA X (e :: es) t)
    (hdb : (x == ("__debug__" : Str)) = false := by decide) (he : starEach (e :: es) X.env = (false, eval e X.env) :: starEach es X.env := by rfl) (hpl : (backTo pos (starEach es X.env)).any (·.1) = false := by rfl) :
    PE X (.Call (.Name x p) (e :: es) [] pos) (tCall sp [] E0 t) := by
  obtain ⟨f, fd, ps, F, hm, kp, b⟩ := c.ex
  exact pe_call F (hr.mono hk) hg hm kp b .nil pass0 ha hdb he hpl
end
/-! ### words -/
theorem iteFe {c : Bool} {A B : Prop} (h : c = false) (k : B) : if c = true then A else B := by
  subst h; exact iteF k
theorem iteTe {c : Bool} {A B : Prop} (h : c = true) (k : A) : if c = true then A else B := by
  subst h; exact iteT k
theorem iteJoin {c : Bool} {A B R : Prop} (hA : c = true → R → A) (hB : c = false → R → B) (r : R) : if c = true then A else B := by
  cases c with
  | true => exact iteT (hA rfl r)
  | false => exact iteF (hB rfl r)
theorem neqF {x y : V} (h : x = y) : (!decide (x = y)) = false := by rw [decide_eq_true h]; rfl
/-! ### rules with the written part said (within a comprehension's block it can't be found by unification) -/
section
variable (K : PySem.W.Frag) {X : Cx}
theorem ixL (h : X.K = K := by rfl) : IxR X (rIxL K) := h ▸ ix_list
theorem ixT (h : X.K = K := by rfl) : IxR X (rIxT K) := h ▸ ix_tup
theorem ixQ (h : X.K = K := by rfl) : IxR X (rIx K) := h ▸ ix_seq
theorem slL (h : X.K = K := by rfl) : SlR X (rSlL K) := h ▸ sl_list
theorem opEqD (hu : X.A.units + 64 < cLine) (h : X.K = K := by rfl) : OpR X (compareOp .Eq) (rEqD K) := h ▸ op_eqD hu
theorem opNeD (hu : X.A.units + 64 < cLine) (h : X.K = K := by rfl) : OpR X (compareOp .NotEq) (rNeD K) := h ▸ op_neD hu
theorem opInQ (h : X.K = K := by rfl) : OpR X (compareOp .In) (rIn K false) := h ▸ op_in_seq
theorem opNotInQ (h : X.K = K := by rfl) : OpR X (compareOp .NotIn) (rIn K true) := h ▸ op_notIn_seq
theorem piListK {tg l : Expr} {tl : TE} (hl : PE X l tl) (h : X.K = K := by rfl) : PI X tg l (iList K tl) := h ▸ pi_list hl
theorem clLen (h : X.K = K := by rfl) : CallR X (.builtin "len") (fun xs H Q => ∃ p ys, xs = [.ref p] ∧ (SqL K H p ys ∨ SqT K H p ys) ∧ Q (.int ys.length) H) := h ▸ call_len_seq
theorem clList (h : X.K = K := by rfl) : CallR X (.type "list") (fun xs H Q => ∃ p ys, xs = [.ref p] ∧ (SqL K H p ys ∨ SqT K H p ys) ∧ ∀ l, H l = none → Q (.ref l) (upd H l (.lst ys))) := h ▸ call_list_of
theorem clSum (hc : X.calm = true) (h : X.K = K := by rfl) : CallR X (.builtin "sum") (rSum K) := h ▸ cr_sum hc
theorem clMax (hc : X.calm = true) (h : X.K = K := by rfl) : CallR X (.builtin "max") (rMax K) := h ▸ cr_max hc
theorem clMin (hc : X.calm = true) (h : X.K = K := by rfl) : CallR X (.builtin "min") (rMin K) := h ▸ cr_min hc
end
theorem units1 {n : Nat} (h : n + 64 < cLine) : n + 1 < cLine := by omega
/-! ### the drawing state -/
/-- [script, cells begun, mixed, left of a cell] -/
def StO (a : Addr) (i m c : Int) : HO := .lst [.ref a, .int i, .int m, .int c]
structure Drw (i m c : Int) : Prop where
  i0 : 0 ≤ i
  m0 : 0 ≤ m
  m1 : m < 2147483647
  c0 : 0 ≤ c
/-- all but the state is kept -/
def Keep (st : Addr) (H H' : Hp) : Prop := ∀ b o, b ≠ st → H b = some o → H' b = some o
/-- the state at st is good: its script is the list at a of the ints ns -/
structure SOk (K : PySem.W.Frag) (a : Addr) (ns : List Int) (st : Addr) (H : Hp) : Prop where
  len : ns.length ≤ 63
  sq : ∀ H', Keep st H H' → SqL K H' a (ns.map V.int)
  at_ : ∃ i m c, Drw i m c ∧ H st = some (StO a i m c)
section
variable {K : PySem.W.Frag} {a st p : Addr} {ns : List Int} {H H1 H2 : Hp} {o u : HO} {xs : List V}
theorem Keep.refl (st : Addr) (H : Hp) : Keep st H H := fun _ _ _ h => h
theorem Keep.trans (h : Keep st H H1) (h' : Keep st H1 H2) : Keep st H H2 := fun b o hb e => h' b o hb (h b o hb e)
theorem Keep.new (h : Keep st H H1) (hp : H1 p = none) : Keep st H (upd H1 p o) := fun b u hb e => by
  rw [upd_ne (ne_of_none (h b u hb e) hp)]; exact h b u hb e
theorem Keep.mut (h : Keep st H H1) (hp : H p = none) : Keep st H (upd H1 p o) := fun b u hb e => by
  rw [upd_ne (ne_of_none e hp)]; exact h b u hb e
theorem Keep.atSt (h : Keep st H H1) : Keep st H (upd H1 st o) := fun b u hb e => by
  rw [upd_ne hb]; exact h b u hb e
theorem Keep.free (h : Keep st H H1) (hp : p ≠ st) (e : H1 p = none) : H p = none := by
  cases q : H p with
  | none => rfl
  | some o => rw [h p o hp q] at e; cases e
theorem _root_.L2.Same.keep (h : Same H H1) : Keep st H H1 := fun b u _ e => h b u e
theorem _root_.L2.Same.new (h : Same H H1) (hp : H1 p = none) : Same H (upd H1 p o) := fun b u e => by
  rw [upd_ne (ne_of_none (h b u e) hp)]; exact h b u e
theorem _root_.L2.Same.mut (h : Same H H1) (hp : H p = none) : Same H (upd H1 p o) := fun b u e => by
  rw [upd_ne (ne_of_none e hp)]; exact h b u e
theorem _root_.L2.Same.upd (hp : H p = none) : Same H (upd H p o) := (Same.refl H).new hp
/-- the base heap, in which the state does not stand, is kept -/
theorem _root_.L2.Same.keepAll (h : Same H H1) (hst : H st = none) (k : Keep st H1 H2) : Same H H2 := fun b u e => k b u (ne_of_none e hst) (h b u e)
theorem SOk.now (s : SOk K a ns st H) : SqL K H a (ns.map V.int) := s.sq H (Keep.refl st H)
/-- a script that stood in H stands where all but the state is kept -/
theorem SOk.keep (s : SOk K a ns st H) (k : Keep st H H1) {i m c : Int} (d : Drw i m c) (h : H1 st = some (StO a i m c)) : SOk K a ns st H1 := ⟨s.len, fun H' k' => s.sq H' (k.trans k'), i, m, c, d, h⟩
theorem SOk.same (s : SOk K a ns st H) (k : Same H H1) : SOk K a ns st H1 := by
  obtain ⟨i, m, c, d, h⟩ := s.at_
  exact s.keep k.keep d (k _ _ h)
theorem SOk.new (s : SOk K a ns st H) (hp : H p = none) : SOk K a ns st (L2.upd H p o) := s.same (Same.upd hp)
/-- the state's making -/
theorem SOk.make (hl : ns.length ≤ 63) (hq : SqL K H a (ns.map V.int)) (hst : H st = none) {i m c : Int} (d : Drw i m c) : SOk K a ns st (L2.upd H st (StO a i m c)) :=
  ⟨hl, fun _ k' => ((Same.upd hst).keepAll hst k').seq hq, i, m, c, d, upd_same⟩
/-- a list that did not stand in the base heap H0 is changed -/
theorem SOk.mut {H0 : Hp} (s : SOk K a ns st H) (hq : SqL K H0 a (ns.map V.int)) (hst : H0 st = none) (k : Same H0 H) (hp : H0 p = none) (hps : p ≠ st) : SOk K a ns st (L2.upd H p o) := by
  obtain ⟨i, m, c, d, h⟩ := s.at_
  exact ⟨s.len, fun _ k' => ((k.mut hp).keepAll hst k').seq hq, i, m, c, d, by rw [upd_ne hps.symm]; exact h⟩
theorem SOk.ne_of (s : SOk K a ns st H) (hp : H p = none) : p ≠ st := by
  obtain ⟨i, m, c, d, h⟩ := s.at_
  exact (ne_of_none h hp).symm
/-- .. that did not stand in a heap with a good state -/
theorem SOk.mutK {H0 : Hp} (s : SOk K a ns st H) (s0 : SOk K a ns st H0) (k : Keep st H0 H) (hp : H0 p = none) : SOk K a ns st (L2.upd H p o) := by
  obtain ⟨i, m, c, d, h⟩ := s.at_
  have hps : p ≠ st := s0.ne_of hp
  exact ⟨s.len, fun H' k' => s0.sq H' ((k.mut hp).trans k'), i, m, c, d, by rw [upd_ne hps.symm]; exact h⟩
end
/-! ### lists of ints -/
theorem getV {ns : List Int} {i : Nat} {y : V} (h : (ns.map V.int)[i]? = some y) : ∃ z, ns[i]? = some z ∧ y = V.int z := by
  rw [List.getElem?_map] at h
  cases e : ns[i]? with
  | none => rw [e] at h; cases h
  | some z => rw [e] at h; exact ⟨z, rfl, (Option.some.inj h).symm⟩
theorem atV {ns : List Int} {z : Int} {j : Nat} (e : z = (j : Int)) (h : j < ns.length) : atI (ns.map V.int) z = some (V.int (ns.getD j 0)) := by
  refine at_of e ?_
  rw [List.getElem?_map, List.getElem?_eq_getElem h]
  simp [List.getD, List.getElem?_eq_getElem h]
theorem small_of {n m : Nat} (h : n ≤ m) (hm : m < 16000000 := by decide) : n < sizeLine := by rw [sizeLine_eq]; omega
theorem small_le {n m : Nat} (h : n ≤ m) (hm : m < 16000000 := by decide) : n ≤ sizeLine := by rw [sizeLine_eq]; omega
theorem nat_pow {z : Int} {n : Nat} (h0 : 0 ≤ z) (h1 : z < 2 ^ n) : z.natAbs < 2 ^ n := by
  have e : ((2 ^ n : Nat) : Int) = (2 : Int) ^ n := by simp
  omega
theorem pick3 {r : Int} (h0 : 0 ≤ r) (h1 : r < 3) : r = 0 ∨ r = 1 ∨ r = 2 := by omega
theorem pick4 {r : Int} (h0 : 0 ≤ r) (h1 : r < 4) : r = 0 ∨ r = 1 ∨ r = 2 ∨ r = 3 := by omega
theorem pick5 {r : Int} (h0 : 0 ≤ r) (h1 : r < 5) : r = 0 ∨ r = 1 ∨ r = 2 ∨ r = 3 ∨ r = 4 := by omega
/-! ### even frames -/
/-- beat k of the even frame of a share by a turn -/
def evB (b p t : Int) (k : Nat) : Int := ((k : Int) + 1 + t) * p / b - ((k : Int) + t) * p / b
def evL (b p t : Int) : List Int := (List.range b.toNat).map (evB b p t)
theorem evL_len (b p t : Int) : (evL b p t).length = b.toNat := by simp [evL]
/-- what is left beside wholes ahead of beat k -/
def evR (b p t : Int) (k : Nat) : Int := ((k : Int) + t) * p % b
theorem evR_range {b : Int} (hb : 0 < b) (p t : Int) (k : Nat) : 0 ≤ evR b p t k ∧ evR b p t k < b := ⟨Int.emod_nonneg _ (by omega), Int.emod_lt_of_pos _ hb⟩
theorem ev_step (b p t : Int) (k : Nat) : ((k : Int) + 1 + t) * p = ((k : Int) + t) * p + p := by
  rw [show (k : Int) + 1 + t = ((k : Int) + t) + 1 by omega, Int.add_mul, Int.one_mul]
/-- the beat by what is left -/
theorem evB_eq {b p : Int} (hb : 0 < b) (h0 : 0 ≤ p) (h1 : p ≤ b) (t : Int) (k : Nat) : evB b p t k = if b ≤ evR b p t k + p then 1 else 0 := by
  unfold evB evR
  rw [ev_step b]
  generalize ((k : Int) + t) * p = z
  have e := Int.mul_ediv_add_emod z b
  have r0 := Int.emod_nonneg z (show b ≠ 0 by omega)
  have r1 := Int.emod_lt_of_pos z hb
  have q : z + p = (z % b + p) + z / b * b := by rw [Int.mul_comm]; omega
  rw [q, Int.add_mul_ediv_right _ _ (show b ≠ 0 by omega)]
  by_cases c : b ≤ z % b + p
  · rw [if_pos c]
    have : (z % b + p) / b = 1 := by
      have e1 : z % b + p = (z % b + p - b) + 1 * b := by omega
      rw [e1, Int.add_mul_ediv_right _ _ (show b ≠ 0 by omega), Int.ediv_eq_zero_of_lt (by omega) (by omega)]
      omega
    omega
  · rw [if_neg c, Int.ediv_eq_zero_of_lt (by omega) (by omega)]
    omega
theorem evR_next {b p : Int} (hb : 0 < b) (h0 : 0 ≤ p) (h1 : p ≤ b) (t : Int) (k : Nat) : evR b p t (k + 1) = evR b p t k + p - b * evB b p t k := by
  rw [evB_eq hb h0 h1]
  unfold evR
  have e0 : (((k + 1 : Nat) : Int) + t) * p = ((k : Int) + t) * p + p := by
    have e1 : (((k + 1 : Nat) : Int) + t) = (k : Int) + 1 + t := by omega
    rw [e1, ev_step b]
  rw [e0]
  generalize ((k : Int) + t) * p = z
  have e := Int.mul_ediv_add_emod z b
  have r0 := Int.emod_nonneg z (show b ≠ 0 by omega)
  have r1 := Int.emod_lt_of_pos z hb
  have q : z + p = (z % b + p) + z / b * b := by rw [Int.mul_comm]; omega
  rw [q, Int.add_mul_emod_self_right]
  by_cases c : b ≤ z % b + p
  · rw [if_pos c]
    have e1 : z % b + p = (z % b + p - b) + 1 * b := by omega
    rw [e1, Int.add_mul_emod_self_right]
    by_cases c2 : z % b + p - b < b
    · rw [Int.emod_eq_of_lt (by omega) c2]; omega
    · omega
  · rw [if_neg c, Int.emod_eq_of_lt (by omega) (by omega)]; omega
theorem evB_01 {b p : Int} (hb : 0 < b) (h0 : 0 ≤ p) (h1 : p ≤ b) (t : Int) (k : Nat) : evB b p t k = 0 ∨ evB b p t k = 1 := by
  rw [evB_eq hb h0 h1]; split <;> simp
theorem evL_get {b p t : Int} {k : Nat} (h : k < b.toNat) : (evL b p t)[k]? = some (evB b p t k) := by
  unfold evL; simp [h]
theorem evL_take_sum (b p t : Int) : ∀ n : Nat, (((List.range n).map (evB b p t)).sum : Int) = ((n : Int) + t) * p / b - t * p / b
  | 0 => by simp
  | n + 1 => by
    rw [List.range_succ, List.map_append, List.sum_append, evL_take_sum b p t n]
    simp only [List.map_cons, List.map_nil, List.sum_cons, List.sum_nil, evB]
    have : (((n + 1 : Nat) : Int) + t) = (n : Int) + 1 + t := by omega
    rw [this]; omega
theorem evL_sum {b : Int} (hb : 0 < b) (p t : Int) : (evL b p t).sum = p := by
  unfold evL
  rw [evL_take_sum, Int.toNat_of_nonneg (by omega), Int.add_mul, Int.add_comm, Int.mul_comm b p, Int.add_mul_ediv_right _ _ (show b ≠ 0 by omega)]
  omega
/-! ### windows of frames -/
/-- beat k of a frame that goes round -/
def cyc (fs : List Int) (k : Nat) : Int := fs.getD (k % fs.length) 0
/-- the first k beats together, going round -/
def psum (fs : List Int) : Nat → Int
  | 0 => 0
  | k + 1 => psum fs k + cyc fs k
/-- how many are on in the window of w beats from k on -/
def win (fs : List Int) (w k : Nat) : Int := psum fs (k + w) - psum fs k
theorem cyc_add (fs : List Int) (k : Nat) : cyc fs (k + fs.length) = cyc fs k := by simp [cyc]
theorem cyc_lt {fs : List Int} {k : Nat} (h : k < fs.length) : cyc fs k = fs.getD k 0 := by simp [cyc, Nat.mod_eq_of_lt h]
theorem psum_take (fs : List Int) : ∀ k, k ≤ fs.length → psum fs k = (fs.take k).sum
  | 0, _ => by simp [psum]
  | k + 1, h => by
    have hk : k < fs.length := by omega
    rw [psum, psum_take fs k (by omega), cyc_lt hk, List.take_succ_eq_append_getElem hk, List.sum_append]
    simp [List.getD, List.getElem?_eq_getElem hk]
theorem psum_len (fs : List Int) : psum fs fs.length = fs.sum := by rw [psum_take fs _ (Nat.le_refl _), List.take_length]
theorem psum_add_len (fs : List Int) : ∀ k, psum fs (k + fs.length) = psum fs k + fs.sum
  | 0 => by rw [Nat.zero_add, psum_len]; simp [psum]
  | k + 1 => by
    rw [show k + 1 + fs.length = (k + fs.length) + 1 by omega, psum, psum_add_len fs k, cyc_add, psum]; omega
theorem psum_mul (fs : List Int) (r : Nat) : ∀ q : Nat, psum fs (q * fs.length + r) = fs.sum * q + psum fs r
  | 0 => by simp
  | q + 1 => by
    rw [show (q + 1) * fs.length + r = (q * fs.length + r) + fs.length by rw [Nat.add_mul]; omega, psum_add_len, psum_mul fs r q, Int.natCast_add, Int.mul_add]; simp; omega
theorem win_zero (fs : List Int) (w : Nat) : win fs w 0 = psum fs w := by simp [win, psum]
theorem win_next (fs : List Int) (w k : Nat) : win fs w (k + 1) = win fs w k - cyc fs k + cyc fs (k + w) := by
  unfold win
  rw [show k + 1 + w = (k + w) + 1 by omega, psum, psum]; omega
theorem win_first {fs : List Int} (w : Nat) : fs.sum * ((w / fs.length : Nat) : Int) + (fs.take (w % fs.length)).sum = win fs w 0 := by
  rw [win_zero]
  by_cases hn : fs.length = 0
  · have : fs = [] := List.eq_nil_of_length_eq_zero hn
    subst this
    have z : ∀ k, psum [] k = 0 := fun k => by
      induction k with
      | zero => rfl
      | succ k ih => rw [psum, ih]; simp [cyc]
    simp [z]
  · have e : w = (w / fs.length) * fs.length + w % fs.length := by rw [Nat.mul_comm]; exact (Nat.div_add_mod w fs.length).symm
    have hr : w % fs.length ≤ fs.length := Nat.le_of_lt (Nat.mod_lt _ (by omega))
    have h1 := psum_mul fs (w % fs.length) (w / fs.length)
    rw [← e] at h1
    rw [h1, psum_take fs _ hr]
theorem win_round (fs : List Int) (w k : Nat) : win fs w (k + fs.length) = win fs w k := by
  unfold win
  rw [show k + fs.length + w = (k + w) + fs.length by omega, psum_add_len, psum_add_len]; omega
theorem win_mod {fs : List Int} (w : Nat) : ∀ k, win fs w k = win fs w (k % fs.length) := by
  intro k
  have e := Nat.div_add_mod k fs.length
  have h : ∀ q r, win fs w (q * fs.length + r) = win fs w r := fun q r => by
    induction q with
    | zero => simp
    | succ q ih => rw [show (q + 1) * fs.length + r = (q * fs.length + r) + fs.length by rw [Nat.add_mul]; omega, win_round, ih]
  conv => lhs; rw [← e, Nat.mul_comm]
  exact h _ _
/-- all windows of a width -/
def wins (fs : List Int) (w : Nat) : List Int := (List.range fs.length).map (win fs w)
theorem wins_len (fs : List Int) (w : Nat) : (wins fs w).length = fs.length := by simp [wins]
theorem mem_wins {fs : List Int} {w : Nat} {x : Int} : x ∈ wins fs w ↔ ∃ k, k < fs.length ∧ win fs w k = x := by simp [wins]
theorem win_mem {fs : List Int} (h : 0 < fs.length) (w k : Nat) : win fs w k ∈ wins fs w := by
  rw [win_mod]
  exact mem_wins.mpr ⟨_, Nat.mod_lt _ h, rfl⟩
/-! sums over a round -/
def tsum (f : Nat → Int) (n : Nat) : Int := ((List.range n).map f).sum
theorem tsum_zero (f : Nat → Int) : tsum f 0 = 0 := rfl
theorem tsum_succ (f : Nat → Int) (n : Nat) : tsum f (n + 1) = tsum f n + f n := by
  unfold tsum; rw [List.range_succ, List.map_append, List.sum_append]; simp
theorem tsum_add (f g : Nat → Int) : ∀ n, tsum (fun k => f k + g k) n = tsum f n + tsum g n
  | 0 => rfl
  | n + 1 => by rw [tsum_succ, tsum_succ, tsum_succ, tsum_add f g n]; omega
theorem tsum_le {f g : Nat → Int} : ∀ n, (∀ k, k < n → f k ≤ g k) → tsum f n ≤ tsum g n
  | 0, _ => Int.le_refl _
  | n + 1, h => by
    rw [tsum_succ, tsum_succ]
    have := tsum_le n fun k hk => h k (by omega)
    have := h n (by omega)
    omega
theorem tsum_lt {f g : Nat → Int} : ∀ n, (∀ k, k < n → f k ≤ g k) → (∃ k, k < n ∧ f k < g k) → tsum f n < tsum g n
  | 0, _, ⟨k, hk, _⟩ => by omega
  | n + 1, h, ⟨k, hk, hl⟩ => by
    rw [tsum_succ, tsum_succ]
    have h1 := h n (by omega)
    by_cases e : k = n
    · subst e
      have := tsum_le k fun j hj => h j (by omega)
      omega
    · have := tsum_lt n (fun j hj => h j (by omega)) ⟨k, by omega, hl⟩
      omega
theorem tsum_const (c : Int) : ∀ n : Nat, tsum (fun _ => c) n = n * c
  | 0 => by simp [tsum_zero]
  | n + 1 => by rw [tsum_succ, tsum_const c n, Int.natCast_add, Int.add_mul]; simp
theorem tsum_congr {f g : Nat → Int} (n : Nat) (h : ∀ k, k < n → f k = g k) : tsum f n = tsum g n := by
  have h1 := tsum_le n fun k hk => Int.le_of_eq (h k hk)
  have h2 := tsum_le n fun k hk => Int.le_of_eq (h k hk).symm
  omega
theorem psum_tsum (fs : List Int) : ∀ k, psum fs k = tsum (cyc fs) k
  | 0 => rfl
  | k + 1 => by rw [psum, tsum_succ, psum_tsum fs k]
theorem tsum_shift (fs : List Int) : ∀ d, tsum (fun k => cyc fs (k + d)) fs.length = fs.sum := by
  intro d
  have h : ∀ n, tsum (fun k => cyc fs (k + d)) n = psum fs (n + d) - psum fs d := fun n => by
    induction n with
    | zero => simp [tsum_zero]
    | succ n ih => rw [tsum_succ, ih, show n + 1 + d = (n + d) + 1 by omega, psum]; omega
  rw [h, Nat.add_comm, psum_add_len]; omega
/-- all windows of a width together -/
theorem wins_sum (fs : List Int) : ∀ w : Nat, tsum (win fs w) fs.length = w * fs.sum
  | 0 => by
    have h : tsum (win fs 0) fs.length = tsum (fun _ => (0 : Int)) fs.length := tsum_congr _ fun k _ => by simp [win]
    rw [h, tsum_const]; simp
  | w + 1 => by
    have h : tsum (win fs (w + 1)) fs.length = tsum (fun k => win fs w k + cyc fs (k + w)) fs.length := tsum_congr _ fun k _ => by
      unfold win
      rw [show k + (w + 1) = (k + w) + 1 by omega, psum]; omega
    rw [h, tsum_add, wins_sum fs w, tsum_shift, Int.natCast_add, Int.add_mul]; simp
/-! ### spread -/
/-- windows of each width up to the beats are at most one apart -/
def Spread (fs : List Int) : Prop := ∀ w, 1 ≤ w → w ≤ fs.length → ∀ i j, i < fs.length → j < fs.length → win fs w i - win fs w j ≤ 1
theorem Spread.near {fs : List Int} (h : Spread fs) (h0 : 0 < fs.length) (w i : Nat) (hw : w ≤ fs.length) : (fs.length : Int) * win fs w i - w * fs.sum < fs.length ∧ -(fs.length : Int) < (fs.length : Int) * win fs w i - w * fs.sum := by
  rcases Nat.eq_zero_or_pos w with e | hw0
  · subst e
    have : win fs 0 i = 0 := by simp [win]
    rw [this]; simp; omega
  rw [win_mod]
  have hi : i % fs.length < fs.length := Nat.mod_lt _ h0
  generalize i % fs.length = k at hi
  have s := wins_sum fs w
  have up : tsum (win fs w) fs.length < tsum (fun _ => win fs w k + 1) fs.length := tsum_lt _ (fun j hj => by have := h w hw0 hw j k hj hi; omega) ⟨k, hi, by omega⟩
  have dn : tsum (fun _ => win fs w k - 1) fs.length < tsum (win fs w) fs.length := tsum_lt _ (fun j hj => by have := h w hw0 hw k j hi hj; omega) ⟨k, hi, by omega⟩
  rw [tsum_const] at up dn
  rw [s] at up dn
  rw [Int.mul_add] at up
  rw [Int.mul_sub] at dn
  constructor <;> omega
/-- the least, the greatest of finitely many -/
theorem exists_max (f : Nat → Int) : ∀ n, 0 < n → ∃ k, k < n ∧ ∀ j, j < n → f j ≤ f k
  | 1, _ => ⟨0, by omega, fun j hj => by have : j = 0 := by omega
                                         subst this; exact Int.le_refl _⟩
  | n + 2, _ => by
    obtain ⟨k, hk, h⟩ := exists_max f (n + 1) (by omega)
    by_cases c : f k ≤ f (n + 1)
    · refine ⟨n + 1, by omega, fun j hj => ?_⟩
      by_cases e : j = n + 1
      · subst e; exact Int.le_refl _
      · exact Int.le_trans (h j (by omega)) c
    · refine ⟨k, by omega, fun j hj => ?_⟩
      by_cases e : j = n + 1
      · subst e; omega
      · exact h j (by omega)
/-- a spread frame is an even one -/
theorem Spread.even {fs : List Int} (h : Spread fs) (h0 : 0 < fs.length) : ∃ t : Nat, t < fs.length ∧ evL (fs.length : Int) fs.sum (t : Int) = fs := by
  obtain ⟨k0, hk0, hmax⟩ := exists_max (fun k => (fs.length : Int) * psum fs k - k * fs.sum) fs.length h0
  -- the greatest lies less than the beats above any
  have key : ∀ k, (fs.length : Int) * psum fs k - k * fs.sum ≤ (fs.length : Int) * psum fs k0 - k0 * fs.sum ∧ (fs.length : Int) * psum fs k0 - k0 * fs.sum < (fs.length : Int) * psum fs k - k * fs.sum + fs.length := by
    have base : ∀ k, k < fs.length → (fs.length : Int) * psum fs k - k * fs.sum ≤ (fs.length : Int) * psum fs k0 - k0 * fs.sum ∧ (fs.length : Int) * psum fs k0 - k0 * fs.sum < (fs.length : Int) * psum fs k - k * fs.sum + fs.length := by
      intro k hk
      refine ⟨hmax k hk, ?_⟩
      by_cases c : k ≤ k0
      · obtain ⟨d, rfl⟩ : ∃ d, k0 = k + d := ⟨k0 - k, by omega⟩
        have n := (h.near h0 d k (by omega)).1
        unfold win at n
        rw [Int.mul_sub] at n
        rw [Int.natCast_add, Int.add_mul]
        omega
      · obtain ⟨d, rfl⟩ : ∃ d, k = k0 + d := ⟨k - k0, by omega⟩
        have n := (h.near h0 d k0 (by omega)).2
        unfold win at n
        rw [Int.mul_sub] at n
        rw [Int.natCast_add, Int.add_mul]
        omega
    intro k
    have e := Nat.div_add_mod k fs.length
    have hk := base (k % fs.length) (Nat.mod_lt _ h0)
    have h1 := psum_mul fs (k % fs.length) (k / fs.length)
    rw [Nat.mul_comm, ] at e
    rw [e] at h1
    have e2 : (k : Int) = (k / fs.length : Nat) * (fs.length : Int) + (k % fs.length : Nat) := by
      have := congrArg (fun z : Nat => (z : Int)) e
      simp only [Int.natCast_add, Int.natCast_mul] at this
      omega
    have e3 : (fs.length : Int) * psum fs k - k * fs.sum = (fs.length : Int) * psum fs (k % fs.length) - (k % fs.length : Nat) * fs.sum := by
      rw [h1]
      have : (k : Int) * fs.sum = (k / fs.length : Nat) * (fs.length : Int) * fs.sum + (k % fs.length : Nat) * fs.sum := by
        rw [← Int.add_mul]; congr 1
      rw [this, Int.mul_add, show (fs.length : Int) * (fs.sum * ((k / fs.length : Nat) : Int)) = ((k / fs.length : Nat) : Int) * (fs.length : Int) * fs.sum by
        rw [Int.mul_comm fs.sum, ← Int.mul_assoc, Int.mul_comm (fs.length : Int)]]
      omega
    rw [e3]; exact hk
  -- so the sums are floors
  have floor : ∀ k : Nat, psum fs k = ((k : Int) - k0) * fs.sum / fs.length + psum fs k0 := by
    intro k
    obtain ⟨a, b⟩ := key k
    have hn : (0 : Int) < fs.length := by omega
    have e : ((k : Int) - k0) * fs.sum = (fs.length : Int) * (psum fs k - psum fs k0) + (((fs.length : Int) * psum fs k0 - k0 * fs.sum) - ((fs.length : Int) * psum fs k - k * fs.sum)) := by
      rw [Int.sub_mul, Int.mul_sub]; omega
    rw [e, Int.add_comm ((fs.length : Int) * _), Int.add_mul_ediv_left _ _ (by omega), Int.ediv_eq_zero_of_lt (by omega) (by omega)]
    omega
  refine ⟨(fs.length - k0) % fs.length, Nat.mod_lt _ h0, ?_⟩
  -- the turn: less k0, going round
  have turn : ∀ k : Nat, evB (fs.length : Int) fs.sum (((fs.length - k0) % fs.length : Nat) : Int) k = evB (fs.length : Int) fs.sum (-(k0 : Int)) k := by
    intro k
    by_cases c : k0 = 0
    · subst c; simp
    · rw [Nat.mod_eq_of_lt (by omega)]
      have hn : (fs.length : Int) ≠ 0 := by omega
      unfold evB
      have e1 : ((k : Int) + 1 + ((fs.length - k0 : Nat) : Int)) * fs.sum = ((k : Int) + 1 + -(k0 : Int)) * fs.sum + fs.length * fs.sum := by
        rw [← Int.add_mul]; congr 1; omega
      have e2 : ((k : Int) + ((fs.length - k0 : Nat) : Int)) * fs.sum = ((k : Int) + -(k0 : Int)) * fs.sum + fs.length * fs.sum := by
        rw [← Int.add_mul]; congr 1; omega
      rw [e1, e2, Int.add_mul_ediv_left _ _ hn, Int.add_mul_ediv_left _ _ hn]
      omega
  apply List.ext_getElem
  · rw [evL_len]; simp
  · intro k h1 h2
    have hk : k < ((fs.length : Nat) : Int).toNat := by simpa [evL_len] using h1
    have g : (evL (fs.length : Int) fs.sum (((fs.length - k0) % fs.length : Nat) : Int))[k]? = some (evB (fs.length : Int) fs.sum (((fs.length - k0) % fs.length : Nat) : Int) k) := evL_get hk
    rw [List.getElem?_eq_getElem h1] at g
    rw [Option.some.inj g, turn]
    unfold evB
    have f1 := floor (k + 1)
    have f0 := floor k
    rw [psum, cyc_lt h2] at f1
    have e1 : ((k + 1 : Nat) : Int) - k0 = (k : Int) + 1 + -(k0 : Int) := by omega
    have e0 : (k : Int) - k0 = (k : Int) + -(k0 : Int) := by omega
    rw [e1] at f1
    rw [e0] at f0
    have : fs.getD k 0 = fs[k] := by simp [List.getD, List.getElem?_eq_getElem h2]
    omega
/-! ### windows of even frames -/
theorem evL_cyc {b p t : Int} (hb : 0 < b) (k : Nat) : cyc (evL b p t) k = evB b p t k := by
  have hl : (evL b p t).length = b.toNat := evL_len b p t
  have h0 : 0 < (evL b p t).length := by omega
  unfold cyc
  have g := evL_get (b := b) (p := p) (t := t) (k := k % (evL b p t).length) (by have := Nat.mod_lt k h0; omega)
  rw [List.getD, g, Option.getD_some]
  have e := Nat.div_add_mod k (evL b p t).length
  generalize k % (evL b p t).length = r at e
  generalize k / (evL b p t).length = q at e
  subst e
  unfold evB
  have e1 : (((evL b p t).length * q + r : Nat) : Int) = b * (q : Int) + (r : Int) := by rw [hl]; simp [Int.toNat_of_nonneg (Int.le_of_lt hb)]
  have e2 : ((b * (q : Int) + (r : Int)) + 1 + t) * p = ((r : Int) + 1 + t) * p + b * ((q : Int) * p) := by
    rw [show (b * (q : Int) + (r : Int)) + 1 + t = ((r : Int) + 1 + t) + b * (q : Int) by omega, Int.add_mul, Int.mul_assoc]
  have e3 : ((b * (q : Int) + (r : Int)) + t) * p = ((r : Int) + t) * p + b * ((q : Int) * p) := by
    rw [show (b * (q : Int) + (r : Int)) + t = ((r : Int) + t) + b * (q : Int) by omega, Int.add_mul, Int.mul_assoc]
  rw [e1, e2, e3, Int.add_mul_ediv_left _ _ (show b ≠ 0 by omega), Int.add_mul_ediv_left _ _ (show b ≠ 0 by omega)]
  omega
theorem evL_psum {b p t : Int} (hb : 0 < b) : ∀ k : Nat, psum (evL b p t) k = ((k : Int) + t) * p / b - t * p / b
  | 0 => by simp [psum]
  | k + 1 => by
    rw [psum, evL_psum hb k, evL_cyc hb, evB]
    have e1 : (((k + 1 : Nat) : Int) + t) = (k : Int) + 1 + t := by omega
    rw [e1]; omega
theorem evL_win {b p t : Int} (hb : 0 < b) (w k : Nat) : win (evL b p t) w k = (((k : Int) + t) * p + (w : Int) * p) / b - ((k : Int) + t) * p / b := by
  unfold win
  rw [evL_psum hb, evL_psum hb]
  have e : (((k + w : Nat) : Int) + t) * p = ((k : Int) + t) * p + (w : Int) * p := by
    rw [← Int.add_mul]; congr 1; omega
  rw [e]; omega
theorem div_part {x y b : Int} (hb : 0 < b) : y / b ≤ (x + y) / b - x / b ∧ (x + y) / b - x / b ≤ y / b + 1 := by
  have ex := Int.mul_ediv_add_emod x b
  have ey := Int.mul_ediv_add_emod y b
  have rx0 := Int.emod_nonneg x (show b ≠ 0 by omega)
  have rx1 := Int.emod_lt_of_pos x hb
  have ry0 := Int.emod_nonneg y (show b ≠ 0 by omega)
  have ry1 := Int.emod_lt_of_pos y hb
  have q : x + y = (x % b + y % b) + b * (x / b + y / b) := by rw [Int.mul_add]; omega
  rw [q, Int.add_mul_ediv_left _ _ (show b ≠ 0 by omega)]
  by_cases c : x % b + y % b < b
  · rw [Int.ediv_eq_zero_of_lt (by omega) c]; omega
  · have : (x % b + y % b) / b = 1 := by
      have e1 : x % b + y % b = (x % b + y % b - b) + b * 1 := by omega
      rw [e1, Int.add_mul_ediv_left _ _ (show b ≠ 0 by omega), Int.ediv_eq_zero_of_lt (by omega) (by omega)]; omega
    omega
/-- the windows of an even frame have the width's part, down to a whole one, or one more -/
theorem evL_part {b p t : Int} (hb : 0 < b) (w k : Nat) : (w : Int) * p / b ≤ win (evL b p t) w k ∧ win (evL b p t) w k ≤ (w : Int) * p / b + 1 := by
  rw [evL_win hb]; exact div_part hb
theorem evL_spread {b p t : Int} (hb : 0 < b) : Spread (evL b p t) := fun w _ _ i j _ _ => by
  have h1 := evL_part (p := p) (t := t) hb w i
  have h2 := evL_part (p := p) (t := t) hb w j
  omega
/-- all as many just where beats go into the width times the pulses -/
theorem evL_exact {b p t : Int} (hb : 0 < b) (w : Nat) : (∀ i j, i < b.toNat → j < b.toNat → win (evL b p t) w i = win (evL b p t) w j) ↔ (w : Int) * p % b = 0 := by
  have hl := evL_len b p t
  constructor
  · intro h
    have s := wins_sum (evL b p t) w
    rw [evL_sum hb, hl] at s
    have c : tsum (win (evL b p t) w) b.toNat = tsum (fun _ => win (evL b p t) w 0) b.toNat := tsum_congr _ fun k hk => h k 0 hk (by omega)
    rw [c, tsum_const, Int.toNat_of_nonneg (by omega)] at s
    rw [← s]
    exact Int.mul_emod_right b _
  · intro h i j _ _
    have e := Int.mul_ediv_add_emod ((w : Int) * p) b
    rw [h] at e
    rw [evL_win hb, evL_win hb]
    have e2 : (w : Int) * p = b * ((w : Int) * p / b) := by omega
    rw [e2, Int.add_mul_ediv_left _ _ (show b ≠ 0 by omega), Int.add_mul_ediv_left _ _ (show b ≠ 0 by omega)]
    omega
/-! ### windows cut out of a frame laid several times -/
def around (fs : List Int) (m : Nat) : List Int := (List.replicate m fs).flatten
theorem around_len (fs : List Int) (m : Nat) : (around fs m).length = m * fs.length := by simp [around]
theorem around_succ (fs : List Int) (m : Nat) : around fs (m + 1) = fs ++ around fs m := by simp [around, List.replicate_succ]
theorem around_take (fs : List Int) : ∀ (m k : Nat), k ≤ m * fs.length → ((around fs m).take k).sum = psum fs k
  | 0, k, h => by
    have : k = 0 := by omega
    subst this; simp [psum]
  | m + 1, k, h => by
    rw [around_succ]
    by_cases c : k ≤ fs.length
    · rw [List.take_append_of_le_length c, psum_take fs k c]
    · obtain ⟨d, rfl⟩ : ∃ d, k = fs.length + d := ⟨k - fs.length, by omega⟩
      rw [List.take_append, List.sum_append, List.take_of_length_le (by omega), show fs.length + d - fs.length = d by omega, around_take fs m d (by rw [Nat.add_mul] at h; omega), Nat.add_comm fs.length d, psum_add_len]
      omega
theorem drop_take_sum (l : List Int) (k w : Nat) : ((l.drop k).take w).sum = (l.take (k + w)).sum - (l.take k).sum := by
  rw [List.take_add, List.sum_append]; omega
theorem around_win {fs : List Int} {m k w : Nat} (h : k + w ≤ m * fs.length) : (((around fs m).drop k).take w).sum = win fs w k := by
  rw [drop_take_sum, around_take fs m _ h, around_take fs m k (by omega)]; rfl
/-! ### turns of a frame -/
def TS (fs : List Int) (n : Nat) : List Nat := (List.range n).filter fun j => decide (evL (fs.length : Int) fs.sum (j : Int) = fs)
theorem TS_succ (fs : List Int) (n : Nat) : TS fs (n + 1) = if evL (fs.length : Int) fs.sum (n : Int) = fs then TS fs n ++ [n] else TS fs n := by
  unfold TS
  rw [List.range_succ, List.filter_append]
  by_cases c : evL (fs.length : Int) fs.sum (n : Int) = fs
  · rw [if_pos c]; simp [c]
  · rw [if_neg c]; simp [c]
theorem TS_none {fs : List Int} : ∀ {n : Nat}, (∀ j, j < n → evL (fs.length : Int) fs.sum (j : Int) ≠ fs) → TS fs n = []
  | 0, _ => rfl
  | n + 1, h => by rw [TS_succ, if_neg (h n (by omega)), TS_none fun j hj => h j (by omega)]
theorem TS_first {fs : List Int} {t : Nat} (ht : evL (fs.length : Int) fs.sum (t : Int) = fs) (hn : ∀ j, j < t → evL (fs.length : Int) fs.sum (j : Int) ≠ fs) : ∀ n, t < n → ∃ r, TS fs n = t :: r
  | 0, h => absurd h (Nat.not_lt_zero _)
  | n + 1, h => by
    rw [TS_succ]
    by_cases e : t = n
    · subst e
      rw [if_pos ht, TS_none hn]
      exact ⟨[], rfl⟩
    · obtain ⟨r, hr⟩ := TS_first ht hn n (by omega)
      rw [hr]
      split
      · exact ⟨_, rfl⟩
      · exact ⟨_, rfl⟩
theorem TS_len (fs : List Int) (n : Nat) : (TS fs n).length ≤ n := by
  unfold TS
  have := List.length_filter_le (fun j : Nat => decide (evL (fs.length : Int) fs.sum (j : Int) = fs)) (List.range n)
  rw [List.length_range] at this
  exact this
theorem TS_ne {fs : List Int} {n : Nat} : TS fs n ≠ [] ↔ ∃ t, t < n ∧ evL (fs.length : Int) fs.sum (t : Int) = fs := by
  constructor
  · intro h
    obtain ⟨t, ht⟩ := List.exists_mem_of_ne_nil _ h
    unfold TS at ht
    obtain ⟨h1, h2⟩ := List.mem_filter.mp ht
    exact ⟨t, List.mem_range.mp h1, of_decide_eq_true h2⟩
  · rintro ⟨t, ht, e⟩ h
    have : t ∈ TS fs n := List.mem_filter.mpr ⟨List.mem_range.mpr ht, decide_eq_true e⟩
    rw [h] at this
    cases this
/-- a frame is spread just where some turn tells it -/
theorem spread_iff {fs : List Int} (h0 : 0 < fs.length) : Spread fs ↔ TS fs fs.length ≠ [] := by
  rw [TS_ne]
  constructor
  · exact fun h => h.even h0
  · rintro ⟨t, _, e⟩
    rw [← e]
    exact evL_spread (by omega)
def SpreadTo (fs : List Int) (n : Nat) : Prop := ∀ w, 1 ≤ w → w ≤ n → ∀ i j, i < fs.length → j < fs.length → win fs w i - win fs w j ≤ 1
theorem SpreadTo.zero (fs : List Int) : SpreadTo fs 0 := fun w h1 h2 => by omega
theorem spreadTo_succ {fs : List Int} {n : Nat} {lo hi : Int} (l1 : lo ∈ wins fs (n + 1)) (l2 : ∀ y, y ∈ wins fs (n + 1) → lo ≤ y) (h1 : hi ∈ wins fs (n + 1)) (h2 : ∀ y, y ∈ wins fs (n + 1) → y ≤ hi) : SpreadTo fs (n + 1) ↔ SpreadTo fs n ∧ hi - lo < 2 := by
  constructor
  · intro h
    refine ⟨fun w a b => h w a (by omega), ?_⟩
    obtain ⟨i, hi', rfl⟩ := mem_wins.mp l1
    obtain ⟨j, hj, rfl⟩ := mem_wins.mp h1
    have := h (n + 1) (by omega) (Nat.le_refl _) j i hj hi'
    omega
  · rintro ⟨h, d⟩ w a b i j hi' hj
    by_cases e : w = n + 1
    · subst e
      have := l2 _ (mem_wins.mpr ⟨j, hj, rfl⟩)
      have := h2 _ (mem_wins.mpr ⟨i, hi', rfl⟩)
      omega
    · exact h w a (by omega) i j hi' hj
/-! ### data of ints -/
def dI (ns : List Int) : PyData := .list (ns.map PyData.int)
theorem dI_layA : ∀ ns : List Int, PyData.canLayAll0 (ns.map PyData.int) = true
  | [] => by simp [PyData.canLayAll0]
  | z :: zs => by simp [PyData.canLayAll0, PyData.canLay0, dI_layA zs]
theorem dI_depthA : ∀ ns : List Int, PyData.depthAll (ns.map PyData.int) ≤ 1
  | [] => by simp [PyData.depthAll]
  | z :: zs => by
    have h1 := dI_depthA zs
    simp only [List.map_cons, PyData.depthAll, PyData.depth]
    omega
theorem dI_shaped (ns : List Int) : SeqAt.shaped (dI ns) = true := by
  have h1 := dI_depthA ns
  have h2 : PyData.depth (dI ns) ≤ 64 := by
    unfold dI
    simp only [PyData.depth]
    omega
  show (PyData.canLay0 (dI ns) && decide (PyData.depth (dI ns) ≤ 64)) = true
  rw [Bool.and_eq_true]
  exact ⟨by unfold dI; simp only [PyData.canLay0]; exact dI_layA ns, decide_eq_true h2⟩
theorem dI_eqvA : ∀ ns ms : List Int, PyData.eqvAll (ns.map PyData.int) (ms.map PyData.int) = decide (ns = ms)
  | [], [] => by simp [PyData.eqvAll]
  | [], _ :: _ => by simp [PyData.eqvAll]
  | _ :: _, [] => by simp [PyData.eqvAll]
  | n :: ns, m :: ms => by
    rw [List.map_cons, List.map_cons, PyData.eqvAll, dI_eqvA ns ms]
    by_cases e : n = m
    · subst e; simp [PyData.eqv]
    · simp [PyData.eqv, e]
theorem dI_eqv (ns ms : List Int) : PyData.eqv (dI ns) (dI ms) = decide (ns = ms) := by
  unfold dI
  simp only [PyData.eqv]
  exact dI_eqvA ns ms
theorem dpA_ints {K : PySem.W.Frag} {H : Hp} : ∀ ns : List Int, DpAll K H (ns.map V.int) (ns.map PyData.int)
  | [] => .nil
  | n :: ns => .cons (.int n) (dpA_ints ns)
theorem dp_ints {K : PySem.W.Frag} {H : Hp} {a : Addr} {ns : List Int} (h : SqL K H a (ns.map V.int)) : Dp K H (.ref a) (dI ns) := .lst h (dpA_ints ns)
theorem dp_nil {K : PySem.W.Frag} {H : Hp} {a : Addr} (h : SqL K H a []) : Dp K H (.ref a) (dI []) := dp_ints (ns := []) h
/-! ### cuts of lists of ints -/
theorem cut_to {ns : List Int} {k : Nat} (hk : k ≤ ns.length) : cutV (ns.map V.int) none (some (k : Int)) = (ns.take k).map V.int := by
  unfold cutV
  rw [HT.sIx_none, HT.sIx_nat, List.length_map, Nat.min_eq_left hk, List.drop_zero, Nat.sub_zero, List.map_take]
theorem cut_from {ns : List Int} {k : Nat} (hk : k ≤ ns.length) : cutV (ns.map V.int) (some (k : Int)) none = (ns.drop k).map V.int := by
  unfold cutV
  rw [HT.sIx_none, HT.sIx_nat, List.length_map, Nat.min_eq_left hk, List.map_drop]
  exact List.take_of_length_le (by rw [List.length_drop, List.length_map]; exact Nat.le_refl _)
theorem cut_mid {ns : List Int} {i j : Nat} (hi : i ≤ j) (hj : j ≤ ns.length) : cutV (ns.map V.int) (some (i : Int)) (some (j : Int)) = ((ns.drop i).take (j - i)).map V.int := by
  unfold cutV
  rw [HT.sIx_nat, HT.sIx_nat, List.length_map, Nat.min_eq_left (show i ≤ ns.length by omega), Nat.min_eq_left hj, List.map_take, List.map_drop]
/-! ### frames -/
structure Frm (fs : List Int) : Prop where
  pos : 0 < fs.length
  le : fs.length ≤ 64
  bit : ∀ f ∈ fs, f = 0 ∨ f = 1
theorem bits_sum : ∀ {fs : List Int}, (∀ f ∈ fs, f = 0 ∨ f = 1) → 0 ≤ fs.sum ∧ fs.sum ≤ fs.length
  | [], _ => by simp
  | f :: fs, h => by
    have h1 := bits_sum (fs := fs) fun g hg => h g (List.mem_cons_of_mem _ hg)
    have h2 := h f List.mem_cons_self
    rw [List.sum_cons, List.length_cons]
    omega
theorem Frm.sum {fs : List Int} (h : Frm fs) : 0 ≤ fs.sum ∧ fs.sum ≤ fs.length := bits_sum h.bit
theorem Frm.getD {fs : List Int} (h : Frm fs) (k : Nat) : fs.getD k 0 = 0 ∨ fs.getD k 0 = 1 := by
  by_cases c : k < fs.length
  · have e : fs.getD k 0 = fs[k] := by simp [List.getD, List.getElem?_eq_getElem c]
    rw [e]
    exact h.bit _ (List.getElem_mem c)
  · left
    simp [List.getD, List.getElem?_eq_none (Nat.le_of_not_lt c)]
theorem evL_frm {b p : Int} (b0 : 1 ≤ b) (b1 : b ≤ 64) (p0 : 0 ≤ p) (p1 : p ≤ b) (t : Int) : Frm (evL b p t) := by
  refine ⟨by rw [evL_len]; omega, by rw [evL_len]; omega, fun f hf => ?_⟩
  unfold evL at hf
  obtain ⟨k, _, rfl⟩ := List.mem_map.mp hf
  exact evB_01 (by omega) p0 p1 t k
def Lo (ws : List Int) (m : Int) : Prop := m ∈ ws ∧ ∀ y, y ∈ ws → m ≤ y
def Hi (ws : List Int) (m : Int) : Prop := m ∈ ws ∧ ∀ y, y ∈ ws → y ≤ m
theorem divP {i j : Int} {b : Nat} (h : 0 < j) (hb : j.natAbs < 2 ^ b) (h0 : 0 < b) (h9 : b ≤ 9000) : CDivP i j := ⟨h, PyProof.noPylong_of_log2 (Nat.lt_of_lt_of_le (PySem.Flt.log2_lt_of h0 hb) h9)⟩
/-! ### rules for an except suite -/
def rIsK (K : PySem.W.Frag) (cls : Value) (d : Option Addr) (a : Addr) : List V → Hp → VK → Prop := fun xs H Q => ∃ (D : Addr) (c : V) (cv : Value) (b : Bool), cls = .ref D ∧ d = none ∧ ExcC K D ∧ xs = [.ref a, c] ∧ (∀ u, RelV c u → u = cv) ∧ PySem.W.kitOne K (.ref D) cv = some b ∧ Q (.bl b) H
theorem call_isK {X : Cx} {a : Addr} {cls : Value} {d : Option Addr} {oe : Obj} {pn : List (Addr × Obj)} (hz : Zc cls d oe) (hf : ∃ vs, oe.data = .fields vs) : CallR (X.suite a ((a, oe) :: pn)) (.builtin "isinstance") (rIsK X.K cls d a) := by
  intro pins s σ H xs us Q I r h
  obtain ⟨D, c, cv, b, rfl, rfl, C, e1, e2, e3, q⟩ := h
  exact call_isE C hz hf pins s σ H xs us Q I r ⟨c, cv, b, e1, e2, e3, q⟩
theorem pe_nev {X : Cx} {e : Expr} : PE X e (fun _ _ _ => False) := ⟨fun _ _ _ _ _ _ h => h.elim⟩
theorem eqU_count {y : V} {vs : List V} {us : List Value} (r : Vals vs us) (hf : vs.all flatV = true) : us.countP (eqU y) = vs.countP fun z => eqV z y := by
  induction vs generalizing us with
  | nil => cases r; rfl
  | cons v vs ih =>
    cases r with
    | cons h t =>
      rw [List.all_cons, Bool.and_eq_true] at hf
      rw [List.countP_cons, List.countP_cons, ih t hf.2, eqU_of h hf.1]
def rCntV (K : PySem.W.Frag) : V → List V → Hp → VK → Prop := fun x xs H Q => ∃ (a : Addr) (ys : List V) (y : V), x = .ref a ∧ xs = [y] ∧ SqL K H a ys ∧ flatV y = true ∧ ys.all flatV = true ∧ Q (.int ((ys.countP fun z => eqV z y : Nat) : Int)) H
theorem mt_cntV {X : Cx} : MtR X "list.count" (rCntV X.K) := by
  intro pins s σ H x xs v us Q I rx rxs h
  obtain ⟨a, ys, y, rfl, rfl, hs, fy, fys, q⟩ := h
  cases rx
  cases rxs with
  | cons ry rt =>
    rename_i uy ut
    cases rt
    obtain ⟨its, rv, ⟨⟨cls, dd, data, sl⟩, n, ho, hc, hdn, hd⟩, hlen⟩ := I.list hs
    simp only at hc hd
    subst hc hd
    refine call_meets PySem.F.slot_list_count ⟨_, ho, rfl⟩ PySem.F.entry_list_count (PySem.F.args_list_count_2 _ _)
      (SeqAt.list_countAt a its.toArray n dd sl uy (eqU y)) ⟨ho, fun u' hu' => mem_eqAt ry fy rv fys u' (by simpa using hu'), ?_⟩
    have ec : its.toArray.toList.countP (eqU y) = ys.countP fun z => eqV z y := eqU_count rv fys
    refine ⟨.int ((ys.countP fun z => eqV z y : Nat) : Int), H, I.tok _, ⟨s.toks, ?_⟩, q⟩
    show Value.int ((its.toArray.toList.countP (eqU y) : Nat) : Int) s.toks = Value.int ((ys.countP fun z => eqV z y : Nat) : Int) s.toks
    rw [ec]
section
variable (K : PySem.W.Frag) {X : Cx}
theorem mtCntK (h : X.K = K := by rfl) : MtR X "list.count" (rCntV K) := h ▸ mt_cntV
theorem mtIndexK (h : X.K = K := by rfl) : MtR X "list.index" (rIndex K) := h ▸ mt_index
theorem pe_bmK {T id : String} {nm : Str} {r : V → List V → Hp → VK → Prop} {o e : Expr} {es : List Expr} {to : TE} {t : TA} {apos cpos : Pos} (pa : PlainAttrs T) (slot : Slot T nm id) (hty : typeOf (.builtin id) = pure (.type "method_descriptor")) (hm : MtR X id r) (ho : PE X o to) (ha : PA X (e :: es) t)
    (hbase : attributeBase o nm X.env (eval o X.env) = eval o X.env := by rfl)
    (hfew : ((backTo cpos (starEach (e :: es) X.env)).all (fun x => !x.1) && (backToKw cpos (keywordEach [] X.env)).all (fun x => x.1.isSome)
      && decide ((e :: es).length + ([] : List Keyword).length + (if ([] : List Keyword).isEmpty then 0 else 1) < 30)) = true := by rfl)
    (hline : (apos.endLine == cpos.line) = true := by rfl) (hs : starEach (e :: es) X.env = (false, eval e X.env) :: starEach es X.env := by rfl) (hplain : (backTo cpos (starEach es X.env)).any (·.1) = false := by rfl) (h : X.K = K := by rfl) :
    PE X (.Call (.Attribute o nm apos) (e :: es) [] cpos) (tBM K T r to t) := h ▸ pe_bm pa slot hty hm ho ha hbase hfew hline hs hplain
end
/-- an own error's class, that may be raised -/
structure ExF (K : PySem.W.Frag) (mg : Str → Option Value) (n : Str) : Prop where
  g : mg n = some (.ref (He.ga K n))
  x : PySem.W.excIn K (He.ga K n) He.veBase "ValueError.__new__" = true
  k : PySem.W.keepIn K (.ref (He.ga K n)) = true
  b : PySem.W.subIn K (.ref (He.ga K n)) (.type "BaseException") = some true
  t : PySem.W.typeIn K (.ref (He.ga K n)) = some (.type "type")
/-- the slots' number is known -/
theorem pss_len {X : Cx} {b : List Stmt} {t : L2.TS} (n : Nat) (h : PSs X b t) (hn : X.N.length = n := by rfl) : PSs X b (fun D σ H => σ.length = n → t D σ H) := ⟨fun pins s σ H D I hw => h.run pins s σ H D I (hw (I.len.trans hn))⟩
theorem five {σ : L2.St} (h : σ.length = 5) : ∃ a b c d e, σ = [a, b, c, d, e] := by
  match σ, h with
  | [a, b, c, d, e], _ => exact ⟨a, b, c, d, e, rfl⟩
theorem noAhead (bs : List Bool) (j : Nat) (h : ((List.range j).all fun m => bs[m]? != some true) = true) : ∀ (m : Nat) (z' : V), m < j → (bs.map V.bl)[m]? = some z' → eqV z' (.bl true) = false := fun m z' hm hz => by
  rw [List.all_eq_true] at h
  have h1 := h m (List.mem_range.mpr hm)
  rw [List.getElem?_map] at hz
  cases e : bs[m]? with
  | none => rw [e] at hz; cases hz
  | some b =>
    rw [e] at hz h1
    cases hz
    cases b with
    | false => rfl
    | true => simp at h1
/-! ### calls of defs that may raise -/
section
variable {X : Cx} {k j : Nat} {x : Str} {p pos : Pos} {e : Expr} {es : List Expr} {t : TA} {sp : Sp} {E : XK}
theorem pe_clT (c : Cl X.prog X.w X.K X.mg X.base (L2.CX X.prog X.w) k x sp) (hr : Room j X.A) (hk : k ≤ j) (hx : Passes (L2.CX X.prog X.w) X E) (hg : Gl X x) (ha : PA X (e :: es) t)
    (hdb : (x == ("__debug__" : Str)) = false := by decide) (he : starEach (e :: es) X.env = (false, eval e X.env) :: starEach es X.env := by rfl) (hpl : (backTo pos (starEach es X.env)).any (·.1) = false := by rfl) :
    PE X (.Call (.Name x p) (e :: es) [] pos) (tCall sp [] E t) := by
  obtain ⟨f, fd, ps, F, hm, kp, b⟩ := c.ex
  exact pe_call F (hr.mono hk) hg hm kp b .nil hx ha hdb he hpl
theorem pe_clG (c : Cl X.prog X.w X.K X.mg X.base (L2.CX X.prog X.w) k x sp) (hr : Room j X.A) (hk : k ≤ j) (hg : Gl X x) (ha : PA X (e :: es) t)
    (hdb : (x == ("__debug__" : Str)) = false := by decide) (he : starEach (e :: es) X.env = (false, eval e X.env) :: starEach es X.env := by rfl) (hpl : (backTo pos (starEach es X.env)).any (·.1) = false := by rfl) :
    PE X (.Call (.Name x p) (e :: es) [] pos) (tCall sp [] E0 t) := pe_clT c hr hk passL hg ha hdb he hpl
end
theorem FunG.clX {P : Program} {w : World} {K : PySem.W.Frag} {mg : Str → Option Value} {base : Heap} {CX : CXT} {k : Nat} {x : Str} {st : Stmt} {f : Addr} {fd : FuncData} {ps : List Str} {sp : Sp} (F : FunG K mg x st f fd ps) (h : FnOk P w K mg base CX k f fd ps sp) :
    Cl P w K mg base CX k x sp := ⟨f, fd, ps, h, F.mgf, F.fn.kp, F.b⟩
/-! ### heaps with a table of code objects -/
def lamQ : Str := ("law" : Str) ++ ".<locals>." ++ "<lambda>"
def noTab (H : Hp) : Hp := fun b => match H b with
  | some (.tbl _) => none
  | o => o
section
variable {K : PySem.W.Frag} {a st : Addr} {ns : List Int} {H H0 H1 H2 : Hp} {T : List (Addr × Str)}
theorem noTab_some {b : Addr} {o : HO} (h : noTab H b = some o) : H b = some o ∧ ∀ ps, o ≠ .tbl ps := by
  unfold noTab at h
  split at h
  · cases h
  · rename_i hn
    exact ⟨h, fun ps e => hn ps (by rw [h, e])⟩
theorem noTab_same (H : Hp) : Same (noTab H) H := fun _ _ h => (noTab_some h).1
theorem noTab_none {b : Addr} (h : H b = none) : noTab H b = none := by
  unfold noTab; rw [h]
theorem noTab_at {b : Addr} {o : HO} (h : H b = some o) (hn : ∀ ps, o ≠ .tbl ps) : noTab H b = some o := by
  unfold noTab
  rw [h]
  cases o <;> first | rfl | exact absurd rfl (hn _)
theorem noTab_sq {xs : List V} (h : SqL K H a xs) : SqL K (noTab H) a xs := by
  rcases h with (h | ⟨o, h⟩) | h
  · exact .inl (.inl (noTab_at h fun _ z => nomatch z))
  · exact .inl (.inr ⟨o, noTab_at h fun _ z => nomatch z⟩)
  · exact .inr h
theorem extN_same (h : Same (noTab H) H1) (e : ExtN H1 H2) : Same (noTab H) H2 := fun b o hb => e b o (h b o hb) (noTab_some hb).2
theorem SOk.extN (s : SOk K a ns st H1) (hq : SqL K (noTab H0) a (ns.map V.int)) (hst : noTab H0 st = none) (k : Same (noTab H0) H1) (e : ExtN H1 H2) : SOk K a ns st H2 := by
  obtain ⟨i, m, c, d, h⟩ := s.at_
  exact ⟨s.len, fun H' k' => ((extN_same k e).keepAll hst k').seq hq, i, m, c, d, e _ _ h fun _ z => nomatch z⟩
theorem tabs_same (t : Tabs T H) (e : Same H H1) : Tabs T H1 := t.ext e
theorem tabs_keep {xs : List V} (t : Tabs T H) (hs : H st = some (.lst xs)) (e : Keep st H H1) : Tabs T H1 := fun p hp => by
  obtain ⟨ps, h1, h2, h3⟩ := t p hp
  refine ⟨ps, e _ _ (fun z => by rw [z, hs] at h1; cases h1) h1, h2, fun pos cv hc => ?_⟩
  obtain ⟨c, e1, e2⟩ := h3 pos cv hc
  exact ⟨c, e1, e _ _ (fun z => by rw [z, hs] at e2; unfold CodeO at e2; cases e2) e2⟩
theorem SOk.tabs (s : SOk K a ns st H) (t : Tabs T H) (e : Keep st H H1) : Tabs T H1 := by
  obtain ⟨i, m, c, d, h⟩ := s.at_
  exact tabs_keep t h e
end
theorem tabs_keepL {T : List (Addr × Str)} {H : Hp} {l : Addr} {xs : List V} {o : HO} (t : Tabs T H) (hs : H l = some (.lst xs)) : Tabs T (upd H l o) := fun p hp => by
  obtain ⟨ps, h1, h2, h3⟩ := t p hp
  refine ⟨ps, by rw [upd_ne (fun z => by rw [z, hs] at h1; cases h1)]; exact h1, h2, fun pos cv hc => ?_⟩
  obtain ⟨c, e1, e2⟩ := h3 pos cv hc
  exact ⟨c, e1, by rw [upd_ne (fun z => by rw [z, hs] at e2; unfold CodeO at e2; cases e2)]; exact e2⟩
/-! ### lambdas that are kept: made, put in lists, called later -/
/-- a lambda's words, the cells that it captured, its code object -/
structure LF where
  qual : Str
  params : Arguments
  body : Expr
  scope : Scope
  cl : List (Str × Addr)
  c : Addr
abbrev LF.fd (F : LF) (pm ctv : Value) : FuncData := PySem.W.kla_fn "<lambda>" F.qual F.params F.body F.scope F.cl pm (.ref F.c) ctv
abbrev LF.nf (F : LF) : NdefX.NF := ⟨"<lambda>", F.qual, F.params, [], F.scope, F.cl, F.c⟩
def LamP (f : Addr) (F : LF) (h : Heap) : Prop := ∃ (od : Option Addr) (sl : Array (Option Value)) (pm ctv : Value), h.get? f = some (⟨.type "function", od, .func (F.fd pm ctv), sl⟩ : Obj)
def LamO (f : Addr) (F : LF) : HO := .ext (LamP f F)
def CellP (c : Addr) (v : V) (h : Heap) : Prop := ∃ u, RelV v u ∧ h.IsCell c (some u)
def CellO (c : Addr) (v : V) : HO := .ext (CellP c v)
theorem lamO_tbl {f : Addr} {F : LF} (ps : Array Value) : LamO f F ≠ .tbl ps := fun z => by unfold LamO at z; cases z
theorem cellO_tbl {c : Addr} {v : V} (ps : Array Value) : CellO c v ≠ .tbl ps := fun z => by unfold CellO at z; cases z
section
variable {P : Program} {w : World} {H : Hp} {h h' : Heap} {f c : Addr} {F : LF} {v : V}
theorem lamO_ok (x : LamP f F h) : ObjOk P w H h f (LamO f F) := by
  refine ⟨x, ?_, fun h1 h2 z k => ?_⟩
  · obtain ⟨od, sl, pm, ctv, e⟩ := x
    exact ⟨_, e⟩
  · obtain ⟨od, sl, pm, ctv, e⟩ := z
    exact ⟨od, sl, pm, ctv, k _ e⟩
theorem cellO_ok (x : CellP c v h) : ObjOk P w H h c (CellO c v) := by
  refine ⟨x, ?_, fun h1 h2 z k => ?_⟩
  · obtain ⟨u, _, o, e, _⟩ := x
    exact ⟨o, e⟩
  · obtain ⟨u, r, o, e, d⟩ := z
    exact ⟨u, r, o, k _ e, d⟩
theorem lamO_at (hok : HOk P w H h) (e : H f = some (LamO f F)) : LamP f F h := by
  have x : ObjOk P w H h f (.ext (LamP f F)) := hok f _ e
  exact x.1
theorem cellO_at (hok : HOk P w H h) (e : H c = some (CellO c v)) : CellP c v h := by
  have x : ObjOk P w H h c (.ext (CellP c v)) := hok c _ e
  exact x.1
theorem LamP.slots (x : LamP f F h) (k : ∀ o, h.get? f = some o → ∃ sl, h'.get? f = some { o with slots := sl }) : LamP f F h' := by
  obtain ⟨od, sl, pm, ctv, e⟩ := x
  obtain ⟨sl2, e2⟩ := k _ e
  exact ⟨od, sl2, pm, ctv, e2⟩
theorem CellP.slots (x : CellP c v h) (k : ∀ o, h.get? c = some o → ∃ sl, h'.get? c = some { o with slots := sl }) : CellP c v h' := by
  obtain ⟨u, r, o, e, d⟩ := x
  obtain ⟨sl2, e2⟩ := k _ e
  exact ⟨u, r, _, e2, d⟩
end
/-! ### the making -/
section
variable {X : Cx} {pins : List (Addr × Obj)} {σ : L2.St} {H : Hp} {s : Shared}
theorem inv_lam {F : LF} {t' : Nat} {pm ctv : Value} (I : Inv X pins σ H s) :
    Inv X pins σ (upd H s.heap.objs.size (LamO s.heap.objs.size F)) { s with heap := s.heap.push (PySem.W.kla_obj "<lambda>" F.qual F.params F.body F.scope F.cl pm F.c ctv), toks := t' } :=
  I.laid (a := s.heap.objs.size) (fun _ _ e => Heap.get?_push_of_some _ e) (Nat.le_refl _) (lamO_ok ⟨_, _, pm, ctv, Heap.get?_push_size _ rfl⟩)
/-- x: the reading of a lambda as a value -/
def tLamV (T : List (Addr × Str)) (mk : Addr → LF) : TE := fun _ H Q => Tabs T H ∧ ∀ mk' : Addr → LF, mk' = mk → ∀ (f c' : Addr) (H1 : Hp), ExtN H H1 → (∀ b, H1 b = none → H b = none) → Tabs T H1 → H f = none → f ≠ c' → H1 f = some (LamO f (mk' c')) → H1 c' = some (CodeO c' (mk' c').qual) → Q (.ref f) H1
theorem none_of_upd {a b : Addr} {o : HO} (e : upd H a o b = none) : H b = none := by
  by_cases q : b = a
  · subst q; rw [upd_same] at e; cases e
  · rw [upd_ne q] at e; exact e
theorem pe_lamv {T : List (Addr × Str)} {c P : Addr} {params : Arguments} {body : Expr} {scope : Scope} {pos : Pos} (TB : TabB X.base X.mg c P) (hcode : X.env.code = .ref c) (hm : (P, X.env.qual ++ "<lambda>") ∈ T) (hu : ∀ p ∈ T, p.1 = P → p.2 = X.env.qual ++ "<lambda>")
    (hdef : defaultsOf params X.env = ([], [])) (L : LamS X.env.scope scope) :
    PE X (.Lambda params body scope pos) (tLamV T fun c' => ⟨X.env.qual ++ "<lambda>", params, body, scope, cloFrom X.env.cells scope.names [], c'⟩) := by
  refine ⟨fun pins s σ H Q I h => PySem.W.kla_eval hdef ?_⟩
  obtain ⟨hT, h⟩ := h
  have clo := closure_ok (L.has I.ok)
  obtain ⟨ps, tb, ht, ha⟩ := hT _ hm
  have atP : s.heap.get? P = some { cls := .none, data := .fields ps } := I.hok P _ tb
  have blt : s.heap.BuiltinsAt X.mg P := TB.bm.keeps I.bk
  have cd := TB.code.keeps I.bk
  have gl := I.mod.glob.keeps I.bk
  cases look : codeAmong pos ps.toList with
  | some cv =>
    obtain ⟨c', rfl, hco⟩ := ha pos cv look
    refine PySem.W.kla_makeFunctionHit (mg := X.mg) (c := c) (P := P) (ps := ps) clo I.ok.glob gl hcode cd atP ht look blt fun ctv h' tk stay _ => ?_
    have J : Inv X pins σ H { s with heap := h', toks := tk } := I.kept stay
    have fr : H h'.objs.size = none := J.hok.fresh (Nat.le_refl _)
    have J2 := inv_lam (F := ⟨X.env.qual ++ "<lambda>", params, body, scope, cloFrom X.env.cells scope.names [], c'⟩) (t' := tk) (pm := (X.mg "__name__").getD .none) (ctv := ctv) J
    have up : ∀ b o, H b = some o → upd H h'.objs.size (LamO h'.objs.size ⟨X.env.qual ++ "<lambda>", params, body, scope, cloFrom X.env.cells scope.names [], c'⟩) b = some o := fun b o e => (upd_ne (ne_of_none e fr)).trans e
    exact ⟨.ref h'.objs.size, _, J2, rfl, h _ rfl h'.objs.size c' _ (ExtN.of up) (fun b e => none_of_upd e) (hT.ext up) fr (ne_of_none hco fr).symm upd_same (up _ _ hco)⟩
  | none =>
    refine PySem.W.kla_makeFunction (mg := X.mg) (c := c) (P := P) (ps := ps) clo I.ok.glob gl hcode cd atP ht look TB.gP blt fun c' ctv h' tk ext ge lt rec tab => ?_
    obtain ⟨c2, oc, vs, t, e2, q1, q2, q3⟩ := rec
    obtain rfl : c' = c2 := Value.ref.inj e2
    have nC : H c' = none := I.hok.fresh ge
    have J := inv_table (t' := tk) (more := #[rawInt pos.line, rawInt pos.col, .ref c']) (h' := h') I tb (fun b o hb e => ext b o hb e) tab ge ⟨oc, vs, t, q1, q2, q3⟩
    have hE : ExtN H (upd (upd H P (.tbl (ps ++ #[rawInt pos.line, rawInt pos.col, .ref c']))) c' (CodeO c' (X.env.qual ++ "<lambda>"))) := fun b o e n => by
      rw [upd_ne (ne_of_none e nC), upd_ne fun z => n ps (Option.some.inj (e.symm.trans (by rw [z]; exact tb)))]
      exact e
    have fr := J.hok.fresh (Nat.le_refl h'.objs.size)
    have T1 : Tabs T (upd (upd H P (.tbl (ps ++ #[rawInt pos.line, rawInt pos.col, .ref c']))) c' (CodeO c' (X.env.qual ++ "<lambda>"))) := fun p hp => by
      by_cases hb : p.1 = P
      · rw [hu p hp hb, hb]
        have tl : (ps ++ #[rawInt pos.line, rawInt pos.col, .ref c']).toList = ps.toList ++ [rawInt pos.line, rawInt pos.col, .ref c'] := by simp
        refine ⟨_, by rw [upd_ne (ne_of_none tb nC), upd_same], by rw [tl]; exact PySem.TriplesOk_snoc _ _ _ _ ht, fun p' cv hcv => ?_⟩
        rw [tl] at hcv
        rcases among_app _ ht hcv with z | z
        · obtain ⟨c0, y1, y2⟩ := ha p' cv z
          exact ⟨c0, y1, hE _ _ y2 codeO_ne⟩
        · exact ⟨c', z, upd_same⟩
      · obtain ⟨qs, y1, y2, y3⟩ := hT p hp
        refine ⟨qs, by rw [upd_ne (ne_of_none y1 nC), upd_ne hb]; exact y1, y2, fun p' cv hcv => ?_⟩
        obtain ⟨c0, z1, z2⟩ := y3 p' cv hcv
        exact ⟨c0, z1, hE _ _ z2 codeO_ne⟩
    have nn : ∀ b, upd (upd H P (.tbl (ps ++ #[rawInt pos.line, rawInt pos.col, .ref c']))) c' (CodeO c' (X.env.qual ++ "<lambda>")) b = none → H b = none := fun b e => none_of_upd (none_of_upd e)
    have hc' : upd (upd H P (.tbl (ps ++ #[rawInt pos.line, rawInt pos.col, .ref c']))) c' (CodeO c' (X.env.qual ++ "<lambda>")) c' = some (CodeO c' (X.env.qual ++ "<lambda>")) := upd_same
    have J2 := inv_lam (F := ⟨X.env.qual ++ "<lambda>", params, body, scope, cloFrom X.env.cells scope.names [], c'⟩) (t' := tk) (pm := (X.mg "__name__").getD .none) (ctv := ctv) J
    generalize upd (upd H P (.tbl (ps ++ #[rawInt pos.line, rawInt pos.col, .ref c']))) c' (CodeO c' (X.env.qual ++ "<lambda>")) = HX at J2 hE T1 fr J nn hc'
    have up : ∀ b o, HX b = some o → upd HX h'.objs.size (LamO h'.objs.size ⟨X.env.qual ++ "<lambda>", params, body, scope, cloFrom X.env.cells scope.names [], c'⟩) b = some o := fun b o e => (upd_ne (ne_of_none e fr)).trans e
    exact ⟨.ref h'.objs.size, _, J2, rfl, h _ rfl h'.objs.size c' _ (fun b o e n => up b o (hE b o e n)) (fun b e => nn b (none_of_upd e)) (T1.ext up) (I.hok.fresh (Nat.le_trans ge (Nat.le_of_lt lt))) (Nat.ne_of_gt lt) upd_same (up _ _ hc')⟩
end
/-! ### the call of a kept lambda -/
/-- the lambda F, at f, its cells fr holding ws: it does what tl says -/
structure LOk (P : Program) (w : World) (K : PySem.W.Frag) (mg : Str → Option Value) (base : Heap) (k : Nat) (f : Addr) (F : LF) (fr : List Str) (ws : List (Option V)) (tl : XK → Hp → VK → Prop) : Prop where
  run : ∀ (A : Around) (outer : List Env) (s : Shared) (H : Hp) (Q : VK) (E : XK), Room k A → Env0 P w K mg base A outer s H → LamP f F s.heap → H F.c = some (CodeO F.c F.qual) → NdefX.CellsAt F.cl fr ws s.heap H → tl E H Q →
    codeAny (model P w) A (.call (.ref f) ⟨[], []⟩) (CR (L2.CX P w) outer P w H s Q E) s
theorem LOk.mono {P : Program} {w : World} {K : PySem.W.Frag} {mg : Str → Option Value} {base : Heap} {j k : Nat} {f : Addr} {F : LF} {fr : List Str} {ws : List (Option V)} {tl : XK → Hp → VK → Prop} (o : LOk P w K mg base j f F fr ws tl) (h : j ≤ k) : LOk P w K mg base k f F fr ws tl :=
  ⟨fun A outer s H Q E hr => o.run A outer s H Q E (hr.mono h)⟩
theorem lok_of {P : Program} {w : World} {K : PySem.W.Frag} {mg : Str → Option Value} {base : Heap} {k : Nat} {f : Addr} {F : LF} {N fr : List Str} {ws : List (Option V)} {t : XK → TE} {tl : XK → Hp → VK → Prop} (S : NdefX.NScope N [] fr F.scope)
    (hbind : ∀ (pm ctv : Value), bindArgs (F.fd pm ctv) ⟨[], []⟩ = pure [])
    (hbody : ∀ (A : Around) (outer : List Env) (s : Shared) (H : Hp) (E : XK), Room k (A.deeper (NdefX.envF F.nf f s.heap.objs.size)) → PE (NdefX.ncx (L2.CX P w) P w K mg base N F.nf f A outer s H E) F.body (t E))
    (ht : ∀ E H Q, tl E H Q → t E (NdefX.startF N [] ws) H Q) : LOk P w K mg base (k + 1) f F fr ws tl := by
  refine ⟨fun A outer s H Q E hr e0 hf hc C q => ?_⟩
  have lim : s.heap.NoLimit := e0.mod.nolimit.keeps fun b o e => (e0.bs b o e).1
  obtain ⟨od, sl, pm, ctv, ho⟩ := hf
  refine PySem.W.kla_callFunE hr.depth ho rfl S.co S.gen rfl (NdefX.codeO_at e0.hok hc) ?_
  show wpAny _ _ (bindArgs (F.fd pm ctv) ⟨[], []⟩) _ _ _
  rw [hbind]
  refine wpAny_pure (wpAny_newFunctionEnv S.nocell (fun y hy => absurd hy (by simp)) (fun h₁ hns hsb => ⟨lim.fresh _ hsb, ?_⟩) S.kind)
  have kp : ∀ b o, s.heap.get? b = some o → h₁.get? b = some o := fun b o e => hsb.extBut b o (Nat.ne_of_lt (Heap.lt_size e)) (Heap.get?_push_of_some _ e)
  have J : Inv (NdefX.ncx (L2.CX P w) P w K mg base N F.nf f A outer s H E) [] (NdefX.startF N [] ws) H { s with heap := h₁, toks := s.toks + ([] : List (Str × Value)).length } :=
    NdefX.inv_startN (F := F.nf) (vs := []) (us := []) S hr.hd e0 rfl .nil C hns kp
  show codeAny _ _ (.expr F.body (NdefX.envF F.nf f s.heap.objs.size)) _ _
  refine PySem.W.kla_codeExpr (wpAny_mono ((hbody A outer s H E (hr.deeper _)).run [] _ _ H Q J (ht E H Q q)) (fun v s' hq => ?_) fun e s' hq => hq)
  obtain ⟨w', H', J', rv, q'⟩ := hq
  exact ⟨w', H', J'.os, J'.bare, J'.base, J'.hok, rv, q'⟩
/-- a kept lambda at f, in H; L: its own object and its cells -/
structure WorkAt (P : Program) (w : World) (K : PySem.W.Frag) (mg : Str → Option Value) (base : Heap) (k : Nat) (H : Hp) (f : Addr) (L : List Addr) (tl : XK → Hp → VK → Prop) : Prop where
  ex : ∃ (F : LF) (fr : List Str) (ws : List V), H f = some (LamO f F) ∧ H F.c = some (CodeO F.c F.qual) ∧ F.c ∉ L ∧ L = f :: F.cl.map (·.2) ∧ ws.length = fr.length ∧ (∀ (i : Nat) y, fr[i]? = some y → ∃ c x, F.cl.lookup y = some c ∧ ws[i]? = some x ∧ H c = some (CellO c x)) ∧
    (∀ p ∈ F.cl, ∃ i : Nat, fr[i]? = some p.1 ∧ F.cl.lookup p.1 = some p.2) ∧ (∀ x y c, F.cl.lookup x = some c → F.cl.lookup y = some c → x = y) ∧ LOk P w K mg base k f F fr (ws.map some) tl
theorem WorkAt.ext {P : Program} {w : World} {K : PySem.W.Frag} {mg : Str → Option Value} {base : Heap} {k : Nat} {H H1 : Hp} {f : Addr} {L : List Addr} {tl : XK → Hp → VK → Prop} (x : WorkAt P w K mg base k H f L tl) (e : ∀ b o, H b = some o → (∀ ps, o ≠ .tbl ps) → (∀ ys, o ≠ .lst ys) → H1 b = some o) : WorkAt P w K mg base k H1 f L tl := by
  obtain ⟨F, fr, ws, h1, h2, h3, rfl, h5, h6, h7, h8, h9⟩ := x
  refine ⟨F, fr, ws, e _ _ h1 lamO_tbl (fun ys z => by unfold LamO at z; cases z), e _ _ h2 codeO_ne (fun ys z => by unfold CodeO at z; cases z), h3, rfl, h5, fun i y hy => ?_, h7, h8, h9⟩
  obtain ⟨c, x, y1, y2, y3⟩ := h6 i y hy
  exact ⟨c, x, y1, y2, e _ _ y3 cellO_tbl (fun ys z => by unfold CellO at z; cases z)⟩
theorem WorkAt.same {P : Program} {w : World} {K : PySem.W.Frag} {mg : Str → Option Value} {base : Heap} {k : Nat} {H H1 : Hp} {f : Addr} {L : List Addr} {tl : XK → Hp → VK → Prop} (x : WorkAt P w K mg base k H f L tl) (e : Same H H1) : WorkAt P w K mg base k H1 f L tl := x.ext fun b o h _ _ => e b o h
def hideL (L : List Addr) (H : Hp) : Hp := fun b => if b ∈ L then none else H b
def showL (L : List Addr) (H H' : Hp) : Hp := fun b => if b ∈ L then H b else H' b
theorem hide_in {L : List Addr} {H : Hp} {b : Addr} (h : b ∈ L) : hideL L H b = none := if_pos h
theorem hide_out {L : List Addr} {H : Hp} {b : Addr} (h : b ∉ L) : hideL L H b = H b := if_neg h
theorem show_in {L : List Addr} {H H' : Hp} {b : Addr} (h : b ∈ L) : showL L H H' b = H b := if_pos h
theorem show_out {L : List Addr} {H H' : Hp} {b : Addr} (h : b ∉ L) : showL L H H' b = H' b := if_neg h
theorem hide_none {L : List Addr} {H : Hp} {b : Addr} (h : H b = none) : hideL L H b = none := by
  by_cases q : b ∈ L
  · exact hide_in q
  · rw [hide_out q]; exact h
theorem show_same {L : List Addr} {H H' : Hp} (e : Same (hideL L H) H') : Same H (showL L H H') := fun b o hb => by
  by_cases q : b ∈ L
  · rw [show_in q]; exact hb
  · rw [show_out q]; exact e b o (by rw [hide_out q]; exact hb)
section
variable {P : Program} {w : World} {K : PySem.W.Frag} {mg : Str → Option Value} {base : Heap} {H H' : Hp} {h h' : Heap} {L : List Addr}
/-- an entry that may be hidden -/
def Hid (b : Addr) (o : HO) : Prop := (∃ F, o = LamO b F) ∨ ∃ v, o = CellO b v
theorem hide_hok (hok : HOk P w H h) (hL : ∀ b ∈ L, ∃ o, H b = some o ∧ Hid b o) : HOk P w (hideL L H) h := fun b o e => by
  by_cases q : b ∈ L
  · rw [hide_in q] at e; cases e
  · rw [hide_out q] at e
    have nl : ∀ c (u : HO), H c = some u → (∀ F, u ≠ LamO c F) → (∀ v, u ≠ CellO c v) → c ∉ L := fun c u hc n1 n2 hm => by
      obtain ⟨o', ho', z⟩ := hL c hm
      rw [hc] at ho'
      cases ho'
      rcases z with ⟨F, z⟩ | ⟨v, z⟩
      · exact n1 F z
      · exact n2 v z
    refine (hok b o e).stay (fun c v _ z => z) (fun c z => ?_) fun c xs z => ?_
    · rw [hide_out (nl c _ z (fun F y => by unfold LamO at y; cases y) fun v y => by unfold CellO at y; cases y)]; exact z
    · rw [hide_out (nl c _ z (fun F y => by unfold LamO at y; cases y) fun v y => by unfold CellO at y; cases y)]; exact z
theorem hide_env0 {A : Around} {outer : List Env} {s : Shared} (e : Env0 P w K mg base A outer s H) (hL : ∀ b ∈ L, ∃ o, H b = some o ∧ Hid b o) : Env0 P w K mg base A outer s (hideL L H) :=
  ⟨e.frames, e.mod, fun b o h => ⟨(e.bs b o h).1, hide_none (e.bs b o h).2⟩, e.bsz, e.funs, fun b hb => hide_none (e.frf b hb), hide_hok e.hok hL, e.bare⟩
/-- behind a call with the hidden ones: they stand again -/
theorem show_ce {outer : List Env} {s s' : Shared} {Q : VK} {u : Value} (hok : HOk P w H s.heap) (hL : ∀ b ∈ L, ∃ o, H b = some o ∧ Hid b o) (c : CE outer P w (hideL L H) s (fun v H' => Q v (showL L H H')) u s') : CE outer P w H s Q u s' := by
  obtain ⟨v, H', os, bare, un, hok', r, q⟩ := c
  have there : ∀ b ∈ L, ∃ o, s.heap.get? b = some o := fun b hb => by
    obtain ⟨o, ho, z⟩ := hL b hb
    rcases z with ⟨F, rfl⟩ | ⟨x, rfl⟩
    · obtain ⟨_, _, _, _, e⟩ := lamO_at hok ho
      exact ⟨_, e⟩
    · obtain ⟨_, _, o, e, _⟩ := cellO_at hok ho
      exact ⟨o, e⟩
  have any : ∀ b ∈ L, ∀ o, s.heap.get? b = some o → ∃ sl, s'.heap.get? b = some { o with slots := sl } := fun b hb o e => un.any e (hide_in hb) (by simp)
  have nL : ∀ b ∈ L, H' b = none := fun b hb => by
    obtain ⟨o, e⟩ := there b hb
    exact un.free b o e (hide_in hb) (by simp)
  have out : ∀ {b : Addr} {o : HO}, H' b = some o → b ∉ L := fun {b o} e hm => by rw [nL b hm] at e; cases e
  have nl : ∀ c (u : HO), H c = some u → (∀ F, u ≠ LamO c F) → (∀ v, u ≠ CellO c v) → c ∉ L := fun c u hc n1 n2 hm => by
    obtain ⟨o', ho', z⟩ := hL c hm
    rw [hc] at ho'
    cases ho'
    rcases z with ⟨F, z⟩ | ⟨v, z⟩
    · exact n1 F z
    · exact n2 v z
  refine ⟨v, showL L H H', os, bare, ⟨fun b o e n hf hx => un.keep b o e (hide_none n) hf hx, fun b o e n hf hx => un.slot b o e (hide_none n) hf hx, fun b o e n hx => ?_, un.there, fun b xs e => ?_, fun b o u e => ?_, fun b ps e => ?_⟩, fun b o e => ?_, r, q⟩
  · by_cases hb : b ∈ L
    · rw [show_in hb]; exact n
    · rw [show_out hb]; exact un.free b o e (hide_none n) hx
  · have hb := nl b _ e (fun F y => by unfold LamO at y; cases y) fun v y => by unfold CellO at y; cases y
    rw [show_out hb]; exact un.tups b xs (by rw [hide_out hb]; exact e)
  · have hb := nl b _ e (fun F y => by unfold LamO at y; cases y) fun v y => by unfold CellO at y; cases y
    rw [show_out hb]; exact un.frzs b o u (by rw [hide_out hb]; exact e)
  · have hb := nl b _ e (fun F y => by unfold LamO at y; cases y) fun v y => by unfold CellO at y; cases y
    rw [show_out hb]; exact un.tbls b ps (by rw [hide_out hb]; exact e)
  · by_cases hb : b ∈ L
    · rw [show_in hb] at e
      obtain ⟨o', ho', z⟩ := hL b hb
      rw [e] at ho'
      cases ho'
      rcases z with ⟨F, rfl⟩ | ⟨x, rfl⟩
      · exact lamO_ok ((lamO_at hok e).slots (any b hb))
      · exact cellO_ok ((cellO_at hok e).slots (any b hb))
    · rw [show_out hb] at e
      exact (hok' b o e).stay (fun c v _ z => z) (fun c z => by rw [show_out (out z)]; exact z) fun c xs z => by rw [show_out (out z)]; exact z
end
theorem mem_lk {cl : List (Str × Addr)} {y : Str} {c : Addr} (h : cl.lookup y = some c) : c ∈ cl.map (·.2) := List.mem_map.mpr ⟨(y, c), PySem.mem_of_lookup h, rfl⟩
theorem WorkAt.hid {P : Program} {w : World} {K : PySem.W.Frag} {mg : Str → Option Value} {base : Heap} {k : Nat} {H : Hp} {f : Addr} {L : List Addr} {tl : XK → Hp → VK → Prop} (x : WorkAt P w K mg base k H f L tl) : ∀ b ∈ L, ∃ o, H b = some o ∧ Hid b o := by
  obtain ⟨F, fr, ws, h1, h2, h3, rfl, h5, h6, h7, h8, h9⟩ := x
  intro b hb
  rcases List.mem_cons.mp hb with rfl | hb
  · exact ⟨_, h1, .inl ⟨F, rfl⟩⟩
  · obtain ⟨p, hp, rfl⟩ := List.mem_map.mp hb
    obtain ⟨i, q1, q2⟩ := h7 p hp
    obtain ⟨c, x, y1, y2, y3⟩ := h6 i _ q1
    rw [q2] at y1
    cases y1
    exact ⟨_, y3, .inr ⟨x, rfl⟩⟩
/-- a(), in the def that got the lambda at f -/
theorem pe_actv {P : Program} {w : World} {K : PySem.W.Frag} {mg : Str → Option Value} {base : Heap} {CXg : CXT} {Eg : XK} {Ng : List Str} {qg : Str} {sg : Scope} {g f : Addr} {cdg : Value} {k i : Nat} {a : Str} {pn : List (Addr × Obj)} {xe : Value → Shared → Prop} {W : WX} {E : XK} {A0 : Around} {outer : List Env} {s : Shared} {H : Hp}
    {F : LF} {fr : List Str} {ws : List (Option V)} {tl : XK → Hp → VK → Prop} {p1 p2 : Pos} (o : LOk P w K mg base k f F fr ws tl) (hf : LamP f F s.heap) (hfn : H f = none) (C : NdefX.CellsAt F.cl fr ws s.heap H)
    (tk : Takes ((cxOf CXg P w K mg base Ng qg sg g cdg A0 outer s H Eg).tr pn xe) W) (hW : ∀ cls d σ' H', E cls d H' → W cls d σ' H') (hr : Room k (A0.deeper (envOfC qg sg s.heap.objs.size g cdg)))
    (hN : Ng[i]? = some a) (hv : Vis sg a) (hd : (a == ("__debug__" : Str)) = false := by decide) (hcd : (a == ("__classdict__" : Str)) = false := by decide) :
    PE ((cxOf CXg P w K mg base Ng qg sg g cdg A0 outer s H Eg).tr pn xe) (.Call (.Name a p1) [] [] p2) (fun σZ HZ Q => σZ[i]? = some (some (.ref f)) ∧ HZ F.c = some (CodeO F.c F.qual) ∧ tl E HZ Q) := by
  refine ⟨fun pinsZ sZ σZ HZ Q IZ h => ?_⟩
  obtain ⟨hs, hc, ht⟩ := h
  refine wpAny_Call_Name_kw (thn ((pe_var (pos := p1) (i := i) hN hv hd hcd).run pinsZ sZ σZ HZ (fun v H1 => v = .ref f ∧ H1 = HZ) IZ ⟨.ref f, hs, rfl, rfl⟩) fun u s1 hh => ?_)
  obtain ⟨v, H1, I1, r1, rfl, rfl⟩ := hh
  obtain rfl : u = Value.ref f := r1
  have un : Un (cxOf CXg P w K mg base Ng qg sg g cdg A0 outer s H Eg).fs [] H H1 s.heap s1.heap := I1.base
  have hf1 : LamP f F s1.heap := hf.slots fun o e => un.any e hfn (by simp)
  have cellK : ∀ {c : Addr} {v : Option Value}, H c = none → s.heap.IsCell c v → s1.heap.IsCell c v := fun {c v} n z => by
    obtain ⟨o, ho, hd⟩ := z
    obtain ⟨sl, q⟩ := un.any ho n (by simp)
    exact ⟨_, q, hd⟩
  have C1 : NdefX.CellsAt F.cl fr ws s1.heap H1 := by
    refine ⟨C.len, fun y c e => ?_, C.inj, fun j y e => ?_⟩
    · obtain ⟨n, v, z⟩ := C.all y c e
      refine ⟨?_, v, cellK n z⟩
      obtain ⟨o, ho, _⟩ := z
      exact un.free c o ho n (by simp)
    · obtain ⟨c, hc, hv⟩ := C.has j y e
      refine ⟨c, hc, fun v ev => ?_⟩
      obtain ⟨u, r, z⟩ := hv v ev
      exact ⟨u, r, cellK (C.all y c hc).1 z⟩
  obtain ⟨od, sl, pm, ctv, of1⟩ := id hf1
  refine PySem.W.callWith_F0 ⟨_, _, _, _, of1⟩ ?_
  have hx : Passes (L2.CX P w) ((cxOf CXg P w K mg base Ng qg sg g cdg A0 outer s H Eg).tr pn xe) E := passes_call tk hW
  refine wpAny_call (codeAny_mono (o.run _ _ s1 H1 Q E hr I1.env0 hf1 hc C1 ht) fun r s' hq => ?_)
  cases r with
  | error e => exact hx pinsZ σZ H1 s1 e s' I1 hq
  | ok fl =>
    cases fl with
    | ret u => exact I1.after hq
    | next => exact False.elim hq
    | brk => exact False.elim hq
    | cont => exact False.elim hq
section
variable {X : Cx}
/-- x(y), y a name that holds a kept lambda -/
def tKindV (P : Program) (w : World) (K : PySem.W.Frag) (mg : Str → Option Value) (base : Heap) (k i : Nat) (TT : (XK → Hp → VK → Prop) → Hp → VK → Prop) : TE := fun σ H Q => ∃ (f : Addr) (L : List Addr) (tl : XK → Hp → VK → Prop), σ[i]? = some (some (.ref f)) ∧ WorkAt P w K mg base k H f L tl ∧ TT tl (hideL L H) fun v H' => Q v (showL L H H')
theorem pe_kindv {TT : (XK → Hp → VK → Prop) → Hp → VK → Prop} {x a y : Str} {g : Addr} {k i : Nat} {pg : Arguments} {bg : List Stmt} {sg : Scope} {dV kV doc pm cdv ct oc : Value} {an od : Option Addr} {osl : Array (Option Value)} {Ng : List Str}
    {p py pos : Pos} (hg : Gl X x) (hm : X.mg x = some (.ref g)) (hk : PySem.W.keepIn X.K (.ref g) = true)
    (lk : X.K.lookup g = some ⟨oc, od, .func (PySem.W.fnOf x x pg bg sg dV kV doc pm an cdv ct), osl⟩) (hcg : PySem.W.codeIn X.K cdv x = true) (hb : L2.Binds X.K (PySem.W.fnOf x x pg bg sg dV kV doc pm an cdv ct) [a] []) (Sg : FnScope Ng [a] sg) (hNg : Ng[0]? = some a) (hva : Vis sg a)
    (hG : ∀ q, GivesTo X Ng x sg g cdv bg a q TT) (hr : Room (k + 1) X.A) (hN : X.N[i]? = some y) (hv : Vis X.env.scope y)
    (hdb : (x == ("__debug__" : Str)) = false := by decide) (hd : (a == ("__debug__" : Str)) = false := by decide) (hcd : (a == ("__classdict__" : Str)) = false := by decide) (hd2 : (y == ("__debug__" : Str)) = false := by decide) (hcd2 : (y == ("__classdict__" : Str)) = false := by decide) :
    PE X (.Call (.Name x p) [.Name y py] [] pos) (tKindV X.prog X.w X.K X.mg X.base k i TT) := by
  refine ⟨fun pins s σ H Q I h => ?_⟩
  obtain ⟨f, L, tl, hs, Wk, hT⟩ := h
  refine wpAny_Call_Name_kw (ld_glob I hg hm ?_ hdb)
  refine PySem.W.callWith_K (h₀ := X.base) I.ok.mod.kin hk ?_ (by rfl) (by rfl)
  show wpAny _ _ (spliced ((false, eval (.Name y py) X.env) :: backTo pos (starEach [] X.env))) _ _ _
  refine Calls.spliced_cons (thn ((pe_var (pos := py) (i := i) hN hv hd2 hcd2).run pins _ σ H (fun v H1 => v = .ref f ∧ H1 = H) (by first | exact I | exact I.tok _) ⟨.ref f, hs, rfl, rfl⟩) fun u s1 hh => ?_)
  obtain ⟨v, H1, I1, r1, rfl, rfl⟩ := hh
  obtain rfl : u = Value.ref f := r1
  refine Calls.spliced_nil ⟨I1.kIn, ?_⟩
  have hid := Wk.hid
  obtain ⟨F, fr, ws, h1, h2, h3, rfl, h5, h6, h7, h8, h9⟩ := Wk
  have C : NdefX.CellsAt F.cl fr (ws.map some) s1.heap (hideL (f :: F.cl.map (·.2)) H1) := by
    have cell : ∀ {y c x}, F.cl.lookup y = some c → H1 c = some (CellO c x) → ∃ u, RelV x u ∧ s1.heap.IsCell c (some u) := fun {y c x} e z => cellO_at I1.hok z
    refine ⟨by rw [List.length_map]; exact h5, fun y c e => ⟨hide_in (List.mem_cons_of_mem _ (mem_lk e)), ?_⟩, h8, fun j y e => ?_⟩
    · obtain ⟨j, q1, q2⟩ := h7 (y, c) (PySem.mem_of_lookup e)
      obtain ⟨c2, x, y1, y2, y3⟩ := h6 j _ q1
      rw [e] at y1
      cases y1
      obtain ⟨u, _, z⟩ := cell e y3
      exact ⟨_, z⟩
    · obtain ⟨c, x, y1, y2, y3⟩ := h6 j y e
      refine ⟨c, y1, fun v ev => ?_⟩
      rw [List.getElem?_map, y2] at ev
      cases ev
      exact cell y1 y3
  have rc : codeAny (model X.prog X.w) X.A (.call (.ref g) ⟨[.ref f], []⟩) (CR C8.CX0 X.stack X.prog X.w (hideL (f :: F.cl.map (·.2)) H1) s1 (fun v H' => Q v (showL (f :: F.cl.map (·.2)) H1 H')) C8.E0) s1 := by
    refine run_ofS (N := Ng) (ps := [a]) (us := [.ref f]) (vs := [.ref f]) lk hcg Sg hr (hide_env0 I1.env0 hid) (hb s1 [.ref f] I1.kIn rfl) (.cons rfl .nil) rfl fun hr' => ?_
    obtain ⟨t', ht', hq'⟩ := hG F.qual f F.c s1 (hideL (f :: F.cl.map (·.2)) H1) _ tl (fun W pn xe E p1 p2 tk hW => pe_actv (i := 0) h9 (lamO_at I1.hok h1) (hide_in List.mem_cons_self) C tk hW hr' hNg hva hd hcd) (by rw [hide_out h3]; exact h2) hT
    exact ⟨t', ht'.nox, hq'⟩
  refine wpAny_call (codeAny_mono rc fun r s2 hq => ?_)
  cases r with
  | error e => exact (show False from hq).elim
  | ok fl =>
    cases fl with
    | ret u => exact I1.after (show_ce I1.hok hid hq)
    | next => exact False.elim hq
    | brk => exact False.elim hq
    | cont => exact False.elim hq
end
/-! ### a def that tells what its cells hold at its end -/
/-- a body that ends by a return; R: what is told of its value, the slots and the heap then -/
def PB (X : Cx) (st : List Stmt) (t : (V → L2.St → Hp → Prop) → L2.St → Hp → Prop) : Prop := ∀ (pins : List (Addr × Obj)) (s : Shared) (σ : L2.St) (H : Hp) (R : V → L2.St → Hp → Prop), Inv X pins σ H s → t R σ H →
  wpAny (model X.prog X.w) X.A (execs st X.env) (fun fl s' => ∃ (u : Value) (v : V) (σ' : L2.St) (H' : Hp), fl = .ret u ∧ Inv X pins σ' H' s' ∧ RelV v u ∧ R v σ' H') X.xe s
theorem pb_cons {X : Cx} {st : Stmt} {rest : List Stmt} {t : L2.TS} {u : (V → L2.St → Hp → Prop) → L2.St → Hp → Prop} (h1 : PS X st t) (h2 : PB X rest u) : PB X (st :: rest) (fun R σ H => t { nx := u R, rt := fun _ _ => False } σ H) := by
  intro pins s σ H R I h
  refine wpAny_execs_cons (thn (h1.run pins s σ H _ I h) fun f s1 q => ?_)
  cases f with
  | next =>
    obtain ⟨σ', H', I', q⟩ := q
    exact h2 pins s1 σ' H' R I' q
  | ret v => obtain ⟨_, _, _, _, _, z⟩ := q; exact z.elim
  | brk => obtain ⟨_, _, _, z⟩ := q; exact False.elim z
  | cont => obtain ⟨_, _, _, z⟩ := q; exact False.elim z
theorem pb_ret {X : Cx} {e : Expr} {te : TE} {pos : Pos} (he : PE X e te) : PB X [.Return (some e) pos] (fun R σ H => te σ H fun v H' => R v σ H') := by
  intro pins s σ H R I h
  refine wpAny_execs_cons (wpAny_Return_some (thn (he.run pins s σ H _ I h) fun u s1 hh => ?_))
  obtain ⟨v, H1, I1, r1, q1⟩ := hh
  exact ⟨u, v, σ, H1, rfl, I1, r1, q1⟩
theorem lk_mem : ∀ {l : List (Addr × V)} {b : Addr} {v : V}, l.lookup b = some v → (b, v) ∈ l
  | [], _, _, h => by cases h
  | (c, x) :: l, b, v, h => by
    by_cases e : b = c
    · subst e
      rw [List.lookup_cons, beq_self_eq_true] at h
      cases h
      exact List.mem_cons_self
    · rw [List.lookup_cons, beq_eq_false_iff_ne.mpr e] at h
      exact List.mem_cons_of_mem _ (lk_mem h)
def addC (CS : List (Addr × V)) (H : Hp) : Hp := fun b => match CS.lookup b with
  | some v => some (CellO b v)
  | none => H b
theorem addC_in {CS : List (Addr × V)} {H : Hp} {b : Addr} {v : V} (h : CS.lookup b = some v) : addC CS H b = some (CellO b v) := by unfold addC; rw [h]
theorem addC_out {CS : List (Addr × V)} {H : Hp} {b : Addr} (h : CS.lookup b = none) : addC CS H b = H b := by unfold addC; rw [h]
/-- the cells of a def's frame, entered at s -/
abbrev frameCells (n : Nat) (scope : Scope) : List (Str × Addr) := cellsFrom (n + 1) scope.names []
theorem fn_ofC {CX : CXT} {P : Program} {w : World} {K : PySem.W.Frag} {mg : Str → Option Value} {base : Heap} {k : Nat} {f : Addr} {name qual : Str} {params : Arguments} {body : List Stmt} {scope : Scope} {dV kV doc pm cdv ct oc : Value} {an od : Option Addr}
    {osl : Array (Option Value)} {N ps : List Str} {sp : Sp} (lk : K.lookup f = some ⟨oc, od, .func (PySem.W.fnOf name qual params body scope dV kV doc pm an cdv ct), osl⟩) (hcd : PySem.W.codeIn K cdv qual = true) (S : FnScope N ps scope) (hlen : ∀ vs H Q E, sp vs H Q E → vs.length = ps.length)
    (hbody : ∀ (A : Around) (outer : List Env) (s : Shared) (H : Hp) (vs : List V) (Q : VK) (E : XK), Room k (A.deeper (envOfC qual scope s.heap.objs.size f cdv)) → sp vs H Q E → (∀ b, s.heap.objs.size ≤ b → H b = none) →
      ∃ t, PB (cxOf CX P w K mg base N qual scope f cdv A outer s H E) body t ∧ t (fun v σ' H' => ∃ CS : List (Addr × V), (∀ p ∈ CS, ∃ (j : Nat) (x : Str), N[j]? = some x ∧ σ'[j]? = some (some p.2) ∧ scope.names.lookup x = some .cell ∧ (frameCells s.heap.objs.size scope).lookup x = some p.1) ∧ ((∀ p ∈ CS, H' p.1 = none) → Q v (addC CS H'))) (L2.start N vs) H) :
    FnOk P w K mg base CX (k + 1) f (PySem.W.fnOf name qual params body scope dV kV doc pm an cdv ct) ps sp := by
  refine ⟨hlen, fun A outer s H args us vs Q E hr e0 hb r hsp => ?_⟩
  have hl := hlen _ _ _ _ hsp
  have stay : ∀ b o, base.get? b = some o → s.heap.get? b = some o := fun b o e => (e0.bs b o e).1
  have KX : K.In s.heap := e0.mod.kin.keeps stay
  have lim : s.heap.NoLimit := e0.mod.nolimit.keeps stay
  have kinds : ∀ y ∈ ps.zip us, scope.names.lookup y.1 = some .local ∨ (scope.names.lookup y.1 = some .cell ∧ ((cellsFrom (s.heap.objs.size + 1) scope.names []).lookup y.1).isSome = true) := fun y hy => by
    rcases S.par y.1 (List.of_mem_zip hy).1 with q | q
    · exact .inl q
    · exact .inr ⟨q, PySem.W.cellsFrom_some _ _ _ (.inl q)⟩
  refine codeAny_call_function hr.depth (KX _ _ lk) rfl S.co S.gen rfl (PySem.W.codeRec_of KX hcd) (hb _ _ _ _ ?_)
  refine wpAny_newFunctionEnv_cells S.kind kinds fun env he s1 x => ?_
  subst he
  refine ⟨lim.keeps x.toInCall.keep, codeAny_func ?_⟩
  obtain ⟨t, ht, hq⟩ := hbody A outer s H vs Q E (hr.deeper _) hsp (fun b hb => e0.hok.fresh hb)
  have I : Inv (cxOf CX P w K mg base N qual scope f cdv A outer s H E) [] (L2.start N vs) H s1 := inv_start S hr.hd e0 hl r x
  refine wpAny_mono (ht [] s1 (L2.start N vs) H _ I hq) (fun fl s' hs => ?_) fun e s' hs => hs
  obtain ⟨u, v, σ', H', rfl, J, rv, CS, hCS, q⟩ := hs
  have known : ∀ {b : Addr} {v : V}, CS.lookup b = some v → H' b = none ∧ s.heap.objs.size ≤ b ∧ CellP b v s'.heap := fun {b v} e => by
    have hm : (b, v) ∈ CS := lk_mem e
    obtain ⟨j, x, q1, q2, q3, q4⟩ := hCS _ hm
    have lkc : (cxOf CX P w K mg base N qual scope f cdv A outer s H E).env.cells.lookup x = some b := q4
    refine ⟨J.freeC x b lkc, J.ok.cab x b rfl lkc, ?_⟩
    obtain ⟨m, _, hl⟩ := J.loc
    obtain ⟨u', r', l⟩ := hl j x v q1 q2 (.inr (.inl q3))
    rcases l with ⟨z, _⟩ | ⟨_, b', hb', hc⟩
    · have z' : scope.names.lookup x = some .local := z
      rw [q3] at z'
      cases z'
    · rw [lkc] at hb'
      cases hb'
      exact ⟨u', r', hc⟩
  have nC : ∀ p ∈ CS, H' p.1 = none := fun p hm => by
    obtain ⟨j, x, _, _, _, q4⟩ := hCS _ hm
    have lkc : (cxOf CX P w K mg base N qual scope f cdv A outer s H E).env.cells.lookup x = some p.1 := q4
    exact J.freeC x p.1 lkc
  have out : ∀ {b : Addr} {o : HO}, H' b = some o → CS.lookup b = none := fun {b o} e => by
    cases z : CS.lookup b with
    | none => rfl
    | some v => rw [(known z).1] at e; cases e
  have base' : Un (frs outer) [] H H' s.heap s'.heap := J.base
  refine ⟨v, addC CS H', J.os, J.bare, ⟨base'.keep, base'.slot, fun b o e n hx => ?_, base'.there, fun b xs e => ?_, fun b o u e => ?_, fun b qs e => ?_⟩, fun b o e => ?_, rv, q nC⟩
  · have z : CS.lookup b = none := by
      cases z : CS.lookup b with
      | none => rfl
      | some v => exact absurd (Heap.lt_size e) (Nat.not_lt.mpr (known z).2.1)
    rw [addC_out z]
    exact base'.free b o e n hx
  · rw [addC_out (out (base'.tups b xs e))]; exact base'.tups b xs e
  · rw [addC_out (out (base'.frzs b o u e))]; exact base'.frzs b o u e
  · obtain ⟨more, z⟩ := base'.tbls b qs e
    exact ⟨more, by rw [addC_out (out z)]; exact z⟩
  · cases z : CS.lookup b with
    | some v =>
      rw [addC_in z] at e
      cases e
      exact cellO_ok (known z).2.2
    | none =>
      rw [addC_out z] at e
      exact (J.hok b o e).stay (fun c v _ z => z) (fun c z => by rw [addC_out (out z)]; exact z) fun c xs z => by rw [addC_out (out z)]; exact z
theorem addC_some {CS : List (Addr × V)} {H' : Hp} (nC : ∀ p ∈ CS, H' p.1 = none) {b : Addr} {o : HO} (h : H' b = some o) : addC CS H' b = some o := by
  have z : CS.lookup b = none := by
    cases z : CS.lookup b with
    | none => rfl
    | some v => rw [nC _ (lk_mem z)] at h; cases h
  rw [addC_out z]; exact h
theorem lamO_lst {f : Addr} {F : LF} (ys : List V) : LamO f F ≠ .lst ys := fun z => by unfold LamO at z; cases z
theorem codeO_lst {c : Addr} {q : Str} (ys : List V) : CodeO c q ≠ .lst ys := fun z => by unfold CodeO at z; cases z
theorem upd_lst {H : Hp} {p b : Addr} {xs : List V} {o u : HO} (hp : H p = some (.lst xs)) (hb : H b = some u) (hn : ∀ ys, u ≠ .lst ys) : upd H p o b = some u := by
  have ne : b ≠ p := fun z => by
    rw [z, hp] at hb
    exact hn xs (Option.some.inj hb).symm
  rw [upd_ne ne]
  exact hb
def lamQn (x : Str) : Str := x ++ ".<locals>." ++ "<lambda>"
theorem lk_at : ∀ {xs : List (Str × Addr × V)} {i : Nat} {x : Str × Addr × V}, (xs.map (·.1)).Nodup → xs[i]? = some x → (xs.map fun y : Str × Addr × V => (y.1, y.2.1)).lookup x.1 = some x.2.1
  | y :: xs, 0, x, _, h => by
    cases h
    simp [List.lookup]
  | y :: xs, i + 1, x, nd, h => by
    have h' : xs[i]? = some x := h
    have nd' := List.nodup_cons.mp nd
    have ne : x.1 ≠ y.1 := fun e => nd'.1 (List.mem_map.mpr ⟨x, List.mem_of_getElem? h', e⟩)
    have ih := lk_at nd'.2 h'
    rw [List.map_cons, List.lookup_cons, beq_eq_false_iff_ne.mpr ne]
    exact ih
/-- a lambda as the rule that makes it tells it -/
theorem work_of {P : Program} {w : World} {K : PySem.W.Frag} {mg : Str → Option Value} {base : Heap} {k : Nat} {H : Hp} {f : Addr} {F : LF} {tl : XK → Hp → VK → Prop} (xs : List (Str × Addr × V)) (h1 : H f = some (LamO f F)) (h2 : H F.c = some (CodeO F.c F.qual)) (h3 : f ≠ F.c)
    (hcl : F.cl = xs.map fun x => (x.1, x.2.1)) (hn : (xs.map (·.1)).Nodup) (hc : (xs.map (·.2.1)).Nodup) (hcell : ∀ x ∈ xs, H x.2.1 = some (CellO x.2.1 x.2.2)) (hco : ∀ x ∈ xs, F.c ≠ x.2.1) (ok : LOk P w K mg base k f F (xs.map (·.1)) (xs.map fun x => some x.2.2) tl) :
    WorkAt P w K mg base k H f (f :: xs.map (·.2.1)) tl := by
  have cm : ∀ p ∈ F.cl, ∃ (i : Nat) (x : Str × Addr × V), xs[i]? = some x ∧ p = (x.1, x.2.1) := fun p hp => by
    rw [hcl] at hp
    obtain ⟨x, hx, rfl⟩ := List.mem_map.mp hp
    obtain ⟨i, hi⟩ := List.mem_iff_getElem?.mp hx
    exact ⟨i, x, hi, rfl⟩
  refine ⟨F, xs.map (·.1), xs.map (·.2.2), h1, h2, fun hm => ?_, by rw [hcl, List.map_map]; rfl, by rw [List.length_map, List.length_map], fun i y hy => ?_, fun p hp => ?_, fun x y c e1 e2 => ?_, by rw [List.map_map]; exact ok⟩
  · rcases List.mem_cons.mp hm with z | z
    · exact h3 z.symm
    · obtain ⟨x, hx, e⟩ := List.mem_map.mp z
      exact hco x hx e.symm
  · rw [List.getElem?_map] at hy
    obtain ⟨x, hx, rfl⟩ := Option.map_eq_some_iff.mp hy
    exact ⟨x.2.1, x.2.2, by rw [hcl]; exact lk_at hn hx, by rw [List.getElem?_map, hx]; rfl, hcell x (List.mem_of_getElem? hx)⟩
  · obtain ⟨i, x, hx, rfl⟩ := cm p hp
    exact ⟨i, by rw [List.getElem?_map, hx]; rfl, by rw [hcl]; exact lk_at hn hx⟩
  · obtain ⟨i, x1, hx1, q1⟩ := cm _ (PySem.mem_of_lookup e1)
    obtain ⟨j, x2, hx2, q2⟩ := cm _ (PySem.mem_of_lookup e2)
    cases q1
    have e : x1.2.1 = x2.2.1 := congrArg Prod.snd q2
    have hij : i = j := by
      have a1 : (xs.map (·.2.1))[i]? = some x1.2.1 := by rw [List.getElem?_map, hx1]; rfl
      have a2 : (xs.map (·.2.1))[j]? = some x1.2.1 := by rw [List.getElem?_map, hx2, e]; rfl
      exact nd_ix hc a1 a2
    subst hij
    rw [hx1] at hx2
    cases hx2
    exact (congrArg Prod.fst q2).symm
theorem sq_hide {P : Program} {w : World} {K : PySem.W.Frag} {mg : Str → Option Value} {base : Heap} {k : Nat} {H : Hp} {f l : Addr} {L : List Addr} {tl : XK → Hp → VK → Prop} {xs : List V} (x : WorkAt P w K mg base k H f L tl) (h : SqL K H l xs) : SqL K (hideL L H) l xs := by
  have nl : ∀ o, H l = some o → (∀ F, o ≠ LamO l F) → (∀ v, o ≠ CellO l v) → hideL L H l = some o := fun o ho n1 n2 => by
    rw [hide_out fun hm => ?_]
    · exact ho
    · obtain ⟨o', ho', z⟩ := x.hid l hm
      rw [ho] at ho'
      cases ho'
      rcases z with ⟨F, z⟩ | ⟨v, z⟩
      · exact n1 F z
      · exact n2 v z
  rcases h with (h | ⟨o, h⟩) | h
  · exact .inl (.inl (nl _ h (fun F z => by unfold LamO at z; cases z) fun v z => by unfold CellO at z; cases z))
  · exact .inl (.inr ⟨o, nl _ h (fun F z => by unfold LamO at z; cases z) fun v z => by unfold CellO at z; cases z⟩)
  · exact .inr h
theorem lk_nth : ∀ {CS : List (Addr × V)} {i : Nat} {c : Addr} {v : V}, (CS.map (·.1)).Nodup → CS[i]? = some (c, v) → CS.lookup c = some v
  | y :: CS, 0, c, v, _, h => by
    cases h
    simp [List.lookup]
  | y :: CS, i + 1, c, v, nd, h => by
    have h' : CS[i]? = some (c, v) := h
    have nd' := List.nodup_cons.mp nd
    have ne : c ≠ y.1 := fun e => nd'.1 (List.mem_map.mpr ⟨(c, v), List.mem_of_getElem? h', e⟩)
    have ih := lk_nth nd'.2 h'
    rw [List.lookup_cons, beq_eq_false_iff_ne.mpr ne]
    exact ih
/-- pe_kindv, the written part said -/
theorem pe_kindvK (P : Program) (w : World) (K : PySem.W.Frag) (mg : Str → Option Value) (base : Heap) {X : Cx} {TT : (XK → Hp → VK → Prop) → Hp → VK → Prop} {x a y : Str} {g : Addr} {k i : Nat} {pg : Arguments} {bg : List Stmt} {sg : Scope} {dV kV doc pm cdv ct oc : Value} {an od : Option Addr} {osl : Array (Option Value)} {Ng : List Str}
    {p py pos : Pos} (hg : Gl X x) (hm : mg x = some (.ref g)) (hk : PySem.W.keepIn K (.ref g) = true)
    (lk : K.lookup g = some ⟨oc, od, .func (PySem.W.fnOf x x pg bg sg dV kV doc pm an cdv ct), osl⟩) (hcg : PySem.W.codeIn K cdv x = true) (hb : L2.Binds K (PySem.W.fnOf x x pg bg sg dV kV doc pm an cdv ct) [a] []) (Sg : FnScope Ng [a] sg) (hNg : Ng[0]? = some a) (hva : Vis sg a)
    (hG : ∀ q, GivesTo X Ng x sg g cdv bg a q TT) (hr : Room (k + 1) X.A) (hN : X.N[i]? = some y) (hv : Vis X.env.scope y)
    (h1 : X.prog = P := by rfl) (h2 : X.w = w := by rfl) (h3 : X.K = K := by rfl) (h4 : X.mg = mg := by rfl) (h5 : X.base = base := by rfl)
    (hdb : (x == ("__debug__" : Str)) = false := by decide) (hd : (a == ("__debug__" : Str)) = false := by decide) (hcd : (a == ("__classdict__" : Str)) = false := by decide) (hd2 : (y == ("__debug__" : Str)) = false := by decide) (hcd2 : (y == ("__classdict__" : Str)) = false := by decide) :
    PE X (.Call (.Name x p) [.Name y py] [] pos) (tKindV P w K mg base k i TT) := by
  subst h1 h2 h3 h4 h5
  exact pe_kindv hg hm hk lk hcg hb Sg hNg hva hG hr hN hv hdb hd hcd hd2 hcd2
/-! ### arcs -/
/-- how often place t is met by m steps from s around b -/
def arc (b s : Nat) : Nat → Nat → Nat
  | 0, _ => 0
  | m + 1, t => arc b s m t + if (s + m) % b = t then 1 else 0
theorem arc_add (b s m1 : Nat) (t : Nat) : ∀ m2, arc b s (m1 + m2) t = arc b s m1 t + arc b (s + m1) m2 t
  | 0 => rfl
  | m2 + 1 => by
    rw [Nat.add_succ, arc, arc, arc_add b s m1 t m2, Nat.add_assoc s m1 m2]; omega
theorem arc_mod {b : Nat} (s t : Nat) : ∀ m, arc b (s % b) m t = arc b s m t
  | 0 => rfl
  | m + 1 => by
    rw [arc, arc, arc_mod s t m, Nat.mod_add_mod]
theorem zsum : ∀ n : Nat, ((List.range n).map fun _ => (0 : Nat)).sum = 0
  | 0 => rfl
  | n + 1 => by rw [List.range_succ, List.map_append, List.sum_append, zsum n]; rfl
theorem arc_sum {b : Nat} (hb : 0 < b) (s : Nat) : ∀ m, ((List.range b).map (arc b s m)).sum = m
  | 0 => by
    exact zsum b
  | m + 1 => by
    have h : ∀ n, ((List.range n).map (arc b s (m + 1))).sum = ((List.range n).map (arc b s m)).sum + if (s + m) % b < n then 1 else 0 := fun n => by
      induction n with
      | zero => simp
      | succ n ih =>
        rw [List.range_succ, List.map_append, List.sum_append, ih, List.map_append, List.sum_append]
        simp only [List.map_cons, List.map_nil, List.sum_cons, List.sum_nil, arc]
        split <;> split <;> split <;> omega
    rw [h b, arc_sum hb s m, if_pos (Nat.mod_lt _ hb)]
theorem arc_zero {b s t m : Nat} (h : ∀ k, k < m → (s + k) % b ≠ t) : arc b s m t = 0 := by
  induction m with
  | zero => rfl
  | succ m ih => rw [arc, ih fun k hk => h k (by omega), if_neg (h m (by omega))]
theorem arc_le {b s t : Nat} (hb : 0 < b) : ∀ {m : Nat}, m ≤ b → arc b s m t ≤ 1
  | 0, _ => Nat.zero_le _
  | m + 1, h => by
    rw [arc]
    by_cases c : (s + m) % b = t
    · rw [if_pos c, arc_zero fun k hk e => ?_]
      · exact Nat.le_refl _
      · rw [← e] at c
        have h1 := Nat.div_add_mod (s + m) b
        have h2 := Nat.div_add_mod (s + k) b
        rw [c] at h1
        have h3 : b * ((s + m) / b) + (s + k) = b * ((s + k) / b) + (s + m) := by omega
        have h4 : (s + k) / b ≤ (s + m) / b := Nat.div_le_div_right (by omega)
        obtain ⟨d, hd⟩ : ∃ d, (s + m) / b = (s + k) / b + d := ⟨(s + m) / b - (s + k) / b, by omega⟩
        rw [hd, Nat.mul_add] at h3
        have h5 : m = k + b * d := by omega
        cases d with
        | zero => omega
        | succ d => rw [Nat.mul_succ] at h5; omega
    · rw [if_neg c]
      exact arc_le hb (by omega)
theorem arc_full {b : Nat} (hb : 0 < b) {t : Nat} (ht : t < b) : ∀ m, arc b 0 m t = m / b + if t < m % b then 1 else 0
  | 0 => by simp [arc]
  | m + 1 => by
    rw [arc, arc_full hb ht m, Nat.zero_add]
    have h1 := Nat.div_add_mod m b
    have h2 := Nat.mod_lt m hb
    by_cases c : m % b + 1 = b
    · have e1 : (m + 1) / b = m / b + 1 := by
        rw [show m + 1 = b * (m / b + 1) by rw [Nat.mul_add]; omega, Nat.mul_div_cancel_left _ hb]
      have e2 : (m + 1) % b = 0 := by
        rw [show m + 1 = b * (m / b + 1) by rw [Nat.mul_add]; omega, Nat.mul_mod_right]
      rw [e1, e2]
      split <;> split <;> split <;> omega
    · have e1 : (m + 1) / b = m / b := by
        rw [show m + 1 = b * (m / b) + (m % b + 1) by omega, Nat.mul_add_div hb, Nat.div_eq_of_lt (show m % b + 1 < b by omega), Nat.add_zero]
      have e2 : (m + 1) % b = m % b + 1 := by
        rw [show m + 1 = b * (m / b) + (m % b + 1) by omega, Nat.mul_add_mod, Nat.mod_eq_of_lt (show m % b + 1 < b by omega)]
      rw [e1, e2]
      split <;> split <;> split <;> omega
/-- all arcs: shares from begins -/
def arcs (b : Nat) : List (Nat × Nat) → Nat → Nat
  | [], _ => 0
  | z :: r, t => arc b z.2 z.1 t + arcs b r t
theorem arcs_snoc (b : Nat) (z : Nat × Nat) (t : Nat) : ∀ r, arcs b (r ++ [z]) t = arcs b r t + arc b z.2 z.1 t
  | [] => by simp [arcs]
  | y :: r => by rw [List.cons_append, arcs, arcs, arcs_snoc b z t r]; omega
theorem arcs_sum {b : Nat} (hb : 0 < b) : ∀ r : List (Nat × Nat), ((List.range b).map (arcs b r)).sum = (r.map Prod.fst).sum
  | [] => by
    exact zsum b
  | z :: r => by
    have h : ∀ n, ((List.range n).map (arcs b (z :: r))).sum = ((List.range n).map (arc b z.2 z.1)).sum + ((List.range n).map (arcs b r)).sum := fun n => by
      induction n with
      | zero => simp
      | succ n ih =>
        rw [List.range_succ, List.map_append, List.sum_append, ih, List.map_append, List.sum_append, List.map_append, List.sum_append]
        simp only [List.map_cons, List.map_nil, List.sum_cons, List.sum_nil, arcs]
        omega
    rw [h b, arc_sum hb, arcs_sum hb r, List.map_cons, List.sum_cons]
/-- shares one behind the other -/
def laid (b : Nat) : Nat → List Nat → List (Nat × Nat)
  | _, [] => []
  | s, x :: xs => (x, s % b) :: laid b (s + x) xs
theorem arcs_laid (b : Nat) (t : Nat) : ∀ (xs : List Nat) (s : Nat), arcs b (laid b s xs) t = arc b s xs.sum t
  | [], _ => rfl
  | x :: xs, s => by
    rw [laid, arcs, arcs_laid b t xs, List.sum_cons, arc_add, arc_mod]
/-- begins, one behind the other -/
def begs (b : Int) (sh : List Int) : List Int := (List.range sh.length).map fun i => (sh.take i).sum % b
def zipN (sh ts : List Int) (n : Nat) : List (Nat × Nat) := (List.range n).map fun i => ((sh.getD i 0).toNat, (ts.getD i 0).toNat)
theorem zipN_succ (sh ts : List Int) (n : Nat) : zipN sh ts (n + 1) = zipN sh ts n ++ [((sh.getD n 0).toNat, (ts.getD n 0).toNat)] := by
  unfold zipN; rw [List.range_succ, List.map_append]; rfl
def arcL (B : Nat) (f : Nat → Nat) : List Int := (List.range B).map fun t => ((f t : Nat) : Int)
theorem arcL_len (B : Nat) (f : Nat → Nat) : (arcL B f).length = B := by simp [arcL]
theorem arcL_getD {B : Nat} (f : Nat → Nat) {j : Nat} (hj : j < B) : (arcL B f).getD j 0 = ((f j : Nat) : Int) := by
  unfold arcL
  rw [List.getD_eq_getElem?_getD, List.getElem?_map, List.getElem?_range hj]
  rfl
theorem arcL_set {B : Nat} (f : Nat → Nat) {j : Nat} (hj : j < B) : (arcL B f).set j (((f j : Nat) : Int) + 1) = arcL B fun t => f t + if j = t then 1 else 0 := by
  apply List.ext_getElem?
  intro i
  unfold arcL
  rw [List.getElem?_set, List.getElem?_map, List.getElem?_map]
  by_cases hi : i < B
  · rw [List.getElem?_range hi]
    by_cases e : j = i
    · subst e
      rw [if_pos rfl, if_pos (by simpa using hi)]
      simp
    · rw [if_neg e]
      simp [e]
  · rw [List.getElem?_eq_none (by simpa using hi)]
    by_cases e : j = i
    · omega
    · rw [if_neg e]; rfl
theorem arcL_sum (f : Nat → Nat) : ∀ B : Nat, (arcL B f).sum = ((((List.range B).map f).sum : Nat) : Int)
  | 0 => rfl
  | B + 1 => by
    have := arcL_sum f B
    unfold arcL at this ⊢
    rw [List.range_succ, List.map_append, List.sum_append, List.map_append, List.sum_append, this]
    simp
theorem arcL_congr {B : Nat} {f g : Nat → Nat} (h : ∀ t, t < B → f t = g t) : arcL B f = arcL B g := by
  unfold arcL
  apply List.map_congr_left
  intro t ht
  rw [h t (List.mem_range.mp ht)]
theorem arcs_begs {b : Int} (hb : 1 ≤ b) {sh ts : List Int} (hsh : ∀ x ∈ sh, 0 ≤ x ∧ x ≤ b) (hts : ∀ i, i < sh.length → ts.getD i 0 = (sh.take i).sum % b) (t : Nat) : ∀ i, i ≤ sh.length → 0 ≤ (sh.take i).sum ∧ arcs b.toNat (zipN sh ts i) t = arc b.toNat 0 (sh.take i).sum.toNat t
  | 0, _ => ⟨by simp, by simp [zipN, arcs, arc]⟩
  | i + 1, h => by
    obtain ⟨h0, ih⟩ := arcs_begs hb hsh hts t i (by omega)
    have hi : i < sh.length := by omega
    have hx := hsh (sh.getD i 0) (by rw [List.getD_eq_getElem?_getD, List.getElem?_eq_getElem hi]; exact List.getElem_mem hi)
    have es : (sh.take (i + 1)).sum = (sh.take i).sum + sh.getD i 0 := by
      rw [List.take_succ, List.getElem?_eq_getElem hi, List.sum_append]
      simp [List.getD, List.getElem?_eq_getElem hi]
    refine ⟨by omega, ?_⟩
    rw [zipN_succ, arcs_snoc, ih, es, hts i hi]
    have e1 : ((sh.take i).sum + sh.getD i 0).toNat = (sh.take i).sum.toNat + (sh.getD i 0).toNat := by omega
    have e2 : ((sh.take i).sum % b).toNat = (sh.take i).sum.toNat % b.toNat := by
      have h1 : (sh.take i).sum = (((sh.take i).sum.toNat : Nat) : Int) := by omega
      have h2 : b = ((b.toNat : Nat) : Int) := by omega
      rw [h1, h2, ← Int.natCast_emod]
      simp only [Int.toNat_natCast]
    rw [e1, arc_add, Nat.zero_add]
    show _ + arc b.toNat ((sh.take i).sum % b).toNat (sh.getD i 0).toNat t = _
    rw [e2, arc_mod]
structure Told (b s : Int) (L : List Int) : Prop where
  len : (L.length : Int) = b
  sum : L.sum = s
  max : ∀ m, m ∈ L → (∀ y, y ∈ L → y ≤ m) → m = (s + b - 1) / b
  min : ∀ m, m ∈ L → (∀ y, y ∈ L → m ≤ y) → m = s / b
theorem told_mk {b : Int} (hb : 1 ≤ b) {sh ts : List Int} (hsh : ∀ x ∈ sh, 0 ≤ x ∧ x ≤ b) (hts : ∀ i, i < sh.length → ts.getD i 0 = (sh.take i).sum % b) : Told b sh.sum (arcL b.toNat (arcs b.toNat (zipN sh ts sh.length))) := by
  have hS := (arcs_begs hb hsh hts 0 sh.length (Nat.le_refl _)).1
  rw [List.take_length] at hS
  have hL : arcL b.toNat (arcs b.toNat (zipN sh ts sh.length)) = arcL b.toNat (arc b.toNat 0 sh.sum.toNat) := arcL_congr fun t _ => by
    have := (arcs_begs hb hsh hts t sh.length (Nat.le_refl _)).2
    rw [List.take_length] at this
    exact this
  rw [hL]
  have hB : 0 < b.toNat := by omega
  obtain ⟨S, hSS⟩ : ∃ S, S = sh.sum.toNat := ⟨_, rfl⟩
  obtain ⟨B, hBB⟩ : ∃ B, B = b.toNat := ⟨_, rfl⟩
  have eS : sh.sum = (S : Int) := by omega
  have eB : b = (B : Int) := by omega
  rw [← hSS, ← hBB, eS, eB]
  rw [← hBB] at hB
  have hmem : ∀ y, y ∈ arcL B (arc B 0 S) ↔ ∃ t, t < B ∧ y = ((S / B + if t < S % B then 1 else 0 : Nat) : Int) := fun y => by
    unfold arcL
    rw [List.mem_map]
    constructor
    · rintro ⟨t, ht, rfl⟩
      have ht := List.mem_range.mp ht
      exact ⟨t, ht, by rw [arc_full hB ht]⟩
    · rintro ⟨t, ht, rfl⟩
      exact ⟨t, List.mem_range.mpr ht, by rw [arc_full hB ht]⟩
  have h1 := Nat.div_add_mod S B
  have h2 := Nat.mod_lt S hB
  have hpk : ((S : Int) + (B : Int) - 1) / (B : Int) = ((S / B + if 0 < S % B then 1 else 0 : Nat) : Int) := by
    have e : (S : Int) + (B : Int) - 1 = ((S + B - 1 : Nat) : Int) := by omega
    rw [e, ← Int.natCast_ediv]
    congr 1
    obtain ⟨q, hq⟩ : ∃ q, q = S / B := ⟨_, rfl⟩
    rw [← hq] at h1 ⊢
    rw [show S + B - 1 = B * q + (S % B + B - 1) by omega, Nat.mul_add_div hB]
    congr 1
    by_cases c : 0 < S % B
    · rw [if_pos c, Nat.div_eq_sub_div hB (show B ≤ S % B + B - 1 by omega), Nat.div_eq_of_lt (show S % B + B - 1 - B < B by omega)]
    · rw [if_neg c, Nat.div_eq_of_lt (show S % B + B - 1 < B by omega)]
  refine ⟨by rw [arcL_len], by rw [arcL_sum, arc_sum hB], fun m hm hle => ?_, fun m hm hle => ?_⟩
  · rw [hpk]
    obtain ⟨t, ht, rfl⟩ := (hmem m).mp hm
    have := hle _ ((hmem _).mpr ⟨0, hB, rfl⟩)
    split at this <;> split <;> split at this <;> omega
  · obtain ⟨t, ht, rfl⟩ := (hmem m).mp hm
    have := hle _ ((hmem _).mpr ⟨S % B, h2, rfl⟩)
    rw [if_neg (Nat.lt_irrefl _)] at this
    rw [← Int.natCast_ediv]
    split at this <;> split <;> omega
theorem zipN_fst {sh ts : List Int} {b : Int} (hsh : ∀ x ∈ sh, 0 ≤ x ∧ x ≤ b) : ∀ i, i ≤ sh.length → ((((zipN sh ts i).map Prod.fst).sum : Nat) : Int) = (sh.take i).sum
  | 0, _ => by simp [zipN]
  | i + 1, h => by
    have hi : i < sh.length := by omega
    have hx := hsh (sh.getD i 0) (by rw [List.getD_eq_getElem?_getD, List.getElem?_eq_getElem hi]; exact List.getElem_mem hi)
    rw [zipN_succ, List.map_append, List.sum_append, Int.natCast_add, zipN_fst hsh i (by omega), List.take_succ, List.getElem?_eq_getElem hi, List.sum_append]
    have : sh.getD i 0 = sh[i] := by simp [List.getD, List.getElem?_eq_getElem hi]
    rw [this] at hx ⊢
    simp
    omega
theorem any_sum {b : Int} (hb : 1 ≤ b) {sh ts : List Int} (hsh : ∀ x ∈ sh, 0 ≤ x ∧ x ≤ b) : (arcL b.toNat (arcs b.toNat (zipN sh ts sh.length))).sum = sh.sum := by
  rw [arcL_sum, arcs_sum (by omega), zipN_fst hsh _ (Nat.le_refl _), List.take_length]
theorem any_max {b : Int} (hb : 1 ≤ b) {sh ts : List Int} (hsh : ∀ x ∈ sh, 0 ≤ x ∧ x ≤ b) (m : Int) (hle : ∀ y, y ∈ arcL b.toNat (arcs b.toNat (zipN sh ts sh.length)) → y ≤ m) : (sh.sum + b - 1) / b ≤ m := by
  have hs := any_sum (ts := ts) hb hsh
  have h1 : tsum (fun t => ((arcs b.toNat (zipN sh ts sh.length) t : Nat) : Int)) b.toNat = sh.sum := hs
  have h2 := tsum_le (f := fun t => ((arcs b.toNat (zipN sh ts sh.length) t : Nat) : Int)) (g := fun _ => m) b.toNat fun k hk => hle _ (List.mem_map.mpr ⟨k, List.mem_range.mpr hk, rfl⟩)
  rw [h1, tsum_const, Int.toNat_of_nonneg (by omega)] at h2
  have : (sh.sum + b - 1) / b < m + 1 := by
    apply Int.ediv_lt_of_lt_mul (by omega)
    rw [Int.add_mul, Int.mul_comm m b]
    omega
  omega
theorem alone_le {b x y : Int} (hb : 1 ≤ b) (h0 : 0 ≤ x) (h1 : x ≤ b) : ∀ z, z ∈ arcL b.toNat (arcs b.toNat (zipN [x] [y] 1)) → z ≤ 1 := fun z hz => by
  obtain ⟨t, ht, rfl⟩ := List.mem_map.mp hz
  have : arcs b.toNat (zipN [x] [y] 1) t = arc b.toNat y.toNat x.toNat t := by simp [zipN, arcs]
  rw [this]
  have := arc_le (b := b.toNat) (s := y.toNat) (t := t) (m := x.toNat) (by omega) (by omega)
  omega
/-! ### how many are on in each beat, counted -/
/-- beats from s on to t, going round -/
theorem turn_iff {b s t m : Nat} (hs : s < b) (ht : t < b) (hm : m < b) : (s + m) % b = t ↔ (t + b - s) % b = m := by
  have h1 : (s + m) % b = if s + m < b then s + m else s + m - b := by
    by_cases c : s + m < b
    · rw [if_pos c, Nat.mod_eq_of_lt c]
    · rw [if_neg c, Nat.mod_eq_sub_mod (by omega), Nat.mod_eq_of_lt (by omega)]
  have h2 : (t + b - s) % b = if t + b - s < b then t + b - s else t + b - s - b := by
    by_cases c : t + b - s < b
    · rw [if_pos c, Nat.mod_eq_of_lt c]
    · rw [if_neg c, Nat.mod_eq_sub_mod (by omega), Nat.mod_eq_of_lt (by omega)]
  rw [h1, h2]
  split <;> split <;> omega
theorem arc_one {b s t : Nat} (hs : s < b) (ht : t < b) : ∀ {m : Nat}, m ≤ b → arc b s m t = if (t + b - s) % b < m then 1 else 0
  | 0, _ => by simp [arc]
  | m + 1, h => by
    rw [arc, arc_one hs ht (show m ≤ b by omega)]
    have h1 := turn_iff hs ht (show m < b by omega)
    by_cases c : (s + m) % b = t
    · have := h1.mp c
      rw [if_pos c, this, if_neg (by omega), if_pos (by omega)]
    · rw [if_neg c]
      have h2 : (t + b - s) % b ≠ m := fun z => c (h1.mpr z)
      by_cases d : (t + b - s) % b < m
      · rw [if_pos d, if_pos (by omega)]
      · rw [if_neg d, if_neg (by omega)]
/-- whether share k is on in beat t -/
def onB (b : Int) (sh ts : List Int) (t : Int) (k : Nat) : Bool := decide ((t - ts.getD k 0) % b < sh.getD k 0)
def onL (b : Int) (sh ts : List Int) (t : Int) (n : Nat) : List Nat := (List.range n).filter (onB b sh ts t)
theorem onL_snoc (b : Int) (sh ts : List Int) (t : Int) (n : Nat) : onL b sh ts t (n + 1) = onL b sh ts t n ++ if onB b sh ts t n = true then [n] else [] := by
  unfold onL
  rw [List.range_succ, List.filter_append]
  congr 1
  cases e : onB b sh ts t n <;> simp [e]
theorem onL_le (b : Int) (sh ts : List Int) (t : Int) (n : Nat) : (onL b sh ts t n).length ≤ n := Nat.le_trans (List.length_filter_le _ _) (by rw [List.length_range]; exact Nat.le_refl _)
def onS (b : Int) (sh ts : List Int) : List Int := (List.range b.toNat).map fun t : Nat => (((onL b sh ts (t : Int) sh.length).length : Nat) : Int)
theorem on_mod {b y : Int} {t : Nat} (hb : 1 ≤ b) (hy : 0 ≤ y) (hyb : y < b) : ((t : Int) - y) % b = (((t + b.toNat - y.toNat) % b.toNat : Nat) : Int) := by
  have hB : (b.toNat : Int) = b := Int.toNat_of_nonneg (by omega)
  rw [Int.natCast_emod, hB, show ((t + b.toNat - y.toNat : Nat) : Int) = ((t : Int) - y) + b by omega, Int.add_emod_right]
theorem on_arcs {b : Int} (hb : 1 ≤ b) {sh ts : List Int} (hsh : ∀ x ∈ sh, 0 ≤ x ∧ x ≤ b) (hl : ts.length = sh.length) (hts : ∀ x ∈ ts, 0 ≤ x ∧ x < b) {t : Nat} (ht : t < b.toNat) : ∀ n, n ≤ sh.length → arcs b.toNat (zipN sh ts n) t = (onL b sh ts (t : Int) n).length
  | 0, _ => rfl
  | n + 1, h => by
    have hx := hsh (sh.getD n 0) (by rw [List.getD_eq_getElem?_getD, List.getElem?_eq_getElem (by omega)]; exact List.getElem_mem _)
    have hy := hts (ts.getD n 0) (by rw [List.getD_eq_getElem?_getD, List.getElem?_eq_getElem (by omega)]; exact List.getElem_mem _)
    rw [zipN_succ, arcs_snoc, on_arcs hb hsh hl hts ht n (by omega), onL_snoc, List.length_append]
    congr 1
    show arc b.toNat (ts.getD n 0).toNat (sh.getD n 0).toNat t = _
    rw [arc_one (by omega) ht (by omega)]
    have e := on_mod (t := t) hb hy.1 hy.2
    unfold onB
    rw [e]
    by_cases c : (t + b.toNat - (ts.getD n 0).toNat) % b.toNat < (sh.getD n 0).toNat
    · rw [if_pos c, decide_eq_true (by omega)]; rfl
    · rw [if_neg c, decide_eq_false (by omega)]; rfl
theorem arcL_onS {b : Int} (hb : 1 ≤ b) {sh ts : List Int} (hsh : ∀ x ∈ sh, 0 ≤ x ∧ x ≤ b) (hl : ts.length = sh.length) (hts : ∀ x ∈ ts, 0 ≤ x ∧ x < b) : arcL b.toNat (arcs b.toNat (zipN sh ts sh.length)) = onS b sh ts := by
  unfold onS
  refine (arcL_congr fun t ht => on_arcs hb hsh hl hts ht sh.length (Nat.le_refl _)).trans ?_
  rfl
/-! ### shares that are none -/
def GoodSh (b : Int) (sh : List Int) : Prop := 1 ≤ b ∧ b ≤ 64 ∧ sh.length ≤ 12 ∧ ∀ x ∈ sh, 0 ≤ x ∧ x ≤ b
def orH (K : PySem.W.Frag) (n : Nat) (sp : Sp) : Sp := fun vs H Q E => sp vs H Q E ∨ ∃ (b : Int) (s : Addr) (sh : List Int) (rest : List V), vs = .int b :: .ref s :: rest ∧ rest.length = n ∧ SqL K H s (sh.map V.int) ∧ sh.length ≤ 10000 ∧ ¬ GoodSh b sh ∧ ∀ H', Same H H' → E (.ref (He.ga K "BadShare")) none H'
def inB (b z : Int) : Bool := decide (0 ≤ z) && decide (z ≤ b)
theorem inB_iff {b z : Int} : inB b z = true ↔ 0 ≤ z ∧ z ≤ b := by unfold inB; rw [Bool.and_eq_true, decide_eq_true_iff, decide_eq_true_iff]
def inC (b z : Int) : Bool := decide (0 ≤ z) && decide (z < b)
theorem inC_iff {b z : Int} : inC b z = true ↔ 0 ≤ z ∧ z < b := by unfold inC; rw [Bool.and_eq_true, decide_eq_true_iff, decide_eq_true_iff]
theorem filt_nil {p : Int → Bool} {xs : List Int} : xs.filter (fun z => !p z) = [] ↔ ∀ z ∈ xs, p z = true := by
  rw [List.filter_eq_nil_iff]
  constructor
  · intro h z hz
    have := h z hz
    cases e : p z with
    | true => rfl
    | false => rw [e] at this; exact absurd rfl this
  · intro h z hz
    rw [h z hz]; simp
theorem filt_snoc {p : Int → Bool} {xs : List Int} {j : Nat} {z : Int} (hz : xs[j]? = some z) : (xs.take (j + 1)).filter (fun z => !p z) = (xs.take j).filter (fun z => !p z) ++ if p z = true then [] else [z] := by
  rw [List.take_succ, hz, List.filter_append]
  congr 1
  show [z].filter (fun z => !p z) = _
  cases e : p z <;> simp [e]
theorem filt_len {p : Int → Bool} {xs : List Int} {j m : Nat} (h : xs.length ≤ m) : ((xs.take j).filter (fun z => !p z)).length ≤ m :=
  Nat.le_trans (List.length_filter_le _ _) (by rw [List.length_take]; omega)
/-- never asked -/
def spNo : Sp := fun _ _ _ _ => False
theorem cutV_to {ns : List Int} {k : Nat} : cutV (ns.map V.int) none (some (k : Int)) = (ns.take k).map V.int := by
  unfold cutV
  rw [HT.sIx_none, HT.sIx_nat, List.length_map, List.drop_zero, Nat.sub_zero, ← List.map_take]
  congr 1
  by_cases h : k ≤ ns.length
  · rw [Nat.min_eq_left h]
  · rw [Nat.min_eq_right (by omega), List.take_of_length_le (Nat.le_refl _), List.take_of_length_le (by omega)]
theorem cutV_from {xs : List V} {k : Nat} (hk : k ≤ xs.length) : cutV xs (some (k : Int)) none = xs.drop k := by
  unfold cutV
  rw [HT.sIx_none, HT.sIx_nat, Nat.min_eq_left hk]
  exact List.take_of_length_le (by rw [List.length_drop]; exact Nat.le_refl _)
theorem cutN_from (ns : List Int) {k : Nat} : cutV (ns.map V.int) (some (k : Int)) none = (ns.drop k).map V.int := by
  unfold cutV
  rw [HT.sIx_none, HT.sIx_nat, List.map_drop]
  by_cases h : k ≤ ns.length
  · rw [Nat.min_eq_left (by rw [List.length_map]; exact h)]
    exact List.take_of_length_le (by rw [List.length_drop]; exact Nat.le_refl _)
  · rw [List.length_map, Nat.min_eq_right (by omega), Nat.sub_self, List.take_zero, List.drop_eq_nil_of_le (by rw [List.length_map]; omega)]
theorem rep0 (n : Nat) : (List.replicate n [V.int 0]).flatten = (List.replicate n 0).map V.int := by
  rw [List.map_replicate]
  induction n with
  | zero => rfl
  | succ n ih => rw [List.replicate_succ, List.flatten_cons, ih]; rfl
def dT2 (ns ms : List Int) : PyData := .tuple [dI ns, dI ms]
theorem dp_t2 {K : PySem.W.Frag} {H : Hp} {p a b : Addr} {ns ms : List Int} (hp : SqT K H p [.ref a, .ref b]) (ha : SqL K H a (ns.map V.int)) (hb : SqL K H b (ms.map V.int)) : Dp K H (.ref p) (dT2 ns ms) := .tup hp (.cons (dp_ints ha) (.cons (dp_ints hb) .nil))
theorem dT2_shaped (ns ms : List Int) : SeqAt.shaped (dT2 ns ms) = true := by
  have h1 := dI_depthA ns
  have h2 := dI_depthA ms
  have h3 : PyData.depth (dT2 ns ms) ≤ 64 := by
    unfold dT2 dI
    simp only [PyData.depth, PyData.depthAll]
    omega
  show (PyData.canLay0 (dT2 ns ms) && decide (PyData.depth (dT2 ns ms) ≤ 64)) = true
  rw [Bool.and_eq_true]
  refine ⟨?_, decide_eq_true h3⟩
  unfold dT2 dI
  simp [PyData.canLay0, PyData.canLayAll0, dI_layA]
theorem dT2_eqv (ns ms : List Int) : PyData.eqv (dT2 ns ms) (dT2 ns ms) = true := by
  unfold dT2
  simp [PyData.eqv, PyData.eqvAll, dI_eqv]
theorem cut1 (ns : List Int) : cutV (ns.map V.int) (some 1) none = (ns.drop 1).map V.int := cutN_from ns (k := 1)
structure Txt (K : PySem.W.Frag) (mg : Str → Option Value) : Prop where
  g_BadBegins : mg "BadBegins" = some (.ref (He.ga K "BadBegins"))
  x_BadBegins : ExF K mg "BadBegins"
  g_BadFrame : mg "BadFrame" = some (.ref (He.ga K "BadFrame"))
  g_BadRuns : mg "BadRuns" = some (.ref (He.ga K "BadRuns"))
  g_BadShare : mg "BadShare" = some (.ref (He.ga K "BadShare"))
  x_BadShare : ExF K mg "BadShare"
  g_BadText : mg "BadText" = some (.ref (He.ga K "BadText"))
  g_BadWidth : mg "BadWidth" = some (.ref (He.ga K "BadWidth"))
  k_FEW_BEATS : ∃ u, mg "FEW_BEATS" = some u ∧ RelV (.int 12) u
  k_FEW_SHARES : ∃ u, mg "FEW_SHARES" = some u ∧ RelV (.int 3) u
  k_MOST_BEATS : ∃ u, mg "MOST_BEATS" = some u ∧ RelV (.int 64) u
  k_MOST_SHARES : ∃ u, mg "MOST_SHARES" = some u ∧ RelV (.int 12) u
  g_NoRoom : mg "NoRoom" = some (.ref (He.ga K "NoRoom"))
  x_NoRoom : ExF K mg "NoRoom"
  g_PulseError : mg "PulseError" = some (.ref (He.ga K "PulseError"))
  b_ValueError : mg "ValueError" = none
  b_bool : mg "bool" = none
  b_int : mg "int" = none
  b_isinstance : mg "isinstance" = none
  b_len : mg "len" = none
  b_list : mg "list" = none
  b_max : mg "max" = none
  b_min : mg "min" = none
  b_range : mg "range" = none
  b_str : mg "str" = none
  b_sum : mg "sum" = none
  b_tuple : mg "tuple" = none
  b_zip : mg "zip" = none
section
variable {P : Program} {w : World} {K : PySem.W.Frag} {mg : Str → Option Value} {base : Heap}
abbrev s_law_start : Stmt := top 26
theorem sc_law_start : FnScope ["_law_script", "_law_mixed", "_law_cell"] ["_law_script"] (defScope s_law_start) := ⟨rfl, rfl, rfl, by decide +kernel, rfl, by decide +kernel, by decide +kernel⟩
/-- _law_start(script): a new good state -/
def spStart (K : PySem.W.Frag) : Sp := fun vs H Q _ => ∃ (a : Addr) (ns : List Int), vs = [.ref a] ∧ SqL K H a (ns.map V.int) ∧ ∀ (st : Addr) (m : Int), H st = none → Drw 0 m 0 → Q (.ref st) (upd H st (StO a 0 m 0))
theorem ok_law_start {f : Addr} {fd : FuncData} (F : FunG K mg "_law_start" s_law_start f fd ["_law_script"]) : FnOk P w K mg base CX0 1 f fd ["_law_script"] (spStart K) := by
  refine F.fn.ok sc_law_start (fun vs H Q E h => ?_) (fun cdv A outer s H vs Q E hr h => ?_)
  · obtain ⟨a, ns, rfl, _⟩ := h
    rfl
  · obtain ⟨a, ns, rfl, hS, k⟩ := h
    refine ⟨_, (pss_cons (ps_set (i := 1) sc_law_start.nd rfl (.inl rfl) pe_int)
      (pss_cons (ps_for PassesOwn.never (by rfl) (pi_list (pv 0)) (pg_name (i := 2) sc_law_start.nd rfl (.inl rfl)) (pss_one (ps_set (i := 1) sc_law_start.nd rfl (.inl rfl) (pe_op op_mod (pe_op op_add (pe_op op_add (pe_op op_mulW (pv 1) pe_int) (pv 2)) pe_int) pe_int))))
      (pss_one (ps_ret (pe_lst (pa_cons (pv 0) (pa_cons pe_int (pa_cons (pv 1) (pa_cons pe_int pa_nil))))))))), ?_⟩
    refine ⟨_, rfl, a, rfl, ⟨_, hS⟩, for_list (K := K) (a := a) (xs := ns.map V.int) (fun i σ H' => ∃ (m : Int) (v : Option V), σ = [some (.ref a), some (.int m), v] ∧ H' = H ∧ 0 ≤ m ∧ m < 2147483647)
      ⟨1, none, rfl, rfl, by decide, by decide⟩ (fun i σ H' _ ⟨_, _, _, e, _⟩ => e ▸ hS) ?_ ?_⟩
    · rintro i y σ H' hi ⟨m, v, rfl, rfl, m0, m1⟩
      obtain ⟨z, hz, rfl⟩ := getV hi
      refine ⟨_, rfl, _, _, rfl, rfl, wide_mul (a := 31) (b := 17) (by omega) (by decide) (by decide) (by decide) (by decide), _, rfl, _, _, rfl, rfl, _, _, rfl, rfl, _, _, rfl, rfl, (by show (0 : Int) < 2147483647; decide), ?_⟩
      exact ⟨_, _, rfl, rfl, Int.emod_nonneg _ (by decide), Int.emod_lt_of_pos _ (by decide)⟩
    · rintro σ H' ⟨m, v, rfl, rfl, m0, m1⟩
      refine ⟨_, rfl, _, rfl, (by show 4 ≤ sizeLine; decide), fun p hp => ?_⟩
      exact k p m hp ⟨Int.le_refl _, m0, m1, Int.le_refl _⟩
abbrev s_law_drawn : Stmt := top 27
theorem sc_law_drawn : FnScope ["_law_state", "_law_many", "_law_found", "_law_cell"] ["_law_state", "_law_many"] (defScope s_law_drawn) := ⟨rfl, rfl, rfl, by decide +kernel, rfl, by decide +kernel, by decide +kernel⟩
/-- _law_drawn(state, many): some number from 0 on below many; the state is good behind it, all else as it was -/
def spDrawn (K : PySem.W.Frag) : Sp := fun vs H Q _ => ∃ (st a : Addr) (ns : List Int) (many : Int), vs = [.ref st, .int many] ∧ SOk K a ns st H ∧ 0 < many ∧ many < 2 ^ 200 ∧
  ∀ r i m c : Int, 0 ≤ r → r < many → Drw i m c → Q (.int r) (upd H st (StO a i m c))
theorem SOk.drawn {K : PySem.W.Frag} {a st : Addr} {ns : List Int} {H : Hp} (s : SOk K a ns st H) {i m c : Int} (d : Drw i m c) : SOk K a ns st (upd H st (StO a i m c)) := s.keep (Keep.refl st H).atSt d upd_same
theorem ok_law_drawn {f : Addr} {fd : FuncData} (F : FunG K mg "_law_drawn" s_law_drawn f fd ["_law_state", "_law_many"]) (T : Txt K mg) : FnOk P w K mg base CX0 1 f fd ["_law_state", "_law_many"] (spDrawn K) := by
  refine F.fn.ok sc_law_drawn (fun vs H Q E h => ?_) (fun cdv A outer s H vs Q E hr h => ?_)
  · obtain ⟨st, a, ns, many, rfl, _⟩ := h
    rfl
  · obtain ⟨st, a, ns, many, rfl, hs, m0, m1, k⟩ := h
    obtain ⟨i, m, c, d, hst⟩ := hs.at_
    have hdiv : ∀ x : Int, CDivW x many := fun x => wide_div (b := 200) m0 (by omega) (by decide) (by decide)
    have hl : H st = some (.lst [.ref a, .int i, .int m, .int c]) := hst
    refine ⟨_, (pss_cons (ps_if (pt_cmpR op_gt (pe_ix (ixL K) (pv 0) pe_int (fun _ _ => rfl)) pe_int (nomark _)) (pss_cons (ps_set (i := 2) sc_law_drawn.nd rfl (.inl rfl) (pe_op op_mod (pe_ix (ixL K) (pv 0) pe_int (fun _ _ => rfl)) (pv 1)))
      (pss_cons (ps_asg (pe_op op_fdivW (pe_ix (ixL K) (pv 0) pe_int (fun _ _ => rfl)) (pv 1)) (pg_sub (pv 0) pe_int set_list))
      (pss_one (ps_ret (pv 2))))) pss_nil)
      (pss_cons (ps_asg (pe_op op_add (pe_ix (ixL K) (pv 0) pe_int (fun _ _ => rfl)) pe_int) (pg_sub (pv 0) pe_int set_list))
      (pss_cons (ps_if (pt_cmpR op_le (pe_ix (ixL K) (pv 0) pe_int (fun _ _ => rfl)) (pe_callB (clLen K) (by rfl) T.b_len (by decide +kernel) (pa_cons (pe_ix (ixL K) (pv 0) pe_int (fun _ _ => rfl)) pa_nil)) (nomark _)) (pss_cons (ps_set (i := 3) sc_law_drawn.nd rfl (.inl rfl) (pe_ix (ixL K) (pe_ix (ixL K) (pv 0) pe_int (fun _ _ => rfl)) (pe_op op_sub (pe_ix (ixL K) (pv 0) pe_int (fun _ _ => rfl)) pe_int) (fun _ _ => rfl)))
      (pss_cons (ps_asg (pe_ifExp (pt_cmpR op_ge (pv 3) (pe_op op_pow pe_int pe_int) (nomark _)) (pe_op op_fdivW (pv 3) (pv 1)) pe_int) (pg_sub (pv 0) pe_int set_list))
      (pss_one (ps_ret (pe_op op_mod (pv 3) (pv 1)))))) pss_nil)
      (pss_cons (ps_asg (pe_op op_mod (pe_op op_add (pe_op op_mulW (pe_ix (ixL K) (pv 0) pe_int (fun _ _ => rfl)) pe_int) pe_int) pe_int) (pg_sub (pv 0) pe_int set_list))
      (pss_one (ps_ret (pe_op op_mod (pe_op op_fdivW (pe_ix (ixL K) (pv 0) pe_int (fun _ _ => rfl)) pe_int) (pv 1)))))))), ?_⟩
    refine ⟨_, rfl, _, _, _, _, rfl, rfl, SqL.of hl, rfl, _, _, rfl, rfl, _, rfl, ?_⟩
    refine ite2 (fun hc => ?_) (fun hc => ?_)
    · have hc : 0 < c := of_decide_eq_true hc
      refine ⟨_, rfl, _, _, _, _, rfl, rfl, SqL.of hl, rfl, _, rfl, _, _, rfl, rfl, m0, ?_⟩
      refine ⟨_, rfl, _, _, _, _, rfl, rfl, SqL.of hl, rfl, _, rfl, _, _, rfl, rfl, hdiv _, _, rfl, st, _, _, 3, rfl, rfl, hl, rfl, ?_⟩
      refine ⟨_, rfl, ?_⟩
      exact k (c % many) i m (c / many) (Int.emod_nonneg _ (by omega)) (Int.emod_lt_of_pos _ m0) ⟨d.i0, d.m0, d.m1, Int.ediv_nonneg d.c0 (by omega)⟩
    · refine ⟨_, rfl, _, _, _, _, rfl, rfl, SqL.of hl, rfl, _, _, rfl, rfl, _, rfl, st, _, _, 1, rfl, rfl, hl, rfl, ?_⟩
      have hl1 : (upd H st (.lst [.ref a, .int (i + 1), .int m, .int c])) st = some (.lst [.ref a, .int (i + 1), .int m, .int c]) := upd_same
      have hS1 : SqL K (upd H st (.lst [.ref a, .int (i + 1), .int m, .int c])) a (ns.map V.int) := hs.sq _ (Keep.refl st H).atSt
      refine ⟨_, rfl, _, _, _, _, rfl, rfl, SqL.of hl1, rfl, _, rfl, _, _, _, _, rfl, rfl, SqL.of hl1, rfl, _, _, rfl, .inl hS1, _, _, rfl, rfl, _, rfl, ?_⟩
      refine ite2 (fun hb => ?_) (fun hb => ?_)
      · have hb : i + 1 ≤ ((ns.map V.int).length : Int) := of_decide_eq_true hb
        rw [List.length_map] at hb
        have i0 := d.i0
        refine ⟨_, rfl, _, _, _, _, rfl, rfl, SqL.of hl1, rfl, _, rfl, _, _, _, _, rfl, rfl, SqL.of hl1, rfl, _, _, rfl, rfl, _, _, _, _, rfl, rfl, hS1, atV (j := i.toNat) (by omega) (by omega), ?_⟩
        refine ⟨_, rfl, _, _, rfl, rfl, ⟨by decide, by decide, by decide⟩, _, _, rfl, rfl, _, rfl, ?_⟩
        generalize ns.getD i.toNat 0 = z
        refine ite2 (fun hz => ?_) (fun hz => ?_)
        · have hz : (10 : Int) ^ (18 : Int).toNat ≤ z := of_decide_eq_true hz
          have z0 : 0 ≤ z := Int.le_trans (by decide) hz
          refine ⟨_, rfl, _, rfl, _, _, rfl, rfl, hdiv _, _, rfl, st, _, _, 3, rfl, rfl, hl1, rfl, ?_⟩
          refine ⟨_, rfl, _, rfl, _, _, rfl, rfl, m0, ?_⟩
          rw [upd_upd]
          exact k (z % many) (i + 1) m (z / many) (Int.emod_nonneg _ (by omega)) (Int.emod_lt_of_pos _ m0) ⟨by omega, d.m0, d.m1, Int.ediv_nonneg z0 (by omega)⟩
        · refine ⟨_, rfl, st, _, _, 3, rfl, rfl, hl1, rfl, ?_⟩
          refine ⟨_, rfl, _, rfl, _, _, rfl, rfl, m0, ?_⟩
          rw [upd_upd]
          exact k (z % many) (i + 1) m 0 (Int.emod_nonneg _ (by omega)) (Int.emod_lt_of_pos _ m0) ⟨by omega, d.m0, d.m1, Int.le_refl _⟩
      · refine ⟨_, rfl, _, _, _, _, rfl, rfl, SqL.of hl1, rfl, _, _, rfl, rfl, wide_mul (a := 31) (b := 17) (by have := d.m0; have := d.m1; omega) (by decide) (by decide) (by decide) (by decide), _, _, rfl, rfl, _, _, rfl, rfl, (by show (0 : Int) < 2147483647; decide), _, rfl, st, _, _, 2, rfl, rfl, hl1, rfl, ?_⟩
        rw [upd_upd]
        have n0 := Int.emod_nonneg (m * 48271 + 11) (show (2147483647 : Int) ≠ 0 by decide)
        have n1 := Int.emod_lt_of_pos (m * 48271 + 11) (show (0 : Int) < 2147483647 by decide)
        have hl2 : (upd H st (.lst [.ref a, .int (i + 1), .int ((m * 48271 + 11) % 2147483647), .int c])) st = some (.lst [.ref a, .int (i + 1), .int ((m * 48271 + 11) % 2147483647), .int c]) := upd_same
        refine ⟨_, rfl, _, _, _, _, rfl, rfl, SqL.of hl2, rfl, _, _, rfl, rfl, wide_div (b := 3) (by decide) (by decide) (by decide) (by decide), _, rfl, _, _, rfl, rfl, m0, ?_⟩
        have i0 := d.i0
        exact k ((m * 48271 + 11) % 2147483647 / 7 % many) (i + 1) ((m * 48271 + 11) % 2147483647) c (Int.emod_nonneg _ (by omega)) (Int.emod_lt_of_pos _ m0) ⟨by omega, n0, n1, d.c0⟩
end
end My

namespace My
open PySem PySem.Spec PyProof.Rows LamX L2
section
variable {P : Program} {w : World} {K : PySem.W.Frag} {mg : Str → Option Value} {base : Heap}
abbrev s_law_kind : Stmt := top 29
theorem sc_law_kind : FnScope ["_law_work", "e", "_law_kinds", "_law_words", "_law_word"] ["_law_work"] (defScope s_law_kind) := ⟨rfl, rfl, rfl, by decide +kernel, rfl, by decide +kernel, by decide +kernel⟩
/-- the errors' names -/
def kindW : List Str := ["BadFrame", "BadShare", "BadWidth", "BadBegins", "BadRuns", "NoRoom", "BadText"]
/-- the class of the name x is the j-th of these -/
structure ErrK (K : PySem.W.Frag) (x : Str) (j : Nat) : Prop where
  exc : ExcC K (He.ga K x)
  pe : PySem.W.exmOne K (.ref (He.ga K x)) (.ref (He.ga K "PulseError")) = some true
  k0 : PySem.W.kitOne K (.ref (He.ga K x)) (.ref (He.ga K "BadFrame")) = some (decide (j = 0))
  k1 : PySem.W.kitOne K (.ref (He.ga K x)) (.ref (He.ga K "BadShare")) = some (decide (j = 1))
  k2 : PySem.W.kitOne K (.ref (He.ga K x)) (.ref (He.ga K "BadWidth")) = some (decide (j = 2))
  k3 : PySem.W.kitOne K (.ref (He.ga K x)) (.ref (He.ga K "BadBegins")) = some (decide (j = 3))
  k4 : PySem.W.kitOne K (.ref (He.ga K x)) (.ref (He.ga K "BadRuns")) = some (decide (j = 4))
  k5 : PySem.W.kitOne K (.ref (He.ga K x)) (.ref (He.ga K "NoRoom")) = some (decide (j = 5))
  k6 : PySem.W.kitOne K (.ref (He.ga K x)) (.ref (He.ga K "BadText")) = some (decide (j = 6))
  ve : PySem.W.kitOne K (.ref (He.ga K x)) (.type "ValueError") = some true
  lt : j < 6
  nm : kindW[j]? = some x
/-- _law_kind's making of what it got: its answer, or the error's name -/
def TKind (K : PySem.W.Frag) : (XK → Hp → VK → Prop) → Hp → VK → Prop := fun tl H Q =>
  tl (fun cls d H' => ∃ (x : Str) (j : Nat), cls = .ref (He.ga K x) ∧ d = none ∧ ErrK K x j ∧ ∀ H'', Same H' H'' → Q (.str x) H'') H Q
theorem kind_gives {X : Cx} (T : Txt X.K X.mg) {g : Addr} {cdg : Value} {q : Str} : GivesTo X ["_law_work", "e", "_law_kinds", "_law_words", "_law_word"] "_law_kind" (defScope s_law_kind) g cdg (defBody s_law_kind) "_law_work" q (TKind X.K) := by
  intro f c' s H Q tl act hc h
  refine ⟨_, pss_one (ps_try_as (X := (cxOf C8.CX0 X.prog X.w X.K X.mg X.base ["_law_work", "e", "_law_kinds", "_law_words", "_law_word"] "_law_kind" (defScope s_law_kind) g cdg X.A X.stack s H C8.E0).nox) (i := 1) (c := .ref (He.ga X.K "PulseError"))
      (tb := fun W D σ H => ∃ Ech : XK, (∀ cls d σ' H', Ech cls d H' → W cls d σ' H') ∧ σ[0]? = some (some (.ref f)) ∧ H c' = some (CodeO c' q) ∧ tl Ech H D.rt)
      rfl rfl sc_law_kind.nd rfl (by rfl) ⟨rfl, by decide, .inl T.g_PulseError⟩ L2.takes0 (fun W pn xe tk _ => ?_) (fun a oe cls d pn hz hf => pss_len 5 (pss_cons (ps_set (i := 2) sc_law_kind.nd rfl (.inl rfl) (pe_lst (pa_cons (pe_callB (call_isK hz hf) (by rfl) T.b_isinstance (by decide +kernel) (pa_cons (pv 1) (pa_cons (pe_glob (v := .ref (He.ga X.K "BadFrame")) (by rfl) T.g_BadFrame rfl) pa_nil))) (pa_cons (pe_callB (call_isK hz hf) (by rfl) T.b_isinstance (by decide +kernel) (pa_cons (pv 1) (pa_cons (pe_glob (v := .ref (He.ga X.K "BadShare")) (by rfl) T.g_BadShare rfl) pa_nil))) (pa_cons (pe_callB (call_isK hz hf) (by rfl) T.b_isinstance (by decide +kernel) (pa_cons (pv 1) (pa_cons (pe_glob (v := .ref (He.ga X.K "BadWidth")) (by rfl) T.g_BadWidth rfl) pa_nil))) (pa_cons (pe_callB (call_isK hz hf) (by rfl) T.b_isinstance (by decide +kernel) (pa_cons (pv 1) (pa_cons (pe_glob (v := .ref (He.ga X.K "BadBegins")) (by rfl) T.g_BadBegins rfl) pa_nil))) pa_nil))))))
      (pss_cons (ps_set (i := 2) sc_law_kind.nd rfl (.inl rfl) (pe_op op_cat (pv 2) (pe_lst (pa_cons (pe_callB (call_isK hz hf) (by rfl) T.b_isinstance (by decide +kernel) (pa_cons (pv 1) (pa_cons (pe_glob (v := .ref (He.ga X.K "BadRuns")) (by rfl) T.g_BadRuns rfl) pa_nil))) (pa_cons (pe_callB (call_isK hz hf) (by rfl) T.b_isinstance (by decide +kernel) (pa_cons (pv 1) (pa_cons (pe_glob (v := .ref (He.ga X.K "NoRoom")) (by rfl) T.g_NoRoom rfl) pa_nil))) (pa_cons (pe_callB (call_isK hz hf) (by rfl) T.b_isinstance (by decide +kernel) (pa_cons (pv 1) (pa_cons (pe_glob (v := .ref (He.ga X.K "BadText")) (by rfl) T.g_BadText rfl) pa_nil))) pa_nil))))))
      (pss_cons (ps_set (i := 3) sc_law_kind.nd rfl (.inl rfl) (pe_lst (pa_cons pe_str (pa_cons pe_str (pa_cons pe_str (pa_cons pe_str (pa_cons pe_str (pa_cons pe_str (pa_cons pe_str pa_nil)))))))))
      (pss_cons (ps_if (PW.pt (pw_or (pt_cmpR op_ne (pe_bmK X.K PySem.F.plainAttrs_list PySem.F.slot_list_count PySem.F.type_list_count (mtCntK X.K) (pv 2) (pa_cons pe_bl pa_nil)) pe_int (nomark _)) (pw_or1 (pt_not (pt_val (pe_callB (call_isK hz hf) (by rfl) T.b_isinstance (by decide +kernel) (pa_cons (pv 1) (pa_cons (pe_bltn (v := .ty "ValueError") (u := .type "ValueError") (by rfl) T.b_ValueError (by decide +kernel) rfl) pa_nil)))))))) (pss_one (ps_ret pe_str)) pss_nil)
      (pss_cons (ps_set (i := 4) sc_law_kind.nd rfl (.inl rfl) (pe_ix (ixL X.K) (pv 3) (pe_bmK X.K PySem.F.plainAttrs_list PySem.F.slot_list_index PySem.F.type_list_index (mtIndexK X.K) (pv 2) (pa_cons pe_bl pa_nil)) (fun _ _ => rfl)))
      (pss_one (ps_ret (pe_ifExp (pt_cmpR op_eq (pv 4) pe_str (nomark _)) (pe_tup (pa_cons (pv 4) (pa_cons pe_nev pa_nil))) (pv 4))))))))))), ?_⟩
  · refine ⟨fun pins s' σ H' D I h' => ?_⟩
    obtain ⟨Ech, hW, h1, h2, h3⟩ := h'
    exact (pss_one (ps_ret (act W pn xe Ech _ _ tk hW))).run pins s' σ H' D I ⟨h1, h2, h3⟩
  · refine ⟨fun cls d H' => ∃ (x : Str) (j : Nat), cls = .ref (He.ga X.K x) ∧ d = none ∧ ErrK X.K x j ∧ ∀ H'', Same H' H'' → Q (.str x) H'', ?_, rfl, hc, h⟩
    rintro cls d σ' H' ⟨x, j, rfl, rfl, E, k⟩
    refine ⟨true, E.pe, fun _ a ha hlen => ?_, fun z => nomatch z⟩
    rw [List.length_set] at hlen
    obtain ⟨v0, v1, v2, v3, v4, rfl⟩ := five hlen
    have hj := E.lt
    refine ⟨_, rfl, _, _, _, _, rfl, rfl, E.exc, rfl, (fun _ h => h), E.k0, _, rfl, _, _, _, _, rfl, rfl, E.exc, rfl, (fun _ h => h), E.k1, _, rfl, _, _, _, _, rfl, rfl, E.exc, rfl, (fun _ h => h), E.k2, _, rfl, _, _, _, _, rfl, rfl, E.exc, rfl, (fun _ h => h), E.k3, (by show 4 ≤ sizeLine; decide), fun p1 hp1 => ?_⟩
    have e1 : Same H' (upd H' p1 (.lst [.bl (decide (j = 0)), .bl (decide (j = 1)), .bl (decide (j = 2)), .bl (decide (j = 3))])) := Same.upd hp1
    have h1 : upd H' p1 (.lst [.bl (decide (j = 0)), .bl (decide (j = 1)), .bl (decide (j = 2)), .bl (decide (j = 3))]) p1 = some (.lst [.bl (decide (j = 0)), .bl (decide (j = 1)), .bl (decide (j = 2)), .bl (decide (j = 3))]) := upd_same
    generalize upd H' p1 (.lst [.bl (decide (j = 0)), .bl (decide (j = 1)), .bl (decide (j = 2)), .bl (decide (j = 3))]) = H1 at e1 h1
    refine ⟨_, rfl, _, rfl, _, _, _, _, rfl, rfl, E.exc, rfl, (fun _ h => h), E.k4, _, rfl, _, _, _, _, rfl, rfl, E.exc, rfl, (fun _ h => h), E.k5, _, rfl, _, _, _, _, rfl, rfl, E.exc, rfl, (fun _ h => h), E.k6, (by show 3 ≤ sizeLine; decide), fun p2 hp2 => ?_⟩
    have e2 : Same H' (upd H1 p2 (.lst [.bl (decide (j = 4)), .bl (decide (j = 5)), .bl (decide (j = 6))])) := e1.new hp2
    have h12 : upd H1 p2 (.lst [.bl (decide (j = 4)), .bl (decide (j = 5)), .bl (decide (j = 6))]) p1 = _ := (upd_ne (ne_of_none h1 hp2)).trans h1
    have h2 : upd H1 p2 (.lst [.bl (decide (j = 4)), .bl (decide (j = 5)), .bl (decide (j = 6))]) p2 = some (.lst [.bl (decide (j = 4)), .bl (decide (j = 5)), .bl (decide (j = 6))]) := upd_same
    generalize upd H1 p2 (.lst [.bl (decide (j = 4)), .bl (decide (j = 5)), .bl (decide (j = 6))]) = H2 at e2 h12 h2
    refine ⟨_, _, _, _, rfl, rfl, h12, h2, (by show 7 ≤ sizeLine; decide), fun p3 hp3 => ?_⟩
    have e3 : Same H' (upd H2 p3 (.lst ([.bl (decide (j = 0)), .bl (decide (j = 1)), .bl (decide (j = 2)), .bl (decide (j = 3))] ++ [.bl (decide (j = 4)), .bl (decide (j = 5)), .bl (decide (j = 6))]))) := e2.new hp3
    have h3 : upd H2 p3 (.lst ([.bl (decide (j = 0)), .bl (decide (j = 1)), .bl (decide (j = 2)), .bl (decide (j = 3))] ++ [.bl (decide (j = 4)), .bl (decide (j = 5)), .bl (decide (j = 6))])) p3 = some (.lst [.bl (decide (j = 0)), .bl (decide (j = 1)), .bl (decide (j = 2)), .bl (decide (j = 3)), .bl (decide (j = 4)), .bl (decide (j = 5)), .bl (decide (j = 6))]) := upd_same
    generalize upd H2 p3 (.lst ([.bl (decide (j = 0)), .bl (decide (j = 1)), .bl (decide (j = 2)), .bl (decide (j = 3))] ++ [.bl (decide (j = 4)), .bl (decide (j = 5)), .bl (decide (j = 6))])) = H3 at e3 h3
    refine ⟨(by show 7 ≤ sizeLine; decide), fun p4 hp4 => ?_⟩
    have e4 : Same H' (upd H3 p4 (.lst [V.str "BadFrame", V.str "BadShare", V.str "BadWidth", V.str "BadBegins", V.str "BadRuns", V.str "NoRoom", V.str "BadText"])) := e3.new hp4
    have h34 : upd H3 p4 (.lst [V.str "BadFrame", V.str "BadShare", V.str "BadWidth", V.str "BadBegins", V.str "BadRuns", V.str "NoRoom", V.str "BadText"]) p3 = _ := (upd_ne (ne_of_none h3 hp4)).trans h3
    have h4 : upd H3 p4 (.lst [V.str "BadFrame", V.str "BadShare", V.str "BadWidth", V.str "BadBegins", V.str "BadRuns", V.str "NoRoom", V.str "BadText"]) p4 = some (.lst [V.str "BadFrame", V.str "BadShare", V.str "BadWidth", V.str "BadBegins", V.str "BadRuns", V.str "NoRoom", V.str "BadText"]) := upd_same
    have fin := k _ e4
    generalize upd H3 p4 (.lst [V.str "BadFrame", V.str "BadShare", V.str "BadWidth", V.str "BadBegins", V.str "BadRuns", V.str "NoRoom", V.str "BadText"]) = H4 at e4 h34 h4 fin
    have hnm := E.nm
    have six : j = 0 ∨ j = 1 ∨ j = 2 ∨ j = 3 ∨ j = 4 ∨ j = 5 := by omega
    rcases six with e | e | e | e | e | e <;> subst e <;> cases hnm
    · refine ⟨_, rfl, .inl ⟨rfl, _, SqL.of h34⟩, _, _, _, rfl, rfl, SqL.of h34, rfl, rfl, rfl, _, rfl, iteFe rfl ⟨_, rfl, _, _, _, _, rfl, rfl, E.exc, rfl, (fun _ h => h), E.ve, _, rfl, iteF ?_⟩⟩
      refine ⟨_, rfl, _, rfl, .inl ⟨rfl, _, SqL.of h34⟩, _, _, _, 0, _, rfl, rfl, SqL.of h34, rfl, rfl, rfl, rfl, noAhead [decide (0 = 0), decide (0 = 1), decide (0 = 2), decide (0 = 3), decide (0 = 4), decide (0 = 5), decide (0 = 6)] 0 (by decide), _, _, _, _, rfl, rfl, SqL.of h4, at_of (j := 0) rfl rfl, ?_⟩
      exact ⟨_, rfl, rfl, _, rfl, iteFe (by decide) ⟨_, rfl, fin⟩⟩
    · refine ⟨_, rfl, .inl ⟨rfl, _, SqL.of h34⟩, _, _, _, rfl, rfl, SqL.of h34, rfl, rfl, rfl, _, rfl, iteFe rfl ⟨_, rfl, _, _, _, _, rfl, rfl, E.exc, rfl, (fun _ h => h), E.ve, _, rfl, iteF ?_⟩⟩
      refine ⟨_, rfl, _, rfl, .inl ⟨rfl, _, SqL.of h34⟩, _, _, _, 1, _, rfl, rfl, SqL.of h34, rfl, rfl, rfl, rfl, noAhead [decide (1 = 0), decide (1 = 1), decide (1 = 2), decide (1 = 3), decide (1 = 4), decide (1 = 5), decide (1 = 6)] 1 (by decide), _, _, _, _, rfl, rfl, SqL.of h4, at_of (j := 1) rfl rfl, ?_⟩
      exact ⟨_, rfl, rfl, _, rfl, iteFe (by decide) ⟨_, rfl, fin⟩⟩
    · refine ⟨_, rfl, .inl ⟨rfl, _, SqL.of h34⟩, _, _, _, rfl, rfl, SqL.of h34, rfl, rfl, rfl, _, rfl, iteFe rfl ⟨_, rfl, _, _, _, _, rfl, rfl, E.exc, rfl, (fun _ h => h), E.ve, _, rfl, iteF ?_⟩⟩
      refine ⟨_, rfl, _, rfl, .inl ⟨rfl, _, SqL.of h34⟩, _, _, _, 2, _, rfl, rfl, SqL.of h34, rfl, rfl, rfl, rfl, noAhead [decide (2 = 0), decide (2 = 1), decide (2 = 2), decide (2 = 3), decide (2 = 4), decide (2 = 5), decide (2 = 6)] 2 (by decide), _, _, _, _, rfl, rfl, SqL.of h4, at_of (j := 2) rfl rfl, ?_⟩
      exact ⟨_, rfl, rfl, _, rfl, iteFe (by decide) ⟨_, rfl, fin⟩⟩
    · refine ⟨_, rfl, .inl ⟨rfl, _, SqL.of h34⟩, _, _, _, rfl, rfl, SqL.of h34, rfl, rfl, rfl, _, rfl, iteFe rfl ⟨_, rfl, _, _, _, _, rfl, rfl, E.exc, rfl, (fun _ h => h), E.ve, _, rfl, iteF ?_⟩⟩
      refine ⟨_, rfl, _, rfl, .inl ⟨rfl, _, SqL.of h34⟩, _, _, _, 3, _, rfl, rfl, SqL.of h34, rfl, rfl, rfl, rfl, noAhead [decide (3 = 0), decide (3 = 1), decide (3 = 2), decide (3 = 3), decide (3 = 4), decide (3 = 5), decide (3 = 6)] 3 (by decide), _, _, _, _, rfl, rfl, SqL.of h4, at_of (j := 3) rfl rfl, ?_⟩
      exact ⟨_, rfl, rfl, _, rfl, iteFe (by decide) ⟨_, rfl, fin⟩⟩
    · refine ⟨_, rfl, .inl ⟨rfl, _, SqL.of h34⟩, _, _, _, rfl, rfl, SqL.of h34, rfl, rfl, rfl, _, rfl, iteFe rfl ⟨_, rfl, _, _, _, _, rfl, rfl, E.exc, rfl, (fun _ h => h), E.ve, _, rfl, iteF ?_⟩⟩
      refine ⟨_, rfl, _, rfl, .inl ⟨rfl, _, SqL.of h34⟩, _, _, _, 4, _, rfl, rfl, SqL.of h34, rfl, rfl, rfl, rfl, noAhead [decide (4 = 0), decide (4 = 1), decide (4 = 2), decide (4 = 3), decide (4 = 4), decide (4 = 5), decide (4 = 6)] 4 (by decide), _, _, _, _, rfl, rfl, SqL.of h4, at_of (j := 4) rfl rfl, ?_⟩
      exact ⟨_, rfl, rfl, _, rfl, iteFe (by decide) ⟨_, rfl, fin⟩⟩
    · refine ⟨_, rfl, .inl ⟨rfl, _, SqL.of h34⟩, _, _, _, rfl, rfl, SqL.of h34, rfl, rfl, rfl, _, rfl, iteFe rfl ⟨_, rfl, _, _, _, _, rfl, rfl, E.exc, rfl, (fun _ h => h), E.ve, _, rfl, iteF ?_⟩⟩
      refine ⟨_, rfl, _, rfl, .inl ⟨rfl, _, SqL.of h34⟩, _, _, _, 5, _, rfl, rfl, SqL.of h34, rfl, rfl, rfl, rfl, noAhead [decide (5 = 0), decide (5 = 1), decide (5 = 2), decide (5 = 3), decide (5 = 4), decide (5 = 5), decide (5 = 6)] 5 (by decide), _, _, _, _, rfl, rfl, SqL.of h4, at_of (j := 5) rfl rfl, ?_⟩
      exact ⟨_, rfl, rfl, _, rfl, iteFe (by decide) ⟨_, rfl, fin⟩⟩
end
end My

namespace My
open PySem PySem.Spec PyProof.Rows LamX L2
section
variable {P : Program} {w : World} {K : PySem.W.Frag} {mg : Str → Option Value} {base : Heap}
abbrev s_need_beats : Stmt := top 11
theorem sc_need_beats : FnScope ["beats"] ["beats"] (defScope s_need_beats) := ⟨rfl, rfl, rfl, by decide +kernel, rfl, by decide +kernel, by decide +kernel⟩
/-- need_beats(beats), good ones or not -/
def spNeedBeatsX (K : PySem.W.Frag) : Sp := fun vs H Q E => ∃ b : Int, vs = [.int b] ∧ ((1 ≤ b ∧ b ≤ 64 ∧ Q .non H) ∨ (¬ (1 ≤ b ∧ b ≤ 64) ∧ E (.ref (He.ga K "BadShare")) none H))
theorem ok_need_beats {f : Addr} {fd : FuncData} (F : FunG K mg "need_beats" s_need_beats f fd ["beats"]) (T : Txt K mg) : FnOk P w K mg base (L2.CX P w) 1 f fd ["beats"] (spNeedBeatsX K) := by
  refine F.fn.okX sc_need_beats (fun vs H Q E h => ?_) (fun cdv A outer s H vs Q E hr h => ?_)
  · obtain ⟨b, rfl, _⟩ := h
    rfl
  · obtain ⟨b, rfl, k⟩ := h
    refine ⟨_, (pss_one (ps_if (pt_not (pt_chain op_le op_le pe_int (pv 0) (C8.pe_gc (by rfl) T.k_MOST_BEATS))) (pss_one (ps_raise (by rfl) (takes_of rfl rfl rfl rfl) (pmk_own PySem.F.excBase_ValueError T.x_BadShare.x T.x_BadShare.g T.x_BadShare.k (raises_own T.x_BadShare.b T.x_BadShare.t) (by rfl)))) pss_nil)), ?_⟩
    refine ⟨_, rfl, _, _, rfl, rfl, _, rfl, ?_⟩
    by_cases b0 : 1 ≤ b
    · refine iteTe (decide_eq_true b0) ⟨_, _, rfl, rfl, _, rfl, ?_⟩
      by_cases b1 : b ≤ 64
      · refine iteFe (c := !decide (b ≤ 64)) (by rw [decide_eq_true b1]; rfl) ?_
        rcases k with ⟨_, _, k⟩ | ⟨hn, _⟩
        · exact k
        · exact absurd ⟨b0, b1⟩ hn
      · refine iteTe (c := !decide (b ≤ 64)) (by rw [decide_eq_false b1]; rfl) ?_
        rcases k with ⟨_, h, _⟩ | ⟨_, k⟩
        · exact absurd h b1
        · exact k
    · refine iteFe (decide_eq_false b0) ⟨_, rfl, ?_⟩
      refine iteT ?_
      rcases k with ⟨h, _⟩ | ⟨_, k⟩
      · exact absurd h b0
      · exact k
abbrev s_need_shares : Stmt := top 17
theorem sc_need_shares : FnScope ["beats", "shares", "share"] ["beats", "shares"] (defScope s_need_shares) := ⟨rfl, rfl, rfl, by decide +kernel, rfl, by decide +kernel, by decide +kernel⟩
/-- need_shares(beats, shares), good ones or not -/
def spNeedShares (K : PySem.W.Frag) : Sp := fun vs H Q _ => ∃ (b : Int) (s : Addr) (sh : List Int), vs = [.int b, .ref s] ∧ SqL K H s (sh.map V.int) ∧ 1 ≤ b ∧ b ≤ 64 ∧ (∀ x ∈ sh, 0 ≤ x ∧ x ≤ b) ∧ sh.length ≤ 12 ∧ ∀ H', Same H H' → Q .non H'
theorem ok_need_shares {f : Addr} {fd : FuncData} (F : FunG K mg "need_shares" s_need_shares f fd ["beats", "shares"]) (T : Txt K mg) (c_need_beats : Cl P w K mg base (L2.CX P w) 1 "need_beats" (spNeedBeatsX K)) : FnOk P w K mg base (L2.CX P w) 2 f fd ["beats", "shares"] (orH K 0 (spNeedShares K)) := by
  refine F.fn.okX sc_need_shares (fun vs H Q E h => ?_) (fun cdv A outer s H vs Q E hr h => ?_)
  · rcases h with ⟨b, s, sh, rfl, _⟩ | ⟨b, s, sh, rest, rfl, hrl, _⟩
    · rfl
    · simp [hrl]
  · refine ⟨_, (pss_cons (ps_expr (pe_clT c_need_beats hr (by decide) (passes_call (takes_of rfl rfl rfl rfl) (fun _ _ _ _ h => h)) (by rfl) (pa_cons (pv 0) pa_nil)))
      (pss_one (ps_if (PW.pt (pw_or (pt_cmpR op_gt (pe_callB (clLen K) (by rfl) T.b_len (by decide +kernel) (pa_cons (pv 1) pa_nil)) (C8.pe_gc (by rfl) T.k_MOST_SHARES) (nomark _)) (pw_or1 (pt_cmpR (opNeD K hr.units) (pe_lc (own := [("share", 2)]) (g := gName 2) (by rfl) sc_need_shares.nd (pi_list (pv 1)) (blkOk_by (own := [("share", 2)]) (N := ["beats", "shares", "share"]) (sc := defScope s_need_shares) (by decide +kernel)) (fun _ _ _ _ _ => (pg_name (i := 2) sc_need_shares.nd rfl (.inl rfl))) (fun _ _ _ _ _ => (pts_one (pt_not (pt_chain op_le op_le pe_int (pv 2) (pv 0))))) (fun _ _ _ _ _ => (pv 2))) (pe_lst pa_nil) (nomark _))))) (pss_one (ps_raise (by rfl) (takes_of rfl rfl rfl rfl) (pmk_own PySem.F.excBase_ValueError T.x_BadShare.x T.x_BadShare.g T.x_BadShare.k (raises_own T.x_BadShare.b T.x_BadShare.t) (by rfl)))) pss_nil))), ?_⟩
    have both : ∃ (b : Int) (s : Addr) (sh : List Int), vs = [.int b, .ref s] ∧ SqL K H s (sh.map V.int) ∧ sh.length ≤ 10000 ∧ (GoodSh b sh → ∀ H', Same H H' → Q .non H') ∧ (¬ GoodSh b sh → ∀ H', Same H H' → E (.ref (He.ga K "BadShare")) none H') := by
      rcases h with ⟨b, s, sh, rfl, hs, h1, h2, h3, h4, k⟩ | ⟨b, s, sh, rest, rfl, hrl, hs, hl, hb, k⟩
      · exact ⟨b, s, sh, rfl, hs, by omega, fun _ => k, fun z => absurd ⟨h1, h2, h4, h3⟩ z⟩
      · obtain rfl : rest = [] := List.length_eq_zero_iff.mp hrl
        exact ⟨b, s, sh, rfl, hs, hl, fun z => absurd z hb, fun _ => k⟩
    obtain ⟨b, s, sh, rfl, hs, hl, kg, kb⟩ := both
    have hlen : (sh.map V.int).length = sh.length := List.length_map _
    by_cases hb : 1 ≤ b ∧ b ≤ 64
    · refine ⟨_, rfl, b, rfl, .inl ⟨hb.1, hb.2, ?_⟩⟩
      refine ⟨_, rfl, _, _, rfl, .inl hs, _, _, rfl, rfl, _, rfl, ?_⟩
      by_cases h12 : (12 : Int) < ((sh.map V.int).length : Int)
      · exact iteTe (decide_eq_true h12) (iteT (kb (fun z => by have := z.2.2.1; omega) H (Same.refl H)))
      refine iteFe (decide_eq_false h12) ?_
      refine ⟨_, rfl, _, rfl, ⟨_, hs⟩, fun D hD => lc_list (K := K) (a := s) (xs := sh.map V.int) (fun i H' => Same H H' ∧ H' D = some (.lst (((sh.take i).filter (fun z => !inB b z)).map V.int))) ⟨Same.upd hD, upd_same⟩ (fun i H' _ h => h.1.seq hs) ?_ ?_⟩
      · rintro i x H' hi ⟨e, hd⟩
        obtain ⟨z, hz, rfl⟩ := getV hi
        have len : (((sh.take i).filter (fun z => !inB b z)).map V.int).length < sizeLine := small_of (m := 10000) (by rw [List.length_map]; exact filt_len hl)
        have keepIt : inB b z = true → Same H H' ∧ H' D = some (.lst (((sh.take (i + 1)).filter (fun z => !inB b z)).map V.int)) := fun c => ⟨e, by rw [hd, filt_snoc hz, if_pos c, List.append_nil]⟩
        have addIt : inB b z = false → Same H (upd H' D (.lst ((((sh.take i).filter (fun z => !inB b z)).map V.int) ++ [V.int z]))) ∧ (upd H' D (.lst ((((sh.take i).filter (fun z => !inB b z)).map V.int) ++ [V.int z]))) D = some (.lst (((sh.take (i + 1)).filter (fun z => !inB b z)).map V.int)) := fun c => ⟨e.mut hD, by rw [upd_same, filt_snoc hz, if_neg (by rw [c]; simp), List.map_append]; rfl⟩
        refine ⟨rfl, _, rfl, _, _, rfl, rfl, _, rfl, ?_⟩
        by_cases z0 : 0 ≤ z
        · refine iteTe (decide_eq_true z0) ⟨_, rfl, _, _, rfl, rfl, _, rfl, ?_⟩
          by_cases z1 : z ≤ b
          · exact iteFe (c := !decide (z ≤ b)) (by rw [decide_eq_true z1]; rfl) (keepIt (inB_iff.mpr ⟨z0, z1⟩))
          · exact iteTe (c := !decide (z ≤ b)) (by rw [decide_eq_false z1]; rfl) ⟨_, rfl, _, hd, len, addIt (by unfold inB; rw [decide_eq_false z1, Bool.and_false])⟩
        · exact iteFe (decide_eq_false z0) ⟨_, rfl, iteT ⟨_, rfl, _, hd, len, addIt (by unfold inB; rw [decide_eq_false z0, Bool.false_and])⟩⟩
      · rintro H' ⟨e, hd⟩
        rw [hlen, List.take_length] at hd
        refine ⟨Nat.zero_le _, fun q hq => ⟨_, _, dp_ints (SqL.of (by rw [upd_ne (ne_of_none hd hq)]; exact hd)), dp_nil (SqL.of upd_same), dI_shaped _, dI_shaped _, _, rfl, ?_⟩⟩
        rw [dI_eqv]
        have e2 : Same H (upd H' q (.lst [])) := e.new hq
        by_cases c : sh.filter (fun z => !inB b z) = []
        · exact iteFe (by rw [decide_eq_true c]; rfl) (kg ⟨hb.1, hb.2, by omega, fun x hx => inB_iff.mp (filt_nil.mp c x hx)⟩ _ e2)
        · exact iteTe (by rw [decide_eq_false c]; rfl) (kb (fun z => c (filt_nil.mpr fun x hx => inB_iff.mpr (z.2.2.2 x hx))) _ e2)
    · exact ⟨_, rfl, b, rfl, .inr ⟨hb, kb (fun z => hb ⟨z.1, z.2.1⟩) H (Same.refl H)⟩⟩
abbrev s_peak_of : Stmt := top 18
theorem sc_peak_of : FnScope ["beats", "shares"] ["beats", "shares"] (defScope s_peak_of) := ⟨rfl, rfl, rfl, by decide +kernel, rfl, by decide +kernel, by decide +kernel⟩
/-- peak_of(beats, shares) -/
theorem sum_bd {b : Int} : ∀ {sh : List Int}, (∀ x ∈ sh, 0 ≤ x ∧ x ≤ b) → 0 ≤ sh.sum ∧ sh.sum ≤ sh.length * b
  | [], _ => by simp
  | x :: xs, h => by
    have h1 := sum_bd (sh := xs) fun y hy => h y (List.mem_cons_of_mem _ hy)
    have h2 := h x List.mem_cons_self
    rw [List.sum_cons, List.length_cons, Int.natCast_add, Int.add_mul]
    omega
def spPeakOf (K : PySem.W.Frag) : Sp := fun vs H Q _ => ∃ (b : Int) (s : Addr) (sh : List Int), vs = [.int b, .ref s] ∧ SqL K H s (sh.map V.int) ∧ 1 ≤ b ∧ b ≤ 64 ∧ Q (.int ((sh.sum + b - 1) / b)) H
theorem ok_peak_of {f : Addr} {fd : FuncData} (F : FunG K mg "peak_of" s_peak_of f fd ["beats", "shares"]) (T : Txt K mg) : FnOk P w K mg base CX0 1 f fd ["beats", "shares"] (spPeakOf K) := by
  refine F.fn.ok sc_peak_of (fun vs H Q E h => ?_) (fun cdv A outer s H vs Q E hr h => ?_)
  · obtain ⟨b, s, sh, rfl, _⟩ := h
    rfl
  · obtain ⟨b, s, sh, rfl, hs, b0, b1, k⟩ := h
    refine ⟨_, (pss_one (ps_ret (pe_op op_fdivW (pe_op op_sub (pe_op op_add (pe_callB (clSum K rfl) (by rfl) T.b_sum (by decide +kernel) (pa_cons (pv 1) pa_nil)) (pv 0)) pe_int) (pv 0)))), ?_⟩
    exact ⟨_, rfl, _, _, rfl, hs, _, rfl, _, _, rfl, rfl, _, _, rfl, rfl, _, rfl, _, _, rfl, rfl, wide_div (b := 7) (by omega) (by omega) (by decide) (by decide), k⟩
abbrev s_peak : Stmt := top 19
theorem sc_peak : FnScope ["beats", "shares"] ["beats", "shares"] (defScope s_peak) := ⟨rfl, rfl, rfl, by decide +kernel, rfl, by decide +kernel, by decide +kernel⟩
/-- peak(beats, shares) -/
def spPeak (K : PySem.W.Frag) : Sp := fun vs H Q _ => ∃ (b : Int) (s : Addr) (sh : List Int), vs = [.int b, .ref s] ∧ SqL K H s (sh.map V.int) ∧ 1 ≤ b ∧ b ≤ 64 ∧ (∀ x ∈ sh, 0 ≤ x ∧ x ≤ b) ∧ sh.length ≤ 12 ∧ ∀ H', Same H H' → Q (.int ((sh.sum + b - 1) / b)) H'
theorem ok_peak {f : Addr} {fd : FuncData} (F : FunG K mg "peak" s_peak f fd ["beats", "shares"]) (c_need_shares : Cl P w K mg base (L2.CX P w) 2 "need_shares" (orH K 0 (spNeedShares K))) (c_peak_of : Cl P w K mg base CX0 1 "peak_of" (spPeakOf K)) : FnOk P w K mg base (L2.CX P w) 3 f fd ["beats", "shares"] (orH K 0 (spPeak K)) := by
  refine F.fn.okX sc_peak (fun vs H Q E h => ?_) (fun cdv A outer s H vs Q E hr h => ?_)
  · rcases h with ⟨b, s, sh, rfl, _⟩ | ⟨b, s, sh, rest, rfl, hrl, _⟩
    · rfl
    · simp [hrl]
  · refine ⟨_, (pss_cons (ps_expr (pe_clT c_need_shares hr (by decide) (passes_call (takes_of rfl rfl rfl rfl) (fun _ _ _ _ h => h)) (by rfl) (pa_cons (pv 0) (pa_cons (pv 1) pa_nil))))
      (PSs.nox (pss_one (ps_ret (pe_cl c_peak_of hr (by decide) (by rfl) (pa_cons (pv 0) (pa_cons (pv 1) pa_nil))))))), ?_⟩
    rcases h with ⟨b, s, sh, rfl, hs, b0, b1, hsh, hl, k⟩ | ⟨b, s, sh, rest, rfl, hrl, hs, hl, hb, k⟩
    rotate_left 1
    · obtain rfl : rest = [] := List.length_eq_zero_iff.mp hrl
      exact ⟨_, rfl, _, rfl, .inr ⟨b, s, sh, [], rfl, rfl, hs, hl, hb, fun H1 e1 => k H1 e1⟩⟩
    refine ⟨_, rfl, _, rfl, .inl ⟨b, s, sh, rfl, hs, b0, b1, hsh, hl, fun H1 e1 => ?_⟩⟩
    exact ⟨_, rfl, _, rfl, b, s, sh, rfl, e1.seq hs, b0, b1, k H1 e1⟩
abbrev s_law_shares : Stmt := top 31
theorem sc_law_shares : FnScope ["_law_state", "_law_beats", "_law_most", "_law_wide", "_law_k"] ["_law_state", "_law_beats", "_law_most"] (defScope s_law_shares) := ⟨rfl, rfl, rfl, by decide +kernel, rfl, by decide +kernel, by decide +kernel⟩
/-- _law_shares(state, beats, most): shares of the beats, a new list -/
def spLShares (K : PySem.W.Frag) : Sp := fun vs H Q _ => ∃ (st a : Addr) (ns : List Int) (b m : Int), vs = [.ref st, .int b, .int m] ∧ SOk K a ns st H ∧ 1 ≤ b ∧ b ≤ 64 ∧ 0 ≤ m ∧ m ≤ 12 ∧
  ∀ (sh : List Int) (p : Addr) (H' : Hp), (∀ x ∈ sh, 0 ≤ x ∧ x ≤ b) → (sh.length : Int) ≤ m → H p = none → Keep st H H' → SOk K a ns st H' → H' p = some (.lst (sh.map V.int)) → Q (.ref p) H'
theorem ok_law_shares {f : Addr} {fd : FuncData} (F : FunG K mg "_law_shares" s_law_shares f fd ["_law_state", "_law_beats", "_law_most"]) (T : Txt K mg) (c_law_drawn : Cl P w K mg base CX0 1 "_law_drawn" (spDrawn K)) : FnOk P w K mg base CX0 2 f fd ["_law_state", "_law_beats", "_law_most"] (spLShares K) := by
  refine F.fn.ok sc_law_shares (fun vs H Q E h => ?_) (fun cdv A outer s H vs Q E hr h => ?_)
  · obtain ⟨st, a, ns, b, m, rfl, _⟩ := h
    rfl
  · obtain ⟨st, a, ns, b, m, rfl, hs, b0, b1, m0, m1, k⟩ := h
    refine ⟨_, (pss_cons (ps_set (i := 3) sc_law_shares.nd rfl (.inr rfl) (pe_ix (ixL K) (pe_lst (pa_cons (pv 1) (pa_cons (pe_op op_fdivW (pv 1) pe_int) (pa_cons (pe_op op_fdivW (pv 1) pe_int) pa_nil)))) (pe_cl c_law_drawn hr (by decide) (by rfl) (pa_cons (pv 0) (pa_cons pe_int pa_nil))) (fun _ _ => rfl)))
      (pss_one (ps_ret (pe_lc (own := [("_law_k", 4)]) (g := gName 4) (tt := tYes) (by rfl) sc_law_shares.nd (pi_range1 (by rfl) T.b_range (pa_cons (pe_cl c_law_drawn hr (by decide) (by rfl) (pa_cons (pv 0) (pa_cons (pe_op op_add (pv 2) pe_int) pa_nil))) pa_nil)) (blkOk_by (own := [("_law_k", 4)]) (N := ["_law_state", "_law_beats", "_law_most", "_law_wide", "_law_k"]) (sc := defScope s_law_shares) (by decide +kernel)) (fun _ _ _ _ _ => (pg_name (i := 4) sc_law_shares.nd rfl (.inl rfl))) (fun _ _ _ _ _ => pts_nil) (fun _ _ _ _ _ => (pe_cl c_law_drawn hr (by decide) (by rfl) (pa_cons (pv 0) (pa_cons (pe_op op_add (pv 3) pe_int) pa_nil)))))))), ?_⟩
    refine ⟨_, rfl, _, rfl, _, _, rfl, rfl, wide_div (b := 2) (by decide) (by decide) (by decide) (by decide), _, rfl, _, _, rfl, rfl, wide_div (b := 3) (by decide) (by decide) (by decide) (by decide), (by show 3 ≤ sizeLine; decide), fun p1 hp1 => ?_⟩
    have s1 := hs.new (o := .lst [.int b, .int (b / 2), .int (b / 4)]) hp1
    have n1 := hs.ne_of hp1
    refine ⟨_, rfl, st, a, ns, 3, rfl, s1, by decide, by decide, fun r i c d r0 r1 dd => ?_⟩
    have s2 := s1.drawn dd
    have k2 : Keep st H (upd (upd H p1 (.lst [.int b, .int (b / 2), .int (b / 4)])) st (StO a i c d)) := ((Keep.refl st H).new hp1).atSt
    have hp2 : (upd (upd H p1 (.lst [.int b, .int (b / 2), .int (b / 4)])) st (StO a i c d)) p1 = some (.lst [.int b, .int (b / 2), .int (b / 4)]) := by rw [upd_ne n1, upd_same]
    generalize upd (upd H p1 (.lst [.int b, .int (b / 2), .int (b / 4)])) st (StO a i c d) = H2 at s2 k2 hp2
    have hat : ∃ v : Int, atI [V.int b, V.int (b / 2), V.int (b / 4)] r = some (.int v) ∧ 0 ≤ v ∧ v ≤ b := by
      rcases pick3 r0 r1 with e | e | e <;> subst e <;> exact ⟨_, rfl, by omega, by omega⟩
    obtain ⟨wd, hwd, w0, w1⟩ := hat
    refine ⟨_, _, _, _, rfl, rfl, SqL.of hp2, hwd, ?_⟩
    refine ⟨_, rfl, _, rfl, _, _, rfl, rfl, st, a, ns, m + 1, rfl, s2, by omega, Int.lt_of_le_of_lt (show m + 1 ≤ 13 by omega) (by decide), fun q i3 c3 d3 q0 q1 dd3 => ?_⟩
    have s3 := s2.drawn dd3
    have k3 := k2.atSt (o := StO a i3 c3 d3)
    generalize upd H2 st (StO a i3 c3 d3) = H3 at s3 k3
    refine ⟨_, rfl, by omega, by omega, fun D hD => ?_⟩
    have nD := s3.ne_of hD
    have hDn := k3.free nD hD
    refine lc_range (lo := 0) (n := q.toNat) (fun i H' => SOk K a ns st H' ∧ Keep st H H' ∧ ∃ sh : List Int, H' D = some (.lst (sh.map V.int)) ∧ sh.length = i ∧ ∀ x ∈ sh, 0 ≤ x ∧ x ≤ b) ⟨s3.new hD, k3.new hD, [], upd_same, rfl, fun x hx => by simp at hx⟩ ?_ ?_
    · rintro i H4 hi ⟨s4, k4, sh, hd4, hl4, hb4⟩
      refine ⟨rfl, _, rfl, _, rfl, _, _, rfl, rfl, st, a, ns, wd + 1, rfl, s4, by omega, Int.lt_of_le_of_lt (show wd + 1 ≤ 65 by omega) (by decide), fun y i5 c5 d5 y0 y1 dd5 => ?_⟩
      have s5 := s4.drawn dd5
      have k5 := k4.atSt (o := StO a i5 c5 d5)
      have hd5 : upd H4 st (StO a i5 c5 d5) D = some (.lst (sh.map V.int)) := by rw [upd_ne nD]; exact hd4
      generalize upd H4 st (StO a i5 c5 d5) = H5 at s5 k5 hd5
      refine ⟨_, hd5, small_of (m := 64) (by rw [List.length_map]; omega), s5.mutK hs k5 hDn, k5.mut hDn, sh ++ [y], ?_, by rw [List.length_append, hl4]; rfl, fun x hx => ?_⟩
      · rw [upd_same, List.map_append]; rfl
      · rcases List.mem_append.mp hx with h | h
        · exact hb4 x h
        · rw [List.mem_singleton] at h
          subst h
          omega
    · rintro H4 ⟨s4, k4, sh, hd4, hl4, hb4⟩
      exact k sh D H4 hb4 (by omega) hDn k4 s4 hd4
abbrev s_law_far : Stmt := top 30
theorem sc_law_far : FnScope ["_law_state", "_law_least", "_law_most", "_law_far_here"] ["_law_state", "_law_least", "_law_most"] (defScope s_law_far) := ⟨rfl, rfl, rfl, by decide +kernel, rfl, by decide +kernel, by decide +kernel⟩
/-- _law_far(state, least, most): a number beyond -/
def spFar (K : PySem.W.Frag) : Sp := fun vs H Q _ => ∃ (st a : Addr) (ns : List Int) (lo hi : Int), vs = [.ref st, .int lo, .int hi] ∧ SOk K a ns st H ∧
  ∀ (v : Int) (H' : Hp), (v < lo ∨ hi < v) → Keep st H H' → SOk K a ns st H' → Q (.int v) H'
theorem ok_law_far {f : Addr} {fd : FuncData} (F : FunG K mg "_law_far" s_law_far f fd ["_law_state", "_law_least", "_law_most"]) (c_law_drawn : Cl P w K mg base CX0 1 "_law_drawn" (spDrawn K)) : FnOk P w K mg base CX0 2 f fd ["_law_state", "_law_least", "_law_most"] (spFar K) := by
  refine F.fn.ok sc_law_far (fun vs H Q E h => ?_) (fun cdv A outer s H vs Q E hr h => ?_)
  · obtain ⟨st, a, ns, lo, hi, rfl, _⟩ := h
    rfl
  · obtain ⟨st, a, ns, lo, hi, rfl, hs, k⟩ := h
    refine ⟨_, (pss_cons (ps_set (i := 3) sc_law_far.nd rfl (.inl rfl) (pe_ix (ixL K) (pe_lst (pa_cons pe_int (pa_cons pe_int (pa_cons (pe_op op_pow pe_int pe_int) pa_nil)))) (pe_cl c_law_drawn hr (by decide) (by rfl) (pa_cons (pv 0) (pa_cons pe_int pa_nil))) (fun _ _ => rfl)))
      (pss_one (ps_ret (pe_ix (ixL K) (pe_lst (pa_cons (pe_op op_sub (pe_op op_sub (pv 1) pe_int) (pe_cl c_law_drawn hr (by decide) (by rfl) (pa_cons (pv 0) (pa_cons (pv 3) pa_nil)))) (pa_cons (pe_op op_add (pe_op op_add (pv 2) pe_int) (pe_cl c_law_drawn hr (by decide) (by rfl) (pa_cons (pv 0) (pa_cons (pv 3) pa_nil)))) pa_nil))) (pe_cl c_law_drawn hr (by decide) (by rfl) (pa_cons (pv 0) (pa_cons pe_int pa_nil))) (fun _ _ => rfl))))), ?_⟩
    refine ⟨_, _, rfl, rfl, ⟨by decide, by decide, by decide⟩, (by show 3 ≤ sizeLine; decide), fun p3 hp3 => ?_⟩
    have s3 := hs.new (o := .lst [.int 1, .int 20, .int (10 ^ (29 : Int).toNat)]) hp3
    have n3 := hs.ne_of hp3
    refine ⟨_, rfl, st, a, ns, 3, rfl, s3, by decide, by decide, fun r i4 m4 c4 r0 r1 d4 => ?_⟩
    have s4 := s3.drawn d4
    have k4 : Keep st H (upd (upd H p3 (.lst [.int 1, .int 20, .int (10 ^ (29 : Int).toNat)])) st (StO a i4 m4 c4)) := ((Keep.refl st H).new hp3).atSt
    have hp4 : (upd (upd H p3 (.lst [.int 1, .int 20, .int (10 ^ (29 : Int).toNat)])) st (StO a i4 m4 c4)) p3 = some (.lst [.int 1, .int 20, .int (10 ^ (29 : Int).toNat)]) := by rw [upd_ne n3, upd_same]
    generalize upd (upd H p3 (.lst [.int 1, .int 20, .int (10 ^ (29 : Int).toNat)])) st (StO a i4 m4 c4) = H4 at s4 k4 hp4
    have hat : ∃ v : Int, atI [V.int 1, V.int 20, V.int (10 ^ (29 : Int).toNat)] r = some (.int v) ∧ 1 ≤ v ∧ v ≤ 10 ^ 29 := by
      rcases pick3 r0 r1 with e | e | e <;> subst e
      · exact ⟨_, rfl, by decide, by decide⟩
      · exact ⟨_, rfl, by decide, by decide⟩
      · exact ⟨_, rfl, by decide, by decide⟩
    obtain ⟨far, hfar, f0, f1⟩ := hat
    refine ⟨_, _, _, _, rfl, rfl, SqL.of hp4, hfar, ?_⟩
    refine ⟨_, rfl, _, _, rfl, rfl, _, rfl, _, rfl, st, a, ns, far, rfl, s4, by omega, Int.lt_of_le_of_lt f1 (by decide), fun r5 i5 m5 c5 r50 r51 d5 => ?_⟩
    have s5 := s4.drawn d5
    have k5 := k4.atSt (o := StO a i5 m5 c5)
    generalize upd H4 st (StO a i5 m5 c5) = H5 at s5 k5
    refine ⟨_, _, rfl, rfl, _, rfl, _, _, rfl, rfl, _, rfl, _, rfl, st, a, ns, far, rfl, s5, by omega, Int.lt_of_le_of_lt f1 (by decide), fun r6 i6 m6 c6 r60 r61 d6 => ?_⟩
    have s6 := s5.drawn d6
    have k6 := k5.atSt (o := StO a i6 m6 c6)
    generalize upd H5 st (StO a i6 m6 c6) = H6 at s6 k6
    refine ⟨_, _, rfl, rfl, (by show 2 ≤ sizeLine; decide), fun p7 hp7 => ?_⟩
    have s7 := s6.new (o := .lst [.int (lo - 1 - r5), .int (hi + 1 + r6)]) hp7
    have k7 := k6.new (o := .lst [.int (lo - 1 - r5), .int (hi + 1 + r6)]) hp7
    have n7 := s6.ne_of hp7
    refine ⟨_, rfl, st, a, ns, 2, rfl, s7, by decide, by decide, fun r8 i8 m8 c8 r80 r81 d8 => ?_⟩
    have s8 := s7.drawn d8
    have k8 := k7.atSt (o := StO a i8 m8 c8)
    have hp8 : (upd (upd H6 p7 (.lst [.int (lo - 1 - r5), .int (hi + 1 + r6)])) st (StO a i8 m8 c8)) p7 = some (.lst [.int (lo - 1 - r5), .int (hi + 1 + r6)]) := by rw [upd_ne n7, upd_same]
    generalize upd (upd H6 p7 (.lst [.int (lo - 1 - r5), .int (hi + 1 + r6)])) st (StO a i8 m8 c8) = H8 at s8 k8 hp8
    have hx : r8 = 0 ∨ r8 = 1 := by omega
    rcases hx with e | e <;> subst e
    · exact ⟨_, _, _, _, rfl, rfl, SqL.of hp8, at_of (j := 0) rfl rfl, k _ _ (.inl (by omega)) k8 s8⟩
    · exact ⟨_, _, _, _, rfl, rfl, SqL.of hp8, at_of (j := 1) rfl rfl, k _ _ (.inr (by omega)) k8 s8⟩
abbrev s_all_turns : Stmt := top 22
theorem sc_all_turns : FnScope ["beats", "many", "found", "step", "longer", "row", "turn"] ["beats", "many"] (defScope s_all_turns) := ⟨rfl, rfl, rfl, by decide +kernel, rfl, by decide +kernel, by decide +kernel⟩
theorem ok_all_turns {f : Addr} {fd : FuncData} (F : FunG K mg "all_turns" s_all_turns f fd ["beats", "many"]) : FnOk P w K mg base CX0 1 f fd ["beats", "many"] spNo :=
  F.fn.ok sc_all_turns (fun _ _ _ _ h => h.elim) (fun _ _ _ _ _ _ _ _ _ h => h.elim)
abbrev s_most_on : Stmt := top 23
theorem sc_most_on : FnScope ["beats", "shares", "turns", "share", "turn", "frames", "k", "frame"] ["beats", "shares", "turns"] (defScope s_most_on) := ⟨rfl, rfl, rfl, by decide +kernel, rfl, by decide +kernel, by decide +kernel⟩
theorem ok_most_on {f : Addr} {fd : FuncData} (F : FunG K mg "most_on" s_most_on f fd ["beats", "shares", "turns"]) : FnOk P w K mg base CX0 1 f fd ["beats", "shares", "turns"] spNo :=
  F.fn.ok sc_most_on (fun _ _ _ _ h => h.elim) (fun _ _ _ _ _ _ _ _ _ h => h.elim)
end
end My

namespace My
open PySem PySem.Spec PyProof.Rows LamX L2
section
variable {P : Program} {w : World} {K : PySem.W.Frag} {mg : Str → Option Value} {base : Heap}
abbrev s_blocks : Stmt := top 20
theorem sc_blocks : FnScope ["beats", "shares", "bound", "found", "here", "share"] ["beats", "shares", "bound"] (defScope s_blocks) := ⟨rfl, rfl, rfl, by decide +kernel, rfl, by decide +kernel, by decide +kernel⟩
/-- blocks(beats, shares, bound), good shares: begins, or NoRoom -/
def spBlocksX (K : PySem.W.Frag) : Sp := fun vs H Q E => ∃ (b bd : Int) (s : Addr) (sh : List Int), vs = [.int b, .ref s, .int bd] ∧ SqL K H s (sh.map V.int) ∧ 1 ≤ b ∧ b ≤ 64 ∧ (∀ x ∈ sh, 0 ≤ x ∧ x ≤ b) ∧ sh.length ≤ 12 ∧
  (((sh.sum + b - 1) / b ≤ bd ∧ ∀ l H', Same H H' → H l = none → H' l = some (.lst ((begs b sh).map V.int)) → Q (.ref l) H') ∨ (bd < (sh.sum + b - 1) / b ∧ ∀ H', Same H H' → E (.ref (He.ga K "NoRoom")) none H'))
theorem ok_blocks {f : Addr} {fd : FuncData} (F : FunG K mg "blocks" s_blocks f fd ["beats", "shares", "bound"]) (T : Txt K mg) (c_need_shares : Cl P w K mg base (L2.CX P w) 2 "need_shares" (orH K 0 (spNeedShares K))) (c_peak_of : Cl P w K mg base CX0 1 "peak_of" (spPeakOf K)) : FnOk P w K mg base (L2.CX P w) 3 f fd ["beats", "shares", "bound"] (orH K 1 (spBlocksX K)) := by
  refine F.fn.okX sc_blocks (fun vs H Q E h => ?_) (fun cdv A outer s H vs Q E hr h => ?_)
  · rcases h with ⟨b, bd, s, sh, rfl, _⟩ | ⟨b, s, sh, rest, rfl, hrl, _⟩
    · rfl
    · simp [hrl]
  · refine ⟨_, (pss_cons (ps_expr (pe_clT c_need_shares hr (by decide) (passes_call (takes_of rfl rfl rfl rfl) (fun _ _ _ _ h => h)) (by rfl) (pa_cons (pv 0) (pa_cons (pv 1) pa_nil))))
      (pss_cons (ps_if (pt_cmpR op_gt (pe_cl c_peak_of hr (by decide) (by rfl) (pa_cons (pv 0) (pa_cons (pv 1) pa_nil))) (pv 2) (nomark _)) (pss_one (ps_raise (by rfl) (takes_of rfl rfl rfl rfl) (pmk_own PySem.F.excBase_ValueError T.x_NoRoom.x T.x_NoRoom.g T.x_NoRoom.k (raises_own T.x_NoRoom.b T.x_NoRoom.t) (by rfl)))) pss_nil)
      (PSs.nox (pss_cons (ps_set (i := 3) sc_blocks.nd rfl (.inl rfl) (pe_lst pa_nil))
      (pss_cons (ps_set (i := 4) sc_blocks.nd rfl (.inl rfl) pe_int)
      (pss_cons (ps_for PassesOwn.never (by rfl) (pi_list (pv 1)) (pg_name (i := 5) sc_blocks.nd rfl (.inl rfl)) (pss_cons (ps_expr (pe_bm PySem.F.plainAttrs_list PySem.F.slot_list_append PySem.F.type_list_append mt_append (pv 3) (pa_cons (pv 4) pa_nil)))
      (pss_one (ps_set (i := 4) sc_blocks.nd rfl (.inl rfl) (pe_op op_mod (pe_op op_add (pv 4) (pv 5)) (pv 0))))))
      (pss_one (ps_ret (pv 3))))))))), ?_⟩
    rcases h with ⟨b, bd, s, sh, rfl, hs, b0, b1, hsh, hl, k⟩ | ⟨b, s, sh, rest, rfl, hrl, hs, hl, hb, k⟩
    rotate_left 1
    · obtain ⟨x, rfl⟩ := List.length_eq_one_iff.mp hrl
      exact ⟨_, rfl, _, rfl, .inr ⟨b, s, sh, [], rfl, rfl, hs, hl, hb, fun H1 e1 => k H1 e1⟩⟩
    have hlen : (sh.map V.int).length = sh.length := List.length_map _
    refine ⟨_, rfl, _, rfl, .inl ⟨b, s, sh, rfl, hs, b0, b1, hsh, hl, fun H1 e1 => ?_⟩⟩
    refine ⟨_, rfl, _, rfl, b, s, sh, rfl, e1.seq hs, b0, b1, _, rfl, _, _, rfl, rfl, _, rfl, ?_⟩
    rcases k with ⟨hle, k⟩ | ⟨hgt, k⟩
    · refine iteFe (decide_eq_false (by omega)) ?_
      refine ⟨Nat.zero_le _, fun D hD => ?_⟩
      have hDn := e1.free hD
      refine ⟨_, rfl, s, rfl, ⟨_, (e1.new hD).seq hs⟩, for_list (K := K) (a := s) (xs := sh.map V.int) (fun i σ H' => (∃ v : Option V, σ = [some (.int b), some (.ref s), some (.int bd), some (.ref D), some (.int ((sh.take i).sum % b)), v]) ∧ Same H H' ∧ H' D = some (.lst (((List.range i).map fun i => (sh.take i).sum % b).map V.int))) ?_ (fun i σ H' _ h => h.2.1.seq hs) ?_ ?_⟩
      · refine ⟨⟨none, ?_⟩, e1.new hD, upd_same⟩
        rw [List.take_zero, List.sum_nil, Int.zero_emod]; rfl
      · rintro i y σ H' hi ⟨⟨v, rfl⟩, e2, hd⟩
        obtain ⟨z, hz, rfl⟩ := getV hi
        have hi' : i < sh.length := (List.getElem?_eq_some_iff.mp hz).1
        refine ⟨_, rfl, .inl ⟨rfl, _, SqL.of hd⟩, _, rfl, D, _, _, rfl, rfl, hd, small_of (m := 64) (by rw [List.length_map, List.length_map, List.length_range]; omega), ?_⟩
        refine ⟨_, rfl, _, rfl, _, _, rfl, rfl, _, rfl, _, _, rfl, rfl, (by show (0 : Int) < b; omega), ?_⟩
        refine ⟨⟨some (.int z), ?_⟩, e2.mut hDn, ?_⟩
        · have : (sh.take (i + 1)).sum % b = ((sh.take i).sum % b + z) % b := by
            rw [List.take_succ, hz, List.sum_append]
            simp
          rw [this]; rfl
        · rw [upd_same, List.range_succ, List.map_append, List.map_append]; rfl
      · rintro σ H' ⟨⟨v, rfl⟩, e2, hd⟩
        rw [hlen] at hd
        exact ⟨_, rfl, k D H' e2 hDn hd⟩
    · exact iteTe (decide_eq_true (by omega)) (k H1 e1)
abbrev s_sums : Stmt := top 21
theorem sc_sums : FnScope ["beats", "shares", "begins", "begin", "found", "share", "k"] ["beats", "shares", "begins"] (defScope s_sums) := ⟨rfl, rfl, rfl, by decide +kernel, rfl, by decide +kernel, by decide +kernel⟩
/-- sums(beats, shares, begins), good shares: a new list, or BadBegins -/
def GoodBg (b : Int) (sh ts : List Int) : Prop := ts.length = sh.length ∧ ∀ x ∈ ts, 0 ≤ x ∧ x < b
def spArcs (K : PySem.W.Frag) : Sp := fun vs H Q E => ∃ (b : Int) (s t : Addr) (sh ts : List Int), vs = [.int b, .ref s, .ref t] ∧ SqL K H s (sh.map V.int) ∧ SqL K H t (ts.map V.int) ∧ 1 ≤ b ∧ b ≤ 64 ∧ (∀ x ∈ sh, 0 ≤ x ∧ x ≤ b) ∧ sh.length ≤ 12 ∧ ts.length ≤ 10000 ∧
  (GoodBg b sh ts → ∀ p H', Same H H' → H p = none → H' p = some (.lst ((arcL b.toNat (arcs b.toNat (zipN sh ts sh.length))).map V.int)) → Q (.ref p) H') ∧ (¬ GoodBg b sh ts → ∀ H', Same H H' → E (.ref (He.ga K "BadBegins")) none H')
theorem rep_intsK (x : Int) (n : Nat) : (List.replicate n [V.int x]).flatten = (List.replicate n x).map V.int := by
  rw [List.map_replicate]
  induction n with
  | zero => rfl
  | succ n ih => rw [List.replicate_succ, List.flatten_cons, ih]; rfl
theorem ok_sums {f : Addr} {fd : FuncData} (F : FunG K mg "sums" s_sums f fd ["beats", "shares", "begins"]) (T : Txt K mg) (c_need_shares : Cl P w K mg base (L2.CX P w) 2 "need_shares" (orH K 0 (spNeedShares K))) : FnOk P w K mg base (L2.CX P w) 3 f fd ["beats", "shares", "begins"] (orH K 1 (spArcs K)) := by
  refine F.fn.okX sc_sums (fun vs H Q E h => ?_) (fun cdv A outer s H vs Q E hr h => ?_)
  · rcases h with ⟨b, s, t, sh, ts, rfl, _⟩ | ⟨b, s, sh, rest, rfl, hrl, _⟩
    · rfl
    · simp [hrl]
  · refine ⟨_, (pss_cons (ps_expr (pe_clT c_need_shares hr (by decide) (passes_call (takes_of rfl rfl rfl rfl) (fun _ _ _ _ h => h)) (by rfl) (pa_cons (pv 0) (pa_cons (pv 1) pa_nil))))
      (pss_cons (ps_if (PW.pt (pw_or (pt_cmpR op_ne (pe_callB (clLen K) (by rfl) T.b_len (by decide +kernel) (pa_cons (pv 2) pa_nil)) (pe_callB (clLen K) (by rfl) T.b_len (by decide +kernel) (pa_cons (pv 1) pa_nil)) (nomark _)) (pw_or1 (pt_cmpR (opNeD K hr.units) (pe_lc (own := [("begin", 3)]) (g := gName 3) (by rfl) sc_sums.nd (pi_list (pv 2)) (blkOk_by (own := [("begin", 3)]) (N := ["beats", "shares", "begins", "begin", "found", "share", "k"]) (sc := defScope s_sums) (by decide +kernel)) (fun _ _ _ _ _ => (pg_name (i := 3) sc_sums.nd rfl (.inl rfl))) (fun _ _ _ _ _ => (pts_one (pt_not (pt_chain op_le op_lt pe_int (pv 3) (pv 0))))) (fun _ _ _ _ _ => (pv 3))) (pe_lst pa_nil) (nomark _))))) (pss_one (ps_raise (by rfl) (takes_of rfl rfl rfl rfl) (pmk_own PySem.F.excBase_ValueError T.x_BadBegins.x T.x_BadBegins.g T.x_BadBegins.k (raises_own T.x_BadBegins.b T.x_BadBegins.t) (by rfl)))) pss_nil)
      (PSs.nox (pss_cons (ps_set (i := 4) sc_sums.nd rfl (.inl rfl) (pe_op op_rep (pe_lst (pa_cons pe_int pa_nil)) (pv 0)))
      (pss_cons (ps_for PassesOwn.never (by rfl) (pi_zip (by rfl) T.b_zip (pa_cons (pv 1) (pa_cons (pv 2) pa_nil))) (pg_tup (by rfl) (pgs_cons (pg_name (i := 5) sc_sums.nd rfl (.inl rfl)) (pgs_cons (pg_name (i := 3) sc_sums.nd rfl (.inl rfl)) pgs_nil))) (pss_one (ps_for PassesOwn.never (by rfl) (pi_range1 (by rfl) T.b_range (pa_cons (pv 5) pa_nil)) (pg_name (i := 6) sc_sums.nd rfl (.inl rfl)) (pss_one (ps_asg (pe_op op_add (pe_ix (ixL K) (pv 4) (pe_op op_mod (pe_op op_add (pv 3) (pv 6)) (pv 0)) (fun _ _ => rfl)) pe_int) (pg_sub (pv 4) (pe_op op_mod (pe_op op_add (pv 3) (pv 6)) (pv 0)) set_list))))))
      (pss_one (ps_ret (pv 4)))))))), ?_⟩
    rcases h with ⟨b, s, t, sh, ts, rfl, hs, ht, b0, b1, hsh, hl, htl, k, kb⟩ | ⟨b, s, sh, rest, rfl, hrl, hs, hl, hb, k⟩
    rotate_left 1
    · obtain ⟨x, rfl⟩ := List.length_eq_one_iff.mp hrl
      exact ⟨_, rfl, _, rfl, .inr ⟨b, s, sh, [], rfl, rfl, hs, hl, hb, fun H1 e1 => k H1 e1⟩⟩
    have hlen : (sh.map V.int).length = sh.length := List.length_map _
    have hlen2 : (ts.map V.int).length = ts.length := List.length_map _
    have hB : (b.toNat : Int) = b := Int.toNat_of_nonneg (by omega)
    refine ⟨_, rfl, _, rfl, .inl ⟨b, s, sh, rfl, hs, b0, b1, hsh, hl, fun H1 e1 => ?_⟩⟩
    refine ⟨_, rfl, _, _, rfl, .inl (e1.seq ht), _, rfl, _, _, rfl, .inl (e1.seq hs), rfl, _, rfl, ?_⟩
    by_cases hlt : ts.length = sh.length
    · refine iteFe (neqF (congrArg V.int (by rw [hlen, hlen2, hlt]))) ?_
      refine ⟨_, rfl, t, rfl, ⟨_, e1.seq ht⟩, fun D hD => lc_list (K := K) (a := t) (xs := ts.map V.int) (fun i H' => Same H H' ∧ H' D = some (.lst (((ts.take i).filter (fun z => !inC b z)).map V.int))) ⟨e1.new hD, upd_same⟩ (fun i H' _ h => h.1.seq ht) ?_ ?_⟩
      · rintro i x H' hi ⟨e, hd⟩
        obtain ⟨z, hz, rfl⟩ := getV hi
        have hDn := e1.free hD
        have len : (((ts.take i).filter (fun z => !inC b z)).map V.int).length < sizeLine := small_of (m := 10000) (by rw [List.length_map]; exact filt_len htl)
        have keepIt : inC b z = true → Same H H' ∧ H' D = some (.lst (((ts.take (i + 1)).filter (fun z => !inC b z)).map V.int)) := fun c => ⟨e, by rw [hd, filt_snoc hz, if_pos c, List.append_nil]⟩
        have addIt : inC b z = false → Same H (upd H' D (.lst ((((ts.take i).filter (fun z => !inC b z)).map V.int) ++ [V.int z]))) ∧ (upd H' D (.lst ((((ts.take i).filter (fun z => !inC b z)).map V.int) ++ [V.int z]))) D = some (.lst (((ts.take (i + 1)).filter (fun z => !inC b z)).map V.int)) := fun c => ⟨e.mut hDn, by rw [upd_same, filt_snoc hz, if_neg (by rw [c]; simp), List.map_append]; rfl⟩
        refine ⟨rfl, _, rfl, _, _, rfl, rfl, _, rfl, ?_⟩
        by_cases z0 : 0 ≤ z
        · refine iteTe (decide_eq_true z0) ⟨_, rfl, _, _, rfl, rfl, _, rfl, ?_⟩
          by_cases z1 : z < b
          · exact iteFe (c := !decide (z < b)) (by rw [decide_eq_true z1]; rfl) (keepIt (inC_iff.mpr ⟨z0, z1⟩))
          · exact iteTe (c := !decide (z < b)) (by rw [decide_eq_false z1]; rfl) ⟨_, rfl, _, hd, len, addIt (by unfold inC; rw [decide_eq_false z1, Bool.and_false])⟩
        · exact iteFe (decide_eq_false z0) ⟨_, rfl, iteT ⟨_, rfl, _, hd, len, addIt (by unfold inC; rw [decide_eq_false z0, Bool.false_and])⟩⟩
      · rintro H2 ⟨e2, hd2⟩
        rw [hlen2, List.take_length] at hd2
        refine ⟨Nat.zero_le _, fun q hq => ⟨_, _, dp_ints (SqL.of (by rw [upd_ne (ne_of_none hd2 hq)]; exact hd2)), dp_nil (SqL.of upd_same), dI_shaped _, dI_shaped _, _, rfl, ?_⟩⟩
        rw [dI_eqv]
        have e3 := e2.new (o := .lst []) hq
        generalize upd H2 q (.lst []) = H3 at e3
        by_cases c : ts.filter (fun z => !inC b z) = []
        · refine iteFe (by rw [decide_eq_true c]; rfl) ?_
          have hts : ∀ x ∈ ts, 0 ≤ x ∧ x < b := fun x hx => inC_iff.mp (filt_nil.mp c x hx)
          replace k := k ⟨hlt, hts⟩
          refine ⟨(by show 1 ≤ sizeLine; decide), fun q1 hq1 => ?_⟩
          have e4 := e3.new (o := .lst [.int 0]) hq1
          refine ⟨_, rfl, _, _, _, rfl, rfl, upd_same, by omega, by omega, small_le (m := 64) (by show 1 * b.toNat ≤ 64; omega), fun D2 hD2 => ?_⟩
          rw [rep_intsK]
          have hDn : H D2 = none := e4.free hD2
          have e5 := e4.new (o := .lst ((List.replicate b.toNat 0).map V.int)) hD2
          have hd5 : upd (upd H3 q1 (.lst [.int 0])) D2 (.lst ((List.replicate b.toNat 0).map V.int)) D2 = some (.lst ((arcL b.toNat (arcs b.toNat (zipN sh ts 0))).map V.int)) := by
            rw [upd_same]
            have : arcL b.toNat (arcs b.toNat (zipN sh ts 0)) = List.replicate b.toNat 0 := by
              unfold arcL zipN
              refine List.eq_replicate_iff.mpr ⟨by simp, fun x hx => ?_⟩
              obtain ⟨y, _, rfl⟩ := List.mem_map.mp hx
              rfl
            rw [this]
          generalize upd (upd H3 q1 (.lst [.int 0])) D2 (.lst ((List.replicate b.toNat 0).map V.int)) = H5 at e5 hd5
          refine ⟨_, rfl, _, rfl, _, _, _, _, rfl, e5.seq hs, e5.seq ht, ?_⟩
          refine for_it (walk_zip (K := K) (a := s) (b := t) (xs := sh.map V.int) (ys := ts.map V.int) (n := sh.length) (by rw [hlen, hlen2, hlt, Nat.min_self])) (fun i σ H' => (∃ v4 v5 v6 : Option V, σ = [some (.int b), some (.ref s), some (.ref t), v4, some (.ref D2), v5, v6]) ∧ Same H H' ∧ H' D2 = some (.lst ((arcL b.toNat (arcs b.toNat (zipN sh ts i))).map V.int))) ?_ (fun i σ H' _ h => ⟨h.2.1.seq hs, h.2.1.seq ht⟩) ?_ ?_
          · exact ⟨⟨_, _, _, rfl⟩, e5, hd5⟩
          · rintro i v σ H6 H7 hi ⟨⟨v4, v5, v6, rfl⟩, e6, hd6⟩ ⟨tq, x, y, rfl, htq, rfl, hx, hy⟩
            obtain ⟨x, hx', rfl⟩ := getV hx
            obtain ⟨y, hy', rfl⟩ := getV hy
            have e7 := e6.new (o := .tup [V.int x, V.int y]) htq
            have hd7 : upd H6 tq (.tup [V.int x, V.int y]) D2 = _ := (upd_ne (ne_of_none hd6 htq)).trans hd6
            have ht7 : upd H6 tq (.tup [V.int x, V.int y]) tq = some (.tup [V.int x, V.int y]) := upd_same
            generalize upd H6 tq (.tup [V.int x, V.int y]) = H7 at e7 hd7 ht7
            obtain ⟨x0, x1⟩ := hsh x (List.mem_of_getElem? hx')
            obtain ⟨y0, y1⟩ := hts y (List.mem_of_getElem? hy')
            have ez : zipN sh ts (i + 1) = zipN sh ts i ++ [(x.toNat, y.toNat)] := by
              rw [zipN_succ, List.getD_eq_getElem?_getD, List.getD_eq_getElem?_getD, hx', hy']; rfl
            rw [ez]
            generalize zipN sh ts i = zs at hd7
            refine ⟨_, _, rfl, SqT.of ht7, rfl, _, _, rfl, _, _, rfl, rfl, ?_⟩
            refine ⟨_, rfl, _, rfl, by omega, by omega, for_range (lo := 0) (n := x.toNat) (fun j σ H' => (∃ v7 : Option V, σ = [some (.int b), some (.ref s), some (.ref t), some (.int y), some (.ref D2), some (.int x), v7]) ∧ Same H H' ∧ H' D2 = some (.lst ((arcL b.toNat fun t => arcs b.toNat zs t + arc b.toNat y.toNat j t).map V.int))) ?_ ?_ ?_⟩
            · exact ⟨⟨_, rfl⟩, e7, hd7⟩
            · rintro j σ H8 hj ⟨⟨v7, rfl⟩, e8, hd8⟩
              have hjb : (y.toNat + j) % b.toNat < b.toNat := Nat.mod_lt _ (by omega)
              have hix : (y + (0 + (j : Int))) % b = (((y.toNat + j) % b.toNat : Nat) : Int) := by
                rw [Int.natCast_emod, hB]
                congr 1
                omega
              have hg := arcL_getD (B := b.toNat) (fun t => arcs b.toNat zs t + arc b.toNat y.toNat j t) hjb
              have hst := arcL_set (B := b.toNat) (fun t => arcs b.toNat zs t + arc b.toNat y.toNat j t) hjb
              have hn := arcL_len b.toNat (fun t => arcs b.toNat zs t + arc b.toNat y.toNat j t)
              refine ⟨_, rfl, _, rfl, _, rfl, _, _, rfl, rfl, _, rfl, _, _, rfl, rfl, (by show (0 : Int) < b; omega), _, _, _, _, rfl, rfl, SqL.of hd8, atV (j := (y.toNat + j) % b.toNat) hix (by rw [hn]; exact hjb), _, _, rfl, rfl, ?_⟩
              refine ⟨_, rfl, _, rfl, _, rfl, _, _, rfl, rfl, _, rfl, _, _, rfl, rfl, (by show (0 : Int) < b; omega), D2, _, _, (y.toNat + j) % b.toNat, rfl, rfl, hd8, ?_, ?_⟩
              · show ixN ((arcL b.toNat fun t => arcs b.toNat zs t + arc b.toNat y.toNat j t).map V.int).length ((y + (0 + (j : Int))) % b) = _
                rw [hix, List.length_map, hn]
                unfold ixN
                rw [if_pos (by omega), if_pos (by omega), Int.toNat_natCast]
              · refine ⟨⟨_, rfl⟩, e8.mut hDn, ?_⟩
                rw [upd_same]
                refine congrArg (fun z => some (HO.lst z)) ?_
                rw [hg]
                have h1 : ((arcL b.toNat fun t => arcs b.toNat zs t + arc b.toNat y.toNat j t).map V.int).set ((y.toNat + j) % b.toNat) (V.int (((arcs b.toNat zs ((y.toNat + j) % b.toNat) + arc b.toNat y.toNat j ((y.toNat + j) % b.toNat) : Nat) : Int) + 1)) = ((arcL b.toNat fun t => arcs b.toNat zs t + arc b.toNat y.toNat j t).set ((y.toNat + j) % b.toNat) (((arcs b.toNat zs ((y.toNat + j) % b.toNat) + arc b.toNat y.toNat j ((y.toNat + j) % b.toNat) : Nat) : Int) + 1)).map V.int := List.map_set.symm
                refine h1.trans ?_
                rw [hst]
                congr 1
                exact arcL_congr fun t _ => by rw [arc]; omega
            · rintro σ H8 ⟨⟨v7, rfl⟩, e8, hd8⟩
              refine ⟨⟨_, _, _, rfl⟩, e8, ?_⟩
              rw [hd8]
              congr 3
              exact arcL_congr fun t _ => (arcs_snoc b.toNat (x.toNat, y.toNat) t zs).symm
          · rintro σ H6 ⟨⟨v4, v5, v6, rfl⟩, e6, hd6⟩
            exact ⟨_, rfl, k D2 H6 e6 hDn hd6⟩
        · exact iteTe (by rw [decide_eq_false c]; rfl) (kb (fun z => c (filt_nil.mpr fun x hx => inC_iff.mpr (z.2 x hx))) H3 e3)
    · refine iteTe (by rw [decide_eq_false fun z => hlt (by have := V.int.inj z; rw [hlen, hlen2] at this; omega)]; rfl) (iteT ?_)
      exact kb (fun z => hlt z.1) H1 e1
abbrev s_turned : Stmt := top 24
theorem sc_turned : FnScope ["beats", "shares", "rows", "row", "least"] ["beats", "shares"] (defScope s_turned) := ⟨rfl, rfl, rfl, by decide +kernel, rfl, by decide +kernel, by decide +kernel⟩
/-- turned(beats, shares), too many or none: BadShare -/
def spTurnedX (K : PySem.W.Frag) : Sp := fun vs H Q E => ∃ (b : Int) (s : Addr) (sh : List Int), vs = [.int b, .ref s] ∧ SqL K H s (sh.map V.int) ∧ sh.length ≤ 10000 ∧ (GoodSh b sh → 12 < b ∨ 3 < sh.length) ∧ ∀ H', Same H H' → E (.ref (He.ga K "BadShare")) none H'
theorem ok_turned {f : Addr} {fd : FuncData} (F : FunG K mg "turned" s_turned f fd ["beats", "shares"]) (T : Txt K mg) (c_need_shares : Cl P w K mg base (L2.CX P w) 2 "need_shares" (orH K 0 (spNeedShares K))) (c_all_turns : Cl P w K mg base CX0 1 "all_turns" spNo) (c_most_on : Cl P w K mg base CX0 1 "most_on" spNo) : FnOk P w K mg base (L2.CX P w) 3 f fd ["beats", "shares"] (spTurnedX K) := by
  refine F.fn.okX sc_turned (fun vs H Q E h => ?_) (fun cdv A outer s H vs Q E hr h => ?_)
  · obtain ⟨b, s, sh, rfl, _⟩ := h
    rfl
  · obtain ⟨b, s, sh, rfl, hs, hl, hor, k⟩ := h
    refine ⟨_, (pss_cons (ps_expr (pe_clT c_need_shares hr (by decide) (passes_call (takes_of rfl rfl rfl rfl) (fun _ _ _ _ h => h)) (by rfl) (pa_cons (pv 0) (pa_cons (pv 1) pa_nil))))
      (pss_cons (ps_if (PW.pt (pw_or (pt_cmpR op_gt (pv 0) (C8.pe_gc (by rfl) T.k_FEW_BEATS) (nomark _)) (pw_or1 (pt_cmpR op_gt (pe_callB (clLen K) (by rfl) T.b_len (by decide +kernel) (pa_cons (pv 1) pa_nil)) (C8.pe_gc (by rfl) T.k_FEW_SHARES) (nomark _))))) (pss_one (ps_raise (by rfl) (takes_of rfl rfl rfl rfl) (pmk_own PySem.F.excBase_ValueError T.x_BadShare.x T.x_BadShare.g T.x_BadShare.k (raises_own T.x_BadShare.b T.x_BadShare.t) (by rfl)))) pss_nil)
      (PSs.nox (pss_cons (ps_set (i := 2) sc_turned.nd rfl (.inl rfl) (pe_cl c_all_turns hr (by decide) (by rfl) (pa_cons (pv 0) (pa_cons (pe_callB (clLen K) (by rfl) T.b_len (by decide +kernel) (pa_cons (pv 1) pa_nil)) pa_nil))))
      (pss_cons (ps_set (i := 4) sc_turned.nd rfl (.inr rfl) (pe_callB (clMin K rfl) (by rfl) T.b_min (by decide +kernel) (pa_cons (pe_lc (own := [("row", 3)]) (g := gName 3) (tt := tYes) (by rfl) sc_turned.nd (pi_list (pv 2)) (blkOk_by (own := [("row", 3)]) (N := ["beats", "shares", "rows", "row", "least"]) (sc := defScope s_turned) (by decide +kernel)) (fun _ _ _ _ _ => (pg_name (i := 3) sc_turned.nd rfl (.inl rfl))) (fun _ _ _ _ _ => pts_nil) (fun _ _ _ _ _ => (pe_cl c_most_on hr (by decide) (by rfl) (pa_cons (pv 0) (pa_cons (pv 1) (pa_cons (pv 3) pa_nil)))))) pa_nil)))
      (pss_one (ps_ret (pe_tup (pa_cons (pv 4) (pa_cons (pe_ix (ixL K) (pe_lc (own := [("row", 3)]) (g := gName 3) (by rfl) sc_turned.nd (pi_list (pv 2)) (blkOk_by (own := [("row", 3)]) (N := ["beats", "shares", "rows", "row", "least"]) (sc := defScope s_turned) (by decide +kernel)) (fun _ _ _ _ _ => (pg_name (i := 3) sc_turned.nd rfl (.inl rfl))) (fun _ _ _ _ _ => (pts_one (pt_cmpR op_eq (pe_cl c_most_on hr (by decide) (by rfl) (pa_cons (pv 0) (pa_cons (pv 1) (pa_cons (pv 3) pa_nil)))) (pv 4) (nomark _)))) (fun _ _ _ _ _ => (pv 3))) pe_int (fun _ _ => rfl)) pa_nil)))))))))), ?_⟩
    have hlen : (sh.map V.int).length = sh.length := List.length_map _
    by_cases g : GoodSh b sh
    · refine ⟨_, rfl, _, rfl, .inl ⟨b, s, sh, rfl, hs, g.1, g.2.1, g.2.2.2, g.2.2.1, fun H1 e1 => ?_⟩⟩
      refine ⟨_, rfl, _, _, rfl, rfl, _, rfl, ?_⟩
      by_cases h12 : 12 < b
      · exact iteTe (decide_eq_true h12) (iteT (k H1 e1))
      · refine iteFe (decide_eq_false h12) ⟨_, rfl, _, _, rfl, .inl (e1.seq hs), _, _, rfl, rfl, _, rfl, ?_⟩
        exact iteTe (decide_eq_true (by rw [hlen]; rcases hor g with z | z <;> omega)) (k H1 e1)
    · exact ⟨_, rfl, _, rfl, .inr ⟨b, s, sh, [], rfl, rfl, hs, hl, g, fun H1 e1 => k H1 e1⟩⟩
end
end My

namespace My
open PySem PySem.Spec PyProof.Rows LamX L2
section
variable {P : Program} {w : World} {K : PySem.W.Frag} {mg : Str → Option Value} {base : Heap}
abbrev s_law_sums : Stmt := top 32
theorem sc_law_sums : FnScope ["_law_beats", "_law_shares_here", "_law_begins", "_law_found", "_law_beat", "_law_k", "_law_some"] ["_law_beats", "_law_shares_here", "_law_begins"] (defScope s_law_sums) := ⟨rfl, rfl, rfl, by decide +kernel, rfl, by decide +kernel, by decide +kernel⟩
/-- _law_sums(beats, shares, begins): a new list -/
def spLSums (K : PySem.W.Frag) : Sp := fun vs H Q _ => ∃ (b : Int) (s t : Addr) (sh ts : List Int), vs = [.int b, .ref s, .ref t] ∧ SqL K H s (sh.map V.int) ∧ SqL K H t (ts.map V.int) ∧ 1 ≤ b ∧ b ≤ 64 ∧ sh.length ≤ 12 ∧ ts.length = sh.length ∧
  ∀ p H', Same H H' → H p = none → H' p = some (.lst ((onS b sh ts).map V.int)) → Q (.ref p) H'
theorem ok_law_sums {f : Addr} {fd : FuncData} (F : FunG K mg "_law_sums" s_law_sums f fd ["_law_beats", "_law_shares_here", "_law_begins"]) (T : Txt K mg) : FnOk P w K mg base CX0 1 f fd ["_law_beats", "_law_shares_here", "_law_begins"] (spLSums K) := by
  refine F.fn.ok sc_law_sums (fun vs H Q E h => ?_) (fun cdv A outer s H vs Q E hr h => ?_)
  · obtain ⟨b, s, t, sh, ts, rfl, _⟩ := h
    rfl
  · obtain ⟨b, s, t, sh, ts, rfl, hs, ht, b0, b1, hl, hlt, k⟩ := h
    refine ⟨_, (pss_cons (ps_set (i := 3) sc_law_sums.nd rfl (.inl rfl) (pe_lst pa_nil))
      (pss_cons (ps_for PassesOwn.never (by rfl) (pi_range1 (by rfl) T.b_range (pa_cons (pv 0) pa_nil)) (pg_name (i := 4) sc_law_sums.nd rfl (.inr rfl)) (pss_cons (ps_setLc (i := 6) (own := [("_law_k", 5)]) (g := gName 5) rfl sc_law_sums.nd rfl rfl (sw_true rfl rfl rfl (by decide +kernel)) (pi_range1 (by rfl) T.b_range (pa_cons (pe_callB (clLen K) (by rfl) T.b_len (by decide +kernel) (pa_cons (pv 1) pa_nil)) pa_nil)) (blkOk_by (own := [("_law_k", 5)]) (N := ["_law_beats", "_law_shares_here", "_law_begins", "_law_found", "_law_beat", "_law_k", "_law_some"]) (sc := defScope s_law_sums) (by decide +kernel)) (fun _ _ _ _ _ => (pg_name (i := 5) sc_law_sums.nd rfl (.inl rfl))) (fun _ _ _ _ _ => (pts_one (pt_cmpR op_lt (pe_op op_mod (pe_op op_sub (pv 4) (pe_ix (ixL K) (pv 2) (pv 5) (fun _ _ => rfl))) (pv 0)) (pe_ix (ixL K) (pv 1) (pv 5) (fun _ _ => rfl)) (nomark _)))) (fun _ _ _ _ _ => (pv 5)))
      (pss_one (ps_expr (pe_bm PySem.F.plainAttrs_list PySem.F.slot_list_append PySem.F.type_list_append mt_append (pv 3) (pa_cons (pe_callB (clLen K) (by rfl) T.b_len (by decide +kernel) (pa_cons (pv 6) pa_nil)) pa_nil))))))
      (pss_one (ps_ret (pv 3))))), ?_⟩
    have hlen : (sh.map V.int).length = sh.length := List.length_map _
    refine ⟨Nat.zero_le _, fun D hD => ?_⟩
    refine ⟨_, rfl, _, rfl, by omega, by omega, for_range (lo := 0) (n := b.toNat) (fun i σ H' => (∃ v4 v5 v6 : Option V, σ = [some (.int b), some (.ref s), some (.ref t), some (.ref D), v4, v5, v6]) ∧ Same H H' ∧ H' D = some (.lst (((List.range i).map fun t : Nat => (((onL b sh ts (t : Int) sh.length).length : Nat) : Int)).map V.int))) ⟨⟨_, _, _, rfl⟩, Same.upd hD, upd_same⟩ ?_ ?_⟩
    · rintro i σ H1 hi ⟨⟨v4, v5, v6, rfl⟩, e1, hd1⟩
      refine ⟨_, rfl, _, _, rfl, .inl (e1.seq hs), _, rfl, by rw [hlen]; omega, by rw [hlen]; omega, fun D2 hD2 => ?_⟩
      rw [hlen, Int.toNat_natCast]
      have nD : D ≠ D2 := ne_of_none hd1 hD2
      refine lc_range (lo := 0) (n := sh.length) (fun j H' => Same H1 H' ∧ H' D2 = some (.lst ((onL b sh ts (i : Int) j).map fun k : Nat => V.int (k : Int)))) ⟨Same.upd hD2, upd_same⟩ ?_ ?_
      · rintro j H2 hj ⟨e2, hd2⟩
        have len : ((onL b sh ts (i : Int) j).map fun k : Nat => V.int (k : Int)).length < sizeLine := small_of (m := 64) (by rw [List.length_map]; have := onL_le b sh ts (i : Int) j; omega)
        have keepIt : onB b sh ts (i : Int) j = false → Same H1 H2 ∧ H2 D2 = some (.lst ((onL b sh ts (i : Int) (j + 1)).map fun k : Nat => V.int (k : Int))) := fun c => ⟨e2, by rw [hd2, onL_snoc, if_neg (by rw [c]; simp), List.append_nil]⟩
        have addIt : onB b sh ts (i : Int) j = true → Same H1 (upd H2 D2 (.lst (((onL b sh ts (i : Int) j).map fun k : Nat => V.int (k : Int)) ++ [V.int (0 + (j : Int))]))) ∧ (upd H2 D2 (.lst (((onL b sh ts (i : Int) j).map fun k : Nat => V.int (k : Int)) ++ [V.int (0 + (j : Int))]))) D2 = some (.lst ((onL b sh ts (i : Int) (j + 1)).map fun k : Nat => V.int (k : Int))) := fun c => ⟨e2.mut hD2, by rw [upd_same, onL_snoc, if_pos c, List.map_append, Int.zero_add]; rfl⟩
        refine ⟨rfl, _, rfl, _, rfl, _, rfl, _, _, _, _, rfl, rfl, (e1.trans e2).seq ht, atV (j := j) (by omega) (by omega), _, _, rfl, rfl, _, rfl, _, _, rfl, rfl, (by show (0 : Int) < b; omega), _, rfl, _, rfl, _, _, _, _, rfl, rfl, (e1.trans e2).seq hs, atV (j := j) (by omega) hj, _, _, rfl, rfl, _, rfl, ?_⟩
        by_cases c : (0 + (i : Int) - ts.getD j 0) % b < sh.getD j 0
        · exact iteTe (decide_eq_true c) ⟨_, rfl, _, hd2, len, addIt (by unfold onB; rw [Int.zero_add] at c; exact decide_eq_true c)⟩
        · exact iteFe (decide_eq_false c) (keepIt (by unfold onB; rw [Int.zero_add] at c; exact decide_eq_false c))
      · rintro H2 ⟨e2, hd2⟩
        have len : ((((List.range i).map fun t : Nat => (((onL b sh ts (t : Int) sh.length).length : Nat) : Int)).map V.int)).length < sizeLine := small_of (m := 64) (by rw [List.length_map, List.length_map, List.length_range]; omega)
        refine ⟨_, rfl, .inl ⟨rfl, _, SqL.of (e2 _ _ hd1)⟩, _, rfl, _, _, rfl, .inl (SqL.of hd2), D, _, _, rfl, rfl, e2 _ _ hd1, len, ⟨⟨_, _, _, rfl⟩, (e1.trans e2).mut hD, ?_⟩⟩
        rw [upd_same, List.range_succ, List.map_append, List.map_append, List.length_map]
        rfl
    · rintro σ H1 ⟨⟨v4, v5, v6, rfl⟩, e1, hd1⟩
      exact ⟨_, rfl, k D H1 e1 hD hd1⟩
abbrev s_law_bad : Stmt := top 33
theorem sc_law_bad : FnScope ["_law_state", "_law_beats", "_law_shares_here", "_law_at", "_law_some"] ["_law_state", "_law_beats", "_law_shares_here"] (defScope s_law_bad) := ⟨rfl, rfl, rfl, by decide +kernel, rfl, by decide +kernel, by decide +kernel⟩
/-- _law_bad(state, beats, shares): shares that are none -/
def spBad (K : PySem.W.Frag) : Sp := fun vs H Q _ => ∃ (st a q : Addr) (ns sh : List Int) (b : Int), vs = [.ref st, .int b, .ref q] ∧ SOk K a ns st H ∧ q ≠ st ∧ H q = some (.lst (sh.map V.int)) ∧ sh.length ≤ 12 ∧
  ∀ (xs : List Int) (p : Addr) (H' : Hp), ¬ GoodSh b xs → xs.length ≤ 16 → p ≠ st → Keep st H H' → SOk K a ns st H' → H' p = some (.lst (xs.map V.int)) → Q (.ref p) H'
theorem ok_law_bad {f : Addr} {fd : FuncData} (F : FunG K mg "_law_bad" s_law_bad f fd ["_law_state", "_law_beats", "_law_shares_here"]) (T : Txt K mg) (c_law_drawn : Cl P w K mg base CX0 1 "_law_drawn" (spDrawn K)) (c_law_far : Cl P w K mg base CX0 2 "_law_far" (spFar K)) : FnOk P w K mg base CX0 3 f fd ["_law_state", "_law_beats", "_law_shares_here"] (spBad K) := by
  refine F.fn.ok sc_law_bad (fun vs H Q E h => ?_) (fun cdv A outer s_ H vs Q E hr h => ?_)
  · obtain ⟨st, a, q, ns, sh, b, rfl, _⟩ := h
    rfl
  · obtain ⟨st, a, q, ns, sh, b, rfl, s, n_q, w_q, hl, kk⟩ := h
    refine ⟨_, (pss_cons (ps_set (i := 3) sc_law_bad.nd rfl (.inl rfl) (pe_cl c_law_drawn hr (by decide) (by rfl) (pa_cons (pv 0) (pa_cons (pe_op op_add (pe_callB (clLen K) (by rfl) T.b_len (by decide +kernel) (pa_cons (pv 2) pa_nil)) pe_int) pa_nil))))
      (pss_cons (ps_set (i := 4) sc_law_bad.nd rfl (.inl rfl) (pe_lst (pa_cons (pe_op op_cat (pe_op op_cat (pe_slice (slL K) (pv 2) po_none (po_some (pv 3))) (pe_lst (pa_cons (pe_cl c_law_far hr (by decide) (by rfl) (pa_cons (pv 0) (pa_cons pe_int (pa_cons (pv 1) pa_nil)))) pa_nil))) (pe_slice (slL K) (pv 2) (po_some (pv 3)) po_none)) (pa_cons (pe_op op_cat (pe_op op_cat (pe_slice (slL K) (pv 2) po_none (po_some (pv 3))) (pe_lst (pa_cons (pe_op op_add (pv 1) pe_int) pa_nil))) (pe_slice (slL K) (pv 2) (po_some (pv 3)) po_none)) pa_nil))))
      (pss_one (ps_ret (pe_ix (ixL K) (pe_op op_cat (pv 4) (pe_lst (pa_cons (pe_op op_rep (pe_lst (pa_cons pe_int pa_nil)) (pe_op op_add pe_int (pe_cl c_law_drawn hr (by decide) (by rfl) (pa_cons (pv 0) (pa_cons pe_int pa_nil))))) pa_nil))) (pe_cl c_law_drawn hr (by decide) (by rfl) (pa_cons (pv 0) (pa_cons pe_int pa_nil))) (fun _ _ => rfl)))))), ?_⟩
    have hlen : (sh.map V.int).length = sh.length := List.length_map _
    have k := Keep.refl st H
    have hk0 : ∀ (xs : List Int) (p : Addr) (H' : Hp), ¬ GoodSh b xs → xs.length ≤ 16 → p ≠ st → Keep st H H' → SOk K a ns st H' → H' p = some (.lst (xs.map V.int)) → Q (.ref p) H' := kk
    refine ⟨_, rfl, _, rfl, _, _, rfl, .inl (SqL.of w_q), _, _, rfl, rfl, st, a, ns, ((sh.map V.int).length : Int) + 1, rfl, s, by omega, Int.lt_of_le_of_lt (show ((sh.map V.int).length : Int) + 1 ≤ 13 by omega) (by decide), fun r i1 m1 c1 r0 r1 d1 => ?_⟩
    obtain ⟨e, rfl⟩ : ∃ e : Nat, r = (e : Int) := ⟨r.toNat, by omega⟩
    have s := s.drawn d1
    have k := k.atSt (o := StO a i1 m1 c1)
    have w_q : upd H st (StO a i1 m1 c1) _ = _ := (upd_ne n_q).trans w_q
    generalize upd H st (StO a i1 m1 c1) = H1 at s k w_q
    refine ⟨_, rfl, _, rfl, _, rfl, _, _, rfl, SqL.of w_q, fun a1 h_a1 => ?_⟩
    rw [cutV_to]
    have n_a1 := s.ne_of h_a1
    have s := s.new (o := .lst ((sh.take e).map V.int)) h_a1
    have k := k.new (o := .lst ((sh.take e).map V.int)) h_a1
    have w_q : upd H1 a1 (.lst ((sh.take e).map V.int)) _ = _ := (upd_ne (ne_of_none w_q h_a1)).trans w_q
    have w_a1 : upd H1 a1 (.lst ((sh.take e).map V.int)) a1 = some (.lst ((sh.take e).map V.int)) := upd_same
    generalize upd H1 a1 (.lst ((sh.take e).map V.int)) = H2 at s k w_q w_a1
    refine ⟨_, rfl, _, rfl, st, a, ns, 0, b, rfl, s, fun v H3 hv kE sE => ⟨(by show 1 ≤ sizeLine; decide), fun b1 h_b1 => ?_⟩⟩
    have w_q := kE _ _ n_q w_q
    have w_a1 := kE _ _ n_a1 w_a1
    have k := k.trans kE
    have s := sE
    have n_b1 := s.ne_of h_b1
    have s := s.new (o := .lst [.int v]) h_b1
    have k := k.new (o := .lst [.int v]) h_b1
    have w_q : upd H3 b1 (.lst [.int v]) _ = _ := (upd_ne (ne_of_none w_q h_b1)).trans w_q
    have w_a1 : upd H3 b1 (.lst [.int v]) _ = _ := (upd_ne (ne_of_none w_a1 h_b1)).trans w_a1
    have w_b1 : upd H3 b1 (.lst [.int v]) b1 = some (.lst [.int v]) := upd_same
    generalize upd H3 b1 (.lst [.int v]) = H4 at s k w_q w_a1 w_b1
    refine ⟨_, _, _, _, rfl, rfl, w_a1, w_b1, small_le (m := 64) (by simp; omega), fun c1 h_c1 => ?_⟩
    have n_c1 := s.ne_of h_c1
    have s := s.new (o := .lst ((sh.take e).map V.int ++ [.int v])) h_c1
    have k := k.new (o := .lst ((sh.take e).map V.int ++ [.int v])) h_c1
    have w_q : upd H4 c1 (.lst ((sh.take e).map V.int ++ [.int v])) _ = _ := (upd_ne (ne_of_none w_q h_c1)).trans w_q
    have w_a1 : upd H4 c1 (.lst ((sh.take e).map V.int ++ [.int v])) _ = _ := (upd_ne (ne_of_none w_a1 h_c1)).trans w_a1
    have w_b1 : upd H4 c1 (.lst ((sh.take e).map V.int ++ [.int v])) _ = _ := (upd_ne (ne_of_none w_b1 h_c1)).trans w_b1
    have w_c1 : upd H4 c1 (.lst ((sh.take e).map V.int ++ [.int v])) c1 = some (.lst ((sh.take e).map V.int ++ [.int v])) := upd_same
    generalize upd H4 c1 (.lst ((sh.take e).map V.int ++ [.int v])) = H5 at s k w_q w_a1 w_b1 w_c1
    refine ⟨_, rfl, _, rfl, _, rfl, _, _, rfl, SqL.of w_q, fun d1 h_d1 => ?_⟩
    rw [cutN_from]
    have n_d1 := s.ne_of h_d1
    have s := s.new (o := .lst ((sh.drop e).map V.int)) h_d1
    have k := k.new (o := .lst ((sh.drop e).map V.int)) h_d1
    have w_q : upd H5 d1 (.lst ((sh.drop e).map V.int)) _ = _ := (upd_ne (ne_of_none w_q h_d1)).trans w_q
    have w_c1 : upd H5 d1 (.lst ((sh.drop e).map V.int)) _ = _ := (upd_ne (ne_of_none w_c1 h_d1)).trans w_c1
    have w_d1 : upd H5 d1 (.lst ((sh.drop e).map V.int)) d1 = some (.lst ((sh.drop e).map V.int)) := upd_same
    generalize upd H5 d1 (.lst ((sh.drop e).map V.int)) = H6 at s k w_q w_c1 w_d1
    refine ⟨_, _, _, _, rfl, rfl, w_c1, w_d1, small_le (m := 64) (by simp; omega), fun e1 h_e1 => ?_⟩
    have n_e1 := s.ne_of h_e1
    have s := s.new (o := .lst (((sh.take e).map V.int ++ [.int v]) ++ (sh.drop e).map V.int)) h_e1
    have k := k.new (o := .lst (((sh.take e).map V.int ++ [.int v]) ++ (sh.drop e).map V.int)) h_e1
    have w_q : upd H6 e1 (.lst (((sh.take e).map V.int ++ [.int v]) ++ (sh.drop e).map V.int)) _ = _ := (upd_ne (ne_of_none w_q h_e1)).trans w_q
    have w_c1 : upd H6 e1 (.lst (((sh.take e).map V.int ++ [.int v]) ++ (sh.drop e).map V.int)) _ = _ := (upd_ne (ne_of_none w_c1 h_e1)).trans w_c1
    have w_d1 : upd H6 e1 (.lst (((sh.take e).map V.int ++ [.int v]) ++ (sh.drop e).map V.int)) _ = _ := (upd_ne (ne_of_none w_d1 h_e1)).trans w_d1
    have w_e1 : upd H6 e1 (.lst (((sh.take e).map V.int ++ [.int v]) ++ (sh.drop e).map V.int)) e1 = some (.lst (((sh.take e).map V.int ++ [.int v]) ++ (sh.drop e).map V.int)) := upd_same
    generalize upd H6 e1 (.lst (((sh.take e).map V.int ++ [.int v]) ++ (sh.drop e).map V.int)) = H7 at s k w_q w_c1 w_d1 w_e1
    refine ⟨_, rfl, _, rfl, _, rfl, _, _, rfl, SqL.of w_q, fun a2 h_a2 => ?_⟩
    rw [cutV_to]
    have n_a2 := s.ne_of h_a2
    have s := s.new (o := .lst ((sh.take e).map V.int)) h_a2
    have k := k.new (o := .lst ((sh.take e).map V.int)) h_a2
    have w_q : upd H7 a2 (.lst ((sh.take e).map V.int)) _ = _ := (upd_ne (ne_of_none w_q h_a2)).trans w_q
    have w_e1 : upd H7 a2 (.lst ((sh.take e).map V.int)) _ = _ := (upd_ne (ne_of_none w_e1 h_a2)).trans w_e1
    have w_a2 : upd H7 a2 (.lst ((sh.take e).map V.int)) a2 = some (.lst ((sh.take e).map V.int)) := upd_same
    generalize upd H7 a2 (.lst ((sh.take e).map V.int)) = H8 at s k w_q w_e1 w_a2
    refine ⟨_, rfl, _, _, rfl, rfl, (by show 1 ≤ sizeLine; decide), fun b2 h_b2 => ?_⟩
    have n_b2 := s.ne_of h_b2
    have s := s.new (o := .lst [.int (b + 1)]) h_b2
    have k := k.new (o := .lst [.int (b + 1)]) h_b2
    have w_q : upd H8 b2 (.lst [.int (b + 1)]) _ = _ := (upd_ne (ne_of_none w_q h_b2)).trans w_q
    have w_e1 : upd H8 b2 (.lst [.int (b + 1)]) _ = _ := (upd_ne (ne_of_none w_e1 h_b2)).trans w_e1
    have w_a2 : upd H8 b2 (.lst [.int (b + 1)]) _ = _ := (upd_ne (ne_of_none w_a2 h_b2)).trans w_a2
    have w_b2 : upd H8 b2 (.lst [.int (b + 1)]) b2 = some (.lst [.int (b + 1)]) := upd_same
    generalize upd H8 b2 (.lst [.int (b + 1)]) = H9 at s k w_q w_e1 w_a2 w_b2
    refine ⟨_, _, _, _, rfl, rfl, w_a2, w_b2, small_le (m := 64) (by simp; omega), fun c2 h_c2 => ?_⟩
    have n_c2 := s.ne_of h_c2
    have s := s.new (o := .lst ((sh.take e).map V.int ++ [.int (b + 1)])) h_c2
    have k := k.new (o := .lst ((sh.take e).map V.int ++ [.int (b + 1)])) h_c2
    have w_q : upd H9 c2 (.lst ((sh.take e).map V.int ++ [.int (b + 1)])) _ = _ := (upd_ne (ne_of_none w_q h_c2)).trans w_q
    have w_e1 : upd H9 c2 (.lst ((sh.take e).map V.int ++ [.int (b + 1)])) _ = _ := (upd_ne (ne_of_none w_e1 h_c2)).trans w_e1
    have w_a2 : upd H9 c2 (.lst ((sh.take e).map V.int ++ [.int (b + 1)])) _ = _ := (upd_ne (ne_of_none w_a2 h_c2)).trans w_a2
    have w_b2 : upd H9 c2 (.lst ((sh.take e).map V.int ++ [.int (b + 1)])) _ = _ := (upd_ne (ne_of_none w_b2 h_c2)).trans w_b2
    have w_c2 : upd H9 c2 (.lst ((sh.take e).map V.int ++ [.int (b + 1)])) c2 = some (.lst ((sh.take e).map V.int ++ [.int (b + 1)])) := upd_same
    generalize upd H9 c2 (.lst ((sh.take e).map V.int ++ [.int (b + 1)])) = H10 at s k w_q w_e1 w_a2 w_b2 w_c2
    refine ⟨_, rfl, _, rfl, _, rfl, _, _, rfl, SqL.of w_q, fun d2 h_d2 => ?_⟩
    rw [cutN_from]
    have n_d2 := s.ne_of h_d2
    have s := s.new (o := .lst ((sh.drop e).map V.int)) h_d2
    have k := k.new (o := .lst ((sh.drop e).map V.int)) h_d2
    have w_q : upd H10 d2 (.lst ((sh.drop e).map V.int)) _ = _ := (upd_ne (ne_of_none w_q h_d2)).trans w_q
    have w_e1 : upd H10 d2 (.lst ((sh.drop e).map V.int)) _ = _ := (upd_ne (ne_of_none w_e1 h_d2)).trans w_e1
    have w_c2 : upd H10 d2 (.lst ((sh.drop e).map V.int)) _ = _ := (upd_ne (ne_of_none w_c2 h_d2)).trans w_c2
    have w_d2 : upd H10 d2 (.lst ((sh.drop e).map V.int)) d2 = some (.lst ((sh.drop e).map V.int)) := upd_same
    generalize upd H10 d2 (.lst ((sh.drop e).map V.int)) = H11 at s k w_q w_e1 w_c2 w_d2
    refine ⟨_, _, _, _, rfl, rfl, w_c2, w_d2, small_le (m := 64) (by simp; omega), fun e2 h_e2 => ?_⟩
    have n_e2 := s.ne_of h_e2
    have s := s.new (o := .lst (((sh.take e).map V.int ++ [.int (b + 1)]) ++ (sh.drop e).map V.int)) h_e2
    have k := k.new (o := .lst (((sh.take e).map V.int ++ [.int (b + 1)]) ++ (sh.drop e).map V.int)) h_e2
    have w_q : upd H11 e2 (.lst (((sh.take e).map V.int ++ [.int (b + 1)]) ++ (sh.drop e).map V.int)) _ = _ := (upd_ne (ne_of_none w_q h_e2)).trans w_q
    have w_e1 : upd H11 e2 (.lst (((sh.take e).map V.int ++ [.int (b + 1)]) ++ (sh.drop e).map V.int)) _ = _ := (upd_ne (ne_of_none w_e1 h_e2)).trans w_e1
    have w_c2 : upd H11 e2 (.lst (((sh.take e).map V.int ++ [.int (b + 1)]) ++ (sh.drop e).map V.int)) _ = _ := (upd_ne (ne_of_none w_c2 h_e2)).trans w_c2
    have w_d2 : upd H11 e2 (.lst (((sh.take e).map V.int ++ [.int (b + 1)]) ++ (sh.drop e).map V.int)) _ = _ := (upd_ne (ne_of_none w_d2 h_e2)).trans w_d2
    have w_e2 : upd H11 e2 (.lst (((sh.take e).map V.int ++ [.int (b + 1)]) ++ (sh.drop e).map V.int)) e2 = some (.lst (((sh.take e).map V.int ++ [.int (b + 1)]) ++ (sh.drop e).map V.int)) := upd_same
    generalize upd H11 e2 (.lst (((sh.take e).map V.int ++ [.int (b + 1)]) ++ (sh.drop e).map V.int)) = H12 at s k w_q w_e1 w_c2 w_d2 w_e2
    refine ⟨(by show 2 ≤ sizeLine; decide), fun y h_y => ?_⟩
    have n_y := s.ne_of h_y
    have s := s.new (o := .lst [.ref e1, .ref e2]) h_y
    have k := k.new (o := .lst [.ref e1, .ref e2]) h_y
    have w_e1 : upd H12 y (.lst [.ref e1, .ref e2]) _ = _ := (upd_ne (ne_of_none w_e1 h_y)).trans w_e1
    have w_e2 : upd H12 y (.lst [.ref e1, .ref e2]) _ = _ := (upd_ne (ne_of_none w_e2 h_y)).trans w_e2
    have w_y : upd H12 y (.lst [.ref e1, .ref e2]) y = some (.lst [.ref e1, .ref e2]) := upd_same
    generalize upd H12 y (.lst [.ref e1, .ref e2]) = H13 at s k w_e1 w_e2 w_y
    refine ⟨_, rfl, (by show 1 ≤ sizeLine; decide), fun z1 h_z1 => ?_⟩
    have n_z1 := s.ne_of h_z1
    have s := s.new (o := .lst [.int 0]) h_z1
    have k := k.new (o := .lst [.int 0]) h_z1
    have w_e1 : upd H13 z1 (.lst [.int 0]) _ = _ := (upd_ne (ne_of_none w_e1 h_z1)).trans w_e1
    have w_e2 : upd H13 z1 (.lst [.int 0]) _ = _ := (upd_ne (ne_of_none w_e2 h_z1)).trans w_e2
    have w_y : upd H13 z1 (.lst [.int 0]) _ = _ := (upd_ne (ne_of_none w_y h_z1)).trans w_y
    have w_z1 : upd H13 z1 (.lst [.int 0]) z1 = some (.lst [.int 0]) := upd_same
    generalize upd H13 z1 (.lst [.int 0]) = H14 at s k w_e1 w_e2 w_y w_z1
    refine ⟨_, rfl, st, a, ns, 3, rfl, s, by decide, by decide, fun g2 i2 m2 c2 g20 g21 d2 => ?_⟩
    have s := s.drawn d2
    have k := k.atSt (o := StO a i2 m2 c2)
    have w_e1 : upd H14 st (StO a i2 m2 c2) _ = _ := (upd_ne n_e1).trans w_e1
    have w_e2 : upd H14 st (StO a i2 m2 c2) _ = _ := (upd_ne n_e2).trans w_e2
    have w_y : upd H14 st (StO a i2 m2 c2) _ = _ := (upd_ne n_y).trans w_y
    have w_z1 : upd H14 st (StO a i2 m2 c2) _ = _ := (upd_ne n_z1).trans w_z1
    generalize upd H14 st (StO a i2 m2 c2) = H15 at s k w_e1 w_e2 w_y w_z1
    refine ⟨_, _, rfl, rfl, _, _, _, rfl, rfl, w_z1, by omega, by omega, small_le (m := 64) (by show 1 * (13 + g2).toNat ≤ 64; omega), fun z2 h_z2 => ?_⟩
    rw [rep0]
    have n_z2 := s.ne_of h_z2
    have s := s.new (o := .lst ((List.replicate (13 + g2).toNat 0).map V.int)) h_z2
    have k := k.new (o := .lst ((List.replicate (13 + g2).toNat 0).map V.int)) h_z2
    have w_e1 : upd H15 z2 (.lst ((List.replicate (13 + g2).toNat 0).map V.int)) _ = _ := (upd_ne (ne_of_none w_e1 h_z2)).trans w_e1
    have w_e2 : upd H15 z2 (.lst ((List.replicate (13 + g2).toNat 0).map V.int)) _ = _ := (upd_ne (ne_of_none w_e2 h_z2)).trans w_e2
    have w_y : upd H15 z2 (.lst ((List.replicate (13 + g2).toNat 0).map V.int)) _ = _ := (upd_ne (ne_of_none w_y h_z2)).trans w_y
    have w_z1 : upd H15 z2 (.lst ((List.replicate (13 + g2).toNat 0).map V.int)) _ = _ := (upd_ne (ne_of_none w_z1 h_z2)).trans w_z1
    have w_z2 : upd H15 z2 (.lst ((List.replicate (13 + g2).toNat 0).map V.int)) z2 = some (.lst ((List.replicate (13 + g2).toNat 0).map V.int)) := upd_same
    generalize upd H15 z2 (.lst ((List.replicate (13 + g2).toNat 0).map V.int)) = H16 at s k w_e1 w_e2 w_y w_z1 w_z2
    refine ⟨(by show 1 ≤ sizeLine; decide), fun z3 h_z3 => ?_⟩
    have n_z3 := s.ne_of h_z3
    have s := s.new (o := .lst [.ref z2]) h_z3
    have k := k.new (o := .lst [.ref z2]) h_z3
    have w_e1 : upd H16 z3 (.lst [.ref z2]) _ = _ := (upd_ne (ne_of_none w_e1 h_z3)).trans w_e1
    have w_e2 : upd H16 z3 (.lst [.ref z2]) _ = _ := (upd_ne (ne_of_none w_e2 h_z3)).trans w_e2
    have w_y : upd H16 z3 (.lst [.ref z2]) _ = _ := (upd_ne (ne_of_none w_y h_z3)).trans w_y
    have w_z2 : upd H16 z3 (.lst [.ref z2]) _ = _ := (upd_ne (ne_of_none w_z2 h_z3)).trans w_z2
    have w_z3 : upd H16 z3 (.lst [.ref z2]) z3 = some (.lst [.ref z2]) := upd_same
    generalize upd H16 z3 (.lst [.ref z2]) = H17 at s k w_e1 w_e2 w_y w_z2 w_z3
    refine ⟨_, _, _, _, rfl, rfl, w_y, w_z3, (by show 3 ≤ sizeLine; decide), fun z4 h_z4 => ?_⟩
    have n_z4 := s.ne_of h_z4
    have s := s.new (o := .lst ([.ref e1, .ref e2] ++ [.ref z2])) h_z4
    have k := k.new (o := .lst ([.ref e1, .ref e2] ++ [.ref z2])) h_z4
    have w_e1 : upd H17 z4 (.lst ([.ref e1, .ref e2] ++ [.ref z2])) _ = _ := (upd_ne (ne_of_none w_e1 h_z4)).trans w_e1
    have w_e2 : upd H17 z4 (.lst ([.ref e1, .ref e2] ++ [.ref z2])) _ = _ := (upd_ne (ne_of_none w_e2 h_z4)).trans w_e2
    have w_y : upd H17 z4 (.lst ([.ref e1, .ref e2] ++ [.ref z2])) _ = _ := (upd_ne (ne_of_none w_y h_z4)).trans w_y
    have w_z2 : upd H17 z4 (.lst ([.ref e1, .ref e2] ++ [.ref z2])) _ = _ := (upd_ne (ne_of_none w_z2 h_z4)).trans w_z2
    have w_z3 : upd H17 z4 (.lst ([.ref e1, .ref e2] ++ [.ref z2])) _ = _ := (upd_ne (ne_of_none w_z3 h_z4)).trans w_z3
    have w_z4 : upd H17 z4 (.lst ([.ref e1, .ref e2] ++ [.ref z2])) z4 = some (.lst ([.ref e1, .ref e2] ++ [.ref z2])) := upd_same
    generalize upd H17 z4 (.lst ([.ref e1, .ref e2] ++ [.ref z2])) = H18 at s k w_e1 w_e2 w_y w_z2 w_z3 w_z4
    refine ⟨_, rfl, st, a, ns, 3, rfl, s, by decide, by decide, fun g3 i3 m3 c3 g30 g31 d3 => ?_⟩
    have s := s.drawn d3
    have k := k.atSt (o := StO a i3 m3 c3)
    have w_e1 : upd H18 st (StO a i3 m3 c3) _ = _ := (upd_ne n_e1).trans w_e1
    have w_e2 : upd H18 st (StO a i3 m3 c3) _ = _ := (upd_ne n_e2).trans w_e2
    have w_z2 : upd H18 st (StO a i3 m3 c3) _ = _ := (upd_ne n_z2).trans w_z2
    have w_z4 : upd H18 st (StO a i3 m3 c3) _ = _ := (upd_ne n_z4).trans w_z4
    generalize upd H18 st (StO a i3 m3 c3) = H19 at s k w_e1 w_e2 w_z2 w_z4
    have bad1 : ∀ x : Int, (x < 0 ∨ b < x) → ¬ GoodSh b (sh.take e ++ [x] ++ sh.drop e) := fun x hx g => by have := g.2.2.2 x (by simp); omega
    have len1 : ∀ x : Int, (sh.take e ++ [x] ++ sh.drop e).length ≤ 16 := fun x => by simp; omega
    have ev : ∀ x : Int, ((sh.take e).map V.int ++ [.int x]) ++ (sh.drop e).map V.int = (sh.take e ++ [x] ++ sh.drop e).map V.int := fun x => by rw [List.map_append, List.map_append]; rfl
    rw [ev] at w_e1 w_e2
    rcases pick3 g30 g31 with z | z | z <;> subst z
    · exact ⟨_, _, _, _, rfl, rfl, SqL.of w_z4, at_of (j := 0) rfl rfl, hk0 _ e1 _ (bad1 v hv) (len1 v) n_e1 k s w_e1⟩
    · exact ⟨_, _, _, _, rfl, rfl, SqL.of w_z4, at_of (j := 1) rfl rfl, hk0 _ e2 _ (bad1 (b + 1) (by omega)) (len1 (b + 1)) n_e2 k s w_e2⟩
    · exact ⟨_, _, _, _, rfl, rfl, SqL.of w_z4, at_of (j := 2) rfl rfl, hk0 _ z2 _ (fun g => by have := g.2.2.1; rw [List.length_replicate] at this; omega) (by rw [List.length_replicate]; omega) n_z2 k s w_z2⟩
abbrev s_law_same : Stmt := top 28
theorem sc_law_same : FnScope ["_law_found", "_law_due", "_law_k"] ["_law_found", "_law_due"] (defScope s_law_same) := ⟨rfl, rfl, rfl, by decide +kernel, rfl, by decide +kernel, by decide +kernel⟩
/-- the same data, at most so deep -/
inductive SameD (H : Hp) : Nat → V → V → Prop
  | non (n : Nat) : SameD H n .non .non
  | bl (n : Nat) (b : Bool) : SameD H n (.bl b) (.bl b)
  | int (n : Nat) (i : Int) : SameD H n (.int i) (.int i)
  | str (n : Nat) (x : Str) : SameD H n (.str x) (.str x)
  | lst (n : Nat) (a b : Addr) (xs ys : List V) : H a = some (.lst xs) → H b = some (.lst ys) → xs.length = ys.length → xs.length ≤ 1000 → (∀ (i : Nat) x y, xs[i]? = some x → ys[i]? = some y → SameD H n x y) → SameD H (n + 1) (.ref a) (.ref b)
  | tup (n : Nat) (a b : Addr) (xs ys : List V) : H a = some (.tup xs) → H b = some (.tup ys) → xs.length = ys.length → xs.length ≤ 1000 → (∀ (i : Nat) x y, xs[i]? = some x → ys[i]? = some y → SameD H n x y) → SameD H (n + 1) (.ref a) (.ref b)
theorem SameD.same {H H' : Hp} (e : Same H H') {n : Nat} {x y : V} (h : SameD H n x y) : SameD H' n x y := by
  induction h with
  | non n => exact .non n
  | bl n b => exact .bl n b
  | int n i => exact .int n i
  | str n x => exact .str n x
  | lst n a b xs ys ha hb hl hm hi ih => exact .lst n a b xs ys (e _ _ ha) (e _ _ hb) hl hm ih
  | tup n a b xs ys ha hb hl hm hi ih => exact .tup n a b xs ys (e _ _ ha) (e _ _ hb) hl hm ih
theorem SameD.ints {H : Hp} {a b : Addr} {ns : List Int} (ha : H a = some (.lst (ns.map V.int))) (hb : H b = some (.lst (ns.map V.int))) (hl : ns.length ≤ 1000) (n : Nat) : SameD H (n + 1) (.ref a) (.ref b) :=
  .lst n a b _ _ ha hb rfl (by rw [List.length_map]; exact hl) fun i x y h1 h2 => by
    rw [h1] at h2; cases h2
    obtain ⟨z, _, rfl⟩ := getV h1
    exact .int n z
/-- _law_same(found, due) of the same: True -/
def spSame (n : Nat) : Sp := fun vs H Q _ => ∃ x y : V, vs = [x, y] ∧ SameD H n x y ∧ ∀ H', Same H H' → Q (.bl true) H'
def spSameR : Nat → Sp
  | 0 => fun _ _ _ _ => False
  | n + 1 => spSame n
theorem cls_tl : Paired ClsV [V.ty "tuple", V.ty "list"] [Value.type "tuple", Value.type "list"] := .cons (.ty _) (.cons (.ty _) .nil)
theorem kitTL {K : PySem.W.Frag} {t : String} {b1 b2 : Bool} (h1 : kitB t "tuple" = some b1) (h2 : kitB t "list" = some b2) : PySem.W.kitAny K (.type t) [.type "tuple", .type "list"] = some (b1 || b2) := by
  refine kitAny_cons (kit_ty h1) (fun e => ?_) (fun e => by rw [e] <;> rfl)
  rw [e, Bool.false_or]
  refine kitAny_cons (kit_ty h2) (fun e => ?_) (fun e => by rw [e] <;> rfl)
  rw [e]
  exact kitAny_nil
theorem and_case {c : Prop} [Decidable c] {A B : Prop} (hc : ¬ c) (h : B) : if (decide c) = true then A else B := by
  rw [decide_eq_false hc]; exact iteF h
theorem same_mk {f : Addr} {fd : FuncData} (F : FunG K mg "_law_same" s_law_same f fd ["_law_found", "_law_due"]) (T : Txt K mg) (k n : Nat) (c_law_same : Cl P w K mg base CX0 k "_law_same" (spSameR n)) :
    FnOk P w K mg base CX0 (k + 1) f fd ["_law_found", "_law_due"] (spSame n) := by
  refine F.fn.ok sc_law_same (fun vs H Q E h => ?_) (fun cdv A outer s H vs Q E hr h => ?_)
  · obtain ⟨x, y, rfl, _⟩ := h
    rfl
  · obtain ⟨x, y, rfl, hs, q⟩ := h
    refine ⟨_, (pss_cons (ps_if (pt_val (pe_callB call_isiT (by rfl) T.b_isinstance (by decide +kernel) (pa_cons (pv 1) (pa_cons (pe_tup (pa_cons (pe_bltn (v := .ty "tuple") (u := .type "tuple") (by rfl) T.b_tuple (by decide +kernel) rfl) (pa_cons (pe_bltn (v := .ty "list") (u := .type "list") (by rfl) T.b_list (by decide +kernel) rfl) pa_nil))) pa_nil)))) (pss_cons (ps_if (PW.pt (pw_or (pt_not (pt_val (pe_callB call_isiT (by rfl) T.b_isinstance (by decide +kernel) (pa_cons (pv 0) (pa_cons (pe_tup (pa_cons (pe_bltn (v := .ty "tuple") (u := .type "tuple") (by rfl) T.b_tuple (by decide +kernel) rfl) (pa_cons (pe_bltn (v := .ty "list") (u := .type "list") (by rfl) T.b_list (by decide +kernel) rfl) pa_nil))) pa_nil))))) (pw_or1 (pt_cmpR op_ne (pe_callB call_isi (by rfl) T.b_isinstance (by decide +kernel) (pa_cons (pv 0) (pa_cons (pe_bltn (v := .ty "list") (u := .type "list") (by rfl) T.b_list (by decide +kernel) rfl) pa_nil))) (pe_callB call_isi (by rfl) T.b_isinstance (by decide +kernel) (pa_cons (pv 1) (pa_cons (pe_bltn (v := .ty "list") (u := .type "list") (by rfl) T.b_list (by decide +kernel) rfl) pa_nil))) (nomark _))))) (pss_one (ps_ret pe_bl)) pss_nil)
      (pss_cons (ps_if (pt_cmpR op_ne (pe_callB (clLen K) (by rfl) T.b_len (by decide +kernel) (pa_cons (pv 0) pa_nil)) (pe_callB (clLen K) (by rfl) T.b_len (by decide +kernel) (pa_cons (pv 1) pa_nil)) (nomark _)) (pss_one (ps_ret pe_bl)) pss_nil)
      (pss_one (ps_ret (pe_cmpR (opEqD K hr.units) (pe_lc (own := [("_law_k", 2)]) (g := gName 2) (by rfl) sc_law_same.nd (pi_range1 (by rfl) T.b_range (pa_cons (pe_callB (clLen K) (by rfl) T.b_len (by decide +kernel) (pa_cons (pv 1) pa_nil)) pa_nil)) (blkOk_by (own := [("_law_k", 2)]) (N := ["_law_found", "_law_due", "_law_k"]) (sc := defScope s_law_same) (by decide +kernel)) (fun _ _ _ _ _ => (pg_name (i := 2) sc_law_same.nd rfl (.inl rfl))) (fun _ _ _ _ _ => (pts_one (pt_not (pt_val (pe_cl c_law_same hr (Nat.le_refl _) (by rfl) (pa_cons (pe_ix (ixQ K) (pv 0) (pv 2) (fun _ _ => rfl)) (pa_cons (pe_ix (ixQ K) (pv 1) (pv 2) (fun _ _ => rfl)) pa_nil))))))) (fun _ _ _ _ _ => (pv 2))) (pe_lst pa_nil) (nomark _)))))) pss_nil)
      (pss_cons (ps_if (pt_cmpR op_isN (pv 1) pe_non (nomark _)) (pss_one (ps_ret (pe_cmpR op_isN (pv 0) pe_non (nomark _)))) pss_nil)
      (pss_cons (ps_if (pt_val (pe_callB call_isi (by rfl) T.b_isinstance (by decide +kernel) (pa_cons (pv 1) (pa_cons (pe_bltn (v := .ty "str") (u := .type "str") (by rfl) T.b_str (by decide +kernel) rfl) pa_nil)))) (pss_one (ps_ret (pe_and (pe_callB call_isi (by rfl) T.b_isinstance (by decide +kernel) (pa_cons (pv 0) (pa_cons (pe_bltn (v := .ty "str") (u := .type "str") (by rfl) T.b_str (by decide +kernel) rfl) pa_nil))) (pe_one (pe_cmpR op_eq (pv 0) (pv 1) (nomark _)))))) pss_nil)
      (pss_cons (ps_if (PW.pt (pw_or (pt_val (pe_callB call_isi (by rfl) T.b_isinstance (by decide +kernel) (pa_cons (pv 1) (pa_cons (pe_bltn (v := .ty "bool") (u := .type "bool") (by rfl) T.b_bool (by decide +kernel) rfl) pa_nil)))) (pw_or1 (pt_val (pe_callB call_isi (by rfl) T.b_isinstance (by decide +kernel) (pa_cons (pv 0) (pa_cons (pe_bltn (v := .ty "bool") (u := .type "bool") (by rfl) T.b_bool (by decide +kernel) rfl) pa_nil))))))) (pss_one (ps_ret (pe_and (pe_callB call_isi (by rfl) T.b_isinstance (by decide +kernel) (pa_cons (pv 1) (pa_cons (pe_bltn (v := .ty "bool") (u := .type "bool") (by rfl) T.b_bool (by decide +kernel) rfl) pa_nil))) (pe_and (pe_callB call_isi (by rfl) T.b_isinstance (by decide +kernel) (pa_cons (pv 0) (pa_cons (pe_bltn (v := .ty "bool") (u := .type "bool") (by rfl) T.b_bool (by decide +kernel) rfl) pa_nil))) (pe_one (pe_cmpR op_eq (pv 0) (pv 1) (nomark _))))))) pss_nil)
      (pss_one (ps_ret (pe_and (pe_callB call_isi (by rfl) T.b_isinstance (by decide +kernel) (pa_cons (pv 0) (pa_cons (pe_bltn (v := .ty "int") (u := .type "int") (by rfl) T.b_int (by decide +kernel) rfl) pa_nil))) (pe_one (pe_cmpR op_eq (pv 0) (pv 1) (nomark _)))))))))), ?_⟩
    have two : (2 : Nat) ≤ sizeLine := by decide
    cases hs with
    | non =>
      refine ⟨_, rfl, two, fun p hp => ⟨_, _, _, _, _, _, rfl, upd_same, cls_tl, (.base .non), kitTL (by decide +kernel : kitB "NoneType" "tuple" = some false) (by decide +kernel : kitB "NoneType" "list" = some false), _, rfl, iteF ?_⟩⟩
      refine ⟨_, rfl, rfl, _, rfl, iteT ?_⟩
      exact ⟨_, rfl, rfl, q _ (Same.upd hp)⟩
    | bl _ b =>
      refine ⟨_, rfl, two, fun p hp => ⟨_, _, _, _, _, _, rfl, upd_same, cls_tl, (.base (.bl b)), kitTL (by decide +kernel : kitB "bool" "tuple" = some false) (by decide +kernel : kitB "bool" "list" = some false), _, rfl, iteF ?_⟩⟩
      refine ⟨_, rfl, rfl, _, rfl, and_case (fun z => V.noConfusion z) ?_⟩
      refine ⟨_, rfl, _, _, _, _, _, rfl, .ty _, (.base (.bl b)), kit_ty (by decide +kernel : kitB "bool" "str" = some false), _, rfl, iteF ?_⟩
      refine ⟨_, rfl, _, _, _, _, _, rfl, .ty _, (.base (.bl b)), kit_ty (by decide +kernel : kitB "bool" "bool" = some true), _, rfl, iteT (iteT ?_)⟩
      refine ⟨_, rfl, _, _, _, _, _, rfl, .ty _, (.base (.bl b)), kit_ty (by decide +kernel : kitB "bool" "bool" = some true), _, rfl, iteT ?_⟩
      refine ⟨_, rfl, _, _, _, _, _, rfl, .ty _, (.base (.bl b)), kit_ty (by decide +kernel : kitB "bool" "bool" = some true), _, rfl, iteT ?_⟩
      refine ⟨_, rfl, _, rfl, rfl, ?_⟩
      rw [decide_eq_true rfl]
      exact q _ (Same.upd hp)
    | int _ i =>
      refine ⟨_, rfl, two, fun p hp => ⟨_, _, _, _, _, _, rfl, upd_same, cls_tl, (.base (.int i)), kitTL (by decide +kernel : kitB "int" "tuple" = some false) (by decide +kernel : kitB "int" "list" = some false), _, rfl, iteF ?_⟩⟩
      refine ⟨_, rfl, rfl, _, rfl, and_case (fun z => V.noConfusion z) ?_⟩
      refine ⟨_, rfl, _, _, _, _, _, rfl, .ty _, (.base (.int i)), kit_ty (by decide +kernel : kitB "int" "str" = some false), _, rfl, iteF ?_⟩
      refine ⟨_, rfl, _, _, _, _, _, rfl, .ty _, (.base (.int i)), kit_ty (by decide +kernel : kitB "int" "bool" = some false), _, rfl, iteF ?_⟩
      refine ⟨_, rfl, _, _, _, _, _, rfl, .ty _, (.base (.int i)), kit_ty (by decide +kernel : kitB "int" "bool" = some false), _, rfl, iteF ?_⟩
      refine ⟨_, rfl, _, _, _, _, _, rfl, .ty _, (.base (.int i)), kit_ty (by decide +kernel : kitB "int" "int" = some true), _, rfl, iteT ?_⟩
      refine ⟨_, rfl, _, rfl, rfl, ?_⟩
      rw [decide_eq_true rfl]
      exact q _ (Same.upd hp)
    | str _ x =>
      refine ⟨_, rfl, two, fun p hp => ⟨_, _, _, _, _, _, rfl, upd_same, cls_tl, (.base (.str x)), kitTL (by decide +kernel : kitB "str" "tuple" = some false) (by decide +kernel : kitB "str" "list" = some false), _, rfl, iteF ?_⟩⟩
      refine ⟨_, rfl, rfl, _, rfl, and_case (fun z => V.noConfusion z) ?_⟩
      refine ⟨_, rfl, _, _, _, _, _, rfl, .ty _, (.base (.str x)), kit_ty (by decide +kernel : kitB "str" "str" = some true), _, rfl, iteT ?_⟩
      refine ⟨_, rfl, _, _, _, _, _, rfl, .ty _, (.base (.str x)), kit_ty (by decide +kernel : kitB "str" "str" = some true), _, rfl, iteT ?_⟩
      refine ⟨_, rfl, _, rfl, rfl, ?_⟩
      rw [decide_eq_true rfl]
      exact q _ (Same.upd hp)
    | lst n a b xs ys ha hb hl hm hi =>
      refine ⟨_, rfl, two, fun p hp => ?_⟩
      have e1 : Same H (upd H p (.tup [.ty "tuple", .ty "list"])) := Same.upd hp
      have hT1 : upd H p (.tup [.ty "tuple", .ty "list"]) p = some (.tup [.ty "tuple", .ty "list"]) := upd_same
      generalize upd H p (.tup [.ty "tuple", .ty "list"]) = H1 at e1 hT1
      refine ⟨_, _, _, _, _, _, rfl, hT1, cls_tl, (.base (.lst (e1 _ _ hb))), kitTL (by decide +kernel : kitB "list" "tuple" = some false) (by decide +kernel : kitB "list" "list" = some true), _, rfl, iteT ?_⟩
      refine ⟨_, rfl, two, fun p2 hp2 => ?_⟩
      have e2 : Same H (upd H1 p2 (.tup [.ty "tuple", .ty "list"])) := e1.new hp2
      have hT2 : upd H1 p2 (.tup [.ty "tuple", .ty "list"]) p2 = some (.tup [.ty "tuple", .ty "list"]) := upd_same
      generalize upd H1 p2 (.tup [.ty "tuple", .ty "list"]) = H2 at e2 hT2
      refine ⟨_, _, _, _, _, _, rfl, hT2, cls_tl, (.base (.lst (e2 _ _ ha))), kitTL (by decide +kernel : kitB "list" "tuple" = some false) (by decide +kernel : kitB "list" "list" = some true), _, rfl, iteF ?_⟩
      refine ⟨_, rfl, _, _, _, _, _, rfl, .ty _, (.base (.lst (e2 _ _ ha))), kit_ty (by decide +kernel : kitB "list" "list" = some true), _, rfl, _, _, _, _, _, rfl, .ty _, (.base (.lst (e2 _ _ hb))), kit_ty (by decide +kernel : kitB "list" "list" = some true), rfl, _, rfl, iteNS rfl ?_⟩
      refine ⟨_, rfl, _, _, rfl, .inl (SqL.of (e2 _ _ ha)), _, rfl, _, _, rfl, .inl (SqL.of (e2 _ _ hb)), rfl, _, rfl, iteNS (by rw [hl]) ?_⟩
      refine ⟨_, rfl, _, _, rfl, .inl (SqL.of (e2 _ _ hb)), _, rfl, by omega, by omega, fun D hD => lc_range (lo := 0) (n := (ys.length : Int).toNat) (fun i H' => Same H2 H' ∧ H' D = some (.lst [])) ⟨Same.upd hD, upd_same⟩ ?_ ?_⟩
      · rintro i H' hi' ⟨e3, hD'⟩
        have hy : i < ys.length := by omega
        have hx : i < xs.length := by omega
        have hs := hi i _ _ (List.getElem?_eq_getElem hx) (List.getElem?_eq_getElem hy)
        refine ⟨rfl, _, rfl, _, rfl, .inl ⟨_, _, _, _, rfl, rfl, SqL.of (e3 _ _ (e2 _ _ ha)), at_of (by omega) (List.getElem?_eq_getElem hx), ?_⟩⟩
        refine ⟨_, rfl, _, rfl, .inl ⟨_, _, _, _, rfl, rfl, SqL.of (e3 _ _ (e2 _ _ hb)), at_of (by omega) (List.getElem?_eq_getElem hy), ?_⟩⟩
        exact ⟨_, _, rfl, hs.same (e2.trans e3), fun H4 e4 => ⟨_, rfl, iteF ⟨e3.trans e4, e4 _ _ hD'⟩⟩⟩
      · rintro H' ⟨e3, hD'⟩
        refine ⟨Nat.zero_le _, fun e he => ⟨_, _, .lst (SqL.of (by rw [upd_ne (ne_of_none hD' he)]; exact hD')) .nil, .lst (SqL.of upd_same) .nil, rfl, rfl, ?_⟩⟩
        exact q _ ((e2.trans e3).new he)
    | tup n a b xs ys ha hb hl hm hi =>
      refine ⟨_, rfl, two, fun p hp => ?_⟩
      have e1 : Same H (upd H p (.tup [.ty "tuple", .ty "list"])) := Same.upd hp
      have hT1 : upd H p (.tup [.ty "tuple", .ty "list"]) p = some (.tup [.ty "tuple", .ty "list"]) := upd_same
      generalize upd H p (.tup [.ty "tuple", .ty "list"]) = H1 at e1 hT1
      refine ⟨_, _, _, _, _, _, rfl, hT1, cls_tl, (.base (.tup (e1 _ _ hb))), kitTL (by decide +kernel : kitB "tuple" "tuple" = some true) (by decide +kernel : kitB "tuple" "list" = some false), _, rfl, iteT ?_⟩
      refine ⟨_, rfl, two, fun p2 hp2 => ?_⟩
      have e2 : Same H (upd H1 p2 (.tup [.ty "tuple", .ty "list"])) := e1.new hp2
      have hT2 : upd H1 p2 (.tup [.ty "tuple", .ty "list"]) p2 = some (.tup [.ty "tuple", .ty "list"]) := upd_same
      generalize upd H1 p2 (.tup [.ty "tuple", .ty "list"]) = H2 at e2 hT2
      refine ⟨_, _, _, _, _, _, rfl, hT2, cls_tl, (.base (.tup (e2 _ _ ha))), kitTL (by decide +kernel : kitB "tuple" "tuple" = some true) (by decide +kernel : kitB "tuple" "list" = some false), _, rfl, iteF ?_⟩
      refine ⟨_, rfl, _, _, _, _, _, rfl, .ty _, (.base (.tup (e2 _ _ ha))), kit_ty (by decide +kernel : kitB "tuple" "list" = some false), _, rfl, _, _, _, _, _, rfl, .ty _, (.base (.tup (e2 _ _ hb))), kit_ty (by decide +kernel : kitB "tuple" "list" = some false), rfl, _, rfl, iteNS rfl ?_⟩
      refine ⟨_, rfl, _, _, rfl, .inr (SqT.of (e2 _ _ ha)), _, rfl, _, _, rfl, .inr (SqT.of (e2 _ _ hb)), rfl, _, rfl, iteNS (by rw [hl]) ?_⟩
      refine ⟨_, rfl, _, _, rfl, .inr (SqT.of (e2 _ _ hb)), _, rfl, by omega, by omega, fun D hD => lc_range (lo := 0) (n := (ys.length : Int).toNat) (fun i H' => Same H2 H' ∧ H' D = some (.lst [])) ⟨Same.upd hD, upd_same⟩ ?_ ?_⟩
      · rintro i H' hi' ⟨e3, hD'⟩
        have hy : i < ys.length := by omega
        have hx : i < xs.length := by omega
        have hs := hi i _ _ (List.getElem?_eq_getElem hx) (List.getElem?_eq_getElem hy)
        refine ⟨rfl, _, rfl, _, rfl, .inr (.inl ⟨_, _, _, _, rfl, rfl, SqT.of (e3 _ _ (e2 _ _ ha)), at_of (by omega) (List.getElem?_eq_getElem hx), ?_⟩)⟩
        refine ⟨_, rfl, _, rfl, .inr (.inl ⟨_, _, _, _, rfl, rfl, SqT.of (e3 _ _ (e2 _ _ hb)), at_of (by omega) (List.getElem?_eq_getElem hy), ?_⟩)⟩
        exact ⟨_, _, rfl, hs.same (e2.trans e3), fun H4 e4 => ⟨_, rfl, iteF ⟨e3.trans e4, e4 _ _ hD'⟩⟩⟩
      · rintro H' ⟨e3, hD'⟩
        refine ⟨Nat.zero_le _, fun e he => ⟨_, _, .lst (SqL.of (by rw [upd_ne (ne_of_none hD' he)]; exact hD')) .nil, .lst (SqL.of upd_same) .nil, rfl, rfl, ?_⟩⟩
        exact q _ ((e2.trans e3).new he)
theorem ok_law_same {f : Addr} {fd : FuncData} (F : FunG K mg "_law_same" s_law_same f fd ["_law_found", "_law_due"]) (T : Txt K mg) : ∀ n : Nat, FnOk P w K mg base CX0 (n + 1) f fd ["_law_found", "_law_due"] (spSame n)
  | 0 => same_mk F T 0 0 (F.cl ⟨fun _ _ _ _ z => z.elim, fun _ _ _ _ _ _ _ _ _ _ _ _ _ z => z.elim⟩)
  | n + 1 => same_mk F T (n + 1) (n + 1) (F.cl (ok_law_same F T n))
end
end My

namespace My
open PySem PySem.Spec PyProof.Rows LamX L2
section
variable {P : Program} {w : World} {K : PySem.W.Frag} {mg : Str → Option Value} {base : Heap}
abbrev s_law_works : Stmt := top 34
theorem sc_law_works : FnScope ["_law_beats", "_law_bad_here", "_law_shares_here", "_law_none", "_law_works_here"] ["_law_beats", "_law_bad_here", "_law_shares_here", "_law_none"] (defScope s_law_works) := ⟨rfl, rfl, rfl, by decide +kernel, rfl, by decide +kernel, by decide +kernel⟩
/-! ### what the lambdas tell -/
def wY (K : PySem.W.Frag) (b : Int) (q l : Addr) (z : Int) : XK → Hp → VK → Prop := fun E H _ => ∃ xs sh : List Int, SqL K H q (xs.map V.int) ∧ xs.length ≤ 10000 ∧ ¬ GoodSh b xs ∧ SqL K H l (sh.map V.int) ∧ sh.length ≤ 12 ∧ 1 ≤ b ∧ b ≤ 64 ∧ ¬ (1 ≤ z ∧ z ≤ 64) ∧ ∀ H', Same H H' → E (.ref (He.ga K "BadShare")) none H'
def tllaw_works (K : PySem.W.Frag) (b : Int) (q l : Addr) (z : Int) (i : Nat) : XK → Hp → VK → Prop := wY K b q l z
def splaw_works (P : Program) (w : World) (K : PySem.W.Frag) (mg : Str → Option Value) (base : Heap) (TL : List (Addr × Str)) : Sp := fun vs H Q _ => ∃ (b : Int) (q l : Addr) (z : Int), vs = [.int b, .ref q, .ref l, .int z] ∧ Tabs TL H ∧
  ∀ (p : Addr) (fL : List (Addr × List Addr)) (H' : Hp), ExtN H H' → Tabs TL H' → H p = none → H' p = some (.lst (fL.map fun x => V.ref x.1)) → fL.length = 9 → (∀ (i : Nat) x, fL[i]? = some x → WorkAt P w K mg base 5 H' x.1 x.2 (tllaw_works K b q l z i)) → Q (.ref p) H'
theorem ok_law_works {f : Addr} {oc : Value} {od : Option Addr} {dV kV doc pm : Value} {an : Option Addr} {ct : Value} {osl : Array (Option Value)} {c Pt : Addr} (lk : K.lookup f = some ⟨oc, od, .func (PySem.W.fnOf "_law_works" "_law_works" (defArgs s_law_works) (defBody s_law_works) (defScope s_law_works) dV kV doc pm an (.ref c) ct), osl⟩) (hcd : PySem.W.codeIn K (.ref c) "_law_works" = true) {TL : List (Addr × Str)} (hmT : (Pt, lamQn "_law_works") ∈ TL) (huT : ∀ p ∈ TL, p.1 = Pt → p.2 = lamQn "_law_works") (TB : TabB base mg c Pt) (T : Txt K mg) (c_peak : Cl P w K mg base (L2.CX P w) 3 "peak" (orH K 0 (spPeak K))) (c_blocks : Cl P w K mg base (L2.CX P w) 3 "blocks" (orH K 1 (spBlocksX K))) (c_sums : Cl P w K mg base (L2.CX P w) 3 "sums" (orH K 1 (spArcs K))) (c_turned : Cl P w K mg base (L2.CX P w) 3 "turned" (spTurnedX K)) :
    FnOk P w K mg base CX0 (0 + 1) f (PySem.W.fnOf "_law_works" "_law_works" (defArgs s_law_works) (defBody s_law_works) (defScope s_law_works) dV kV doc pm an (.ref c) ct) ["_law_beats", "_law_bad_here", "_law_shares_here", "_law_none"] (splaw_works P w K mg base TL) := by
  refine fn_ofC lk hcd sc_law_works (fun vs H Q E h => ?_) (fun A outer s H vs Q E hr h fresh => ?_)
  · obtain ⟨b, q, l, z, rfl, _⟩ := h
    rfl
  · obtain ⟨b, q, l, z, rfl, tL, k⟩ := h
    refine ⟨_, (pb_cons (ps_set (i := 4) sc_law_works.nd rfl (.inl rfl) (pe_lst (pa_cons (pe_lamv (T := TL) TB rfl hmT huT rfl (lamS_by (sc := defScope s_law_works) (by decide +kernel))) pa_nil)))
      (pb_cons (ps_expr (pe_bm PySem.F.plainAttrs_list PySem.F.slot_list_append PySem.F.type_list_append mt_append (pv 4) (pa_cons (pe_lamv (T := TL) TB rfl hmT huT rfl (lamS_by (sc := defScope s_law_works) (by decide +kernel))) pa_nil)))
      (pb_cons (ps_expr (pe_bm PySem.F.plainAttrs_list PySem.F.slot_list_append PySem.F.type_list_append mt_append (pv 4) (pa_cons (pe_lamv (T := TL) TB rfl hmT huT rfl (lamS_by (sc := defScope s_law_works) (by decide +kernel))) pa_nil)))
      (pb_cons (ps_expr (pe_bm PySem.F.plainAttrs_list PySem.F.slot_list_append PySem.F.type_list_append mt_append (pv 4) (pa_cons (pe_lamv (T := TL) TB rfl hmT huT rfl (lamS_by (sc := defScope s_law_works) (by decide +kernel))) pa_nil)))
      (pb_cons (ps_expr (pe_bm PySem.F.plainAttrs_list PySem.F.slot_list_append PySem.F.type_list_append mt_append (pv 4) (pa_cons (pe_lamv (T := TL) TB rfl hmT huT rfl (lamS_by (sc := defScope s_law_works) (by decide +kernel))) pa_nil)))
      (pb_cons (ps_expr (pe_bm PySem.F.plainAttrs_list PySem.F.slot_list_append PySem.F.type_list_append mt_append (pv 4) (pa_cons (pe_lamv (T := TL) TB rfl hmT huT rfl (lamS_by (sc := defScope s_law_works) (by decide +kernel))) pa_nil)))
      (pb_cons (ps_expr (pe_bm PySem.F.plainAttrs_list PySem.F.slot_list_append PySem.F.type_list_append mt_append (pv 4) (pa_cons (pe_lamv (T := TL) TB rfl hmT huT rfl (lamS_by (sc := defScope s_law_works) (by decide +kernel))) pa_nil)))
      (pb_cons (ps_expr (pe_bm PySem.F.plainAttrs_list PySem.F.slot_list_append PySem.F.type_list_append mt_append (pv 4) (pa_cons (pe_lamv (T := TL) TB rfl hmT huT rfl (lamS_by (sc := defScope s_law_works) (by decide +kernel))) pa_nil)))
      (pb_cons (ps_expr (pe_bm PySem.F.plainAttrs_list PySem.F.slot_list_append PySem.F.type_list_append mt_append (pv 4) (pa_cons (pe_lamv (T := TL) TB rfl hmT huT rfl (lamS_by (sc := defScope s_law_works) (by decide +kernel))) pa_nil)))
      (pb_ret (pv 4))))))))))), ?_⟩
    refine ⟨tL, fun L0 eL0 f0 k0 H0 e0 nn0 t0 nf0 nfc0 hf0 hc0 => ⟨(by show 1 ≤ sizeLine; decide), fun p hp => ?_⟩⟩
    have nP : H p = none := nn0 p hp
    have ee : ExtN H (upd H0 p (.lst [.ref f0])) := fun b o hb n => by rw [upd_ne (ne_of_none (e0 b o hb n) hp)]; exact e0 b o hb n
    have tt : Tabs TL (upd H0 p (.lst [.ref f0])) := t0.ext fun b o hb => by rw [upd_ne (ne_of_none hb hp)]; exact hb
    have pp : upd H0 p (.lst [.ref f0]) p = some (.lst [.ref f0]) := upd_same
    have hF0 : upd H0 p (.lst [.ref f0]) f0 = _ := (upd_ne (ne_of_none hf0 hp)).trans hf0
    have hC0 : upd H0 p (.lst [.ref f0]) k0 = _ := (upd_ne (ne_of_none hc0 hp)).trans hc0
    generalize upd H0 p (.lst [.ref f0]) = G0 at ee tt pp hF0 hC0
    refine ⟨_, rfl, .inl ⟨rfl, _, SqL.of pp⟩, tt, fun L1 eL1 f1 k1 H1 e1 nn1 t1 nf1 nfc1 hf1 hc1 => ?_⟩
    have pj1 : H1 p = _ := e1 _ _ pp (fun _ z => nomatch z)
    refine ⟨p, _, _, rfl, rfl, pj1, small_of (m := 64) (by show 1 ≤ 64; decide), ?_⟩
    have ee1 : ExtN H (upd H1 p (.lst ([.ref f0] ++ [.ref f1]))) := fun b o hb n => by rw [upd_ne (ne_of_none hb nP)]; exact e1 b o (ee b o hb n) n
    have tt1 : Tabs TL (upd H1 p (.lst ([.ref f0] ++ [.ref f1]))) := tabs_keepL t1 pj1
    have pp1 : upd H1 p (.lst ([.ref f0] ++ [.ref f1])) p = some (.lst ([.ref f0] ++ [.ref f1])) := upd_same
    have hF0_1 : upd H1 p (.lst ([.ref f0] ++ [.ref f1])) f0 = _ := upd_lst pj1 (e1 _ _ hF0 lamO_tbl) lamO_lst
    have hC0_1 : upd H1 p (.lst ([.ref f0] ++ [.ref f1])) k0 = _ := upd_lst pj1 (e1 _ _ hC0 codeO_ne) codeO_lst
    have hF1_1 : upd H1 p (.lst ([.ref f0] ++ [.ref f1])) f1 = _ := upd_lst pj1 hf1 lamO_lst
    have hC1_1 : upd H1 p (.lst ([.ref f0] ++ [.ref f1])) k1 = _ := upd_lst pj1 hc1 codeO_lst
    clear ee tt pp
    generalize upd H1 p (.lst ([.ref f0] ++ [.ref f1])) = G1 at ee1 tt1 pp1 hF0_1 hC0_1 hF1_1 hC1_1
    have ee := ee1
    have tt := tt1
    have pp : G1 p = some (.lst [.ref f0, .ref f1]) := pp1
    clear ee1 tt1 pp1
    refine ⟨_, rfl, .inl ⟨rfl, _, SqL.of pp⟩, tt, fun L2 eL2 f2 k2 H2 e2 nn2 t2 nf2 nfc2 hf2 hc2 => ?_⟩
    have pj2 : H2 p = _ := e2 _ _ pp (fun _ z => nomatch z)
    refine ⟨p, _, _, rfl, rfl, pj2, small_of (m := 64) (by show 2 ≤ 64; decide), ?_⟩
    have ee2 : ExtN H (upd H2 p (.lst ([.ref f0, .ref f1] ++ [.ref f2]))) := fun b o hb n => by rw [upd_ne (ne_of_none hb nP)]; exact e2 b o (ee b o hb n) n
    have tt2 : Tabs TL (upd H2 p (.lst ([.ref f0, .ref f1] ++ [.ref f2]))) := tabs_keepL t2 pj2
    have pp2 : upd H2 p (.lst ([.ref f0, .ref f1] ++ [.ref f2])) p = some (.lst ([.ref f0, .ref f1] ++ [.ref f2])) := upd_same
    have hF0_2 : upd H2 p (.lst ([.ref f0, .ref f1] ++ [.ref f2])) f0 = _ := upd_lst pj2 (e2 _ _ hF0_1 lamO_tbl) lamO_lst
    have hC0_2 : upd H2 p (.lst ([.ref f0, .ref f1] ++ [.ref f2])) k0 = _ := upd_lst pj2 (e2 _ _ hC0_1 codeO_ne) codeO_lst
    have hF1_2 : upd H2 p (.lst ([.ref f0, .ref f1] ++ [.ref f2])) f1 = _ := upd_lst pj2 (e2 _ _ hF1_1 lamO_tbl) lamO_lst
    have hC1_2 : upd H2 p (.lst ([.ref f0, .ref f1] ++ [.ref f2])) k1 = _ := upd_lst pj2 (e2 _ _ hC1_1 codeO_ne) codeO_lst
    have hF2_2 : upd H2 p (.lst ([.ref f0, .ref f1] ++ [.ref f2])) f2 = _ := upd_lst pj2 hf2 lamO_lst
    have hC2_2 : upd H2 p (.lst ([.ref f0, .ref f1] ++ [.ref f2])) k2 = _ := upd_lst pj2 hc2 codeO_lst
    clear ee tt pp
    generalize upd H2 p (.lst ([.ref f0, .ref f1] ++ [.ref f2])) = G2 at ee2 tt2 pp2 hF0_2 hC0_2 hF1_2 hC1_2 hF2_2 hC2_2
    have ee := ee2
    have tt := tt2
    have pp : G2 p = some (.lst [.ref f0, .ref f1, .ref f2]) := pp2
    clear ee2 tt2 pp2
    refine ⟨_, rfl, .inl ⟨rfl, _, SqL.of pp⟩, tt, fun L3 eL3 f3 k3 H3 e3 nn3 t3 nf3 nfc3 hf3 hc3 => ?_⟩
    have pj3 : H3 p = _ := e3 _ _ pp (fun _ z => nomatch z)
    refine ⟨p, _, _, rfl, rfl, pj3, small_of (m := 64) (by show 3 ≤ 64; decide), ?_⟩
    have ee3 : ExtN H (upd H3 p (.lst ([.ref f0, .ref f1, .ref f2] ++ [.ref f3]))) := fun b o hb n => by rw [upd_ne (ne_of_none hb nP)]; exact e3 b o (ee b o hb n) n
    have tt3 : Tabs TL (upd H3 p (.lst ([.ref f0, .ref f1, .ref f2] ++ [.ref f3]))) := tabs_keepL t3 pj3
    have pp3 : upd H3 p (.lst ([.ref f0, .ref f1, .ref f2] ++ [.ref f3])) p = some (.lst ([.ref f0, .ref f1, .ref f2] ++ [.ref f3])) := upd_same
    have hF0_3 : upd H3 p (.lst ([.ref f0, .ref f1, .ref f2] ++ [.ref f3])) f0 = _ := upd_lst pj3 (e3 _ _ hF0_2 lamO_tbl) lamO_lst
    have hC0_3 : upd H3 p (.lst ([.ref f0, .ref f1, .ref f2] ++ [.ref f3])) k0 = _ := upd_lst pj3 (e3 _ _ hC0_2 codeO_ne) codeO_lst
    have hF1_3 : upd H3 p (.lst ([.ref f0, .ref f1, .ref f2] ++ [.ref f3])) f1 = _ := upd_lst pj3 (e3 _ _ hF1_2 lamO_tbl) lamO_lst
    have hC1_3 : upd H3 p (.lst ([.ref f0, .ref f1, .ref f2] ++ [.ref f3])) k1 = _ := upd_lst pj3 (e3 _ _ hC1_2 codeO_ne) codeO_lst
    have hF2_3 : upd H3 p (.lst ([.ref f0, .ref f1, .ref f2] ++ [.ref f3])) f2 = _ := upd_lst pj3 (e3 _ _ hF2_2 lamO_tbl) lamO_lst
    have hC2_3 : upd H3 p (.lst ([.ref f0, .ref f1, .ref f2] ++ [.ref f3])) k2 = _ := upd_lst pj3 (e3 _ _ hC2_2 codeO_ne) codeO_lst
    have hF3_3 : upd H3 p (.lst ([.ref f0, .ref f1, .ref f2] ++ [.ref f3])) f3 = _ := upd_lst pj3 hf3 lamO_lst
    have hC3_3 : upd H3 p (.lst ([.ref f0, .ref f1, .ref f2] ++ [.ref f3])) k3 = _ := upd_lst pj3 hc3 codeO_lst
    clear ee tt pp
    generalize upd H3 p (.lst ([.ref f0, .ref f1, .ref f2] ++ [.ref f3])) = G3 at ee3 tt3 pp3 hF0_3 hC0_3 hF1_3 hC1_3 hF2_3 hC2_3 hF3_3 hC3_3
    have ee := ee3
    have tt := tt3
    have pp : G3 p = some (.lst [.ref f0, .ref f1, .ref f2, .ref f3]) := pp3
    clear ee3 tt3 pp3
    refine ⟨_, rfl, .inl ⟨rfl, _, SqL.of pp⟩, tt, fun L4 eL4 f4 k4 H4 e4 nn4 t4 nf4 nfc4 hf4 hc4 => ?_⟩
    have pj4 : H4 p = _ := e4 _ _ pp (fun _ z => nomatch z)
    refine ⟨p, _, _, rfl, rfl, pj4, small_of (m := 64) (by show 4 ≤ 64; decide), ?_⟩
    have ee4 : ExtN H (upd H4 p (.lst ([.ref f0, .ref f1, .ref f2, .ref f3] ++ [.ref f4]))) := fun b o hb n => by rw [upd_ne (ne_of_none hb nP)]; exact e4 b o (ee b o hb n) n
    have tt4 : Tabs TL (upd H4 p (.lst ([.ref f0, .ref f1, .ref f2, .ref f3] ++ [.ref f4]))) := tabs_keepL t4 pj4
    have pp4 : upd H4 p (.lst ([.ref f0, .ref f1, .ref f2, .ref f3] ++ [.ref f4])) p = some (.lst ([.ref f0, .ref f1, .ref f2, .ref f3] ++ [.ref f4])) := upd_same
    have hF0_4 : upd H4 p (.lst ([.ref f0, .ref f1, .ref f2, .ref f3] ++ [.ref f4])) f0 = _ := upd_lst pj4 (e4 _ _ hF0_3 lamO_tbl) lamO_lst
    have hC0_4 : upd H4 p (.lst ([.ref f0, .ref f1, .ref f2, .ref f3] ++ [.ref f4])) k0 = _ := upd_lst pj4 (e4 _ _ hC0_3 codeO_ne) codeO_lst
    have hF1_4 : upd H4 p (.lst ([.ref f0, .ref f1, .ref f2, .ref f3] ++ [.ref f4])) f1 = _ := upd_lst pj4 (e4 _ _ hF1_3 lamO_tbl) lamO_lst
    have hC1_4 : upd H4 p (.lst ([.ref f0, .ref f1, .ref f2, .ref f3] ++ [.ref f4])) k1 = _ := upd_lst pj4 (e4 _ _ hC1_3 codeO_ne) codeO_lst
    have hF2_4 : upd H4 p (.lst ([.ref f0, .ref f1, .ref f2, .ref f3] ++ [.ref f4])) f2 = _ := upd_lst pj4 (e4 _ _ hF2_3 lamO_tbl) lamO_lst
    have hC2_4 : upd H4 p (.lst ([.ref f0, .ref f1, .ref f2, .ref f3] ++ [.ref f4])) k2 = _ := upd_lst pj4 (e4 _ _ hC2_3 codeO_ne) codeO_lst
    have hF3_4 : upd H4 p (.lst ([.ref f0, .ref f1, .ref f2, .ref f3] ++ [.ref f4])) f3 = _ := upd_lst pj4 (e4 _ _ hF3_3 lamO_tbl) lamO_lst
    have hC3_4 : upd H4 p (.lst ([.ref f0, .ref f1, .ref f2, .ref f3] ++ [.ref f4])) k3 = _ := upd_lst pj4 (e4 _ _ hC3_3 codeO_ne) codeO_lst
    have hF4_4 : upd H4 p (.lst ([.ref f0, .ref f1, .ref f2, .ref f3] ++ [.ref f4])) f4 = _ := upd_lst pj4 hf4 lamO_lst
    have hC4_4 : upd H4 p (.lst ([.ref f0, .ref f1, .ref f2, .ref f3] ++ [.ref f4])) k4 = _ := upd_lst pj4 hc4 codeO_lst
    clear ee tt pp
    generalize upd H4 p (.lst ([.ref f0, .ref f1, .ref f2, .ref f3] ++ [.ref f4])) = G4 at ee4 tt4 pp4 hF0_4 hC0_4 hF1_4 hC1_4 hF2_4 hC2_4 hF3_4 hC3_4 hF4_4 hC4_4
    have ee := ee4
    have tt := tt4
    have pp : G4 p = some (.lst [.ref f0, .ref f1, .ref f2, .ref f3, .ref f4]) := pp4
    clear ee4 tt4 pp4
    refine ⟨_, rfl, .inl ⟨rfl, _, SqL.of pp⟩, tt, fun L5 eL5 f5 k5 H5 e5 nn5 t5 nf5 nfc5 hf5 hc5 => ?_⟩
    have pj5 : H5 p = _ := e5 _ _ pp (fun _ z => nomatch z)
    refine ⟨p, _, _, rfl, rfl, pj5, small_of (m := 64) (by show 5 ≤ 64; decide), ?_⟩
    have ee5 : ExtN H (upd H5 p (.lst ([.ref f0, .ref f1, .ref f2, .ref f3, .ref f4] ++ [.ref f5]))) := fun b o hb n => by rw [upd_ne (ne_of_none hb nP)]; exact e5 b o (ee b o hb n) n
    have tt5 : Tabs TL (upd H5 p (.lst ([.ref f0, .ref f1, .ref f2, .ref f3, .ref f4] ++ [.ref f5]))) := tabs_keepL t5 pj5
    have pp5 : upd H5 p (.lst ([.ref f0, .ref f1, .ref f2, .ref f3, .ref f4] ++ [.ref f5])) p = some (.lst ([.ref f0, .ref f1, .ref f2, .ref f3, .ref f4] ++ [.ref f5])) := upd_same
    have hF0_5 : upd H5 p (.lst ([.ref f0, .ref f1, .ref f2, .ref f3, .ref f4] ++ [.ref f5])) f0 = _ := upd_lst pj5 (e5 _ _ hF0_4 lamO_tbl) lamO_lst
    have hC0_5 : upd H5 p (.lst ([.ref f0, .ref f1, .ref f2, .ref f3, .ref f4] ++ [.ref f5])) k0 = _ := upd_lst pj5 (e5 _ _ hC0_4 codeO_ne) codeO_lst
    have hF1_5 : upd H5 p (.lst ([.ref f0, .ref f1, .ref f2, .ref f3, .ref f4] ++ [.ref f5])) f1 = _ := upd_lst pj5 (e5 _ _ hF1_4 lamO_tbl) lamO_lst
    have hC1_5 : upd H5 p (.lst ([.ref f0, .ref f1, .ref f2, .ref f3, .ref f4] ++ [.ref f5])) k1 = _ := upd_lst pj5 (e5 _ _ hC1_4 codeO_ne) codeO_lst
    have hF2_5 : upd H5 p (.lst ([.ref f0, .ref f1, .ref f2, .ref f3, .ref f4] ++ [.ref f5])) f2 = _ := upd_lst pj5 (e5 _ _ hF2_4 lamO_tbl) lamO_lst
    have hC2_5 : upd H5 p (.lst ([.ref f0, .ref f1, .ref f2, .ref f3, .ref f4] ++ [.ref f5])) k2 = _ := upd_lst pj5 (e5 _ _ hC2_4 codeO_ne) codeO_lst
    have hF3_5 : upd H5 p (.lst ([.ref f0, .ref f1, .ref f2, .ref f3, .ref f4] ++ [.ref f5])) f3 = _ := upd_lst pj5 (e5 _ _ hF3_4 lamO_tbl) lamO_lst
    have hC3_5 : upd H5 p (.lst ([.ref f0, .ref f1, .ref f2, .ref f3, .ref f4] ++ [.ref f5])) k3 = _ := upd_lst pj5 (e5 _ _ hC3_4 codeO_ne) codeO_lst
    have hF4_5 : upd H5 p (.lst ([.ref f0, .ref f1, .ref f2, .ref f3, .ref f4] ++ [.ref f5])) f4 = _ := upd_lst pj5 (e5 _ _ hF4_4 lamO_tbl) lamO_lst
    have hC4_5 : upd H5 p (.lst ([.ref f0, .ref f1, .ref f2, .ref f3, .ref f4] ++ [.ref f5])) k4 = _ := upd_lst pj5 (e5 _ _ hC4_4 codeO_ne) codeO_lst
    have hF5_5 : upd H5 p (.lst ([.ref f0, .ref f1, .ref f2, .ref f3, .ref f4] ++ [.ref f5])) f5 = _ := upd_lst pj5 hf5 lamO_lst
    have hC5_5 : upd H5 p (.lst ([.ref f0, .ref f1, .ref f2, .ref f3, .ref f4] ++ [.ref f5])) k5 = _ := upd_lst pj5 hc5 codeO_lst
    clear ee tt pp
    generalize upd H5 p (.lst ([.ref f0, .ref f1, .ref f2, .ref f3, .ref f4] ++ [.ref f5])) = G5 at ee5 tt5 pp5 hF0_5 hC0_5 hF1_5 hC1_5 hF2_5 hC2_5 hF3_5 hC3_5 hF4_5 hC4_5 hF5_5 hC5_5
    have ee := ee5
    have tt := tt5
    have pp : G5 p = some (.lst [.ref f0, .ref f1, .ref f2, .ref f3, .ref f4, .ref f5]) := pp5
    clear ee5 tt5 pp5
    refine ⟨_, rfl, .inl ⟨rfl, _, SqL.of pp⟩, tt, fun L6 eL6 f6 k6 H6 e6 nn6 t6 nf6 nfc6 hf6 hc6 => ?_⟩
    have pj6 : H6 p = _ := e6 _ _ pp (fun _ z => nomatch z)
    refine ⟨p, _, _, rfl, rfl, pj6, small_of (m := 64) (by show 6 ≤ 64; decide), ?_⟩
    have ee6 : ExtN H (upd H6 p (.lst ([.ref f0, .ref f1, .ref f2, .ref f3, .ref f4, .ref f5] ++ [.ref f6]))) := fun b o hb n => by rw [upd_ne (ne_of_none hb nP)]; exact e6 b o (ee b o hb n) n
    have tt6 : Tabs TL (upd H6 p (.lst ([.ref f0, .ref f1, .ref f2, .ref f3, .ref f4, .ref f5] ++ [.ref f6]))) := tabs_keepL t6 pj6
    have pp6 : upd H6 p (.lst ([.ref f0, .ref f1, .ref f2, .ref f3, .ref f4, .ref f5] ++ [.ref f6])) p = some (.lst ([.ref f0, .ref f1, .ref f2, .ref f3, .ref f4, .ref f5] ++ [.ref f6])) := upd_same
    have hF0_6 : upd H6 p (.lst ([.ref f0, .ref f1, .ref f2, .ref f3, .ref f4, .ref f5] ++ [.ref f6])) f0 = _ := upd_lst pj6 (e6 _ _ hF0_5 lamO_tbl) lamO_lst
    have hC0_6 : upd H6 p (.lst ([.ref f0, .ref f1, .ref f2, .ref f3, .ref f4, .ref f5] ++ [.ref f6])) k0 = _ := upd_lst pj6 (e6 _ _ hC0_5 codeO_ne) codeO_lst
    have hF1_6 : upd H6 p (.lst ([.ref f0, .ref f1, .ref f2, .ref f3, .ref f4, .ref f5] ++ [.ref f6])) f1 = _ := upd_lst pj6 (e6 _ _ hF1_5 lamO_tbl) lamO_lst
    have hC1_6 : upd H6 p (.lst ([.ref f0, .ref f1, .ref f2, .ref f3, .ref f4, .ref f5] ++ [.ref f6])) k1 = _ := upd_lst pj6 (e6 _ _ hC1_5 codeO_ne) codeO_lst
    have hF2_6 : upd H6 p (.lst ([.ref f0, .ref f1, .ref f2, .ref f3, .ref f4, .ref f5] ++ [.ref f6])) f2 = _ := upd_lst pj6 (e6 _ _ hF2_5 lamO_tbl) lamO_lst
    have hC2_6 : upd H6 p (.lst ([.ref f0, .ref f1, .ref f2, .ref f3, .ref f4, .ref f5] ++ [.ref f6])) k2 = _ := upd_lst pj6 (e6 _ _ hC2_5 codeO_ne) codeO_lst
    have hF3_6 : upd H6 p (.lst ([.ref f0, .ref f1, .ref f2, .ref f3, .ref f4, .ref f5] ++ [.ref f6])) f3 = _ := upd_lst pj6 (e6 _ _ hF3_5 lamO_tbl) lamO_lst
    have hC3_6 : upd H6 p (.lst ([.ref f0, .ref f1, .ref f2, .ref f3, .ref f4, .ref f5] ++ [.ref f6])) k3 = _ := upd_lst pj6 (e6 _ _ hC3_5 codeO_ne) codeO_lst
    have hF4_6 : upd H6 p (.lst ([.ref f0, .ref f1, .ref f2, .ref f3, .ref f4, .ref f5] ++ [.ref f6])) f4 = _ := upd_lst pj6 (e6 _ _ hF4_5 lamO_tbl) lamO_lst
    have hC4_6 : upd H6 p (.lst ([.ref f0, .ref f1, .ref f2, .ref f3, .ref f4, .ref f5] ++ [.ref f6])) k4 = _ := upd_lst pj6 (e6 _ _ hC4_5 codeO_ne) codeO_lst
    have hF5_6 : upd H6 p (.lst ([.ref f0, .ref f1, .ref f2, .ref f3, .ref f4, .ref f5] ++ [.ref f6])) f5 = _ := upd_lst pj6 (e6 _ _ hF5_5 lamO_tbl) lamO_lst
    have hC5_6 : upd H6 p (.lst ([.ref f0, .ref f1, .ref f2, .ref f3, .ref f4, .ref f5] ++ [.ref f6])) k5 = _ := upd_lst pj6 (e6 _ _ hC5_5 codeO_ne) codeO_lst
    have hF6_6 : upd H6 p (.lst ([.ref f0, .ref f1, .ref f2, .ref f3, .ref f4, .ref f5] ++ [.ref f6])) f6 = _ := upd_lst pj6 hf6 lamO_lst
    have hC6_6 : upd H6 p (.lst ([.ref f0, .ref f1, .ref f2, .ref f3, .ref f4, .ref f5] ++ [.ref f6])) k6 = _ := upd_lst pj6 hc6 codeO_lst
    clear ee tt pp
    generalize upd H6 p (.lst ([.ref f0, .ref f1, .ref f2, .ref f3, .ref f4, .ref f5] ++ [.ref f6])) = G6 at ee6 tt6 pp6 hF0_6 hC0_6 hF1_6 hC1_6 hF2_6 hC2_6 hF3_6 hC3_6 hF4_6 hC4_6 hF5_6 hC5_6 hF6_6 hC6_6
    have ee := ee6
    have tt := tt6
    have pp : G6 p = some (.lst [.ref f0, .ref f1, .ref f2, .ref f3, .ref f4, .ref f5, .ref f6]) := pp6
    clear ee6 tt6 pp6
    refine ⟨_, rfl, .inl ⟨rfl, _, SqL.of pp⟩, tt, fun L7 eL7 f7 k7 H7 e7 nn7 t7 nf7 nfc7 hf7 hc7 => ?_⟩
    have pj7 : H7 p = _ := e7 _ _ pp (fun _ z => nomatch z)
    refine ⟨p, _, _, rfl, rfl, pj7, small_of (m := 64) (by show 7 ≤ 64; decide), ?_⟩
    have ee7 : ExtN H (upd H7 p (.lst ([.ref f0, .ref f1, .ref f2, .ref f3, .ref f4, .ref f5, .ref f6] ++ [.ref f7]))) := fun b o hb n => by rw [upd_ne (ne_of_none hb nP)]; exact e7 b o (ee b o hb n) n
    have tt7 : Tabs TL (upd H7 p (.lst ([.ref f0, .ref f1, .ref f2, .ref f3, .ref f4, .ref f5, .ref f6] ++ [.ref f7]))) := tabs_keepL t7 pj7
    have pp7 : upd H7 p (.lst ([.ref f0, .ref f1, .ref f2, .ref f3, .ref f4, .ref f5, .ref f6] ++ [.ref f7])) p = some (.lst ([.ref f0, .ref f1, .ref f2, .ref f3, .ref f4, .ref f5, .ref f6] ++ [.ref f7])) := upd_same
    have hF0_7 : upd H7 p (.lst ([.ref f0, .ref f1, .ref f2, .ref f3, .ref f4, .ref f5, .ref f6] ++ [.ref f7])) f0 = _ := upd_lst pj7 (e7 _ _ hF0_6 lamO_tbl) lamO_lst
    have hC0_7 : upd H7 p (.lst ([.ref f0, .ref f1, .ref f2, .ref f3, .ref f4, .ref f5, .ref f6] ++ [.ref f7])) k0 = _ := upd_lst pj7 (e7 _ _ hC0_6 codeO_ne) codeO_lst
    have hF1_7 : upd H7 p (.lst ([.ref f0, .ref f1, .ref f2, .ref f3, .ref f4, .ref f5, .ref f6] ++ [.ref f7])) f1 = _ := upd_lst pj7 (e7 _ _ hF1_6 lamO_tbl) lamO_lst
    have hC1_7 : upd H7 p (.lst ([.ref f0, .ref f1, .ref f2, .ref f3, .ref f4, .ref f5, .ref f6] ++ [.ref f7])) k1 = _ := upd_lst pj7 (e7 _ _ hC1_6 codeO_ne) codeO_lst
    have hF2_7 : upd H7 p (.lst ([.ref f0, .ref f1, .ref f2, .ref f3, .ref f4, .ref f5, .ref f6] ++ [.ref f7])) f2 = _ := upd_lst pj7 (e7 _ _ hF2_6 lamO_tbl) lamO_lst
    have hC2_7 : upd H7 p (.lst ([.ref f0, .ref f1, .ref f2, .ref f3, .ref f4, .ref f5, .ref f6] ++ [.ref f7])) k2 = _ := upd_lst pj7 (e7 _ _ hC2_6 codeO_ne) codeO_lst
    have hF3_7 : upd H7 p (.lst ([.ref f0, .ref f1, .ref f2, .ref f3, .ref f4, .ref f5, .ref f6] ++ [.ref f7])) f3 = _ := upd_lst pj7 (e7 _ _ hF3_6 lamO_tbl) lamO_lst
    have hC3_7 : upd H7 p (.lst ([.ref f0, .ref f1, .ref f2, .ref f3, .ref f4, .ref f5, .ref f6] ++ [.ref f7])) k3 = _ := upd_lst pj7 (e7 _ _ hC3_6 codeO_ne) codeO_lst
    have hF4_7 : upd H7 p (.lst ([.ref f0, .ref f1, .ref f2, .ref f3, .ref f4, .ref f5, .ref f6] ++ [.ref f7])) f4 = _ := upd_lst pj7 (e7 _ _ hF4_6 lamO_tbl) lamO_lst
    have hC4_7 : upd H7 p (.lst ([.ref f0, .ref f1, .ref f2, .ref f3, .ref f4, .ref f5, .ref f6] ++ [.ref f7])) k4 = _ := upd_lst pj7 (e7 _ _ hC4_6 codeO_ne) codeO_lst
    have hF5_7 : upd H7 p (.lst ([.ref f0, .ref f1, .ref f2, .ref f3, .ref f4, .ref f5, .ref f6] ++ [.ref f7])) f5 = _ := upd_lst pj7 (e7 _ _ hF5_6 lamO_tbl) lamO_lst
    have hC5_7 : upd H7 p (.lst ([.ref f0, .ref f1, .ref f2, .ref f3, .ref f4, .ref f5, .ref f6] ++ [.ref f7])) k5 = _ := upd_lst pj7 (e7 _ _ hC5_6 codeO_ne) codeO_lst
    have hF6_7 : upd H7 p (.lst ([.ref f0, .ref f1, .ref f2, .ref f3, .ref f4, .ref f5, .ref f6] ++ [.ref f7])) f6 = _ := upd_lst pj7 (e7 _ _ hF6_6 lamO_tbl) lamO_lst
    have hC6_7 : upd H7 p (.lst ([.ref f0, .ref f1, .ref f2, .ref f3, .ref f4, .ref f5, .ref f6] ++ [.ref f7])) k6 = _ := upd_lst pj7 (e7 _ _ hC6_6 codeO_ne) codeO_lst
    have hF7_7 : upd H7 p (.lst ([.ref f0, .ref f1, .ref f2, .ref f3, .ref f4, .ref f5, .ref f6] ++ [.ref f7])) f7 = _ := upd_lst pj7 hf7 lamO_lst
    have hC7_7 : upd H7 p (.lst ([.ref f0, .ref f1, .ref f2, .ref f3, .ref f4, .ref f5, .ref f6] ++ [.ref f7])) k7 = _ := upd_lst pj7 hc7 codeO_lst
    clear ee tt pp
    generalize upd H7 p (.lst ([.ref f0, .ref f1, .ref f2, .ref f3, .ref f4, .ref f5, .ref f6] ++ [.ref f7])) = G7 at ee7 tt7 pp7 hF0_7 hC0_7 hF1_7 hC1_7 hF2_7 hC2_7 hF3_7 hC3_7 hF4_7 hC4_7 hF5_7 hC5_7 hF6_7 hC6_7 hF7_7 hC7_7
    have ee := ee7
    have tt := tt7
    have pp : G7 p = some (.lst [.ref f0, .ref f1, .ref f2, .ref f3, .ref f4, .ref f5, .ref f6, .ref f7]) := pp7
    clear ee7 tt7 pp7
    refine ⟨_, rfl, .inl ⟨rfl, _, SqL.of pp⟩, tt, fun L8 eL8 f8 k8 H8 e8 nn8 t8 nf8 nfc8 hf8 hc8 => ?_⟩
    have pj8 : H8 p = _ := e8 _ _ pp (fun _ z => nomatch z)
    refine ⟨p, _, _, rfl, rfl, pj8, small_of (m := 64) (by show 8 ≤ 64; decide), ?_⟩
    have ee8 : ExtN H (upd H8 p (.lst ([.ref f0, .ref f1, .ref f2, .ref f3, .ref f4, .ref f5, .ref f6, .ref f7] ++ [.ref f8]))) := fun b o hb n => by rw [upd_ne (ne_of_none hb nP)]; exact e8 b o (ee b o hb n) n
    have tt8 : Tabs TL (upd H8 p (.lst ([.ref f0, .ref f1, .ref f2, .ref f3, .ref f4, .ref f5, .ref f6, .ref f7] ++ [.ref f8]))) := tabs_keepL t8 pj8
    have pp8 : upd H8 p (.lst ([.ref f0, .ref f1, .ref f2, .ref f3, .ref f4, .ref f5, .ref f6, .ref f7] ++ [.ref f8])) p = some (.lst ([.ref f0, .ref f1, .ref f2, .ref f3, .ref f4, .ref f5, .ref f6, .ref f7] ++ [.ref f8])) := upd_same
    have hF0_8 : upd H8 p (.lst ([.ref f0, .ref f1, .ref f2, .ref f3, .ref f4, .ref f5, .ref f6, .ref f7] ++ [.ref f8])) f0 = _ := upd_lst pj8 (e8 _ _ hF0_7 lamO_tbl) lamO_lst
    have hC0_8 : upd H8 p (.lst ([.ref f0, .ref f1, .ref f2, .ref f3, .ref f4, .ref f5, .ref f6, .ref f7] ++ [.ref f8])) k0 = _ := upd_lst pj8 (e8 _ _ hC0_7 codeO_ne) codeO_lst
    have hF1_8 : upd H8 p (.lst ([.ref f0, .ref f1, .ref f2, .ref f3, .ref f4, .ref f5, .ref f6, .ref f7] ++ [.ref f8])) f1 = _ := upd_lst pj8 (e8 _ _ hF1_7 lamO_tbl) lamO_lst
    have hC1_8 : upd H8 p (.lst ([.ref f0, .ref f1, .ref f2, .ref f3, .ref f4, .ref f5, .ref f6, .ref f7] ++ [.ref f8])) k1 = _ := upd_lst pj8 (e8 _ _ hC1_7 codeO_ne) codeO_lst
    have hF2_8 : upd H8 p (.lst ([.ref f0, .ref f1, .ref f2, .ref f3, .ref f4, .ref f5, .ref f6, .ref f7] ++ [.ref f8])) f2 = _ := upd_lst pj8 (e8 _ _ hF2_7 lamO_tbl) lamO_lst
    have hC2_8 : upd H8 p (.lst ([.ref f0, .ref f1, .ref f2, .ref f3, .ref f4, .ref f5, .ref f6, .ref f7] ++ [.ref f8])) k2 = _ := upd_lst pj8 (e8 _ _ hC2_7 codeO_ne) codeO_lst
    have hF3_8 : upd H8 p (.lst ([.ref f0, .ref f1, .ref f2, .ref f3, .ref f4, .ref f5, .ref f6, .ref f7] ++ [.ref f8])) f3 = _ := upd_lst pj8 (e8 _ _ hF3_7 lamO_tbl) lamO_lst
    have hC3_8 : upd H8 p (.lst ([.ref f0, .ref f1, .ref f2, .ref f3, .ref f4, .ref f5, .ref f6, .ref f7] ++ [.ref f8])) k3 = _ := upd_lst pj8 (e8 _ _ hC3_7 codeO_ne) codeO_lst
    have hF4_8 : upd H8 p (.lst ([.ref f0, .ref f1, .ref f2, .ref f3, .ref f4, .ref f5, .ref f6, .ref f7] ++ [.ref f8])) f4 = _ := upd_lst pj8 (e8 _ _ hF4_7 lamO_tbl) lamO_lst
    have hC4_8 : upd H8 p (.lst ([.ref f0, .ref f1, .ref f2, .ref f3, .ref f4, .ref f5, .ref f6, .ref f7] ++ [.ref f8])) k4 = _ := upd_lst pj8 (e8 _ _ hC4_7 codeO_ne) codeO_lst
    have hF5_8 : upd H8 p (.lst ([.ref f0, .ref f1, .ref f2, .ref f3, .ref f4, .ref f5, .ref f6, .ref f7] ++ [.ref f8])) f5 = _ := upd_lst pj8 (e8 _ _ hF5_7 lamO_tbl) lamO_lst
    have hC5_8 : upd H8 p (.lst ([.ref f0, .ref f1, .ref f2, .ref f3, .ref f4, .ref f5, .ref f6, .ref f7] ++ [.ref f8])) k5 = _ := upd_lst pj8 (e8 _ _ hC5_7 codeO_ne) codeO_lst
    have hF6_8 : upd H8 p (.lst ([.ref f0, .ref f1, .ref f2, .ref f3, .ref f4, .ref f5, .ref f6, .ref f7] ++ [.ref f8])) f6 = _ := upd_lst pj8 (e8 _ _ hF6_7 lamO_tbl) lamO_lst
    have hC6_8 : upd H8 p (.lst ([.ref f0, .ref f1, .ref f2, .ref f3, .ref f4, .ref f5, .ref f6, .ref f7] ++ [.ref f8])) k6 = _ := upd_lst pj8 (e8 _ _ hC6_7 codeO_ne) codeO_lst
    have hF7_8 : upd H8 p (.lst ([.ref f0, .ref f1, .ref f2, .ref f3, .ref f4, .ref f5, .ref f6, .ref f7] ++ [.ref f8])) f7 = _ := upd_lst pj8 (e8 _ _ hF7_7 lamO_tbl) lamO_lst
    have hC7_8 : upd H8 p (.lst ([.ref f0, .ref f1, .ref f2, .ref f3, .ref f4, .ref f5, .ref f6, .ref f7] ++ [.ref f8])) k7 = _ := upd_lst pj8 (e8 _ _ hC7_7 codeO_ne) codeO_lst
    have hF8_8 : upd H8 p (.lst ([.ref f0, .ref f1, .ref f2, .ref f3, .ref f4, .ref f5, .ref f6, .ref f7] ++ [.ref f8])) f8 = _ := upd_lst pj8 hf8 lamO_lst
    have hC8_8 : upd H8 p (.lst ([.ref f0, .ref f1, .ref f2, .ref f3, .ref f4, .ref f5, .ref f6, .ref f7] ++ [.ref f8])) k8 = _ := upd_lst pj8 hc8 codeO_lst
    clear ee tt pp
    generalize upd H8 p (.lst ([.ref f0, .ref f1, .ref f2, .ref f3, .ref f4, .ref f5, .ref f6, .ref f7] ++ [.ref f8])) = G8 at ee8 tt8 pp8 hF0_8 hC0_8 hF1_8 hC1_8 hF2_8 hC2_8 hF3_8 hC3_8 hF4_8 hC4_8 hF5_8 hC5_8 hF6_8 hC6_8 hF7_8 hC7_8 hF8_8 hC8_8
    have ee := ee8
    have tt := tt8
    have pp : G8 p = some (.lst [.ref f0, .ref f1, .ref f2, .ref f3, .ref f4, .ref f5, .ref f6, .ref f7, .ref f8]) := pp8
    clear ee8 tt8 pp8
    refine ⟨_, rfl, [(s.heap.objs.size + 1, .int b), (s.heap.objs.size + 2, .ref q), (s.heap.objs.size + 3, .ref l), (s.heap.objs.size + 4, .int z)], fun q hq => ?_, fun nC => ?_⟩
    · simp only [List.mem_cons, List.not_mem_nil, or_false] at hq
      rcases hq with rfl | rfl | rfl | rfl
      · exact ⟨0, "_law_beats", rfl, rfl, rfl, rfl⟩
      · exact ⟨1, "_law_bad_here", rfl, rfl, rfl, rfl⟩
      · exact ⟨2, "_law_shares_here", rfl, rfl, rfl, rfl⟩
      · exact ⟨3, "_law_none", rfl, rfl, rfl, rfl⟩
    · have n_0 : G8 (s.heap.objs.size + 1) = none := nC (s.heap.objs.size + 1, .int b) (by simp)
      have a_0 : addC [(s.heap.objs.size + 1, .int b), (s.heap.objs.size + 2, .ref q), (s.heap.objs.size + 3, .ref l), (s.heap.objs.size + 4, .int z)] G8 (s.heap.objs.size + 1) = some (CellO (s.heap.objs.size + 1) (.int b)) := addC_in (lk_nth (i := 0) (by simp) rfl)
      have n_1 : G8 (s.heap.objs.size + 2) = none := nC (s.heap.objs.size + 2, .ref q) (by simp)
      have a_1 : addC [(s.heap.objs.size + 1, .int b), (s.heap.objs.size + 2, .ref q), (s.heap.objs.size + 3, .ref l), (s.heap.objs.size + 4, .int z)] G8 (s.heap.objs.size + 2) = some (CellO (s.heap.objs.size + 2) (.ref q)) := addC_in (lk_nth (i := 1) (by simp) rfl)
      have n_2 : G8 (s.heap.objs.size + 3) = none := nC (s.heap.objs.size + 3, .ref l) (by simp)
      have a_2 : addC [(s.heap.objs.size + 1, .int b), (s.heap.objs.size + 2, .ref q), (s.heap.objs.size + 3, .ref l), (s.heap.objs.size + 4, .int z)] G8 (s.heap.objs.size + 3) = some (CellO (s.heap.objs.size + 3) (.ref l)) := addC_in (lk_nth (i := 2) (by simp) rfl)
      have n_3 : G8 (s.heap.objs.size + 4) = none := nC (s.heap.objs.size + 4, .int z) (by simp)
      have a_3 : addC [(s.heap.objs.size + 1, .int b), (s.heap.objs.size + 2, .ref q), (s.heap.objs.size + 3, .ref l), (s.heap.objs.size + 4, .int z)] G8 (s.heap.objs.size + 4) = some (CellO (s.heap.objs.size + 4) (.int z)) := addC_in (lk_nth (i := 3) (by simp) rfl)
      have W0 : WorkAt P w K mg base 5 (addC [(s.heap.objs.size + 1, .int b), (s.heap.objs.size + 2, .ref q), (s.heap.objs.size + 3, .ref l), (s.heap.objs.size + 4, .int z)] G8) f0 (f0 :: ([("_law_beats", s.heap.objs.size + 1, .int b), ("_law_bad_here", s.heap.objs.size + 2, .ref q)] : List (Str × Addr × V)).map (·.2.1)) (tllaw_works K b q l z 0) := by
        refine work_of [("_law_beats", s.heap.objs.size + 1, .int b), ("_law_bad_here", s.heap.objs.size + 2, .ref q)] (F := L0 k0) (addC_some nC hF0_8) (by have z := addC_some nC hC0_8; rw [eL0] at z ⊢; exact z) (by rw [eL0]; exact nfc0) (by rw [eL0]; rfl) (show (["_law_beats", "_law_bad_here"] : List Str).Nodup by decide) (by simp) (fun x hx => by simp only [List.mem_cons, List.not_mem_nil, or_false] at hx; rcases hx with rfl | rfl <;> first | exact a_0 | exact a_1) (fun x hx => by simp only [List.mem_cons, List.not_mem_nil, or_false] at hx; rcases hx with rfl | rfl <;> first | (rw [eL0]; exact ne_of_none hC0_8 n_0) | (rw [eL0]; exact ne_of_none hC0_8 n_1)) ?_
        rw [eL0]
        refine lok_of (k := 4) (N := ["_law_beats", "_law_bad_here"]) (fr := ["_law_beats", "_law_bad_here"]) (NdefX.nscope_by (by dsimp only; decide +kernel)) (fun _ _ => rfl) (fun A outer s H E hr => (pe_clT c_peak hr (by decide) (passes_call (takes_of rfl rfl rfl rfl) (fun _ _ _ _ h => h)) (by rfl) (pa_cons (pv 0) (pa_cons (pv 1) pa_nil)))) (fun E H Q h => ?_)
        obtain ⟨xs, sh, hq, hxl, hbad, hl, hsl, b0, b1, hz, k⟩ := h
        exact ⟨_, rfl, _, rfl, .inr ⟨b, q, xs, [], rfl, rfl, hq, hxl, hbad, k⟩⟩
      have W1 : WorkAt P w K mg base 5 (addC [(s.heap.objs.size + 1, .int b), (s.heap.objs.size + 2, .ref q), (s.heap.objs.size + 3, .ref l), (s.heap.objs.size + 4, .int z)] G8) f1 (f1 :: ([("_law_beats", s.heap.objs.size + 1, .int b), ("_law_bad_here", s.heap.objs.size + 2, .ref q)] : List (Str × Addr × V)).map (·.2.1)) (tllaw_works K b q l z 1) := by
        refine work_of [("_law_beats", s.heap.objs.size + 1, .int b), ("_law_bad_here", s.heap.objs.size + 2, .ref q)] (F := L1 k1) (addC_some nC hF1_8) (by have z := addC_some nC hC1_8; rw [eL1] at z ⊢; exact z) (by rw [eL1]; exact nfc1) (by rw [eL1]; rfl) (show (["_law_beats", "_law_bad_here"] : List Str).Nodup by decide) (by simp) (fun x hx => by simp only [List.mem_cons, List.not_mem_nil, or_false] at hx; rcases hx with rfl | rfl <;> first | exact a_0 | exact a_1) (fun x hx => by simp only [List.mem_cons, List.not_mem_nil, or_false] at hx; rcases hx with rfl | rfl <;> first | (rw [eL1]; exact ne_of_none hC1_8 n_0) | (rw [eL1]; exact ne_of_none hC1_8 n_1)) ?_
        rw [eL1]
        refine lok_of (k := 4) (N := ["_law_beats", "_law_bad_here"]) (fr := ["_law_beats", "_law_bad_here"]) (NdefX.nscope_by (by dsimp only; decide +kernel)) (fun _ _ => rfl) (fun A outer s H E hr => (pe_clT c_blocks hr (by decide) (passes_call (takes_of rfl rfl rfl rfl) (fun _ _ _ _ h => h)) (by rfl) (pa_cons (pv 0) (pa_cons (pv 1) (pa_cons (pe_op op_sub pe_int pe_int) pa_nil))))) (fun E H Q h => ?_)
        obtain ⟨xs, sh, hq, hxl, hbad, hl, hsl, b0, b1, hz, k⟩ := h
        exact ⟨_, rfl, _, rfl, _, _, rfl, rfl, .inr ⟨b, q, xs, [_], rfl, rfl, hq, hxl, hbad, k⟩⟩
      have W2 : WorkAt P w K mg base 5 (addC [(s.heap.objs.size + 1, .int b), (s.heap.objs.size + 2, .ref q), (s.heap.objs.size + 3, .ref l), (s.heap.objs.size + 4, .int z)] G8) f2 (f2 :: ([("_law_beats", s.heap.objs.size + 1, .int b), ("_law_bad_here", s.heap.objs.size + 2, .ref q)] : List (Str × Addr × V)).map (·.2.1)) (tllaw_works K b q l z 2) := by
        refine work_of [("_law_beats", s.heap.objs.size + 1, .int b), ("_law_bad_here", s.heap.objs.size + 2, .ref q)] (F := L2 k2) (addC_some nC hF2_8) (by have z := addC_some nC hC2_8; rw [eL2] at z ⊢; exact z) (by rw [eL2]; exact nfc2) (by rw [eL2]; rfl) (show (["_law_beats", "_law_bad_here"] : List Str).Nodup by decide) (by simp) (fun x hx => by simp only [List.mem_cons, List.not_mem_nil, or_false] at hx; rcases hx with rfl | rfl <;> first | exact a_0 | exact a_1) (fun x hx => by simp only [List.mem_cons, List.not_mem_nil, or_false] at hx; rcases hx with rfl | rfl <;> first | (rw [eL2]; exact ne_of_none hC2_8 n_0) | (rw [eL2]; exact ne_of_none hC2_8 n_1)) ?_
        rw [eL2]
        refine lok_of (k := 4) (N := ["_law_beats", "_law_bad_here"]) (fr := ["_law_beats", "_law_bad_here"]) (NdefX.nscope_by (by dsimp only; decide +kernel)) (fun _ _ => rfl) (fun A outer s H E hr => (pe_clT c_sums hr (by decide) (passes_call (takes_of rfl rfl rfl rfl) (fun _ _ _ _ h => h)) (by rfl) (pa_cons (pv 0) (pa_cons (pv 1) (pa_cons (pe_lst (pa_cons pe_int pa_nil)) pa_nil))))) (fun E H Q h => ?_)
        obtain ⟨xs, sh, hq, hxl, hbad, hl, hsl, b0, b1, hz, k⟩ := h
        exact ⟨_, rfl, _, rfl, (by show 1 ≤ sizeLine; decide), fun p hp => .inr ⟨b, q, xs, [_], rfl, rfl, (Same.upd hp).seq hq, hxl, hbad, fun H1 e1 => k H1 ((Same.upd hp).trans e1)⟩⟩
      have W3 : WorkAt P w K mg base 5 (addC [(s.heap.objs.size + 1, .int b), (s.heap.objs.size + 2, .ref q), (s.heap.objs.size + 3, .ref l), (s.heap.objs.size + 4, .int z)] G8) f3 (f3 :: ([("_law_beats", s.heap.objs.size + 1, .int b), ("_law_bad_here", s.heap.objs.size + 2, .ref q)] : List (Str × Addr × V)).map (·.2.1)) (tllaw_works K b q l z 3) := by
        refine work_of [("_law_beats", s.heap.objs.size + 1, .int b), ("_law_bad_here", s.heap.objs.size + 2, .ref q)] (F := L3 k3) (addC_some nC hF3_8) (by have z := addC_some nC hC3_8; rw [eL3] at z ⊢; exact z) (by rw [eL3]; exact nfc3) (by rw [eL3]; rfl) (show (["_law_beats", "_law_bad_here"] : List Str).Nodup by decide) (by simp) (fun x hx => by simp only [List.mem_cons, List.not_mem_nil, or_false] at hx; rcases hx with rfl | rfl <;> first | exact a_0 | exact a_1) (fun x hx => by simp only [List.mem_cons, List.not_mem_nil, or_false] at hx; rcases hx with rfl | rfl <;> first | (rw [eL3]; exact ne_of_none hC3_8 n_0) | (rw [eL3]; exact ne_of_none hC3_8 n_1)) ?_
        rw [eL3]
        refine lok_of (k := 4) (N := ["_law_beats", "_law_bad_here"]) (fr := ["_law_beats", "_law_bad_here"]) (NdefX.nscope_by (by dsimp only; decide +kernel)) (fun _ _ => rfl) (fun A outer s H E hr => (pe_clT c_turned hr (by decide) (passes_call (takes_of rfl rfl rfl rfl) (fun _ _ _ _ h => h)) (by rfl) (pa_cons (pv 0) (pa_cons (pv 1) pa_nil)))) (fun E H Q h => ?_)
        obtain ⟨xs, sh, hq, hxl, hbad, hl, hsl, b0, b1, hz, k⟩ := h
        exact ⟨_, rfl, _, rfl, b, q, xs, rfl, hq, hxl, fun g => absurd g hbad, k⟩
      have W4 : WorkAt P w K mg base 5 (addC [(s.heap.objs.size + 1, .int b), (s.heap.objs.size + 2, .ref q), (s.heap.objs.size + 3, .ref l), (s.heap.objs.size + 4, .int z)] G8) f4 (f4 :: ([("_law_none", s.heap.objs.size + 4, .int z)] : List (Str × Addr × V)).map (·.2.1)) (tllaw_works K b q l z 4) := by
        refine work_of [("_law_none", s.heap.objs.size + 4, .int z)] (F := L4 k4) (addC_some nC hF4_8) (by have z := addC_some nC hC4_8; rw [eL4] at z ⊢; exact z) (by rw [eL4]; exact nfc4) (by rw [eL4]; rfl) (show (["_law_none"] : List Str).Nodup by decide) (by simp) (fun x hx => by simp only [List.mem_cons, List.not_mem_nil, or_false] at hx; subst hx; exact a_3) (fun x hx => by simp only [List.mem_cons, List.not_mem_nil, or_false] at hx; subst hx; (rw [eL4]; exact ne_of_none hC4_8 n_3)) ?_
        rw [eL4]
        refine lok_of (k := 4) (N := ["_law_none"]) (fr := ["_law_none"]) (NdefX.nscope_by (by dsimp only; decide +kernel)) (fun _ _ => rfl) (fun A outer s H E hr => (pe_clT c_peak hr (by decide) (passes_call (takes_of rfl rfl rfl rfl) (fun _ _ _ _ h => h)) (by rfl) (pa_cons (pv 0) (pa_cons (pe_lst pa_nil) pa_nil)))) (fun E H Q h => ?_)
        obtain ⟨xs, sh, hq, hxl, hbad, hl, hsl, b0, b1, hz, k⟩ := h
        exact ⟨_, rfl, Nat.zero_le _, fun p hp => .inr ⟨z, p, [], [], rfl, rfl, SqL.of upd_same, (by decide), fun g => hz ⟨g.1, g.2.1⟩, fun H1 e1 => k H1 ((Same.upd hp).trans e1)⟩⟩
      have W5 : WorkAt P w K mg base 5 (addC [(s.heap.objs.size + 1, .int b), (s.heap.objs.size + 2, .ref q), (s.heap.objs.size + 3, .ref l), (s.heap.objs.size + 4, .int z)] G8) f5 (f5 :: ([("_law_none", s.heap.objs.size + 4, .int z)] : List (Str × Addr × V)).map (·.2.1)) (tllaw_works K b q l z 5) := by
        refine work_of [("_law_none", s.heap.objs.size + 4, .int z)] (F := L5 k5) (addC_some nC hF5_8) (by have z := addC_some nC hC5_8; rw [eL5] at z ⊢; exact z) (by rw [eL5]; exact nfc5) (by rw [eL5]; rfl) (show (["_law_none"] : List Str).Nodup by decide) (by simp) (fun x hx => by simp only [List.mem_cons, List.not_mem_nil, or_false] at hx; subst hx; exact a_3) (fun x hx => by simp only [List.mem_cons, List.not_mem_nil, or_false] at hx; subst hx; (rw [eL5]; exact ne_of_none hC5_8 n_3)) ?_
        rw [eL5]
        refine lok_of (k := 4) (N := ["_law_none"]) (fr := ["_law_none"]) (NdefX.nscope_by (by dsimp only; decide +kernel)) (fun _ _ => rfl) (fun A outer s H E hr => (pe_clT c_blocks hr (by decide) (passes_call (takes_of rfl rfl rfl rfl) (fun _ _ _ _ h => h)) (by rfl) (pa_cons (pv 0) (pa_cons (pe_lst pa_nil) (pa_cons pe_int pa_nil))))) (fun E H Q h => ?_)
        obtain ⟨xs, sh, hq, hxl, hbad, hl, hsl, b0, b1, hz, k⟩ := h
        exact ⟨_, rfl, Nat.zero_le _, fun p hp => .inr ⟨z, p, [], [_], rfl, rfl, SqL.of upd_same, (by decide), fun g => hz ⟨g.1, g.2.1⟩, fun H1 e1 => k H1 ((Same.upd hp).trans e1)⟩⟩
      have W6 : WorkAt P w K mg base 5 (addC [(s.heap.objs.size + 1, .int b), (s.heap.objs.size + 2, .ref q), (s.heap.objs.size + 3, .ref l), (s.heap.objs.size + 4, .int z)] G8) f6 (f6 :: ([("_law_none", s.heap.objs.size + 4, .int z)] : List (Str × Addr × V)).map (·.2.1)) (tllaw_works K b q l z 6) := by
        refine work_of [("_law_none", s.heap.objs.size + 4, .int z)] (F := L6 k6) (addC_some nC hF6_8) (by have z := addC_some nC hC6_8; rw [eL6] at z ⊢; exact z) (by rw [eL6]; exact nfc6) (by rw [eL6]; rfl) (show (["_law_none"] : List Str).Nodup by decide) (by simp) (fun x hx => by simp only [List.mem_cons, List.not_mem_nil, or_false] at hx; subst hx; exact a_3) (fun x hx => by simp only [List.mem_cons, List.not_mem_nil, or_false] at hx; subst hx; (rw [eL6]; exact ne_of_none hC6_8 n_3)) ?_
        rw [eL6]
        refine lok_of (k := 4) (N := ["_law_none"]) (fr := ["_law_none"]) (NdefX.nscope_by (by dsimp only; decide +kernel)) (fun _ _ => rfl) (fun A outer s H E hr => (pe_clT c_sums hr (by decide) (passes_call (takes_of rfl rfl rfl rfl) (fun _ _ _ _ h => h)) (by rfl) (pa_cons (pv 0) (pa_cons (pe_lst pa_nil) (pa_cons (pe_lst (pa_cons pe_int pa_nil)) pa_nil))))) (fun E H Q h => ?_)
        obtain ⟨xs, sh, hq, hxl, hbad, hl, hsl, b0, b1, hz, k⟩ := h
        exact ⟨_, rfl, Nat.zero_le _, fun p hp => ⟨(by show 1 ≤ sizeLine; decide), fun p2 hp2 => .inr ⟨z, p, [], [_], rfl, rfl, SqL.of ((upd_ne (ne_of_none upd_same hp2)).trans upd_same), (by decide), fun g => hz ⟨g.1, g.2.1⟩, fun H1 e1 => k H1 (((Same.upd hp).new hp2).trans e1)⟩⟩⟩
      have W7 : WorkAt P w K mg base 5 (addC [(s.heap.objs.size + 1, .int b), (s.heap.objs.size + 2, .ref q), (s.heap.objs.size + 3, .ref l), (s.heap.objs.size + 4, .int z)] G8) f7 (f7 :: ([("_law_shares_here", s.heap.objs.size + 3, .ref l), ("_law_beats", s.heap.objs.size + 1, .int b)] : List (Str × Addr × V)).map (·.2.1)) (tllaw_works K b q l z 7) := by
        refine work_of [("_law_shares_here", s.heap.objs.size + 3, .ref l), ("_law_beats", s.heap.objs.size + 1, .int b)] (F := L7 k7) (addC_some nC hF7_8) (by have z := addC_some nC hC7_8; rw [eL7] at z ⊢; exact z) (by rw [eL7]; exact nfc7) (by rw [eL7]; rfl) (show (["_law_shares_here", "_law_beats"] : List Str).Nodup by decide) (by simp) (fun x hx => by simp only [List.mem_cons, List.not_mem_nil, or_false] at hx; rcases hx with rfl | rfl <;> first | exact a_2 | exact a_0) (fun x hx => by simp only [List.mem_cons, List.not_mem_nil, or_false] at hx; rcases hx with rfl | rfl <;> first | (rw [eL7]; exact ne_of_none hC7_8 n_2) | (rw [eL7]; exact ne_of_none hC7_8 n_0)) ?_
        rw [eL7]
        refine lok_of (k := 4) (N := ["_law_shares_here", "_law_beats"]) (fr := ["_law_shares_here", "_law_beats"]) (NdefX.nscope_by (by dsimp only; decide +kernel)) (fun _ _ => rfl) (fun A outer s H E hr => (pe_clT c_turned hr (by decide) (passes_call (takes_of rfl rfl rfl rfl) (fun _ _ _ _ h => h)) (by rfl) (pa_cons (pe_op op_add pe_int (pv 1)) (pa_cons (pe_op op_rep (pe_lst (pa_cons pe_int pa_nil)) (pe_callB (call_min2 rfl) (by rfl) T.b_min (by decide +kernel) (pa_cons pe_int (pa_cons (pe_callB (clLen K) (by rfl) T.b_len (by decide +kernel) (pa_cons (pv 0) pa_nil)) pa_nil)))) pa_nil)))) (fun E H Q h => ?_)
        obtain ⟨xs, sh, hq, hxl, hbad, hl, hsl, b0, b1, hz, k⟩ := h
        have hlen : (sh.map V.int).length = sh.length := List.length_map _
        have c2 : (0 : Int) ≤ (if ((sh.map V.int).length : Int) < 2 then ((sh.map V.int).length : Int) else 2) ∧ (if ((sh.map V.int).length : Int) < 2 then ((sh.map V.int).length : Int) else 2) ≤ 2 := by split <;> omega
        refine ⟨_, rfl, _, _, rfl, rfl, (by show 1 ≤ sizeLine; decide), fun p hp => ⟨_, rfl, _, _, rfl, .inl ((Same.upd hp).seq hl), _, _, rfl, ?_⟩⟩
        generalize (if ((sh.map V.int).length : Int) < 2 then ((sh.map V.int).length : Int) else 2) = n at c2
        refine ⟨_, _, _, rfl, rfl, upd_same, by omega, by omega, small_le (m := 64) (by show 1 * n.toNat ≤ 64; omega), fun p2 hp2 => ?_⟩
        exact ⟨12 + b, p2, List.replicate n.toNat 1, rfl, SqL.of (by rw [← rep_intsK]; exact upd_same), by rw [List.length_replicate]; omega, fun _ => .inl (by omega), fun H1 e1 => k H1 (((Same.upd hp).new hp2).trans e1)⟩
      have W8 : WorkAt P w K mg base 5 (addC [(s.heap.objs.size + 1, .int b), (s.heap.objs.size + 2, .ref q), (s.heap.objs.size + 3, .ref l), (s.heap.objs.size + 4, .int z)] G8) f8 (f8 :: ([("_law_shares_here", s.heap.objs.size + 3, .ref l)] : List (Str × Addr × V)).map (·.2.1)) (tllaw_works K b q l z 8) := by
        refine work_of [("_law_shares_here", s.heap.objs.size + 3, .ref l)] (F := L8 k8) (addC_some nC hF8_8) (by have z := addC_some nC hC8_8; rw [eL8] at z ⊢; exact z) (by rw [eL8]; exact nfc8) (by rw [eL8]; rfl) (show (["_law_shares_here"] : List Str).Nodup by decide) (by simp) (fun x hx => by simp only [List.mem_cons, List.not_mem_nil, or_false] at hx; subst hx; exact a_2) (fun x hx => by simp only [List.mem_cons, List.not_mem_nil, or_false] at hx; subst hx; (rw [eL8]; exact ne_of_none hC8_8 n_2)) ?_
        rw [eL8]
        refine lok_of (k := 4) (N := ["_law_shares_here"]) (fr := ["_law_shares_here"]) (NdefX.nscope_by (by dsimp only; decide +kernel)) (fun _ _ => rfl) (fun A outer s H E hr => (pe_clT c_turned hr (by decide) (passes_call (takes_of rfl rfl rfl rfl) (fun _ _ _ _ h => h)) (by rfl) (pa_cons pe_int (pa_cons (pe_op op_rep (pe_lst (pa_cons pe_int pa_nil)) (pe_op op_add pe_int (pe_callB (clLen K) (by rfl) T.b_len (by decide +kernel) (pa_cons (pv 0) pa_nil)))) pa_nil)))) (fun E H Q h => ?_)
        obtain ⟨xs, sh, hq, hxl, hbad, hl, hsl, b0, b1, hz, k⟩ := h
        have hlen : (sh.map V.int).length = sh.length := List.length_map _
        refine ⟨(by show 1 ≤ sizeLine; decide), fun p hp => ⟨_, rfl, _, _, rfl, .inl ((Same.upd hp).seq hl), _, _, rfl, rfl, ?_⟩⟩
        obtain ⟨n, hn⟩ : ∃ n : Int, n = 4 + ((sh.map V.int).length : Int) := ⟨_, rfl⟩
        refine ⟨_, n, _, rfl, congrArg V.int hn.symm, upd_same, by omega, by omega, small_le (m := 64) (by show 1 * n.toNat ≤ 64; omega), fun p2 hp2 => ?_⟩
        exact ⟨4, p2, List.replicate n.toNat 1, rfl, SqL.of (by rw [← rep_intsK]; exact upd_same), by rw [List.length_replicate]; omega, fun _ => .inr (by rw [List.length_replicate]; omega), fun H1 e1 => k H1 (((Same.upd hp).new hp2).trans e1)⟩
      refine k p [(f0, f0 :: ([("_law_beats", s.heap.objs.size + 1, .int b), ("_law_bad_here", s.heap.objs.size + 2, .ref q)] : List (Str × Addr × V)).map (·.2.1)), (f1, f1 :: ([("_law_beats", s.heap.objs.size + 1, .int b), ("_law_bad_here", s.heap.objs.size + 2, .ref q)] : List (Str × Addr × V)).map (·.2.1)), (f2, f2 :: ([("_law_beats", s.heap.objs.size + 1, .int b), ("_law_bad_here", s.heap.objs.size + 2, .ref q)] : List (Str × Addr × V)).map (·.2.1)), (f3, f3 :: ([("_law_beats", s.heap.objs.size + 1, .int b), ("_law_bad_here", s.heap.objs.size + 2, .ref q)] : List (Str × Addr × V)).map (·.2.1)), (f4, f4 :: ([("_law_none", s.heap.objs.size + 4, .int z)] : List (Str × Addr × V)).map (·.2.1)), (f5, f5 :: ([("_law_none", s.heap.objs.size + 4, .int z)] : List (Str × Addr × V)).map (·.2.1)), (f6, f6 :: ([("_law_none", s.heap.objs.size + 4, .int z)] : List (Str × Addr × V)).map (·.2.1)), (f7, f7 :: ([("_law_shares_here", s.heap.objs.size + 3, .ref l), ("_law_beats", s.heap.objs.size + 1, .int b)] : List (Str × Addr × V)).map (·.2.1)), (f8, f8 :: ([("_law_shares_here", s.heap.objs.size + 3, .ref l)] : List (Str × Addr × V)).map (·.2.1))] _ (fun b o hb n => addC_some nC (ee b o hb n)) (tt.ext fun b o hb => addC_some nC hb) nP (addC_some nC pp) rfl fun i x hx => ?_
      match i, hx with
      | 0, hx => cases hx; exact W0
      | 1, hx => cases hx; exact W1
      | 2, hx => cases hx; exact W2
      | 3, hx => cases hx; exact W3
      | 4, hx => cases hx; exact W4
      | 5, hx => cases hx; exact W5
      | 6, hx => cases hx; exact W6
      | 7, hx => cases hx; exact W7
      | 8, hx => cases hx; exact W8
      | i + 9, hx => exact absurd hx (by simp)
end
end My

namespace My
open PySem PySem.Spec PyProof.Rows LamX L2
section
variable {P : Program} {w : World} {K : PySem.W.Frag} {mg : Str → Option Value} {base : Heap}
abbrev s_law : Stmt := top 35
theorem sc_law : FnScope ["_law_script", "_law_state", "_law_turn", "_law_beats", "_law_shares_here", "_law_need", "_law_bound", "_law_k", "_law_due", "_law_share", "_law_begins", "_law_handed", "_law_again", "_law_found", "_law_told", "_law_bad_here", "_law_none", "_law_works_here", "_law_work", "_law_odd", "_law_begin"] ["_law_script"] (defScope s_law) := ⟨rfl, rfl, rfl, by decide +kernel, rfl, by decide +kernel, by decide +kernel⟩
theorem refs_at {fL : List (Addr × List Addr)} {j : Nat} {x : V} (h : (fL.map fun y => V.ref y.1)[j]? = some x) : ∃ y, fL[j]? = some y ∧ x = .ref y.1 := by
  rw [List.getElem?_map] at h
  obtain ⟨y, hy, e⟩ := Option.map_eq_some_iff.mp h
  exact ⟨y, hy, e.symm⟩
theorem tkind_of {K : PySem.W.Frag} {tl : XK → Hp → VK → Prop} {H : Hp} {Q : VK} (h : tl (fun cls d H' => ∃ (x : Str) (j : Nat), cls = .ref (He.ga K x) ∧ d = none ∧ ErrK K x j ∧ ∀ H'', Same H' H'' → Q (.str x) H'') H Q) : TKind K tl H Q := h
theorem tlw_y {K : PySem.W.Frag} {b : Int} {q l : Addr} {z : Int} {i : Nat} {E : XK} {H : Hp} {Q : VK} (h : wY K b q l z E H Q) : tllaw_works K b q l z i E H Q := h
theorem same_two {H : Hp} {p q a b : Addr} {i : Int} {ns : List Int} (hp : H p = some (.lst [.int i, .ref a])) (hq : H q = some (.lst [.int i, .ref b])) (ha : H a = some (.lst (ns.map V.int))) (hb : H b = some (.lst (ns.map V.int))) (hl : ns.length ≤ 1000) : SameD H 2 (.ref p) (.ref q) :=
  .lst 1 p q _ _ hp hq rfl (by show 2 ≤ 1000; decide) fun j x y h1 h2 => by
    match j, h1, h2 with
    | 0, h1, h2 => cases h1; cases h2; exact .int 1 i
    | 1, h1, h2 => cases h1; cases h2; exact .ints ha hb hl 0
    | j + 2, h1, h2 => exact absurd h1 (by simp)
theorem onS_len (b : Int) (sh ts : List Int) : (onS b sh ts).length = b.toNat := by simp [onS]
def spLaw (K : PySem.W.Frag) (Pw Pt : Addr) : Sp := fun vs H Q _ => ∃ (a : Addr) (ns : List Int), vs = [.ref a] ∧ SqL K H a (ns.map V.int) ∧ ns.length ≤ 63 ∧ H Pw = some (.tbl #[]) ∧ H Pt = some (.tbl #[]) ∧ ∀ H', Q (.bl true) H'
theorem ok_law {f : Addr} {oc : Value} {od : Option Addr} {dV kV doc pm : Value} {an : Option Addr} {ct : Value} {osl : Array (Option Value)} {c Pw Pt : Addr} (lk : K.lookup f = some ⟨oc, od, .func (PySem.W.fnOf "law" "law" (defArgs s_law) (defBody s_law) (defScope s_law) dV kV doc pm an (.ref c) ct), osl⟩) (hcd : PySem.W.codeIn K (.ref c) "law" = true) (T : Txt K mg) (TB : TabB base mg c Pt)
    {g : Addr} {fdk : FuncData} (GK : FunG K mg "_law_kind" s_law_kind g fdk ["_law_work"]) {TL : List (Addr × Str)} (hTL : TL = [(Pw, lamQn "_law_works"), (Pt, lamQn "law")]) (hmT : (Pt, lamQ) ∈ TL) (huT : ∀ p ∈ TL, p.1 = Pt → p.2 = lamQ) (c_law_start : Cl P w K mg base CX0 1 "_law_start" (spStart K)) (c_law_drawn : Cl P w K mg base CX0 1 "_law_drawn" (spDrawn K)) (c_law_shares : Cl P w K mg base CX0 2 "_law_shares" (spLShares K)) (c_law_far : Cl P w K mg base CX0 2 "_law_far" (spFar K))
    (c_peak : Cl P w K mg base (L2.CX P w) 3 "peak" (orH K 0 (spPeak K))) (c_blocks : Cl P w K mg base (L2.CX P w) 3 "blocks" (orH K 1 (spBlocksX K))) (c_sums : Cl P w K mg base (L2.CX P w) 3 "sums" (orH K 1 (spArcs K))) (c_law_same : Cl P w K mg base CX0 3 "_law_same" (spSame 2)) (c_law_sums : Cl P w K mg base CX0 1 "_law_sums" (spLSums K)) (c_law_bad : Cl P w K mg base CX0 3 "_law_bad" (spBad K)) (c_law_works : Cl P w K mg base CX0 1 "_law_works" (splaw_works P w K mg base TL)) (eBS : ErrK K "BadShare" 1) (eBB : ErrK K "BadBegins" 3) (eNR : ErrK K "NoRoom" 5) :
    FnOk P w K mg base CX0 (7 + 1) f (PySem.W.fnOf "law" "law" (defArgs s_law) (defBody s_law) (defScope s_law) dV kV doc pm an (.ref c) ct) ["_law_script"] (spLaw K Pw Pt) := by
  obtain ⟨ock, odk, kVk, dock, pmk, ank, cdvk, ctk, oslk, rfl, lkK, hcK⟩ := GK.fn.ex
  refine fn_of lk hcd sc_law (fun vs H Q E h => ?_) (fun A outer s_ H vs Q E hr h => ?_)
  · obtain ⟨a, ns, rfl, _⟩ := h
    rfl
  · obtain ⟨a, ns, rfl, hS, hlen, hPw, hPt, kk⟩ := h
    refine ⟨_, PSs.nox (pss_cons (ps_set (i := 1) sc_law.nd rfl (.inr rfl) (pe_cl c_law_start hr (by decide) (by rfl) (pa_cons (pv 0) pa_nil)))
      (pss_cons (ps_for PassesOwn.never (by rfl) (pi_range1 (by rfl) T.b_range (pa_cons pe_int pa_nil)) (pg_name (i := 2) sc_law.nd rfl (.inl rfl)) (pss_cons (ps_set (i := 3) sc_law.nd rfl (.inr rfl) (pe_op op_add pe_int (pe_cl c_law_drawn hr (by decide) (by rfl) (pa_cons (pv 1) (pa_cons (pe_ix (ixL K) (pe_lst (pa_cons pe_int (pa_cons pe_int pa_nil))) (pe_cl c_law_drawn hr (by decide) (by rfl) (pa_cons (pv 1) (pa_cons pe_int pa_nil))) (fun _ _ => rfl)) pa_nil)))))
      (pss_cons (ps_set (i := 4) sc_law.nd rfl (.inr rfl) (pe_cl c_law_shares hr (by decide) (by rfl) (pa_cons (pv 1) (pa_cons (pv 3) (pa_cons pe_int pa_nil)))))
      (pss_cons (ps_set (i := 5) sc_law.nd rfl (.inl rfl) (pe_op op_fdivW (pe_op op_sub (pe_op op_add (pe_callB (clSum K rfl) (by rfl) T.b_sum (by decide +kernel) (pa_cons (pv 4) pa_nil)) (pv 3)) pe_int) (pv 3)))
      (pss_cons (ps_set (i := 6) sc_law.nd rfl (.inr rfl) (pe_op op_sub (pe_op op_add (pv 5) (pe_cl c_law_drawn hr (by decide) (by rfl) (pa_cons (pv 1) (pa_cons pe_int pa_nil)))) pe_int))
      (pss_cons (ps_setLc (i := 8) (own := [("_law_k", 7)]) (g := gName 7) (tt := tYes) rfl sc_law.nd rfl rfl (sw_true rfl rfl rfl (by decide +kernel)) (pi_range1 (by rfl) T.b_range (pa_cons (pe_callB (clLen K) (by rfl) T.b_len (by decide +kernel) (pa_cons (pv 4) pa_nil)) pa_nil)) (blkOk_by (own := [("_law_k", 7)]) (N := ["_law_script", "_law_state", "_law_turn", "_law_beats", "_law_shares_here", "_law_need", "_law_bound", "_law_k", "_law_due", "_law_share", "_law_begins", "_law_handed", "_law_again", "_law_found", "_law_told", "_law_bad_here", "_law_none", "_law_works_here", "_law_work", "_law_odd", "_law_begin"]) (sc := defScope s_law) (by decide +kernel)) (fun _ _ _ _ _ => (pg_name (i := 7) sc_law.nd rfl (.inl rfl))) (fun _ _ _ _ _ => pts_nil) (fun _ _ _ _ _ => (pe_op op_mod (pe_callB (clSum K rfl) (by rfl) T.b_sum (by decide +kernel) (pa_cons (pe_slice (slL K) (pv 4) po_none (po_some (pv 7))) pa_nil)) (pv 3))))
      (pss_cons (ps_setLc (i := 10) (own := [("_law_share", 9)]) (g := gName 9) (tt := tYes) rfl sc_law.nd rfl rfl (sw_true rfl rfl rfl (by decide +kernel)) (pi_list (pv 4)) (blkOk_by (own := [("_law_share", 9)]) (N := ["_law_script", "_law_state", "_law_turn", "_law_beats", "_law_shares_here", "_law_need", "_law_bound", "_law_k", "_law_due", "_law_share", "_law_begins", "_law_handed", "_law_again", "_law_found", "_law_told", "_law_bad_here", "_law_none", "_law_works_here", "_law_work", "_law_odd", "_law_begin"]) (sc := defScope s_law) (by decide +kernel)) (fun _ _ _ _ _ => (pg_name (i := 9) sc_law.nd rfl (.inl rfl))) (fun _ _ _ _ _ => pts_nil) (fun _ _ _ _ _ => (pe_cl c_law_drawn hr (by decide) (by rfl) (pa_cons (pv 1) (pa_cons (pv 3) pa_nil)))))
      (pss_cons (ps_set (i := 11) sc_law.nd rfl (.inr rfl) (pe_tup (pa_cons (pe_callTy (clList K) (by rfl) T.b_list (by decide +kernel) (pa_cons (pv 4) pa_nil)) (pa_cons (pe_callTy (clList K) (by rfl) T.b_list (by decide +kernel) (pa_cons (pv 10) pa_nil)) pa_nil))))
      (pss_cons (ps_for PassesOwn.never (by rfl) (pi_range1 (by rfl) T.b_range (pa_cons pe_int pa_nil)) (pg_name (i := 12) sc_law.nd rfl (.inl rfl)) (pss_cons (ps_set (i := 13) sc_law.nd rfl (.inl rfl) (pe_lamcall (T := TL) (k := 5) (P := Pt) (by rfl) GK.mgf GK.fn.kp lkK hcK GK.b sc_law_kind rfl (.inl rfl) (kind_gives T) TB rfl hmT huT (hr.mono (by decide)) (lamS_by (sc := defScope s_law) (by decide +kernel)) rfl (fun _ _ _ _ _ => rfl) (fun A outer s H E f c2 hr => (pe_clT c_blocks hr (by decide) (passes_call (takes_of rfl rfl rfl rfl) (fun _ _ _ _ h => h)) (by rfl) (pa_cons (pv 3) (pa_cons (pe_ix (ixT K) (pv 11) pe_int (fun _ _ => rfl)) (pa_cons (pv 6) pa_nil)))))))
      (pss_cons (ps_if (pt_not (pt_val (pe_cl c_law_same hr (by decide) (by rfl) (pa_cons (pv 13) (pa_cons (pe_ifExp (pt_cmpR op_ge (pv 6) (pv 5) (nomark _)) (pv 8) pe_str) pa_nil))))) (pss_one (ps_ret pe_bl)) pss_nil)
      (pss_cons (ps_set (i := 14) sc_law.nd rfl (.inl rfl) (pe_clG c_sums hr (by decide) (by rfl) (pa_cons (pv 3) (pa_cons (pe_ix (ixT K) (pv 11) pe_int (fun _ _ => rfl)) (pa_cons (pe_ix (ixT K) (pv 11) pe_int (fun _ _ => rfl)) pa_nil)))))
      (pss_cons (ps_if (pt_not (pt_val (pe_cl c_law_same hr (by decide) (by rfl) (pa_cons (pe_lst (pa_cons (pe_clG c_peak hr (by decide) (by rfl) (pa_cons (pv 3) (pa_cons (pe_ix (ixT K) (pv 11) pe_int (fun _ _ => rfl)) pa_nil))) (pa_cons (pv 14) pa_nil))) (pa_cons (pe_lst (pa_cons (pv 5) (pa_cons (pe_cl c_law_sums hr (by decide) (by rfl) (pa_cons (pv 3) (pa_cons (pv 4) (pa_cons (pv 10) pa_nil)))) pa_nil))) pa_nil))))) (pss_one (ps_ret pe_bl)) pss_nil)
      (pss_cons (ps_expr (pe_bm PySem.F.plainAttrs_list PySem.F.slot_list_append PySem.F.type_list_append mt_append (pv 14) (pa_cons pe_int pa_nil)))
      (pss_one (ps_if (pt_cmpR (opNeD K hr.units) (pv 11) (pe_tup (pa_cons (pv 4) (pa_cons (pv 10) pa_nil))) (nomark _)) (pss_one (ps_ret pe_bl)) pss_nil))))))))
      (pss_cons (ps_set (i := 15) sc_law.nd rfl (.inl rfl) (pe_cl c_law_bad hr (by decide) (by rfl) (pa_cons (pv 1) (pa_cons (pv 3) (pa_cons (pv 4) pa_nil)))))
      (pss_cons (ps_set (i := 16) sc_law.nd rfl (.inl rfl) (pe_ix (ixL K) (pe_lst (pa_cons pe_int (pa_cons (pe_cl c_law_far hr (by decide) (by rfl) (pa_cons (pv 1) (pa_cons pe_int (pa_cons pe_int pa_nil)))) pa_nil))) (pe_cl c_law_drawn hr (by decide) (by rfl) (pa_cons (pv 1) (pa_cons pe_int pa_nil))) (fun _ _ => rfl)))
      (pss_cons (ps_set (i := 17) sc_law.nd rfl (.inl rfl) (pe_cl c_law_works hr (by decide) (by rfl) (pa_cons (pv 3) (pa_cons (pv 15) (pa_cons (pv 4) (pa_cons (pv 16) pa_nil))))))
      (pss_cons (ps_if (pt_cmpR (opNeD K hr.units) (pe_lc (own := [("_law_work", 18)]) (g := gName 18) (by rfl) sc_law.nd (pi_list (pv 17)) (blkOk_by (own := [("_law_work", 18)]) (N := ["_law_script", "_law_state", "_law_turn", "_law_beats", "_law_shares_here", "_law_need", "_law_bound", "_law_k", "_law_due", "_law_share", "_law_begins", "_law_handed", "_law_again", "_law_found", "_law_told", "_law_bad_here", "_law_none", "_law_works_here", "_law_work", "_law_odd", "_law_begin"]) (sc := defScope s_law) (by decide +kernel)) (fun _ _ _ _ _ => (pg_name (i := 18) sc_law.nd rfl (.inl rfl))) (fun _ _ _ _ _ => (pts_one (pt_cmpR op_ne (pe_kindvK P w K mg base (TT := TKind K) (i := 18) (k := 5) (by rfl) GK.mgf GK.fn.kp lkK hcK GK.b sc_law_kind rfl (.inl rfl) (fun q => kind_gives T) (hr.mono (by decide)) rfl (.inl rfl)) pe_str (nomark _)))) (fun _ _ _ _ _ => (pv 18))) (pe_lst pa_nil) (nomark _)) (pss_one (ps_ret pe_bl)) pss_nil)
      (pss_cons (ps_set (i := 19) sc_law.nd rfl (.inr rfl) (pe_ix (ixL K) (pe_lst (pa_cons (pe_op op_cat (pv 10) (pe_lst (pa_cons pe_int pa_nil))) (pa_cons (pe_op op_cat (pe_slice (slL K) (pv 10) (po_some pe_int) po_none) (pe_lst (pa_cons (pe_cl c_law_far hr (by decide) (by rfl) (pa_cons (pv 1) (pa_cons pe_int (pa_cons (pe_op op_sub (pv 3) pe_int) pa_nil)))) pa_nil))) (pa_cons (pe_op op_cat (pe_lst (pa_cons (pv 3) pa_nil)) (pe_slice (slL K) (pv 10) (po_some pe_int) po_none)) pa_nil)))) (pe_cl c_law_drawn hr (by decide) (by rfl) (pa_cons (pv 1) (pa_cons pe_int pa_nil))) (fun _ _ => rfl)))
      (pss_one (ps_if (PW.pt (pw_or (pt_cmpR op_ne (pe_callB (clLen K) (by rfl) T.b_len (by decide +kernel) (pa_cons (pv 19) pa_nil)) (pe_callB (clLen K) (by rfl) T.b_len (by decide +kernel) (pa_cons (pv 4) pa_nil)) (nomark _)) (pw_or1 (pt_cmpR (opNeD K hr.units) (pe_lc (own := [("_law_begin", 20)]) (g := gName 20) (by rfl) sc_law.nd (pi_list (pv 19)) (blkOk_by (own := [("_law_begin", 20)]) (N := ["_law_script", "_law_state", "_law_turn", "_law_beats", "_law_shares_here", "_law_need", "_law_bound", "_law_k", "_law_due", "_law_share", "_law_begins", "_law_handed", "_law_again", "_law_found", "_law_told", "_law_bad_here", "_law_none", "_law_works_here", "_law_work", "_law_odd", "_law_begin"]) (sc := defScope s_law) (by decide +kernel)) (fun _ _ _ _ _ => (pg_name (i := 20) sc_law.nd rfl (.inl rfl))) (fun _ _ _ _ _ => (pts_one (pt_not (pt_chain op_le op_lt pe_int (pv 20) (pv 3))))) (fun _ _ _ _ _ => (pv 20))) (pe_lst pa_nil) (nomark _))))) (pss_one (ps_if (pt_cmpR op_ne (pe_lamcall (T := TL) (k := 5) (P := Pt) (by rfl) GK.mgf GK.fn.kp lkK hcK GK.b sc_law_kind rfl (.inl rfl) (kind_gives T) TB rfl hmT huT (hr.mono (by decide)) (lamS_by (sc := defScope s_law) (by decide +kernel)) rfl (fun _ _ _ _ _ => rfl) (fun A outer s H E f c2 hr => (pe_clT c_sums hr (by decide) (passes_call (takes_of rfl rfl rfl rfl) (fun _ _ _ _ h => h)) (by rfl) (pa_cons (pv 3) (pa_cons (pv 4) (pa_cons (pv 19) pa_nil)))))) pe_str (nomark _)) (pss_one (ps_ret pe_bl)) pss_nil)) pss_nil))))))))))))))))
      (pss_one (ps_ret pe_bl)))), ?_⟩
    have hSm := noTab_sq hS
    have tb0 : Tabs TL H := fun p hp => by
      rw [hTL] at hp
      rcases List.mem_cons.mp hp with rfl | hp
      · exact TabS.nil hPw
      · rw [List.mem_singleton] at hp; subst hp; exact TabS.nil hPt
    refine ⟨_, rfl, a, ns, rfl, hS, fun st m0 hst d0 => ?_⟩
    have hstm := noTab_none hst
    have s0 : SOk K a ns st (upd H st (StO a 0 m0 0)) := SOk.make hlen hS hst d0
    have e0 : Same (noTab H) (upd H st (StO a 0 m0 0)) := (noTab_same H).new hst
    have t0 : Tabs TL (upd H st (StO a 0 m0 0)) := tabs_same tb0 (Same.upd hst)
    generalize upd H st (StO a 0 m0 0) = H0 at s0 e0 t0
    refine ⟨_, rfl, by decide, by decide, for_range (lo := 0) (n := 8) (fun i σ H' => (∃ v2 v3 v4 v5 v6 v7 v8 v9 v10 v11 v12 v13 v14 v15 v16 v17 v18 v19 v20 : Option V, σ = [some (.ref a), some (.ref st), v2, v3, v4, v5, v6, v7, v8, v9, v10, v11, v12, v13, v14, v15, v16, v17, v18, v19, v20]) ∧ SOk K a ns st H' ∧ Same (noTab H) H' ∧ Tabs TL H')
      ⟨⟨none, none, none, none, none, none, none, none, none, none, none, none, none, none, none, none, none, none, none, rfl⟩, s0, e0, t0⟩ ?_ ?_⟩
    rotate_left 1
    · rintro σ H1 ⟨_, s1, e1, t1⟩
      exact kk _
    rintro i σ H1 hi ⟨⟨v2, v3, v4, v5, v6, v7, v8, v9, v10, v11, v12, v13, v14, v15, v16, v17, v18, v19, v20, rfl⟩, s1, e1, t1⟩
    have s := s1
    have k := Keep.refl st H1
    have b0 : True := trivial
    refine ⟨_, rfl, (by show 2 ≤ sizeLine; decide), fun p1 h_p1 => ?_⟩
    have n_p1 := s.ne_of h_p1
    have s := s.new (o := .lst [.int 8, .int 64]) h_p1
    have k := k.new (o := .lst [.int 8, .int 64]) h_p1
    have w_p1 : upd H1 p1 (.lst [.int 8, .int 64]) p1 = some (.lst [.int 8, .int 64]) := upd_same
    generalize upd H1 p1 (.lst [.int 8, .int 64]) = H2 at s k w_p1
    refine ⟨_, rfl, st, a, ns, 2, rfl, s, by decide, by decide, fun y ia ma ca y0 y1 da => ?_⟩
    have s := s.drawn da
    have k := k.atSt (o := StO a ia ma ca)
    have w_p1 : upd H2 st (StO a ia ma ca) _ = _ := (upd_ne n_p1).trans w_p1
    generalize upd H2 st (StO a ia ma ca) = H3 at s k w_p1
    have hat : ∃ v : Int, atI [V.int 8, V.int 64] y = some (.int v) ∧ 1 ≤ v ∧ v ≤ 64 := by
      have : y = 0 ∨ y = 1 := by omega
      rcases this with e | e <;> subst e <;> exact ⟨_, rfl, by decide, by decide⟩
    obtain ⟨far, hfar, f0, f1⟩ := hat
    refine ⟨_, _, _, _, rfl, rfl, SqL.of w_p1, hfar, st, a, ns, far, rfl, s, by omega, Int.lt_of_le_of_lt f1 (by decide), fun r ib mb cb r0 r1 db => ⟨_, _, rfl, rfl, ?_⟩⟩
    have s := s.drawn db
    have k := k.atSt (o := StO a ib mb cb)
    generalize upd H3 st (StO a ib mb cb) = H4 at s k
    have b0 : 1 ≤ 1 + r := by omega
    have b1 : 1 + r ≤ 64 := by omega
    refine ⟨_, rfl, _, rfl, st, a, ns, 1 + r, 12, rfl, s, b0, b1, by decide, by decide, fun sh l H5 hsh hl12 h_l kE sE w_l => ?_⟩
    have n_l := s.ne_of h_l
    have hl : sh.length ≤ 12 := by omega
    have hslen : (sh.map V.int).length = sh.length := List.length_map _
    have hsb := sum_bd hsh
    have hsb2 : sh.sum ≤ 12 * 64 := Int.le_trans hsb.2 (Int.mul_le_mul (by omega) b1 (by omega) (by decide))
    have k := k.trans kE
    have s := sE
    refine ⟨_, rfl, _, _, rfl, SqL.of w_l, _, rfl, _, _, rfl, rfl, _, _, rfl, rfl, _, rfl, _, _, rfl, rfl, wide_div (b := 7) (by omega) (by omega) (by decide) (by decide), ?_⟩
    refine ⟨_, rfl, _, rfl, st, a, ns, 4, rfl, s, by decide, by decide, fun x ic mc cc x0 x1_ dc => ⟨_, _, rfl, rfl, _, _, rfl, rfl, ?_⟩⟩
    have s := s.drawn dc
    have k := k.atSt (o := StO a ic mc cc)
    have w_l : upd H5 st (StO a ic mc cc) _ = _ := (upd_ne n_l).trans w_l
    generalize upd H5 st (StO a ic mc cc) = H6 at s k w_l
    refine ⟨_, rfl, _, _, rfl, .inl (SqL.of w_l), _, rfl, by rw [hslen]; omega, by rw [hslen]; omega, fun D hD => ?_⟩
    rw [hslen, Int.toNat_natCast]
    have n_D := s.ne_of hD
    refine lc_range (lo := 0) (n := sh.length) (fun i H' => Same H6 H' ∧ H' D = some (.lst (((List.range i).map fun q => (sh.take q).sum % (1 + r)).map V.int))) ⟨Same.upd hD, upd_same⟩ ?_ ?_
    · rintro q H' hq ⟨e, hd⟩
      refine ⟨rfl, _, rfl, _, rfl, _, rfl, _, _, rfl, SqL.of (e _ _ w_l), fun p hp => ?_⟩
      rw [show (0 + (q : Int)) = (q : Int) by omega, cutV_to]
      refine ⟨_, _, rfl, SqL.of upd_same, _, rfl, _, _, rfl, rfl, (by show (0 : Int) < 1 + r; omega), ?_⟩
      refine ⟨_, (upd_ne (ne_of_none hd hp)).trans hd, small_of (m := 64) (by rw [List.length_map, List.length_map, List.length_range]; omega), (e.new hp).mut hD, ?_⟩
      rw [upd_same, List.range_succ, List.map_append, List.map_append]
      rfl
    rintro H7 ⟨eD, w_D⟩
    have s := s.same eD
    have k : Keep st H1 H7 := k.trans fun b u _ z => eD b u z
    have w_l := eD _ _ w_l
    have w_D : H7 D = some (.lst ((begs (1 + r) sh).map V.int)) := w_D
    have hbgl : (begs (1 + r) sh).length = sh.length := by simp [begs]
    have sG := s
    refine ⟨_, rfl, l, rfl, ⟨_, SqL.of w_l⟩, fun G hG => ?_⟩
    have n_G := s.ne_of hG
    refine lc_list (K := K) (a := l) (xs := sh.map V.int) (fun q H' => SOk K a ns st H' ∧ Keep st H7 H' ∧ ∃ ts : List Int, H' G = some (.lst (ts.map V.int)) ∧ ts.length = q ∧ ∀ x ∈ ts, 0 ≤ x ∧ x < 1 + r) ⟨s.new hG, (Keep.refl st H7).new hG, [], upd_same, rfl, fun x hx => by simp at hx⟩ (fun q H' _ h => SqL.of (h.2.1 _ _ n_l w_l)) ?_ ?_
    · rintro q x H' hq ⟨s9, k9, ts, hd9, hl9, hb9⟩
      have hq' : q < sh.length := by have := (List.getElem?_eq_some_iff.mp hq).1; omega
      refine ⟨rfl, _, rfl, _, rfl, st, a, ns, 1 + r, rfl, s9, by omega, Int.lt_of_le_of_lt b1 (by decide), fun z ie me ce z0 z1 de => ?_⟩
      have sa := s9.drawn de
      have ka := k9.atSt (o := StO a ie me ce)
      have hda : upd H' st (StO a ie me ce) G = some (.lst (ts.map V.int)) := by rw [upd_ne n_G]; exact hd9
      generalize upd H' st (StO a ie me ce) = Ha at sa ka hda
      refine ⟨_, hda, small_of (m := 64) (by rw [List.length_map]; omega), sa.mutK sG ka hG, ka.mut hG, ts ++ [z], ?_, by rw [List.length_append, hl9]; rfl, fun x hx => ?_⟩
      · rw [upd_same, List.map_append]; rfl
      · rcases List.mem_append.mp hx with h | h
        · exact hb9 x h
        · rw [List.mem_singleton] at h
          subst h
          omega
    rintro H8 ⟨sE, kE, ts, w_G, hlts, hts⟩
    rw [hslen] at hlts
    have w_l := kE _ _ n_l w_l
    have w_D := kE _ _ n_D w_D
    have k := k.trans kE
    have s := sE
    refine ⟨_, rfl, _, _, rfl, .inl (SqL.of w_l), fun x1 h_x1 => ?_⟩
    have n_x1 := s.ne_of h_x1
    have s := s.new (o := .lst (sh.map V.int)) h_x1
    have k := k.new (o := .lst (sh.map V.int)) h_x1
    have w_l : upd H8 x1 (.lst (sh.map V.int)) _ = _ := (upd_ne (ne_of_none w_l h_x1)).trans w_l
    have w_D : upd H8 x1 (.lst (sh.map V.int)) _ = _ := (upd_ne (ne_of_none w_D h_x1)).trans w_D
    have w_G : upd H8 x1 (.lst (sh.map V.int)) _ = _ := (upd_ne (ne_of_none w_G h_x1)).trans w_G
    have w_x1 : upd H8 x1 (.lst (sh.map V.int)) x1 = some (.lst (sh.map V.int)) := upd_same
    generalize upd H8 x1 (.lst (sh.map V.int)) = H9 at s k w_l w_D w_G w_x1
    refine ⟨_, rfl, _, _, rfl, .inl (SqL.of w_G), fun x2 h_x2 => ?_⟩
    have n_x2 := s.ne_of h_x2
    have s := s.new (o := .lst (ts.map V.int)) h_x2
    have k := k.new (o := .lst (ts.map V.int)) h_x2
    have w_l : upd H9 x2 (.lst (ts.map V.int)) _ = _ := (upd_ne (ne_of_none w_l h_x2)).trans w_l
    have w_D : upd H9 x2 (.lst (ts.map V.int)) _ = _ := (upd_ne (ne_of_none w_D h_x2)).trans w_D
    have w_G : upd H9 x2 (.lst (ts.map V.int)) _ = _ := (upd_ne (ne_of_none w_G h_x2)).trans w_G
    have w_x1 : upd H9 x2 (.lst (ts.map V.int)) _ = _ := (upd_ne (ne_of_none w_x1 h_x2)).trans w_x1
    have w_x2 : upd H9 x2 (.lst (ts.map V.int)) x2 = some (.lst (ts.map V.int)) := upd_same
    generalize upd H9 x2 (.lst (ts.map V.int)) = H10 at s k w_l w_D w_G w_x1 w_x2
    refine ⟨(by show 2 ≤ sizeLine; decide), fun x3 h_x3 => ?_⟩
    have n_x3 := s.ne_of h_x3
    have s := s.new (o := .tup [.ref x1, .ref x2]) h_x3
    have k := k.new (o := .tup [.ref x1, .ref x2]) h_x3
    have w_l : upd H10 x3 (.tup [.ref x1, .ref x2]) _ = _ := (upd_ne (ne_of_none w_l h_x3)).trans w_l
    have w_D : upd H10 x3 (.tup [.ref x1, .ref x2]) _ = _ := (upd_ne (ne_of_none w_D h_x3)).trans w_D
    have w_G : upd H10 x3 (.tup [.ref x1, .ref x2]) _ = _ := (upd_ne (ne_of_none w_G h_x3)).trans w_G
    have w_x1 : upd H10 x3 (.tup [.ref x1, .ref x2]) _ = _ := (upd_ne (ne_of_none w_x1 h_x3)).trans w_x1
    have w_x2 : upd H10 x3 (.tup [.ref x1, .ref x2]) _ = _ := (upd_ne (ne_of_none w_x2 h_x3)).trans w_x2
    have w_x3 : upd H10 x3 (.tup [.ref x1, .ref x2]) x3 = some (.tup [.ref x1, .ref x2]) := upd_same
    generalize upd H10 x3 (.tup [.ref x1, .ref x2]) = H11 at s k w_l w_D w_G w_x1 w_x2 w_x3
    have e := e1.keepAll hstm k
    have t := s1.tabs t1 k
    have hbg1 : ∀ n, n = (sh.sum + (1 + r) - 1) / (1 + r) → True := fun _ _ => trivial
    have gbg : GoodBg (1 + r) sh ts := ⟨hlts, hts⟩
    have hB : ((1 + r).toNat : Int) = 1 + r := Int.toNat_of_nonneg (by omega)
    have nt : ∀ {p : Addr} {xs : List V}, H11 p = some (.lst xs) → noTab H11 p = some (.lst xs) := fun h => noTab_at h fun _ z => nomatch z
    have nu : noTab H11 x3 = some (.tup [.ref x1, .ref x2]) := noTab_at w_x3 fun _ z => nomatch z
    refine ⟨_, rfl, by decide, by decide, for_range (lo := 0) (n := 2) (fun j σ H' => (∃ v12 v13 v14 v15 v16 v17 v18 v19 v20 : Option V, σ = [some (.ref a), some (.ref st), some (.int (0 + (i : Int))), some (.int (1 + r)), some (.ref l), some (.int ((sh.sum + (1 + r) - 1) / (1 + r))), some (.int (((sh.sum + (1 + r) - 1) / (1 + r)) + x - 2)), v7, some (.ref D), v9, some (.ref G), some (.ref x3), v12, v13, v14, v15, v16, v17, v18, v19, v20]) ∧ SOk K a ns st H' ∧ Same (noTab H) H' ∧ Tabs TL H' ∧ Same (noTab H11) H')
      ⟨⟨v12, v13, v14, v15, v16, v17, v18, v19, v20, rfl⟩, s, e, t, noTab_same H11⟩ ?_ ?_⟩
    · rintro j σ H7 hj ⟨⟨v12, v13, v14, v15, v16, v17, v18, v19, v20, rfl⟩, s7, e7, t7, f7⟩
      refine ⟨t7, fun H8 eN tN => ?_⟩
      have s8 := s7.extN hSm hstm e7 eN
      have e8 := extN_same e7 eN
      have f8 := extN_same f7 eN
      refine ⟨_, rfl, _, rfl, _, _, _, _, rfl, rfl, SqT.of (f8 _ _ nu), (by rfl), _, rfl, ?_⟩
      by_cases c : ((sh.sum + (1 + r) - 1) / (1 + r)) ≤ ((sh.sum + (1 + r) - 1) / (1 + r)) + x - 2
      · refine Or.inl ⟨1 + r, ((sh.sum + (1 + r) - 1) / (1 + r)) + x - 2, x1, sh, rfl, SqL.of (f8 _ _ (nt w_x1)), b0, b1, hsh, hl, .inl ⟨c, fun bl H9 e9 hbln hbl => ?_⟩⟩
        have w_Db := e9 _ _ (f8 _ _ (nt w_D))
        refine ⟨_, rfl, _, rfl, _, rfl, _, _, rfl, rfl, _, rfl, iteTe (decide_eq_true c) ⟨_, rfl, _, _, rfl, .ints hbl w_Db (by omega) 1, fun Ha ea => ⟨_, rfl, iteF ?_⟩⟩⟩
        have e8a := e9.trans ea
        have s9 := s8.same e8a
        have e9' := e8.trans e8a
        have t9 := tabs_same tN e8a
        have f9 := f8.trans e8a
        clear e9 ea e8a
        refine ⟨_, rfl, _, rfl, _, _, _, _, rfl, rfl, SqT.of (f9 _ _ nu), (by rfl), _, rfl, _, _, _, _, rfl, rfl, SqT.of (f9 _ _ nu), (by rfl), ?_⟩
        refine Or.inl ⟨1 + r, x1, x2, sh, ts, rfl, SqL.of (f9 _ _ (nt w_x1)), SqL.of (f9 _ _ (nt w_x2)), b0, b1, hsh, hl, by omega, fun _ tp Hf ef h_tp w_tp => ?_, fun z => absurd gbg z⟩
        rw [arcL_onS b0 hsh hlts hts] at w_tp
        have fF := f9.trans ef
        refine ⟨_, rfl, _, rfl, _, _, _, _, rfl, rfl, SqT.of (fF _ _ nu), (by rfl), Or.inl ⟨1 + r, x1, sh, rfl, SqL.of (fF _ _ (nt w_x1)), b0, b1, hsh, hl, fun Hg eg => ?_⟩⟩
        have w_tp := eg _ _ w_tp
        refine ⟨_, rfl, (by show 2 ≤ sizeLine; decide), fun y1 hy1 => ?_⟩
        have eh : Same Hg (upd Hg y1 (.lst [.int ((sh.sum + (1 + r) - 1) / (1 + r)), .ref tp])) := Same.upd hy1
        have w_y1 : upd Hg y1 (.lst [.int ((sh.sum + (1 + r) - 1) / (1 + r)), .ref tp]) y1 = some (.lst [.int ((sh.sum + (1 + r) - 1) / (1 + r)), .ref tp]) := upd_same
        generalize upd Hg y1 (.lst [.int ((sh.sum + (1 + r) - 1) / (1 + r)), .ref tp]) = Hh at eh w_y1
        have fH := (fF.trans eg).trans eh
        have w_tp := eh _ _ w_tp
        refine ⟨_, rfl, _, rfl, _, rfl, _, rfl, 1 + r, l, G, sh, ts, rfl, SqL.of (fH _ _ (nt w_l)), SqL.of (fH _ _ (nt w_G)), b0, b1, hl, hlts, fun lp Hi ei h_lp w_lp => ⟨(by show 2 ≤ sizeLine; decide), fun y2 hy2 => ?_⟩⟩
        have ej : Same Hi (upd Hi y2 (.lst [.int ((sh.sum + (1 + r) - 1) / (1 + r)), .ref lp])) := Same.upd hy2
        have w_y2 : upd Hi y2 (.lst [.int ((sh.sum + (1 + r) - 1) / (1 + r)), .ref lp]) y2 = some (.lst [.int ((sh.sum + (1 + r) - 1) / (1 + r)), .ref lp]) := upd_same
        generalize upd Hi y2 (.lst [.int ((sh.sum + (1 + r) - 1) / (1 + r)), .ref lp]) = Hj at ej w_y2
        have eij := ei.trans ej
        refine ⟨_, _, rfl, same_two (eij _ _ w_y1) w_y2 (eij _ _ w_tp) (ej _ _ w_lp) (by rw [onS_len]; omega), fun Hk ek => ⟨_, rfl, iteF ?_⟩⟩
        have eall := ((ef.trans eg).trans eh).trans (eij.trans ek)
        have w_tp := ek _ _ (eij _ _ w_tp)
        have sK := s9.same eall
        have eK := e9'.trans eall
        have tK := tabs_same t9 eall
        have fK := f9.trans eall
        have m1 : noTab H tp = none := e9'.free h_tp
        have m2 : noTab H11 tp = none := f9.free h_tp
        have m3 := s9.ne_of h_tp
        refine ⟨_, rfl, .inl ⟨rfl, _, SqL.of w_tp⟩, tp, _, _, rfl, rfl, w_tp, small_of (m := 64) (by rw [List.length_map, onS_len]; omega), ?_⟩
        have sL := sK.mut (o := .lst ((onS (1 + r) sh ts).map V.int ++ [.int 0])) hSm hstm eK m1 m3
        have eL := eK.mut (o := .lst ((onS (1 + r) sh ts).map V.int ++ [.int 0])) m1
        have tL := tabs_keepL (o := .lst ((onS (1 + r) sh ts).map V.int ++ [.int 0])) tK w_tp
        have fL := fK.mut (o := .lst ((onS (1 + r) sh ts).map V.int ++ [.int 0])) m2
        generalize upd Hk tp (.lst ((onS (1 + r) sh ts).map V.int ++ [.int 0])) = Hl at sL eL tL fL
        refine ⟨_, rfl, _, rfl, _, rfl, (by show 2 ≤ sizeLine; decide), fun z hz => ?_⟩
        have em : Same Hl (upd Hl z (.tup [.ref l, .ref G])) := Same.upd hz
        have w_z : upd Hl z (.tup [.ref l, .ref G]) z = some (.tup [.ref l, .ref G]) := upd_same
        generalize upd Hl z (.tup [.ref l, .ref G]) = Hm at em w_z
        have fM := fL.trans em
        refine ⟨_, _, dp_t2 (SqT.of (fM _ _ nu)) (SqL.of (fM _ _ (nt w_x1))) (SqL.of (fM _ _ (nt w_x2))), dp_t2 (SqT.of w_z) (SqL.of (fM _ _ (nt w_l))) (SqL.of (fM _ _ (nt w_G))), dT2_shaped _ _, dT2_shaped _ _, _, rfl, ?_⟩
        refine iteFe (by rw [dT2_eqv]; rfl) ?_
        exact ⟨⟨_, _, _, _, _, _, _, _, _, rfl⟩, sL.same em, eL.trans em, tabs_same tL em, fM⟩
      · refine Or.inl ⟨1 + r, ((sh.sum + (1 + r) - 1) / (1 + r)) + x - 2, x1, sh, rfl, SqL.of (f8 _ _ (nt w_x1)), b0, b1, hsh, hl, .inr ⟨by omega, fun Hq e9q => ⟨"NoRoom", 5, rfl, rfl, eNR, fun H9 e9z => ?_⟩⟩⟩
        have e9 := e9q.trans e9z
        clear e9q e9z
        refine ⟨_, rfl, _, rfl, _, rfl, _, _, rfl, rfl, _, rfl, iteFe (decide_eq_false c) ⟨_, _, rfl, .str 2 _, fun Ha ea => ⟨_, rfl, iteF ?_⟩⟩⟩
        have e8a := e9.trans ea
        have s9 := s8.same e8a
        have e9' := e8.trans e8a
        have t9 := tabs_same tN e8a
        have f9 := f8.trans e8a
        clear e9 ea e8a
        refine ⟨_, rfl, _, rfl, _, _, _, _, rfl, rfl, SqT.of (f9 _ _ nu), (by rfl), _, rfl, _, _, _, _, rfl, rfl, SqT.of (f9 _ _ nu), (by rfl), ?_⟩
        refine Or.inl ⟨1 + r, x1, x2, sh, ts, rfl, SqL.of (f9 _ _ (nt w_x1)), SqL.of (f9 _ _ (nt w_x2)), b0, b1, hsh, hl, by omega, fun _ tp Hf ef h_tp w_tp => ?_, fun z => absurd gbg z⟩
        rw [arcL_onS b0 hsh hlts hts] at w_tp
        have fF := f9.trans ef
        refine ⟨_, rfl, _, rfl, _, _, _, _, rfl, rfl, SqT.of (fF _ _ nu), (by rfl), Or.inl ⟨1 + r, x1, sh, rfl, SqL.of (fF _ _ (nt w_x1)), b0, b1, hsh, hl, fun Hg eg => ?_⟩⟩
        have w_tp := eg _ _ w_tp
        refine ⟨_, rfl, (by show 2 ≤ sizeLine; decide), fun y1 hy1 => ?_⟩
        have eh : Same Hg (upd Hg y1 (.lst [.int ((sh.sum + (1 + r) - 1) / (1 + r)), .ref tp])) := Same.upd hy1
        have w_y1 : upd Hg y1 (.lst [.int ((sh.sum + (1 + r) - 1) / (1 + r)), .ref tp]) y1 = some (.lst [.int ((sh.sum + (1 + r) - 1) / (1 + r)), .ref tp]) := upd_same
        generalize upd Hg y1 (.lst [.int ((sh.sum + (1 + r) - 1) / (1 + r)), .ref tp]) = Hh at eh w_y1
        have fH := (fF.trans eg).trans eh
        have w_tp := eh _ _ w_tp
        refine ⟨_, rfl, _, rfl, _, rfl, _, rfl, 1 + r, l, G, sh, ts, rfl, SqL.of (fH _ _ (nt w_l)), SqL.of (fH _ _ (nt w_G)), b0, b1, hl, hlts, fun lp Hi ei h_lp w_lp => ⟨(by show 2 ≤ sizeLine; decide), fun y2 hy2 => ?_⟩⟩
        have ej : Same Hi (upd Hi y2 (.lst [.int ((sh.sum + (1 + r) - 1) / (1 + r)), .ref lp])) := Same.upd hy2
        have w_y2 : upd Hi y2 (.lst [.int ((sh.sum + (1 + r) - 1) / (1 + r)), .ref lp]) y2 = some (.lst [.int ((sh.sum + (1 + r) - 1) / (1 + r)), .ref lp]) := upd_same
        generalize upd Hi y2 (.lst [.int ((sh.sum + (1 + r) - 1) / (1 + r)), .ref lp]) = Hj at ej w_y2
        have eij := ei.trans ej
        refine ⟨_, _, rfl, same_two (eij _ _ w_y1) w_y2 (eij _ _ w_tp) (ej _ _ w_lp) (by rw [onS_len]; omega), fun Hk ek => ⟨_, rfl, iteF ?_⟩⟩
        have eall := ((ef.trans eg).trans eh).trans (eij.trans ek)
        have w_tp := ek _ _ (eij _ _ w_tp)
        have sK := s9.same eall
        have eK := e9'.trans eall
        have tK := tabs_same t9 eall
        have fK := f9.trans eall
        have m1 : noTab H tp = none := e9'.free h_tp
        have m2 : noTab H11 tp = none := f9.free h_tp
        have m3 := s9.ne_of h_tp
        refine ⟨_, rfl, .inl ⟨rfl, _, SqL.of w_tp⟩, tp, _, _, rfl, rfl, w_tp, small_of (m := 64) (by rw [List.length_map, onS_len]; omega), ?_⟩
        have sL := sK.mut (o := .lst ((onS (1 + r) sh ts).map V.int ++ [.int 0])) hSm hstm eK m1 m3
        have eL := eK.mut (o := .lst ((onS (1 + r) sh ts).map V.int ++ [.int 0])) m1
        have tL := tabs_keepL (o := .lst ((onS (1 + r) sh ts).map V.int ++ [.int 0])) tK w_tp
        have fL := fK.mut (o := .lst ((onS (1 + r) sh ts).map V.int ++ [.int 0])) m2
        generalize upd Hk tp (.lst ((onS (1 + r) sh ts).map V.int ++ [.int 0])) = Hl at sL eL tL fL
        refine ⟨_, rfl, _, rfl, _, rfl, (by show 2 ≤ sizeLine; decide), fun z hz => ?_⟩
        have em : Same Hl (upd Hl z (.tup [.ref l, .ref G])) := Same.upd hz
        have w_z : upd Hl z (.tup [.ref l, .ref G]) z = some (.tup [.ref l, .ref G]) := upd_same
        generalize upd Hl z (.tup [.ref l, .ref G]) = Hm at em w_z
        have fM := fL.trans em
        refine ⟨_, _, dp_t2 (SqT.of (fM _ _ nu)) (SqL.of (fM _ _ (nt w_x1))) (SqL.of (fM _ _ (nt w_x2))), dp_t2 (SqT.of w_z) (SqL.of (fM _ _ (nt w_l))) (SqL.of (fM _ _ (nt w_G))), dT2_shaped _ _, dT2_shaped _ _, _, rfl, ?_⟩
        refine iteFe (by rw [dT2_eqv]; rfl) ?_
        exact ⟨⟨_, _, _, _, _, _, _, _, _, rfl⟩, sL.same em, eL.trans em, tabs_same tL em, fM⟩
    rintro σ H12 ⟨⟨v12, v13, v14, v15, v16, v17, v18, v19, v20, rfl⟩, s, e, t, f⟩
    have w_l := f _ _ (nt w_l)
    have w_G := f _ _ (nt w_G)
    clear nt nu w_x1 w_x2 w_x3 w_D
    have sB := s
    have k := Keep.refl st H12
    refine ⟨_, rfl, _, rfl, _, rfl, st, a, l, ns, sh, 1 + r, rfl, s, n_l, w_l, hl, fun xs qb H13 hbad hxl n_qb kE sE w_qb => ?_⟩
    have w_l := kE _ _ n_l w_l
    have w_G := kE _ _ n_G w_G
    have k := k.trans kE
    have s := sE
    refine ⟨_, rfl, st, a, ns, 1, 64, rfl, s, fun z0 H14 hz0 kE sE => ⟨(by show 2 ≤ sizeLine; decide), fun f1 h_f1 => ?_⟩⟩
    have w_l := kE _ _ n_l w_l
    have w_G := kE _ _ n_G w_G
    have w_qb := kE _ _ n_qb w_qb
    have k := k.trans kE
    have s := sE
    have n_f1 := s.ne_of h_f1
    have s := s.new (o := .lst [.int 0, .int z0]) h_f1
    have k := k.new (o := .lst [.int 0, .int z0]) h_f1
    have w_l : upd H14 f1 (.lst [.int 0, .int z0]) _ = _ := (upd_ne (ne_of_none w_l h_f1)).trans w_l
    have w_G : upd H14 f1 (.lst [.int 0, .int z0]) _ = _ := (upd_ne (ne_of_none w_G h_f1)).trans w_G
    have w_qb : upd H14 f1 (.lst [.int 0, .int z0]) _ = _ := (upd_ne (ne_of_none w_qb h_f1)).trans w_qb
    have w_f1 : upd H14 f1 (.lst [.int 0, .int z0]) f1 = some (.lst [.int 0, .int z0]) := upd_same
    generalize upd H14 f1 (.lst [.int 0, .int z0]) = H15 at s k w_l w_G w_qb w_f1
    refine ⟨_, rfl, st, a, ns, 2, rfl, s, by decide, by decide, fun u id md cd u0 u1 dd => ?_⟩
    have s := s.drawn dd
    have k := k.atSt (o := StO a id md cd)
    have w_l : upd H15 st (StO a id md cd) _ = _ := (upd_ne n_l).trans w_l
    have w_G : upd H15 st (StO a id md cd) _ = _ := (upd_ne n_G).trans w_G
    have w_qb : upd H15 st (StO a id md cd) _ = _ := (upd_ne n_qb).trans w_qb
    have w_f1 : upd H15 st (StO a id md cd) _ = _ := (upd_ne n_f1).trans w_f1
    generalize upd H15 st (StO a id md cd) = H16 at s k w_l w_G w_qb w_f1
    have hat : ∃ zz : Int, atI [V.int 0, V.int z0] u = some (.int zz) ∧ ¬ (1 ≤ zz ∧ zz ≤ 64) := by
      have : u = 0 ∨ u = 1 := by omega
      rcases this with e | e <;> subst e
      · exact ⟨_, rfl, by decide⟩
      · exact ⟨_, rfl, by omega⟩
    obtain ⟨zz, hzz, badz⟩ := hat
    refine ⟨_, _, _, _, rfl, rfl, SqL.of w_f1, hzz, ?_⟩
    have e := e.keepAll hstm k
    have t := sB.tabs t k
    refine ⟨_, rfl, _, rfl, _, rfl, _, rfl, 1 + r, qb, l, zz, rfl, t, fun p fL H17 eN tw hpn w_p hfl hW => ?_⟩
    have s := s.extN hSm hstm e eN
    have e := extN_same e eN
    have w_l := eN _ _ w_l fun _ z => nomatch z
    have w_G := eN _ _ w_G fun _ z => nomatch z
    have w_qb := eN _ _ w_qb fun _ z => nomatch z
    refine ⟨_, rfl, p, rfl, ⟨_, SqL.of w_p⟩, fun D2 hD2 => lc_list (K := K) (a := p) (xs := fL.map fun y => V.ref y.1) (fun i H' => Same H17 H' ∧ H' D2 = some (.lst [])) ⟨Same.upd hD2, upd_same⟩ (fun i H' _ h => h.1.seq (SqL.of w_p)) ?_ ?_⟩
    · rintro j x H' hj ⟨ej, hd⟩
      obtain ⟨y, hy, rfl⟩ := refs_at hj
      have wk := (hW j y hy).same ej
      refine ⟨rfl, y.1, y.2, _, rfl, wk, ?_⟩
      have q1 := sq_hide wk (SqL.of (ej _ _ w_qb))
      have q2 := sq_hide wk (SqL.of (ej _ _ w_l))
      refine tkind_of (tlw_y ⟨xs, sh, q1, by omega, hbad, q2, hl, b0, b1, badz, fun H2 e2' => ⟨"BadShare", 1, rfl, rfl, eBS, fun H3 e3' => ?_⟩⟩)
      have es := show_same (e2'.trans e3')
      exact ⟨rfl, _, rfl, iteFe (neqF rfl) ⟨ej.trans es, es _ _ hd⟩⟩
    rintro Hv ⟨ev, hd⟩
    refine ⟨Nat.zero_le _, fun x4 hx4 => ⟨_, _, dp_nil (SqL.of (by rw [upd_ne (ne_of_none hd hx4)]; exact hd)), dp_nil (SqL.of upd_same), dI_shaped _, dI_shaped _, _, rfl, ?_⟩⟩
    rw [dI_eqv]
    refine iteFe (by rw [decide_eq_true rfl]; rfl) ?_
    have eA := ev.new (o := .lst []) hx4
    have s := s.same eA
    have t := tabs_same tw eA
    have e := e.trans eA
    have w_l := eA _ _ w_l
    have w_G := eA _ _ w_G
    generalize upd Hv x4 (.lst []) = H18 at eA s t e w_l w_G
    clear tw hpn w_p hfl hW w_qb eN
    have sB := s
    have k := Keep.refl st H18
    refine ⟨_, rfl, (by show 1 ≤ sizeLine; decide), fun a1 h_a1 => ?_⟩
    have n_a1 := s.ne_of h_a1
    have s := s.new (o := .lst [.int 0]) h_a1
    have k := k.new (o := .lst [.int 0]) h_a1
    have w_l : upd H18 a1 (.lst [.int 0]) _ = _ := (upd_ne (ne_of_none w_l h_a1)).trans w_l
    have w_G : upd H18 a1 (.lst [.int 0]) _ = _ := (upd_ne (ne_of_none w_G h_a1)).trans w_G
    have w_a1 : upd H18 a1 (.lst [.int 0]) a1 = some (.lst [.int 0]) := upd_same
    generalize upd H18 a1 (.lst [.int 0]) = H19 at s k w_l w_G w_a1
    refine ⟨_, _, _, _, rfl, rfl, w_G, w_a1, small_le (m := 64) (by simp; omega), fun a2 h_a2 => ?_⟩
    have n_a2 := s.ne_of h_a2
    have s := s.new (o := .lst (ts.map V.int ++ [.int 0])) h_a2
    have k := k.new (o := .lst (ts.map V.int ++ [.int 0])) h_a2
    have w_l : upd H19 a2 (.lst (ts.map V.int ++ [.int 0])) _ = _ := (upd_ne (ne_of_none w_l h_a2)).trans w_l
    have w_G : upd H19 a2 (.lst (ts.map V.int ++ [.int 0])) _ = _ := (upd_ne (ne_of_none w_G h_a2)).trans w_G
    have w_a1 : upd H19 a2 (.lst (ts.map V.int ++ [.int 0])) _ = _ := (upd_ne (ne_of_none w_a1 h_a2)).trans w_a1
    have w_a2 : upd H19 a2 (.lst (ts.map V.int ++ [.int 0])) a2 = some (.lst (ts.map V.int ++ [.int 0])) := upd_same
    generalize upd H19 a2 (.lst (ts.map V.int ++ [.int 0])) = H20 at s k w_l w_G w_a1 w_a2
    refine ⟨_, rfl, _, rfl, _, _, rfl, SqL.of w_G, fun a3 h_a3 => ?_⟩
    rw [cut1]
    have n_a3 := s.ne_of h_a3
    have s := s.new (o := .lst ((ts.drop 1).map V.int)) h_a3
    have k := k.new (o := .lst ((ts.drop 1).map V.int)) h_a3
    have w_l : upd H20 a3 (.lst ((ts.drop 1).map V.int)) _ = _ := (upd_ne (ne_of_none w_l h_a3)).trans w_l
    have w_G : upd H20 a3 (.lst ((ts.drop 1).map V.int)) _ = _ := (upd_ne (ne_of_none w_G h_a3)).trans w_G
    have w_a2 : upd H20 a3 (.lst ((ts.drop 1).map V.int)) _ = _ := (upd_ne (ne_of_none w_a2 h_a3)).trans w_a2
    have w_a3 : upd H20 a3 (.lst ((ts.drop 1).map V.int)) a3 = some (.lst ((ts.drop 1).map V.int)) := upd_same
    generalize upd H20 a3 (.lst ((ts.drop 1).map V.int)) = H21 at s k w_l w_G w_a2 w_a3
    refine ⟨_, rfl, _, rfl, _, _, rfl, rfl, st, a, ns, 0, 1 + r - 1, rfl, s, fun v H22 hv kE sE => ⟨(by show 1 ≤ sizeLine; decide), fun a4 h_a4 => ?_⟩⟩
    have w_l := kE _ _ n_l w_l
    have w_G := kE _ _ n_G w_G
    have w_a2 := kE _ _ n_a2 w_a2
    have w_a3 := kE _ _ n_a3 w_a3
    have k := k.trans kE
    have s := sE
    have n_a4 := s.ne_of h_a4
    have s := s.new (o := .lst [.int v]) h_a4
    have k := k.new (o := .lst [.int v]) h_a4
    have w_l : upd H22 a4 (.lst [.int v]) _ = _ := (upd_ne (ne_of_none w_l h_a4)).trans w_l
    have w_G : upd H22 a4 (.lst [.int v]) _ = _ := (upd_ne (ne_of_none w_G h_a4)).trans w_G
    have w_a2 : upd H22 a4 (.lst [.int v]) _ = _ := (upd_ne (ne_of_none w_a2 h_a4)).trans w_a2
    have w_a3 : upd H22 a4 (.lst [.int v]) _ = _ := (upd_ne (ne_of_none w_a3 h_a4)).trans w_a3
    have w_a4 : upd H22 a4 (.lst [.int v]) a4 = some (.lst [.int v]) := upd_same
    generalize upd H22 a4 (.lst [.int v]) = H23 at s k w_l w_G w_a2 w_a3 w_a4
    refine ⟨_, _, _, _, rfl, rfl, w_a3, w_a4, small_le (m := 64) (by simp; omega), fun a5 h_a5 => ?_⟩
    have n_a5 := s.ne_of h_a5
    have s := s.new (o := .lst ((ts.drop 1).map V.int ++ [.int v])) h_a5
    have k := k.new (o := .lst ((ts.drop 1).map V.int ++ [.int v])) h_a5
    have w_l : upd H23 a5 (.lst ((ts.drop 1).map V.int ++ [.int v])) _ = _ := (upd_ne (ne_of_none w_l h_a5)).trans w_l
    have w_G : upd H23 a5 (.lst ((ts.drop 1).map V.int ++ [.int v])) _ = _ := (upd_ne (ne_of_none w_G h_a5)).trans w_G
    have w_a2 : upd H23 a5 (.lst ((ts.drop 1).map V.int ++ [.int v])) _ = _ := (upd_ne (ne_of_none w_a2 h_a5)).trans w_a2
    have w_a3 : upd H23 a5 (.lst ((ts.drop 1).map V.int ++ [.int v])) _ = _ := (upd_ne (ne_of_none w_a3 h_a5)).trans w_a3
    have w_a4 : upd H23 a5 (.lst ((ts.drop 1).map V.int ++ [.int v])) _ = _ := (upd_ne (ne_of_none w_a4 h_a5)).trans w_a4
    have w_a5 : upd H23 a5 (.lst ((ts.drop 1).map V.int ++ [.int v])) a5 = some (.lst ((ts.drop 1).map V.int ++ [.int v])) := upd_same
    generalize upd H23 a5 (.lst ((ts.drop 1).map V.int ++ [.int v])) = H24 at s k w_l w_G w_a2 w_a3 w_a4 w_a5
    refine ⟨_, rfl, (by show 1 ≤ sizeLine; decide), fun a6 h_a6 => ?_⟩
    have n_a6 := s.ne_of h_a6
    have s := s.new (o := .lst [.int (1 + r)]) h_a6
    have k := k.new (o := .lst [.int (1 + r)]) h_a6
    have w_l : upd H24 a6 (.lst [.int (1 + r)]) _ = _ := (upd_ne (ne_of_none w_l h_a6)).trans w_l
    have w_G : upd H24 a6 (.lst [.int (1 + r)]) _ = _ := (upd_ne (ne_of_none w_G h_a6)).trans w_G
    have w_a2 : upd H24 a6 (.lst [.int (1 + r)]) _ = _ := (upd_ne (ne_of_none w_a2 h_a6)).trans w_a2
    have w_a5 : upd H24 a6 (.lst [.int (1 + r)]) _ = _ := (upd_ne (ne_of_none w_a5 h_a6)).trans w_a5
    have w_a6 : upd H24 a6 (.lst [.int (1 + r)]) a6 = some (.lst [.int (1 + r)]) := upd_same
    generalize upd H24 a6 (.lst [.int (1 + r)]) = H25 at s k w_l w_G w_a2 w_a5 w_a6
    refine ⟨_, rfl, _, rfl, _, _, rfl, SqL.of w_G, fun a7 h_a7 => ?_⟩
    rw [cut1]
    have n_a7 := s.ne_of h_a7
    have s := s.new (o := .lst ((ts.drop 1).map V.int)) h_a7
    have k := k.new (o := .lst ((ts.drop 1).map V.int)) h_a7
    have w_l : upd H25 a7 (.lst ((ts.drop 1).map V.int)) _ = _ := (upd_ne (ne_of_none w_l h_a7)).trans w_l
    have w_G : upd H25 a7 (.lst ((ts.drop 1).map V.int)) _ = _ := (upd_ne (ne_of_none w_G h_a7)).trans w_G
    have w_a2 : upd H25 a7 (.lst ((ts.drop 1).map V.int)) _ = _ := (upd_ne (ne_of_none w_a2 h_a7)).trans w_a2
    have w_a5 : upd H25 a7 (.lst ((ts.drop 1).map V.int)) _ = _ := (upd_ne (ne_of_none w_a5 h_a7)).trans w_a5
    have w_a6 : upd H25 a7 (.lst ((ts.drop 1).map V.int)) _ = _ := (upd_ne (ne_of_none w_a6 h_a7)).trans w_a6
    have w_a7 : upd H25 a7 (.lst ((ts.drop 1).map V.int)) a7 = some (.lst ((ts.drop 1).map V.int)) := upd_same
    generalize upd H25 a7 (.lst ((ts.drop 1).map V.int)) = H26 at s k w_l w_G w_a2 w_a5 w_a6 w_a7
    refine ⟨_, _, _, _, rfl, rfl, w_a6, w_a7, small_le (m := 64) (by simp; omega), fun a8 h_a8 => ?_⟩
    have n_a8 := s.ne_of h_a8
    have s := s.new (o := .lst ([.int (1 + r)] ++ (ts.drop 1).map V.int)) h_a8
    have k := k.new (o := .lst ([.int (1 + r)] ++ (ts.drop 1).map V.int)) h_a8
    have w_l : upd H26 a8 (.lst ([.int (1 + r)] ++ (ts.drop 1).map V.int)) _ = _ := (upd_ne (ne_of_none w_l h_a8)).trans w_l
    have w_G : upd H26 a8 (.lst ([.int (1 + r)] ++ (ts.drop 1).map V.int)) _ = _ := (upd_ne (ne_of_none w_G h_a8)).trans w_G
    have w_a2 : upd H26 a8 (.lst ([.int (1 + r)] ++ (ts.drop 1).map V.int)) _ = _ := (upd_ne (ne_of_none w_a2 h_a8)).trans w_a2
    have w_a5 : upd H26 a8 (.lst ([.int (1 + r)] ++ (ts.drop 1).map V.int)) _ = _ := (upd_ne (ne_of_none w_a5 h_a8)).trans w_a5
    have w_a6 : upd H26 a8 (.lst ([.int (1 + r)] ++ (ts.drop 1).map V.int)) _ = _ := (upd_ne (ne_of_none w_a6 h_a8)).trans w_a6
    have w_a7 : upd H26 a8 (.lst ([.int (1 + r)] ++ (ts.drop 1).map V.int)) _ = _ := (upd_ne (ne_of_none w_a7 h_a8)).trans w_a7
    have w_a8 : upd H26 a8 (.lst ([.int (1 + r)] ++ (ts.drop 1).map V.int)) a8 = some (.lst ([.int (1 + r)] ++ (ts.drop 1).map V.int)) := upd_same
    generalize upd H26 a8 (.lst ([.int (1 + r)] ++ (ts.drop 1).map V.int)) = H27 at s k w_l w_G w_a2 w_a5 w_a6 w_a7 w_a8
    refine ⟨(by show 3 ≤ sizeLine; decide), fun a9 h_a9 => ?_⟩
    have n_a9 := s.ne_of h_a9
    have s := s.new (o := .lst [.ref a2, .ref a5, .ref a8]) h_a9
    have k := k.new (o := .lst [.ref a2, .ref a5, .ref a8]) h_a9
    have w_l : upd H27 a9 (.lst [.ref a2, .ref a5, .ref a8]) _ = _ := (upd_ne (ne_of_none w_l h_a9)).trans w_l
    have w_G : upd H27 a9 (.lst [.ref a2, .ref a5, .ref a8]) _ = _ := (upd_ne (ne_of_none w_G h_a9)).trans w_G
    have w_a2 : upd H27 a9 (.lst [.ref a2, .ref a5, .ref a8]) _ = _ := (upd_ne (ne_of_none w_a2 h_a9)).trans w_a2
    have w_a5 : upd H27 a9 (.lst [.ref a2, .ref a5, .ref a8]) _ = _ := (upd_ne (ne_of_none w_a5 h_a9)).trans w_a5
    have w_a8 : upd H27 a9 (.lst [.ref a2, .ref a5, .ref a8]) _ = _ := (upd_ne (ne_of_none w_a8 h_a9)).trans w_a8
    have w_a9 : upd H27 a9 (.lst [.ref a2, .ref a5, .ref a8]) a9 = some (.lst [.ref a2, .ref a5, .ref a8]) := upd_same
    generalize upd H27 a9 (.lst [.ref a2, .ref a5, .ref a8]) = H28 at s k w_l w_G w_a2 w_a5 w_a8 w_a9
    refine ⟨_, rfl, st, a, ns, 3, rfl, s, by decide, by decide, fun u3 ie me ce u30 u31 de => ?_⟩
    have s := s.drawn de
    have k := k.atSt (o := StO a ie me ce)
    have w_l : upd H28 st (StO a ie me ce) _ = _ := (upd_ne n_l).trans w_l
    have w_G : upd H28 st (StO a ie me ce) _ = _ := (upd_ne n_G).trans w_G
    have w_a2 : upd H28 st (StO a ie me ce) _ = _ := (upd_ne n_a2).trans w_a2
    have w_a5 : upd H28 st (StO a ie me ce) _ = _ := (upd_ne n_a5).trans w_a5
    have w_a8 : upd H28 st (StO a ie me ce) _ = _ := (upd_ne n_a8).trans w_a8
    have w_a9 : upd H28 st (StO a ie me ce) _ = _ := (upd_ne n_a9).trans w_a9
    generalize upd H28 st (StO a ie me ce) = H29 at s k w_l w_G w_a2 w_a5 w_a8 w_a9
    have hat : ∃ (od : Addr) (os : List Int), atI [V.ref a2, V.ref a5, V.ref a8] u3 = some (.ref od) ∧ H29 od = some (.lst (os.map V.int)) ∧ os.length ≤ 16 := by
      rcases pick3 u30 u31 with z | z | z <;> subst z
      · exact ⟨a2, ts ++ [0], rfl, by rw [w_a2, List.map_append]; rfl, by simp; omega⟩
      · exact ⟨a5, ts.drop 1 ++ [v], rfl, by rw [w_a5, List.map_append]; rfl, by simp; omega⟩
      · exact ⟨a8, (1 + r) :: ts.drop 1, rfl, w_a8, by simp; omega⟩
    obtain ⟨od, os, hod, w_od, hol⟩ := hat
    refine ⟨_, _, _, _, rfl, rfl, SqL.of w_a9, hod, ?_⟩
    have e := e.keepAll hstm k
    have t := sB.tabs t k
    have holen : (os.map V.int).length = os.length := List.length_map _
    have hodS : SqL K H29 od (os.map V.int) := SqL.of w_od
    refine ⟨_, rfl, _, _, rfl, .inl (SqL.of w_od), _, rfl, _, _, rfl, .inl (SqL.of w_l), rfl, _, rfl, ?_⟩
    by_cases hlt : os.length = sh.length
    · refine iteFe (neqF (congrArg V.int (by rw [hslen, holen, hlt]))) ?_
      refine ⟨_, rfl, od, rfl, ⟨_, hodS⟩, fun D3 hD3 => lc_list (K := K) (a := od) (xs := os.map V.int) (fun i H' => Same H29 H' ∧ H' D3 = some (.lst (((os.take i).filter (fun z => !inC (1 + r) z)).map V.int))) ⟨Same.upd hD3, upd_same⟩ (fun i H' _ h => h.1.seq hodS) ?_ ?_⟩
      · rintro i x H' hi ⟨e5, hd⟩
        obtain ⟨z, hz, rfl⟩ := getV hi
        have len : (((os.take i).filter (fun z => !inC (1 + r) z)).map V.int).length < sizeLine := small_of (m := 10000) (by rw [List.length_map]; exact filt_len (by omega))
        have keepIt : inC (1 + r) z = true → Same H29 H' ∧ H' D3 = some (.lst (((os.take (i + 1)).filter (fun z => !inC (1 + r) z)).map V.int)) := fun c => ⟨e5, by rw [hd, filt_snoc hz, if_pos c, List.append_nil]⟩
        have addIt : inC (1 + r) z = false → Same H29 (upd H' D3 (.lst ((((os.take i).filter (fun z => !inC (1 + r) z)).map V.int) ++ [V.int z]))) ∧ (upd H' D3 (.lst ((((os.take i).filter (fun z => !inC (1 + r) z)).map V.int) ++ [V.int z]))) D3 = some (.lst (((os.take (i + 1)).filter (fun z => !inC (1 + r) z)).map V.int)) := fun c => ⟨e5.mut hD3, by rw [upd_same, filt_snoc hz, if_neg (by rw [c]; simp), List.map_append]; rfl⟩
        refine ⟨rfl, _, rfl, _, _, rfl, rfl, _, rfl, ?_⟩
        by_cases z0 : 0 ≤ z
        · refine iteTe (decide_eq_true z0) ⟨_, rfl, _, _, rfl, rfl, _, rfl, ?_⟩
          by_cases z1 : z < 1 + r
          · exact iteFe (c := !decide (z < 1 + r)) (by rw [decide_eq_true z1]; rfl) (keepIt (inC_iff.mpr ⟨z0, z1⟩))
          · exact iteTe (c := !decide (z < 1 + r)) (by rw [decide_eq_false z1]; rfl) ⟨_, rfl, _, hd, len, addIt (by unfold inC; rw [decide_eq_false z1, Bool.and_false])⟩
        · exact iteFe (decide_eq_false z0) ⟨_, rfl, iteT ⟨_, rfl, _, hd, len, addIt (by unfold inC; rw [decide_eq_false z0, Bool.false_and])⟩⟩
      rintro Hx ⟨ex, hdx⟩
      rw [holen, List.take_length] at hdx
      refine ⟨Nat.zero_le _, fun q hq => ⟨_, _, dp_ints (SqL.of (by rw [upd_ne (ne_of_none hdx hq)]; exact hdx)), dp_nil (SqL.of upd_same), dI_shaped _, dI_shaped _, _, rfl, ?_⟩⟩
      rw [dI_eqv]
      have ec := ex.new (o := .lst []) hq
      generalize upd Hx q (.lst []) = Hc at ec
      by_cases c : os.filter (fun z => !inC (1 + r) z) = []
      · refine iteFe (by rw [decide_eq_true c]; rfl) ?_
        exact ⟨⟨_, _, _, _, _, _, _, _, _, _, _, _, _, _, _, _, _, _, _, rfl⟩, s.same ec, e.trans ec, tabs_same t ec⟩
      · refine iteTe (by rw [decide_eq_false c]; rfl) ?_
        have nb : ¬ GoodBg (1 + r) sh os := fun z => c (filt_nil.mpr fun x hx => inC_iff.mpr (z.2 x hx))
        have sC := s.same ec
        have eC := e.trans ec
        have tC := tabs_same t ec
        have w_od := ec _ _ w_od
        have w_l := ec _ _ w_l
        refine ⟨tC, fun H8 eN tN => ?_⟩
        have s8 := sC.extN hSm hstm eC eN
        have e8 := extN_same eC eN
        have w_od := eN _ _ w_od fun _ z => nomatch z
        have w_l := eN _ _ w_l fun _ z => nomatch z
        refine ⟨_, rfl, _, rfl, _, rfl, Or.inl ⟨1 + r, l, od, sh, os, rfl, SqL.of w_l, SqL.of w_od, b0, b1, hsh, hl, by omega, fun g => absurd g nb, fun _ H9 e9 => ⟨"BadBegins", 3, rfl, rfl, eBB, fun Ha ea => ?_⟩⟩⟩
        have e8a := e9.trans ea
        exact ⟨rfl, _, rfl, iteFe (neqF rfl) ⟨⟨_, _, _, _, _, _, _, _, _, _, _, _, _, _, _, _, _, _, _, rfl⟩, s8.same e8a, e8.trans e8a, tabs_same tN e8a⟩⟩
    · refine iteTe (by rw [decide_eq_false fun z => hlt (by have := V.int.inj z; rw [hslen, holen] at this; omega)]; rfl) (iteT ?_)
      have nb : ¬ GoodBg (1 + r) sh os := fun z => hlt z.1
      have ec : Same H29 H29 := Same.refl _
      have sC := s.same ec
      have eC := e.trans ec
      have tC := tabs_same t ec
      have w_od := ec _ _ w_od
      have w_l := ec _ _ w_l
      refine ⟨tC, fun H8 eN tN => ?_⟩
      have s8 := sC.extN hSm hstm eC eN
      have e8 := extN_same eC eN
      have w_od := eN _ _ w_od fun _ z => nomatch z
      have w_l := eN _ _ w_l fun _ z => nomatch z
      refine ⟨_, rfl, _, rfl, _, rfl, Or.inl ⟨1 + r, l, od, sh, os, rfl, SqL.of w_l, SqL.of w_od, b0, b1, hsh, hl, by omega, fun g => absurd g nb, fun _ H9 e9 => ⟨"BadBegins", 3, rfl, rfl, eBB, fun Ha ea => ?_⟩⟩⟩
      have e8a := e9.trans ea
      exact ⟨rfl, _, rfl, iteFe (neqF rfl) ⟨⟨_, _, _, _, _, _, _, _, _, _, _, _, _, _, _, _, _, _, _, rfl⟩, s8.same e8a, e8.trans e8a, tabs_same tN e8a⟩⟩
end
end My

namespace My
open PySem PySem.Spec PyProof.Rows LamX L2
def dd_law_start : He.DefD := ⟨("_law_start", none), "_law_start", "_law_start", defArgs s_law_start, defBody s_law_start, defScope s_law_start, [], []⟩
def dd_law_drawn : He.DefD := ⟨("_law_drawn", none), "_law_drawn", "_law_drawn", defArgs s_law_drawn, defBody s_law_drawn, defScope s_law_drawn, [], []⟩
def dd_law_kind : He.DefD := ⟨("_law_kind", none), "_law_kind", "_law_kind", defArgs s_law_kind, defBody s_law_kind, defScope s_law_kind, [], []⟩
def dd_need_beats : He.DefD := ⟨("need_beats", none), "need_beats", "need_beats", defArgs s_need_beats, defBody s_need_beats, defScope s_need_beats, [], []⟩
def dd_need_shares : He.DefD := ⟨("need_shares", none), "need_shares", "need_shares", defArgs s_need_shares, defBody s_need_shares, defScope s_need_shares, [], []⟩
def dd_peak_of : He.DefD := ⟨("peak_of", none), "peak_of", "peak_of", defArgs s_peak_of, defBody s_peak_of, defScope s_peak_of, [], []⟩
def dd_peak : He.DefD := ⟨("peak", none), "peak", "peak", defArgs s_peak, defBody s_peak, defScope s_peak, [], []⟩
def dd_law_shares : He.DefD := ⟨("_law_shares", none), "_law_shares", "_law_shares", defArgs s_law_shares, defBody s_law_shares, defScope s_law_shares, [], []⟩
def dd_law_far : He.DefD := ⟨("_law_far", none), "_law_far", "_law_far", defArgs s_law_far, defBody s_law_far, defScope s_law_far, [], []⟩
def dd_all_turns : He.DefD := ⟨("all_turns", none), "all_turns", "all_turns", defArgs s_all_turns, defBody s_all_turns, defScope s_all_turns, [], []⟩
def dd_most_on : He.DefD := ⟨("most_on", none), "most_on", "most_on", defArgs s_most_on, defBody s_most_on, defScope s_most_on, [], []⟩
def dd_blocks : He.DefD := ⟨("blocks", none), "blocks", "blocks", defArgs s_blocks, defBody s_blocks, defScope s_blocks, [], []⟩
def dd_sums : He.DefD := ⟨("sums", none), "sums", "sums", defArgs s_sums, defBody s_sums, defScope s_sums, [], []⟩
def dd_turned : He.DefD := ⟨("turned", none), "turned", "turned", defArgs s_turned, defBody s_turned, defScope s_turned, [], []⟩
def dd_law_sums : He.DefD := ⟨("_law_sums", none), "_law_sums", "_law_sums", defArgs s_law_sums, defBody s_law_sums, defScope s_law_sums, [], []⟩
def dd_law_bad : He.DefD := ⟨("_law_bad", none), "_law_bad", "_law_bad", defArgs s_law_bad, defBody s_law_bad, defScope s_law_bad, [], []⟩
def dd_law_same : He.DefD := ⟨("_law_same", none), "_law_same", "_law_same", defArgs s_law_same, defBody s_law_same, defScope s_law_same, [], []⟩
def dd_law_works : He.DefD := ⟨("_law_works", none), "_law_works", "_law_works", defArgs s_law_works, defBody s_law_works, defScope s_law_works, [], []⟩
def dd_law : He.DefD := ⟨("law", none), "law", "law", defArgs s_law, defBody s_law, defScope s_law, [], []⟩
def hfn : List He.DefD := [dd_law_start, dd_law_drawn, dd_law_kind, dd_need_beats, dd_need_shares, dd_peak_of, dd_peak, dd_law_shares, dd_law_far, dd_all_turns, dd_most_on, dd_blocks, dd_sums, dd_turned, dd_law_sums, dd_law_bad, dd_law_same, dd_law_works, dd_law]
def hfa : List He.Fa := [.glo "_law_start", .glo "_law_drawn", .glo "_law_kind", .glo "need_beats", .glo "need_shares", .glo "peak_of", .glo "peak", .glo "_law_shares", .glo "_law_far", .glo "all_turns", .glo "most_on", .glo "blocks", .glo "sums", .glo "turned", .glo "_law_sums", .glo "_law_bad", .glo "_law_same", .glo "_law_works", .glo "law", .glo "BadBegins", .glo "BadFrame", .glo "BadRuns", .glo "BadShare", .glo "BadText", .glo "BadWidth", .glo "NoRoom", .glo "PulseError", .exc "BadBegins", .exc "BadShare", .exc "NoRoom", .exm "BadShare" "PulseError" true, .exm "BadBegins" "PulseError" true, .exm "NoRoom" "PulseError" true, .int "FEW_BEATS" 12, .int "FEW_SHARES" 3, .int "MOST_BEATS" 64, .int "MOST_SHARES" 12, .free "ValueError", .free "bool", .free "int", .free "isinstance", .free "len", .free "list", .free "max", .free "min", .free "range", .free "str", .free "sum", .free "tuple", .free "zip"]
def exL (K : PySem.W.Frag) : List Bool := [decide (PySem.W.specialIn K (.builtin "object.__class__") "__get__" = some (some (.builtin "getset_descriptor.__get__"))),
  decide (PySem.W.takesIn K (.builtin "object.__class__") = some true),
  decide (PySem.W.findIn K (.ref (He.ga K "BadShare")) "__getattribute__" = some (some (.builtin "BaseException.__getattribute__"))),
  decide (PySem.W.findIn K (.ref (He.ga K "BadShare")) "__getattr__" = some none),
  decide (PySem.W.subIn K (.ref (He.ga K "BadShare")) (.type "BaseException") = some true),
  PySem.W.hasDictIn K (He.ga K "BadShare"),
  decide (PySem.W.findIn K (.ref (He.ga K "BadShare")) "__class__" = some (some (.builtin "object.__class__"))),
  decide (PySem.W.mroIn K (He.ga K "BadShare") (.type "object") = some true),
  decide (PySem.W.kitOne K (.ref (He.ga K "BadShare")) (.ref (He.ga K "BadFrame")) = some (decide (1 = 0))),
  decide (PySem.W.kitOne K (.ref (He.ga K "BadShare")) (.ref (He.ga K "BadShare")) = some (decide (1 = 1))),
  decide (PySem.W.kitOne K (.ref (He.ga K "BadShare")) (.ref (He.ga K "BadWidth")) = some (decide (1 = 2))),
  decide (PySem.W.kitOne K (.ref (He.ga K "BadShare")) (.ref (He.ga K "BadBegins")) = some (decide (1 = 3))),
  decide (PySem.W.kitOne K (.ref (He.ga K "BadShare")) (.ref (He.ga K "BadRuns")) = some (decide (1 = 4))),
  decide (PySem.W.kitOne K (.ref (He.ga K "BadShare")) (.ref (He.ga K "NoRoom")) = some (decide (1 = 5))),
  decide (PySem.W.kitOne K (.ref (He.ga K "BadShare")) (.ref (He.ga K "BadText")) = some (decide (1 = 6))),
  decide (PySem.W.kitOne K (.ref (He.ga K "BadShare")) (.type "ValueError") = some true),
  decide (PySem.W.findIn K (.ref (He.ga K "BadBegins")) "__getattribute__" = some (some (.builtin "BaseException.__getattribute__"))),
  decide (PySem.W.findIn K (.ref (He.ga K "BadBegins")) "__getattr__" = some none),
  decide (PySem.W.subIn K (.ref (He.ga K "BadBegins")) (.type "BaseException") = some true),
  PySem.W.hasDictIn K (He.ga K "BadBegins"),
  decide (PySem.W.findIn K (.ref (He.ga K "BadBegins")) "__class__" = some (some (.builtin "object.__class__"))),
  decide (PySem.W.mroIn K (He.ga K "BadBegins") (.type "object") = some true),
  decide (PySem.W.kitOne K (.ref (He.ga K "BadBegins")) (.ref (He.ga K "BadFrame")) = some (decide (3 = 0))),
  decide (PySem.W.kitOne K (.ref (He.ga K "BadBegins")) (.ref (He.ga K "BadShare")) = some (decide (3 = 1))),
  decide (PySem.W.kitOne K (.ref (He.ga K "BadBegins")) (.ref (He.ga K "BadWidth")) = some (decide (3 = 2))),
  decide (PySem.W.kitOne K (.ref (He.ga K "BadBegins")) (.ref (He.ga K "BadBegins")) = some (decide (3 = 3))),
  decide (PySem.W.kitOne K (.ref (He.ga K "BadBegins")) (.ref (He.ga K "BadRuns")) = some (decide (3 = 4))),
  decide (PySem.W.kitOne K (.ref (He.ga K "BadBegins")) (.ref (He.ga K "NoRoom")) = some (decide (3 = 5))),
  decide (PySem.W.kitOne K (.ref (He.ga K "BadBegins")) (.ref (He.ga K "BadText")) = some (decide (3 = 6))),
  decide (PySem.W.kitOne K (.ref (He.ga K "BadBegins")) (.type "ValueError") = some true),
  decide (PySem.W.findIn K (.ref (He.ga K "NoRoom")) "__getattribute__" = some (some (.builtin "BaseException.__getattribute__"))),
  decide (PySem.W.findIn K (.ref (He.ga K "NoRoom")) "__getattr__" = some none),
  decide (PySem.W.subIn K (.ref (He.ga K "NoRoom")) (.type "BaseException") = some true),
  PySem.W.hasDictIn K (He.ga K "NoRoom"),
  decide (PySem.W.findIn K (.ref (He.ga K "NoRoom")) "__class__" = some (some (.builtin "object.__class__"))),
  decide (PySem.W.mroIn K (He.ga K "NoRoom") (.type "object") = some true),
  decide (PySem.W.kitOne K (.ref (He.ga K "NoRoom")) (.ref (He.ga K "BadFrame")) = some (decide (5 = 0))),
  decide (PySem.W.kitOne K (.ref (He.ga K "NoRoom")) (.ref (He.ga K "BadShare")) = some (decide (5 = 1))),
  decide (PySem.W.kitOne K (.ref (He.ga K "NoRoom")) (.ref (He.ga K "BadWidth")) = some (decide (5 = 2))),
  decide (PySem.W.kitOne K (.ref (He.ga K "NoRoom")) (.ref (He.ga K "BadBegins")) = some (decide (5 = 3))),
  decide (PySem.W.kitOne K (.ref (He.ga K "NoRoom")) (.ref (He.ga K "BadRuns")) = some (decide (5 = 4))),
  decide (PySem.W.kitOne K (.ref (He.ga K "NoRoom")) (.ref (He.ga K "NoRoom")) = some (decide (5 = 5))),
  decide (PySem.W.kitOne K (.ref (He.ga K "NoRoom")) (.ref (He.ga K "BadText")) = some (decide (5 = 6))),
  decide (PySem.W.kitOne K (.ref (He.ga K "NoRoom")) (.type "ValueError") = some true),
  decide ((He.cT K ("_law_works", none)).2 ≠ (He.cT K ("law", none)).2)]
def hex (K : PySem.W.Frag) : Bool := (exL K).all id
theorem hex_at {K : PySem.W.Frag} (h : hex K = true) (i : Nat) {b : Bool} (e : (exL K)[i]? = some b := by rfl) : b = true := List.all_eq_true.mp h b (List.mem_of_getElem? e)
abbrev hR : PySem.W.OpenRow := PySem.W.OpenLaw.row PySem.Challenge.rw_pulseshare_k09_blocks_and_sums
abbrev hkk : PySem.W.Hook := He.hookX 4 hfa hfn [] [("_law_works", none), ("law", none)] hex
def hob (s : PySem.W.SharedT) : He.AlX := He.obsX 4 hfa hfn [] [("_law_works", none), ("law", none)] hex (HandSHeadRun.getT s)
theorem hob_eq (s : PySem.W.SharedT) : hob s = hkk.obs s.abs := He.obsX_eq (HandSHeadRun.getT_eq s)
theorem hrun (w : World) : HandSHeadRun.RunEq hR (PySem.W.view hR.prog [35]) hkk hob 4000 [("PulseError" : Str), ("BadFrame" : Str), ("BadShare" : Str), ("BadWidth" : Str), ("BadBegins" : Str), ("BadRuns" : Str), ("NoRoom" : Str), ("BadText" : Str), ("MOST_BEATS" : Str), ("need_beats" : Str), ("even_frame" : Str), ("MOST_SHARES" : Str), ("FEW_BEATS" : Str), ("FEW_SHARES" : Str), ("need_shares" : Str), ("peak_of" : Str), ("peak" : Str), ("blocks" : Str), ("sums" : Str), ("all_turns" : Str), ("most_on" : Str), ("turned" : Str), ("_law_start" : Str), ("_law_drawn" : Str), ("_law_same" : Str), ("_law_kind" : Str), ("_law_far" : Str), ("_law_shares" : Str), ("_law_sums" : Str), ("_law_bad" : Str), ("_law_works" : Str)] w := by
  intro os
  kernel_rfl
theorem fun_of_D {K : PySem.W.Frag} {x q : Str} {st : Stmt} {f : Addr} {fd : FuncData} (F : FunD K x q (defArgs st) (defBody st) (defScope st) [] [] f fd) : Fun K x q st f fd := by
  obtain ⟨oc, od, dV, kV, doc, pm, an, cdv, ct, osl, e, lk, hcd, hD, hK⟩ := F.ex
  rcases hD with ⟨_, e2⟩ | ⟨e2, _⟩
  · subst e2
    exact ⟨⟨oc, od, kV, doc, pm, an, cdv, ct, osl, e, lk, hcd⟩, F.kp⟩
  · exact absurd rfl e2
theorem facts {l : PySem.W.OpenLaw} {w : World} {K : PySem.W.Frag} {h : Heap} {mg : Str → Option Value} {fa : Addr} (KX : K.In h) (G : h.Ns mainGlobals mg) (hmg : mg ("law" : Str) = some (.ref fa)) (c : He.SaysX hfa hfn [] [("_law_works", none), ("law", none)] hex w h K) : LawAtS l w K CX0 8 63 "_law_script" mg fa h := by
  obtain ⟨fd_law_start, FD_law_start⟩ := c.t.d.def_ 0 (d := dd_law_start) rfl
  have G_law_start : FunG K mg "_law_start" s_law_start (He.ga K "_law_start") fd_law_start ["_law_script"] := ⟨fun_of_D FD_law_start, He.glo_ok KX G (c.t.d.fact 0 (f := .glo "_law_start") rfl), FunD.bindsN (ps := ["_law_script"]) FD_law_start fun _ _ _ _ _ _ us hl => match us, hl with | [_], _ => rfl⟩
  obtain ⟨fd_law_drawn, FD_law_drawn⟩ := c.t.d.def_ 1 (d := dd_law_drawn) rfl
  have G_law_drawn : FunG K mg "_law_drawn" s_law_drawn (He.ga K "_law_drawn") fd_law_drawn ["_law_state", "_law_many"] := ⟨fun_of_D FD_law_drawn, He.glo_ok KX G (c.t.d.fact 1 (f := .glo "_law_drawn") rfl), FunD.bindsN (ps := ["_law_state", "_law_many"]) FD_law_drawn fun _ _ _ _ _ _ us hl => match us, hl with | [_, _], _ => rfl⟩
  obtain ⟨fd_law_kind, FD_law_kind⟩ := c.t.d.def_ 2 (d := dd_law_kind) rfl
  have G_law_kind : FunG K mg "_law_kind" s_law_kind (He.ga K "_law_kind") fd_law_kind ["_law_work"] := ⟨fun_of_D FD_law_kind, He.glo_ok KX G (c.t.d.fact 2 (f := .glo "_law_kind") rfl), FunD.bindsN (ps := ["_law_work"]) FD_law_kind fun _ _ _ _ _ _ us hl => match us, hl with | [_], _ => rfl⟩
  obtain ⟨fd_need_beats, FD_need_beats⟩ := c.t.d.def_ 3 (d := dd_need_beats) rfl
  have G_need_beats : FunG K mg "need_beats" s_need_beats (He.ga K "need_beats") fd_need_beats ["beats"] := ⟨fun_of_D FD_need_beats, He.glo_ok KX G (c.t.d.fact 3 (f := .glo "need_beats") rfl), FunD.bindsN (ps := ["beats"]) FD_need_beats fun _ _ _ _ _ _ us hl => match us, hl with | [_], _ => rfl⟩
  obtain ⟨fd_need_shares, FD_need_shares⟩ := c.t.d.def_ 4 (d := dd_need_shares) rfl
  have G_need_shares : FunG K mg "need_shares" s_need_shares (He.ga K "need_shares") fd_need_shares ["beats", "shares"] := ⟨fun_of_D FD_need_shares, He.glo_ok KX G (c.t.d.fact 4 (f := .glo "need_shares") rfl), FunD.bindsN (ps := ["beats", "shares"]) FD_need_shares fun _ _ _ _ _ _ us hl => match us, hl with | [_, _], _ => rfl⟩
  obtain ⟨fd_peak_of, FD_peak_of⟩ := c.t.d.def_ 5 (d := dd_peak_of) rfl
  have G_peak_of : FunG K mg "peak_of" s_peak_of (He.ga K "peak_of") fd_peak_of ["beats", "shares"] := ⟨fun_of_D FD_peak_of, He.glo_ok KX G (c.t.d.fact 5 (f := .glo "peak_of") rfl), FunD.bindsN (ps := ["beats", "shares"]) FD_peak_of fun _ _ _ _ _ _ us hl => match us, hl with | [_, _], _ => rfl⟩
  obtain ⟨fd_peak, FD_peak⟩ := c.t.d.def_ 6 (d := dd_peak) rfl
  have G_peak : FunG K mg "peak" s_peak (He.ga K "peak") fd_peak ["beats", "shares"] := ⟨fun_of_D FD_peak, He.glo_ok KX G (c.t.d.fact 6 (f := .glo "peak") rfl), FunD.bindsN (ps := ["beats", "shares"]) FD_peak fun _ _ _ _ _ _ us hl => match us, hl with | [_, _], _ => rfl⟩
  obtain ⟨fd_law_shares, FD_law_shares⟩ := c.t.d.def_ 7 (d := dd_law_shares) rfl
  have G_law_shares : FunG K mg "_law_shares" s_law_shares (He.ga K "_law_shares") fd_law_shares ["_law_state", "_law_beats", "_law_most"] := ⟨fun_of_D FD_law_shares, He.glo_ok KX G (c.t.d.fact 7 (f := .glo "_law_shares") rfl), FunD.bindsN (ps := ["_law_state", "_law_beats", "_law_most"]) FD_law_shares fun _ _ _ _ _ _ us hl => match us, hl with | [_, _, _], _ => rfl⟩
  obtain ⟨fd_law_far, FD_law_far⟩ := c.t.d.def_ 8 (d := dd_law_far) rfl
  have G_law_far : FunG K mg "_law_far" s_law_far (He.ga K "_law_far") fd_law_far ["_law_state", "_law_least", "_law_most"] := ⟨fun_of_D FD_law_far, He.glo_ok KX G (c.t.d.fact 8 (f := .glo "_law_far") rfl), FunD.bindsN (ps := ["_law_state", "_law_least", "_law_most"]) FD_law_far fun _ _ _ _ _ _ us hl => match us, hl with | [_, _, _], _ => rfl⟩
  obtain ⟨fd_all_turns, FD_all_turns⟩ := c.t.d.def_ 9 (d := dd_all_turns) rfl
  have G_all_turns : FunG K mg "all_turns" s_all_turns (He.ga K "all_turns") fd_all_turns ["beats", "many"] := ⟨fun_of_D FD_all_turns, He.glo_ok KX G (c.t.d.fact 9 (f := .glo "all_turns") rfl), FunD.bindsN (ps := ["beats", "many"]) FD_all_turns fun _ _ _ _ _ _ us hl => match us, hl with | [_, _], _ => rfl⟩
  obtain ⟨fd_most_on, FD_most_on⟩ := c.t.d.def_ 10 (d := dd_most_on) rfl
  have G_most_on : FunG K mg "most_on" s_most_on (He.ga K "most_on") fd_most_on ["beats", "shares", "turns"] := ⟨fun_of_D FD_most_on, He.glo_ok KX G (c.t.d.fact 10 (f := .glo "most_on") rfl), FunD.bindsN (ps := ["beats", "shares", "turns"]) FD_most_on fun _ _ _ _ _ _ us hl => match us, hl with | [_, _, _], _ => rfl⟩
  obtain ⟨fd_blocks, FD_blocks⟩ := c.t.d.def_ 11 (d := dd_blocks) rfl
  have G_blocks : FunG K mg "blocks" s_blocks (He.ga K "blocks") fd_blocks ["beats", "shares", "bound"] := ⟨fun_of_D FD_blocks, He.glo_ok KX G (c.t.d.fact 11 (f := .glo "blocks") rfl), FunD.bindsN (ps := ["beats", "shares", "bound"]) FD_blocks fun _ _ _ _ _ _ us hl => match us, hl with | [_, _, _], _ => rfl⟩
  obtain ⟨fd_sums, FD_sums⟩ := c.t.d.def_ 12 (d := dd_sums) rfl
  have G_sums : FunG K mg "sums" s_sums (He.ga K "sums") fd_sums ["beats", "shares", "begins"] := ⟨fun_of_D FD_sums, He.glo_ok KX G (c.t.d.fact 12 (f := .glo "sums") rfl), FunD.bindsN (ps := ["beats", "shares", "begins"]) FD_sums fun _ _ _ _ _ _ us hl => match us, hl with | [_, _, _], _ => rfl⟩
  obtain ⟨fd_turned, FD_turned⟩ := c.t.d.def_ 13 (d := dd_turned) rfl
  have G_turned : FunG K mg "turned" s_turned (He.ga K "turned") fd_turned ["beats", "shares"] := ⟨fun_of_D FD_turned, He.glo_ok KX G (c.t.d.fact 13 (f := .glo "turned") rfl), FunD.bindsN (ps := ["beats", "shares"]) FD_turned fun _ _ _ _ _ _ us hl => match us, hl with | [_, _], _ => rfl⟩
  obtain ⟨fd_law_sums, FD_law_sums⟩ := c.t.d.def_ 14 (d := dd_law_sums) rfl
  have G_law_sums : FunG K mg "_law_sums" s_law_sums (He.ga K "_law_sums") fd_law_sums ["_law_beats", "_law_shares_here", "_law_begins"] := ⟨fun_of_D FD_law_sums, He.glo_ok KX G (c.t.d.fact 14 (f := .glo "_law_sums") rfl), FunD.bindsN (ps := ["_law_beats", "_law_shares_here", "_law_begins"]) FD_law_sums fun _ _ _ _ _ _ us hl => match us, hl with | [_, _, _], _ => rfl⟩
  obtain ⟨fd_law_bad, FD_law_bad⟩ := c.t.d.def_ 15 (d := dd_law_bad) rfl
  have G_law_bad : FunG K mg "_law_bad" s_law_bad (He.ga K "_law_bad") fd_law_bad ["_law_state", "_law_beats", "_law_shares_here"] := ⟨fun_of_D FD_law_bad, He.glo_ok KX G (c.t.d.fact 15 (f := .glo "_law_bad") rfl), FunD.bindsN (ps := ["_law_state", "_law_beats", "_law_shares_here"]) FD_law_bad fun _ _ _ _ _ _ us hl => match us, hl with | [_, _, _], _ => rfl⟩
  obtain ⟨fd_law_same, FD_law_same⟩ := c.t.d.def_ 16 (d := dd_law_same) rfl
  have G_law_same : FunG K mg "_law_same" s_law_same (He.ga K "_law_same") fd_law_same ["_law_found", "_law_due"] := ⟨fun_of_D FD_law_same, He.glo_ok KX G (c.t.d.fact 16 (f := .glo "_law_same") rfl), FunD.bindsN (ps := ["_law_found", "_law_due"]) FD_law_same fun _ _ _ _ _ _ us hl => match us, hl with | [_, _], _ => rfl⟩
  obtain ⟨fd_law_works, FD_law_works⟩ := c.t.d.def_ 17 (d := dd_law_works) rfl
  have G_law_works : FunG K mg "_law_works" s_law_works (He.ga K "_law_works") fd_law_works ["_law_beats", "_law_bad_here", "_law_shares_here", "_law_none"] := ⟨fun_of_D FD_law_works, He.glo_ok KX G (c.t.d.fact 17 (f := .glo "_law_works") rfl), FunD.bindsN (ps := ["_law_beats", "_law_bad_here", "_law_shares_here", "_law_none"]) FD_law_works fun _ _ _ _ _ _ us hl => match us, hl with | [_, _, _, _], _ => rfl⟩
  obtain ⟨fd_law, FD_law⟩ := c.t.d.def_ 18 (d := dd_law) rfl
  have e := hmg.symm.trans (He.glo_ok KX G (c.t.d.fact 18 (f := .glo "law") rfl))
  cases e
  have bA := FunD.bindsA (ps := ["_law_script"]) FD_law fun _ _ _ _ _ _ us hl => match us, hl with | [_], _ => rfl
  obtain ⟨oc, od, kV, doc, pm, an, cdv, ct, osl, rfl, lk, hcd⟩ := (fun_of_D (st := s_law) FD_law).ex
  obtain ⟨c0, rfl⟩ := He.codeIn_ref hcd
  obtain ⟨oc_law_works, od_law_works, kV_law_works, doc_law_works, pm_law_works, an_law_works, cdv_law_works, ct_law_works, osl_law_works, rfl, lk_law_works, hcd_law_works⟩ := G_law_works.fn.ex
  obtain ⟨c_law_works_, rfl⟩ := He.codeIn_ref hcd_law_works
  have ec0 : He.codeOf K ("_law_works", none) = c_law_works_ := He.codeOf_eq lk_law_works rfl
  have x1_0 := c.hd ("_law_works", none) (by simp)
  have x2_0 := c.out ("_law_works", none) (by simp)
  have x3_0 := c.empty ("_law_works", none) (by simp)
  have ec1 : He.codeOf K ("law", none) = c0 := He.codeOf_eq lk rfl
  have x1_1 := c.hd ("law", none) (by simp)
  have x2_1 := c.out ("law", none) (by simp)
  have x3_1 := c.empty ("law", none) (by simp)
  have ne_0_1 := of_decide_eq_true (hex_at c.more 44)
  unfold He.cT at x1_0 x2_0 x3_0 x1_1 x2_1 x3_1 ne_0_1
  rw [ec0] at x1_0 x2_0 x3_0 ne_0_1
  rw [ec1] at x1_1 x2_1 x3_1 ne_0_1
  dsimp only at x1_0 x2_0 x3_0 x1_1 x2_1 x3_1 ne_0_1
  generalize He.tabOf K c_law_works_ = P_law_works at x1_0 x2_0 x3_0 ne_0_1
  generalize He.tabOf K c0 = Pt at x1_1 x2_1 x3_1 ne_0_1
  have e_BadShare : ErrK K "BadShare" 1 := ⟨⟨of_decide_eq_true (hex_at c.more 2), of_decide_eq_true (hex_at c.more 3), of_decide_eq_true (hex_at c.more 4), hex_at c.more 5, of_decide_eq_true (hex_at c.more 6), of_decide_eq_true (hex_at c.more 0), of_decide_eq_true (hex_at c.more 1), of_decide_eq_true (hex_at c.more 7)⟩, He.exm_ok (c.t.d.fact 30 (f := .exm "BadShare" "PulseError" true) rfl), of_decide_eq_true (hex_at c.more 8), of_decide_eq_true (hex_at c.more 9), of_decide_eq_true (hex_at c.more 10), of_decide_eq_true (hex_at c.more 11), of_decide_eq_true (hex_at c.more 12), of_decide_eq_true (hex_at c.more 13), of_decide_eq_true (hex_at c.more 14), of_decide_eq_true (hex_at c.more 15), by decide, rfl⟩
  have e_BadBegins : ErrK K "BadBegins" 3 := ⟨⟨of_decide_eq_true (hex_at c.more 16), of_decide_eq_true (hex_at c.more 17), of_decide_eq_true (hex_at c.more 18), hex_at c.more 19, of_decide_eq_true (hex_at c.more 20), of_decide_eq_true (hex_at c.more 0), of_decide_eq_true (hex_at c.more 1), of_decide_eq_true (hex_at c.more 21)⟩, He.exm_ok (c.t.d.fact 31 (f := .exm "BadBegins" "PulseError" true) rfl), of_decide_eq_true (hex_at c.more 22), of_decide_eq_true (hex_at c.more 23), of_decide_eq_true (hex_at c.more 24), of_decide_eq_true (hex_at c.more 25), of_decide_eq_true (hex_at c.more 26), of_decide_eq_true (hex_at c.more 27), of_decide_eq_true (hex_at c.more 28), of_decide_eq_true (hex_at c.more 29), by decide, rfl⟩
  have e_NoRoom : ErrK K "NoRoom" 5 := ⟨⟨of_decide_eq_true (hex_at c.more 30), of_decide_eq_true (hex_at c.more 31), of_decide_eq_true (hex_at c.more 32), hex_at c.more 33, of_decide_eq_true (hex_at c.more 34), of_decide_eq_true (hex_at c.more 0), of_decide_eq_true (hex_at c.more 1), of_decide_eq_true (hex_at c.more 35)⟩, He.exm_ok (c.t.d.fact 32 (f := .exm "NoRoom" "PulseError" true) rfl), of_decide_eq_true (hex_at c.more 36), of_decide_eq_true (hex_at c.more 37), of_decide_eq_true (hex_at c.more 38), of_decide_eq_true (hex_at c.more 39), of_decide_eq_true (hex_at c.more 40), of_decide_eq_true (hex_at c.more 41), of_decide_eq_true (hex_at c.more 42), of_decide_eq_true (hex_at c.more 43), by decide, rfl⟩
  have T : Txt K mg := ⟨He.glo_ok KX G (c.t.d.fact 19 (f := .glo "BadBegins") rfl),
    ⟨He.glo_ok KX G (c.t.d.fact 19 (f := .glo "BadBegins") rfl), (He.exc_ok (c.t.d.fact 27 (f := .exc "BadBegins") rfl)).1, (He.exc_ok (c.t.d.fact 27 (f := .exc "BadBegins") rfl)).2.1, (He.exc_ok (c.t.d.fact 27 (f := .exc "BadBegins") rfl)).2.2.1, (He.exc_ok (c.t.d.fact 27 (f := .exc "BadBegins") rfl)).2.2.2⟩,
    He.glo_ok KX G (c.t.d.fact 20 (f := .glo "BadFrame") rfl),
    He.glo_ok KX G (c.t.d.fact 21 (f := .glo "BadRuns") rfl),
    He.glo_ok KX G (c.t.d.fact 22 (f := .glo "BadShare") rfl),
    ⟨He.glo_ok KX G (c.t.d.fact 22 (f := .glo "BadShare") rfl), (He.exc_ok (c.t.d.fact 28 (f := .exc "BadShare") rfl)).1, (He.exc_ok (c.t.d.fact 28 (f := .exc "BadShare") rfl)).2.1, (He.exc_ok (c.t.d.fact 28 (f := .exc "BadShare") rfl)).2.2.1, (He.exc_ok (c.t.d.fact 28 (f := .exc "BadShare") rfl)).2.2.2⟩,
    He.glo_ok KX G (c.t.d.fact 23 (f := .glo "BadText") rfl),
    He.glo_ok KX G (c.t.d.fact 24 (f := .glo "BadWidth") rfl),
    (by obtain ⟨t, e⟩ := He.int_ok KX G (c.t.d.fact 33 (f := .int "FEW_BEATS" 12) rfl); exact ⟨_, e, t, rfl⟩),
    (by obtain ⟨t, e⟩ := He.int_ok KX G (c.t.d.fact 34 (f := .int "FEW_SHARES" 3) rfl); exact ⟨_, e, t, rfl⟩),
    (by obtain ⟨t, e⟩ := He.int_ok KX G (c.t.d.fact 35 (f := .int "MOST_BEATS" 64) rfl); exact ⟨_, e, t, rfl⟩),
    (by obtain ⟨t, e⟩ := He.int_ok KX G (c.t.d.fact 36 (f := .int "MOST_SHARES" 12) rfl); exact ⟨_, e, t, rfl⟩),
    He.glo_ok KX G (c.t.d.fact 25 (f := .glo "NoRoom") rfl),
    ⟨He.glo_ok KX G (c.t.d.fact 25 (f := .glo "NoRoom") rfl), (He.exc_ok (c.t.d.fact 29 (f := .exc "NoRoom") rfl)).1, (He.exc_ok (c.t.d.fact 29 (f := .exc "NoRoom") rfl)).2.1, (He.exc_ok (c.t.d.fact 29 (f := .exc "NoRoom") rfl)).2.2.1, (He.exc_ok (c.t.d.fact 29 (f := .exc "NoRoom") rfl)).2.2.2⟩,
    He.glo_ok KX G (c.t.d.fact 26 (f := .glo "PulseError") rfl),
    He.free_ok KX G (c.t.d.fact 37 (f := .free "ValueError") rfl),
    He.free_ok KX G (c.t.d.fact 38 (f := .free "bool") rfl),
    He.free_ok KX G (c.t.d.fact 39 (f := .free "int") rfl),
    He.free_ok KX G (c.t.d.fact 40 (f := .free "isinstance") rfl),
    He.free_ok KX G (c.t.d.fact 41 (f := .free "len") rfl),
    He.free_ok KX G (c.t.d.fact 42 (f := .free "list") rfl),
    He.free_ok KX G (c.t.d.fact 43 (f := .free "max") rfl),
    He.free_ok KX G (c.t.d.fact 44 (f := .free "min") rfl),
    He.free_ok KX G (c.t.d.fact 45 (f := .free "range") rfl),
    He.free_ok KX G (c.t.d.fact 46 (f := .free "str") rfl),
    He.free_ok KX G (c.t.d.fact 47 (f := .free "sum") rfl),
    He.free_ok KX G (c.t.d.fact 48 (f := .free "tuple") rfl),
    He.free_ok KX G (c.t.d.fact 49 (f := .free "zip") rfl)⟩
  refine ⟨_, [(c_law_works_, P_law_works), (c0, Pt)], spLaw K P_law_works Pt, fun p hp => ?_, fun p hp => ?_, fun p hp => ?_, fun s v => bA s [v] rfl, fun H a ns hl _ hT hS => ⟨a, ns, rfl, hS, hl, hT (c_law_works_, P_law_works) (by simp), hT (c0, Pt) (by simp), fun _ => rfl⟩, fun base KB GB TBs => ?_⟩
  · simp only [List.mem_cons, List.not_mem_nil, or_false] at hp
    rcases hp with rfl | rfl
    · exact x3_0
    · exact x3_1
  · simp only [List.mem_cons, List.not_mem_nil, or_false] at hp
    rcases hp with rfl | rfl
    · exact x2_0
    · exact x2_1
  · simp only [List.mem_cons, List.not_mem_nil, or_false] at hp
    rcases hp with rfl | rfl
    · exact PySem.W.codeHd_of_K KX x1_0
    · exact PySem.W.codeHd_of_K KX x1_1
  · have TB_0 := TBs (c_law_works_, P_law_works) (by simp)
    have TB_1 := TBs (c0, Pt) (by simp)
    have c_law_start := G_law_start.clX (ok_law_start (P := l.prog) (w := w) (base := base) G_law_start )
    have c_law_drawn := G_law_drawn.clX (ok_law_drawn (P := l.prog) (w := w) (base := base) G_law_drawn T)
    have c_need_beats := G_need_beats.clX (ok_need_beats (P := l.prog) (w := w) (base := base) G_need_beats T)
    have c_need_shares := G_need_shares.clX (ok_need_shares (P := l.prog) (w := w) (base := base) G_need_shares T c_need_beats)
    have c_peak_of := G_peak_of.clX (ok_peak_of (P := l.prog) (w := w) (base := base) G_peak_of T)
    have c_peak := G_peak.clX (ok_peak (P := l.prog) (w := w) (base := base) G_peak c_need_shares c_peak_of)
    have c_law_shares := G_law_shares.clX (ok_law_shares (P := l.prog) (w := w) (base := base) G_law_shares T c_law_drawn)
    have c_law_far := G_law_far.clX (ok_law_far (P := l.prog) (w := w) (base := base) G_law_far c_law_drawn)
    have c_all_turns := G_all_turns.clX (ok_all_turns (P := l.prog) (w := w) (base := base) G_all_turns )
    have c_most_on := G_most_on.clX (ok_most_on (P := l.prog) (w := w) (base := base) G_most_on )
    have c_blocks := G_blocks.clX (ok_blocks (P := l.prog) (w := w) (base := base) G_blocks T c_need_shares c_peak_of)
    have c_sums := G_sums.clX (ok_sums (P := l.prog) (w := w) (base := base) G_sums T c_need_shares)
    have c_turned := G_turned.clX (ok_turned (P := l.prog) (w := w) (base := base) G_turned T c_need_shares c_all_turns c_most_on)
    have c_law_sums := G_law_sums.clX (ok_law_sums (P := l.prog) (w := w) (base := base) G_law_sums T)
    have c_law_bad := G_law_bad.clX (ok_law_bad (P := l.prog) (w := w) (base := base) G_law_bad T c_law_drawn c_law_far)
    have c_law_same := G_law_same.clX (ok_law_same (P := l.prog) (w := w) (base := base) G_law_same T 2)
    have c_law_works := G_law_works.clX (ok_law_works (P := l.prog) (w := w) (base := base) lk_law_works hcd_law_works (TL := [(P_law_works, lamQn "_law_works"), (Pt, lamQn "law")]) (by simp) (fun p hp e => by simp only [List.mem_cons, List.not_mem_nil, or_false] at hp; rcases hp with rfl | rfl <;> first | exact absurd e ne_0_1.symm | exact rfl) TB_0 T c_peak c_blocks c_sums c_turned)
    exact ok_law (P := l.prog) (w := w) (base := base) lk hcd T TB_1 G_law_kind (TL := [(P_law_works, lamQn "_law_works"), (Pt, lamQn "law")]) rfl (by show (Pt, lamQn "law") ∈ _; simp) (fun p hp e => by simp only [List.mem_cons, List.not_mem_nil, or_false] at hp; rcases hp with rfl | rfl <;> first | exact absurd e ne_0_1 | exact rfl) c_law_start c_law_drawn c_law_shares c_law_far c_peak c_blocks c_sums c_law_same c_law_sums c_law_bad c_law_works e_BadShare e_BadBegins e_NoRoom
end My
open PySem PySem.W PySem.Calls PyProof.Rows
theorem PySem.Challenge.cw_pulseshare_k09_blocks_and_sums_holds : PySem.Challenge.rw_pulseshare_k09_blocks_and_sums.Holds := by
  w_on; o_law
  refine HandSHeadRun.head_any (r := OpenLaw.row PySem.Challenge.rw_pulseshare_k09_blocks_and_sums) (q := view (OpenLaw.row PySem.Challenge.rw_pulseshare_k09_blocks_and_sums).prog [35]) (H := My.hkk) (ob := My.hob) (M := 4000) (loose := [("PulseError" : Str), ("BadFrame" : Str), ("BadShare" : Str), ("BadWidth" : Str), ("BadBegins" : Str), ("BadRuns" : Str), ("NoRoom" : Str), ("BadText" : Str), ("MOST_BEATS" : Str), ("need_beats" : Str), ("even_frame" : Str), ("MOST_SHARES" : Str), ("FEW_BEATS" : Str), ("FEW_SHARES" : Str), ("need_shares" : Str), ("peak_of" : Str), ("peak" : Str), ("blocks" : Str), ("sums" : Str), ("all_turns" : Str), ("most_on" : Str), ("turned" : Str), ("_law_start" : Str), ("_law_drawn" : Str), ("_law_same" : Str), ("_law_kind" : Str), ("_law_far" : Str), ("_law_shares" : Str), ("_law_sums" : Str), ("_law_bad" : Str), ("_law_works" : Str)]) (d := HandSHeadRun.topDef (OpenLaw.row PySem.Challenge.rw_pulseshare_k09_blocks_and_sums).prog 35) (kwd := []) My.hob_eq
    (by kernel_rfl) (fun s => by kernel_rfl) My.hrun (by kernel_rfl) (by kernel_rfl) (by kernel_rfl) (by rfl) (by first | assumption | decide +kernel) (by decide +kernel) ⟨rfl, rfl, rfl, rfl, rfl, by decide +kernel⟩ ?hw ?hc
  case hw => w_witness2
  case hc =>
    refine LamX.walk_ofTsE (l := PySem.Challenge.rw_pulseshare_k09_blocks_and_sums) (n := 63) (k := 8) (x := "_law_script") (CX := fun _ => L2.CX0) rfl (by decide) (by kernel_rfl) ⟨rfl, by decide, by decide⟩ ?F (fun _ _ _ _ _ z => z)
    intro w mg fa h Y G hmg0
    obtain ⟨K, KX, c⟩ := Y
    have hmg : mg ("law" : PySem.Str) = some (.ref fa) := by
      have e : (HandSHeadRun.topDef (OpenLaw.row PySem.Challenge.rw_pulseshare_k09_blocks_and_sums).prog 35).name = ("law" : PySem.Str) := by kernel_rfl
      rw [← e]
      exact hmg0
    exact ⟨K, KX, My.facts KX G hmg c⟩
