import PyProof.Rows.All
import Wide.All
import OpenK.AllK
import Wide.FinOn
import HandS.ForMost
import HandS.Wide
import HandS.WideBits
import HandS.IsInst
import HandS.Codes
import KE.KStateDown
import HandS.ExcIs
import HandS.WordsExc
import HandS.Defaults
import HandS.Head0
import HandS.Head1
import HandS.Head2
import HandS.HeadEnd
import HandS.HeadHook1
import HandS.HeadHook2
import HandS.HeadHook3
import HandS.HeadHook4
import HandS.HeadWalk
import HandS.EndTab
import HandS.Lambda
import HandS.Nested
import HandS.Text
import PySem.Challenge.RW_pulseshare_k01_frames_and_shares_refused
set_option Elab.async false
set_option linter.all false
set_option maxRecDepth 100000
set_option maxHeartbeats 4000000
namespace My
open PySem PySem.Spec PyProof.Rows LamX L2
def top (i : Nat) : Stmt := PySem.Challenge.pw_pulseshare_k01_frames_and_shares_refused.main.body.getD i (.Pass ⟨0, 0, 0, 0⟩)
/-! ### calls in short -/
/-- a def of the text, where it stands, and how its arguments bind -/
structure FunG (K : PySem.W.Frag) (mg : Str → Option Value) (x : Str) (st : Stmt) (f : Addr) (fd : FuncData) (ps : List Str) : Prop where
  fn : Fun K x x st f fd
  mgf : mg x = some (.ref f)
  b : Binds K fd ps []
/-- a def that may be called by its name -/
structure Cl (P : Program) (w : World) (K : PySem.W.Frag) (mg : Str → Option Value) (base : Heap) (CX : CXT) (k : Nat) (x : Str) (sp : Sp) : Prop where
  ex : ∃ (f : Addr) (fd : FuncData) (ps : List Str), FnOk P w K mg base CX k f fd ps sp ∧ mg x = some (.ref f) ∧ PySem.W.keepIn K (.ref f) = true ∧ Binds K fd ps []
theorem FunG.cl {P : Program} {w : World} {K : PySem.W.Frag} {mg : Str → Option Value} {base : Heap} {CX : CXT} {k : Nat} {x : Str} {st : Stmt} {f : Addr} {fd : FuncData} {ps : List Str} {sp : Sp} (F : FunG K mg x st f fd ps) (h : FnOk P w K mg base CX k f fd ps sp) :
    Cl P w K mg base CX k x sp := ⟨f, fd, ps, h, F.mgf, F.fn.kp, F.b⟩
section
variable {X : Cx} {k j : Nat} {x : Str} {p pos : Pos} {e : Expr} {es : List Expr} {t : TA} {sp : Sp}
theorem pe_cl (c : Cl X.prog X.w X.K X.mg X.base CX0 k x sp) (hr : Room j X.A) (hk : k ≤ j) (hg : Gl X x) (ha : PA X (e :: es) t)
    (hdb : (x == ("__debug__" : Str)) = false := by decide) (he : starEach (e :: es) X.env = (false, eval e X.env) :: starEach es X.env := by rfl) (hpl : (backTo pos (starEach es X.env)).any (·.1) = false := by rfl) :
    PE X (.Call (.Name x p) (e :: es) [] pos) (tCall sp [] E0 t) := by
  obtain ⟨f, fd, ps, F, hm, kp, b⟩ := c.ex
  exact pe_call F (hr.mono hk) hg hm kp b .nil pass0 ha hdb he hpl
end
/-! ### words -/
theorem iteFe {c : Bool} {A B : Prop} (h : c = false) (k : B) : if c = true then A else B := by
  subst h; exact iteF k
theorem iteTe {c : Bool} {A B : Prop} (h : c = true) (k : A) : if c = true then A else B := by
  subst h; exact iteT k
theorem iteJoin {c : Bool} {A B R : Prop} (hA : c = true → R → A) (hB : c = false → R → B) (r : R) : if c = true then A else B := by
  cases c with
  | true => exact iteT (hA rfl r)
  | false => exact iteF (hB rfl r)
theorem neqF {x y : V} (h : x = y) : (!decide (x = y)) = false := by rw [decide_eq_true h]; rfl
/-! ### rules with the written part said (within a comprehension's block it can't be found by unification) -/
section
variable (K : PySem.W.Frag) {X : Cx}
theorem ixL (h : X.K = K := by rfl) : IxR X (rIxL K) := h ▸ ix_list
theorem ixT (h : X.K = K := by rfl) : IxR X (rIxT K) := h ▸ ix_tup
theorem ixQ (h : X.K = K := by rfl) : IxR X (rIx K) := h ▸ ix_seq
theorem slL (h : X.K = K := by rfl) : SlR X (rSlL K) := h ▸ sl_list
theorem opEqD (hu : X.A.units + 64 < cLine) (h : X.K = K := by rfl) : OpR X (compareOp .Eq) (rEqD K) := h ▸ op_eqD hu
theorem opNeD (hu : X.A.units + 64 < cLine) (h : X.K = K := by rfl) : OpR X (compareOp .NotEq) (rNeD K) := h ▸ op_neD hu
theorem opInQ (h : X.K = K := by rfl) : OpR X (compareOp .In) (rIn K false) := h ▸ op_in_seq
theorem opNotInQ (h : X.K = K := by rfl) : OpR X (compareOp .NotIn) (rIn K true) := h ▸ op_notIn_seq
theorem piListK {tg l : Expr} {tl : TE} (hl : PE X l tl) (h : X.K = K := by rfl) : PI X tg l (iList K tl) := h ▸ pi_list hl
theorem clLen (h : X.K = K := by rfl) : CallR X (.builtin "len") (fun xs H Q => ∃ p ys, xs = [.ref p] ∧ (SqL K H p ys ∨ SqT K H p ys) ∧ Q (.int ys.length) H) := h ▸ call_len_seq
theorem clList (h : X.K = K := by rfl) : CallR X (.type "list") (fun xs H Q => ∃ p ys, xs = [.ref p] ∧ (SqL K H p ys ∨ SqT K H p ys) ∧ ∀ l, H l = none → Q (.ref l) (upd H l (.lst ys))) := h ▸ call_list_of
theorem clSum (hc : X.calm = true) (h : X.K = K := by rfl) : CallR X (.builtin "sum") (rSum K) := h ▸ cr_sum hc
theorem clMax (hc : X.calm = true) (h : X.K = K := by rfl) : CallR X (.builtin "max") (rMax K) := h ▸ cr_max hc
theorem clMin (hc : X.calm = true) (h : X.K = K := by rfl) : CallR X (.builtin "min") (rMin K) := h ▸ cr_min hc
end
theorem units1 {n : Nat} (h : n + 64 < cLine) : n + 1 < cLine := by omega
/-! ### the drawing state -/
/-- [script, cells begun, mixed, left of a cell] -/
def StO (a : Addr) (i m c : Int) : HO := .lst [.ref a, .int i, .int m, .int c]
structure Drw (i m c : Int) : Prop where
  i0 : 0 ≤ i
  m0 : 0 ≤ m
  m1 : m < 2147483647
  c0 : 0 ≤ c
/-- all but the state is kept -/
def Keep (st : Addr) (H H' : Hp) : Prop := ∀ b o, b ≠ st → H b = some o → H' b = some o
/-- the state at st is good: its script is the list at a of the ints ns -/
structure SOk (K : PySem.W.Frag) (a : Addr) (ns : List Int) (st : Addr) (H : Hp) : Prop where
  len : ns.length ≤ 63
  sq : ∀ H', Keep st H H' → SqL K H' a (ns.map V.int)
  at_ : ∃ i m c, Drw i m c ∧ H st = some (StO a i m c)
section
variable {K : PySem.W.Frag} {a st p : Addr} {ns : List Int} {H H1 H2 : Hp} {o u : HO} {xs : List V}
theorem Keep.refl (st : Addr) (H : Hp) : Keep st H H := fun _ _ _ h => h
theorem Keep.trans (h : Keep st H H1) (h' : Keep st H1 H2) : Keep st H H2 := fun b o hb e => h' b o hb (h b o hb e)
theorem Keep.new (h : Keep st H H1) (hp : H1 p = none) : Keep st H (upd H1 p o) := fun b u hb e => by
  rw [upd_ne (ne_of_none (h b u hb e) hp)]; exact h b u hb e
theorem Keep.mut (h : Keep st H H1) (hp : H p = none) : Keep st H (upd H1 p o) := fun b u hb e => by
  rw [upd_ne (ne_of_none e hp)]; exact h b u hb e
theorem Keep.atSt (h : Keep st H H1) : Keep st H (upd H1 st o) := fun b u hb e => by
  rw [upd_ne hb]; exact h b u hb e
theorem Keep.free (h : Keep st H H1) (hp : p ≠ st) (e : H1 p = none) : H p = none := by
  cases q : H p with
  | none => rfl
  | some o => rw [h p o hp q] at e; cases e
theorem _root_.L2.Same.keep (h : Same H H1) : Keep st H H1 := fun b u _ e => h b u e
theorem _root_.L2.Same.new (h : Same H H1) (hp : H1 p = none) : Same H (upd H1 p o) := fun b u e => by
  rw [upd_ne (ne_of_none (h b u e) hp)]; exact h b u e
theorem _root_.L2.Same.mut (h : Same H H1) (hp : H p = none) : Same H (upd H1 p o) := fun b u e => by
  rw [upd_ne (ne_of_none e hp)]; exact h b u e
theorem _root_.L2.Same.upd (hp : H p = none) : Same H (upd H p o) := (Same.refl H).new hp
/-- the base heap, in which the state does not stand, is kept -/
theorem _root_.L2.Same.keepAll (h : Same H H1) (hst : H st = none) (k : Keep st H1 H2) : Same H H2 := fun b u e => k b u (ne_of_none e hst) (h b u e)
theorem SOk.now (s : SOk K a ns st H) : SqL K H a (ns.map V.int) := s.sq H (Keep.refl st H)
/-- a script that stood in H stands where all but the state is kept -/
theorem SOk.keep (s : SOk K a ns st H) (k : Keep st H H1) {i m c : Int} (d : Drw i m c) (h : H1 st = some (StO a i m c)) : SOk K a ns st H1 := ⟨s.len, fun H' k' => s.sq H' (k.trans k'), i, m, c, d, h⟩
theorem SOk.same (s : SOk K a ns st H) (k : Same H H1) : SOk K a ns st H1 := by
  obtain ⟨i, m, c, d, h⟩ := s.at_
  exact s.keep k.keep d (k _ _ h)
theorem SOk.new (s : SOk K a ns st H) (hp : H p = none) : SOk K a ns st (L2.upd H p o) := s.same (Same.upd hp)
/-- the state's making -/
theorem SOk.make (hl : ns.length ≤ 63) (hq : SqL K H a (ns.map V.int)) (hst : H st = none) {i m c : Int} (d : Drw i m c) : SOk K a ns st (L2.upd H st (StO a i m c)) :=
  ⟨hl, fun _ k' => ((Same.upd hst).keepAll hst k').seq hq, i, m, c, d, upd_same⟩
/-- a list that did not stand in the base heap H0 is changed -/
theorem SOk.mut {H0 : Hp} (s : SOk K a ns st H) (hq : SqL K H0 a (ns.map V.int)) (hst : H0 st = none) (k : Same H0 H) (hp : H0 p = none) (hps : p ≠ st) : SOk K a ns st (L2.upd H p o) := by
  obtain ⟨i, m, c, d, h⟩ := s.at_
  exact ⟨s.len, fun _ k' => ((k.mut hp).keepAll hst k').seq hq, i, m, c, d, by rw [upd_ne hps.symm]; exact h⟩
theorem SOk.ne_of (s : SOk K a ns st H) (hp : H p = none) : p ≠ st := by
  obtain ⟨i, m, c, d, h⟩ := s.at_
  exact (ne_of_none h hp).symm
/-- .. that did not stand in a heap with a good state -/
theorem SOk.mutK {H0 : Hp} (s : SOk K a ns st H) (s0 : SOk K a ns st H0) (k : Keep st H0 H) (hp : H0 p = none) : SOk K a ns st (L2.upd H p o) := by
  obtain ⟨i, m, c, d, h⟩ := s.at_
  have hps : p ≠ st := s0.ne_of hp
  exact ⟨s.len, fun H' k' => s0.sq H' ((k.mut hp).trans k'), i, m, c, d, by rw [upd_ne hps.symm]; exact h⟩
end
/-! ### lists of ints -/
theorem getV {ns : List Int} {i : Nat} {y : V} (h : (ns.map V.int)[i]? = some y) : ∃ z, ns[i]? = some z ∧ y = V.int z := by
  rw [List.getElem?_map] at h
  cases e : ns[i]? with
  | none => rw [e] at h; cases h
  | some z => rw [e] at h; exact ⟨z, rfl, (Option.some.inj h).symm⟩
theorem atV {ns : List Int} {z : Int} {j : Nat} (e : z = (j : Int)) (h : j < ns.length) : atI (ns.map V.int) z = some (V.int (ns.getD j 0)) := by
  refine at_of e ?_
  rw [List.getElem?_map, List.getElem?_eq_getElem h]
  simp [List.getD, List.getElem?_eq_getElem h]
theorem small_of {n m : Nat} (h : n ≤ m) (hm : m < 16000000 := by decide) : n < sizeLine := by rw [sizeLine_eq]; omega
theorem small_le {n m : Nat} (h : n ≤ m) (hm : m < 16000000 := by decide) : n ≤ sizeLine := by rw [sizeLine_eq]; omega
theorem nat_pow {z : Int} {n : Nat} (h0 : 0 ≤ z) (h1 : z < 2 ^ n) : z.natAbs < 2 ^ n := by
  have e : ((2 ^ n : Nat) : Int) = (2 : Int) ^ n := by simp
  omega
theorem pick3 {r : Int} (h0 : 0 ≤ r) (h1 : r < 3) : r = 0 ∨ r = 1 ∨ r = 2 := by omega
theorem pick4 {r : Int} (h0 : 0 ≤ r) (h1 : r < 4) : r = 0 ∨ r = 1 ∨ r = 2 ∨ r = 3 := by omega
theorem pick5 {r : Int} (h0 : 0 ≤ r) (h1 : r < 5) : r = 0 ∨ r = 1 ∨ r = 2 ∨ r = 3 ∨ r = 4 := by omega
/-! ### even frames -/
/-- beat k of the even frame of a share by a turn -/
def evB (b p t : Int) (k : Nat) : Int := ((k : Int) + 1 + t) * p / b - ((k : Int) + t) * p / b
def evL (b p t : Int) : List Int := (List.range b.toNat).map (evB b p t)
theorem evL_len (b p t : Int) : (evL b p t).length = b.toNat := by simp [evL]
/-- what is left beside wholes ahead of beat k -/
def evR (b p t : Int) (k : Nat) : Int := ((k : Int) + t) * p % b
theorem evR_range {b : Int} (hb : 0 < b) (p t : Int) (k : Nat) : 0 ≤ evR b p t k ∧ evR b p t k < b := ⟨Int.emod_nonneg _ (by omega), Int.emod_lt_of_pos _ hb⟩
theorem ev_step (b p t : Int) (k : Nat) : ((k : Int) + 1 + t) * p = ((k : Int) + t) * p + p := by
  rw [show (k : Int) + 1 + t = ((k : Int) + t) + 1 by omega, Int.add_mul, Int.one_mul]
/-- the beat by what is left -/
theorem evB_eq {b p : Int} (hb : 0 < b) (h0 : 0 ≤ p) (h1 : p ≤ b) (t : Int) (k : Nat) : evB b p t k = if b ≤ evR b p t k + p then 1 else 0 := by
  unfold evB evR
  rw [ev_step b]
  generalize ((k : Int) + t) * p = z
  have e := Int.mul_ediv_add_emod z b
  have r0 := Int.emod_nonneg z (show b ≠ 0 by omega)
  have r1 := Int.emod_lt_of_pos z hb
  have q : z + p = (z % b + p) + z / b * b := by rw [Int.mul_comm]; omega
  rw [q, Int.add_mul_ediv_right _ _ (show b ≠ 0 by omega)]
  by_cases c : b ≤ z % b + p
  · rw [if_pos c]
    have : (z % b + p) / b = 1 := by
      have e1 : z % b + p = (z % b + p - b) + 1 * b := by omega
      rw [e1, Int.add_mul_ediv_right _ _ (show b ≠ 0 by omega), Int.ediv_eq_zero_of_lt (by omega) (by omega)]
      omega
    omega
  · rw [if_neg c, Int.ediv_eq_zero_of_lt (by omega) (by omega)]
    omega
theorem evR_next {b p : Int} (hb : 0 < b) (h0 : 0 ≤ p) (h1 : p ≤ b) (t : Int) (k : Nat) : evR b p t (k + 1) = evR b p t k + p - b * evB b p t k := by
  rw [evB_eq hb h0 h1]
  unfold evR
  have e0 : (((k + 1 : Nat) : Int) + t) * p = ((k : Int) + t) * p + p := by
    have e1 : (((k + 1 : Nat) : Int) + t) = (k : Int) + 1 + t := by omega
    rw [e1, ev_step b]
  rw [e0]
  generalize ((k : Int) + t) * p = z
  have e := Int.mul_ediv_add_emod z b
  have r0 := Int.emod_nonneg z (show b ≠ 0 by omega)
  have r1 := Int.emod_lt_of_pos z hb
  have q : z + p = (z % b + p) + z / b * b := by rw [Int.mul_comm]; omega
  rw [q, Int.add_mul_emod_self_right]
  by_cases c : b ≤ z % b + p
  · rw [if_pos c]
    have e1 : z % b + p = (z % b + p - b) + 1 * b := by omega
    rw [e1, Int.add_mul_emod_self_right]
    by_cases c2 : z % b + p - b < b
    · rw [Int.emod_eq_of_lt (by omega) c2]; omega
    · omega
  · rw [if_neg c, Int.emod_eq_of_lt (by omega) (by omega)]; omega
theorem evB_01 {b p : Int} (hb : 0 < b) (h0 : 0 ≤ p) (h1 : p ≤ b) (t : Int) (k : Nat) : evB b p t k = 0 ∨ evB b p t k = 1 := by
  rw [evB_eq hb h0 h1]; split <;> simp
theorem evL_get {b p t : Int} {k : Nat} (h : k < b.toNat) : (evL b p t)[k]? = some (evB b p t k) := by
  unfold evL; simp [h]
theorem evL_take_sum (b p t : Int) : ∀ n : Nat, (((List.range n).map (evB b p t)).sum : Int) = ((n : Int) + t) * p / b - t * p / b
  | 0 => by simp
  | n + 1 => by
    rw [List.range_succ, List.map_append, List.sum_append, evL_take_sum b p t n]
    simp only [List.map_cons, List.map_nil, List.sum_cons, List.sum_nil, evB]
    have : (((n + 1 : Nat) : Int) + t) = (n : Int) + 1 + t := by omega
    rw [this]; omega
theorem evL_sum {b : Int} (hb : 0 < b) (p t : Int) : (evL b p t).sum = p := by
  unfold evL
  rw [evL_take_sum, Int.toNat_of_nonneg (by omega), Int.add_mul, Int.add_comm, Int.mul_comm b p, Int.add_mul_ediv_right _ _ (show b ≠ 0 by omega)]
  omega
/-! ### windows of frames -/
/-- beat k of a frame that goes round -/
def cyc (fs : List Int) (k : Nat) : Int := fs.getD (k % fs.length) 0
/-- the first k beats together, going round -/
def psum (fs : List Int) : Nat → Int
  | 0 => 0
  | k + 1 => psum fs k + cyc fs k
/-- how many are on in the window of w beats from k on -/
def win (fs : List Int) (w k : Nat) : Int := psum fs (k + w) - psum fs k
theorem cyc_add (fs : List Int) (k : Nat) : cyc fs (k + fs.length) = cyc fs k := by simp [cyc]
theorem cyc_lt {fs : List Int} {k : Nat} (h : k < fs.length) : cyc fs k = fs.getD k 0 := by simp [cyc, Nat.mod_eq_of_lt h]
theorem psum_take (fs : List Int) : ∀ k, k ≤ fs.length → psum fs k = (fs.take k).sum
  | 0, _ => by simp [psum]
  | k + 1, h => by
    have hk : k < fs.length := by omega
    rw [psum, psum_take fs k (by omega), cyc_lt hk, List.take_succ_eq_append_getElem hk, List.sum_append]
    simp [List.getD, List.getElem?_eq_getElem hk]
theorem psum_len (fs : List Int) : psum fs fs.length = fs.sum := by rw [psum_take fs _ (Nat.le_refl _), List.take_length]
theorem psum_add_len (fs : List Int) : ∀ k, psum fs (k + fs.length) = psum fs k + fs.sum
  | 0 => by rw [Nat.zero_add, psum_len]; simp [psum]
  | k + 1 => by
    rw [show k + 1 + fs.length = (k + fs.length) + 1 by omega, psum, psum_add_len fs k, cyc_add, psum]; omega
theorem psum_mul (fs : List Int) (r : Nat) : ∀ q : Nat, psum fs (q * fs.length + r) = fs.sum * q + psum fs r
  | 0 => by simp
  | q + 1 => by
    rw [show (q + 1) * fs.length + r = (q * fs.length + r) + fs.length by rw [Nat.add_mul]; omega, psum_add_len, psum_mul fs r q, Int.natCast_add, Int.mul_add]; simp; omega
theorem win_zero (fs : List Int) (w : Nat) : win fs w 0 = psum fs w := by simp [win, psum]
theorem win_next (fs : List Int) (w k : Nat) : win fs w (k + 1) = win fs w k - cyc fs k + cyc fs (k + w) := by
  unfold win
  rw [show k + 1 + w = (k + w) + 1 by omega, psum, psum]; omega
theorem win_first {fs : List Int} (w : Nat) : fs.sum * ((w / fs.length : Nat) : Int) + (fs.take (w % fs.length)).sum = win fs w 0 := by
  rw [win_zero]
  by_cases hn : fs.length = 0
  · have : fs = [] := List.eq_nil_of_length_eq_zero hn
    subst this
    have z : ∀ k, psum [] k = 0 := fun k => by
      induction k with
      | zero => rfl
      | succ k ih => rw [psum, ih]; simp [cyc]
    simp [z]
  · have e : w = (w / fs.length) * fs.length + w % fs.length := by rw [Nat.mul_comm]; exact (Nat.div_add_mod w fs.length).symm
    have hr : w % fs.length ≤ fs.length := Nat.le_of_lt (Nat.mod_lt _ (by omega))
    have h1 := psum_mul fs (w % fs.length) (w / fs.length)
    rw [← e] at h1
    rw [h1, psum_take fs _ hr]
theorem win_round (fs : List Int) (w k : Nat) : win fs w (k + fs.length) = win fs w k := by
  unfold win
  rw [show k + fs.length + w = (k + w) + fs.length by omega, psum_add_len, psum_add_len]; omega
theorem win_mod {fs : List Int} (w : Nat) : ∀ k, win fs w k = win fs w (k % fs.length) := by
  intro k
  have e := Nat.div_add_mod k fs.length
  have h : ∀ q r, win fs w (q * fs.length + r) = win fs w r := fun q r => by
    induction q with
    | zero => simp
    | succ q ih => rw [show (q + 1) * fs.length + r = (q * fs.length + r) + fs.length by rw [Nat.add_mul]; omega, win_round, ih]
  conv => lhs; rw [← e, Nat.mul_comm]
  exact h _ _
/-- all windows of a width -/
def wins (fs : List Int) (w : Nat) : List Int := (List.range fs.length).map (win fs w)
theorem wins_len (fs : List Int) (w : Nat) : (wins fs w).length = fs.length := by simp [wins]
theorem mem_wins {fs : List Int} {w : Nat} {x : Int} : x ∈ wins fs w ↔ ∃ k, k < fs.length ∧ win fs w k = x := by simp [wins]
theorem win_mem {fs : List Int} (h : 0 < fs.length) (w k : Nat) : win fs w k ∈ wins fs w := by
  rw [win_mod]
  exact mem_wins.mpr ⟨_, Nat.mod_lt _ h, rfl⟩
/-! sums over a round -/
def tsum (f : Nat → Int) (n : Nat) : Int := ((List.range n).map f).sum
theorem tsum_zero (f : Nat → Int) : tsum f 0 = 0 := rfl
theorem tsum_succ (f : Nat → Int) (n : Nat) : tsum f (n + 1) = tsum f n + f n := by
  unfold tsum; rw [List.range_succ, List.map_append, List.sum_append]; simp
theorem tsum_add (f g : Nat → Int) : ∀ n, tsum (fun k => f k + g k) n = tsum f n + tsum g n
  | 0 => rfl
  | n + 1 => by rw [tsum_succ, tsum_succ, tsum_succ, tsum_add f g n]; omega
theorem tsum_le {f g : Nat → Int} : ∀ n, (∀ k, k < n → f k ≤ g k) → tsum f n ≤ tsum g n
  | 0, _ => Int.le_refl _
  | n + 1, h => by
    rw [tsum_succ, tsum_succ]
    have := tsum_le n fun k hk => h k (by omega)
    have := h n (by omega)
    omega
theorem tsum_lt {f g : Nat → Int} : ∀ n, (∀ k, k < n → f k ≤ g k) → (∃ k, k < n ∧ f k < g k) → tsum f n < tsum g n
  | 0, _, ⟨k, hk, _⟩ => by omega
  | n + 1, h, ⟨k, hk, hl⟩ => by
    rw [tsum_succ, tsum_succ]
    have h1 := h n (by omega)
    by_cases e : k = n
    · subst e
      have := tsum_le k fun j hj => h j (by omega)
      omega
    · have := tsum_lt n (fun j hj => h j (by omega)) ⟨k, by omega, hl⟩
      omega
theorem tsum_const (c : Int) : ∀ n : Nat, tsum (fun _ => c) n = n * c
  | 0 => by simp [tsum_zero]
  | n + 1 => by rw [tsum_succ, tsum_const c n, Int.natCast_add, Int.add_mul]; simp
theorem tsum_congr {f g : Nat → Int} (n : Nat) (h : ∀ k, k < n → f k = g k) : tsum f n = tsum g n := by
  have h1 := tsum_le n fun k hk => Int.le_of_eq (h k hk)
  have h2 := tsum_le n fun k hk => Int.le_of_eq (h k hk).symm
  omega
theorem psum_tsum (fs : List Int) : ∀ k, psum fs k = tsum (cyc fs) k
  | 0 => rfl
  | k + 1 => by rw [psum, tsum_succ, psum_tsum fs k]
theorem tsum_shift (fs : List Int) : ∀ d, tsum (fun k => cyc fs (k + d)) fs.length = fs.sum := by
  intro d
  have h : ∀ n, tsum (fun k => cyc fs (k + d)) n = psum fs (n + d) - psum fs d := fun n => by
    induction n with
    | zero => simp [tsum_zero]
    | succ n ih => rw [tsum_succ, ih, show n + 1 + d = (n + d) + 1 by omega, psum]; omega
  rw [h, Nat.add_comm, psum_add_len]; omega
/-- all windows of a width together -/
theorem wins_sum (fs : List Int) : ∀ w : Nat, tsum (win fs w) fs.length = w * fs.sum
  | 0 => by
    have h : tsum (win fs 0) fs.length = tsum (fun _ => (0 : Int)) fs.length := tsum_congr _ fun k _ => by simp [win]
    rw [h, tsum_const]; simp
  | w + 1 => by
    have h : tsum (win fs (w + 1)) fs.length = tsum (fun k => win fs w k + cyc fs (k + w)) fs.length := tsum_congr _ fun k _ => by
      unfold win
      rw [show k + (w + 1) = (k + w) + 1 by omega, psum]; omega
    rw [h, tsum_add, wins_sum fs w, tsum_shift, Int.natCast_add, Int.add_mul]; simp
/-! ### spread -/
/-- windows of each width up to the beats are at most one apart -/
def Spread (fs : List Int) : Prop := ∀ w, 1 ≤ w → w ≤ fs.length → ∀ i j, i < fs.length → j < fs.length → win fs w i - win fs w j ≤ 1
theorem Spread.near {fs : List Int} (h : Spread fs) (h0 : 0 < fs.length) (w i : Nat) (hw : w ≤ fs.length) : (fs.length : Int) * win fs w i - w * fs.sum < fs.length ∧ -(fs.length : Int) < (fs.length : Int) * win fs w i - w * fs.sum := by
  rcases Nat.eq_zero_or_pos w with e | hw0
  · subst e
    have : win fs 0 i = 0 := by simp [win]
    rw [this]; simp; omega
  rw [win_mod]
  have hi : i % fs.length < fs.length := Nat.mod_lt _ h0
  generalize i % fs.length = k at hi
  have s := wins_sum fs w
  have up : tsum (win fs w) fs.length < tsum (fun _ => win fs w k + 1) fs.length := tsum_lt _ (fun j hj => by have := h w hw0 hw j k hj hi; omega) ⟨k, hi, by omega⟩
  have dn : tsum (fun _ => win fs w k - 1) fs.length < tsum (win fs w) fs.length := tsum_lt _ (fun j hj => by have := h w hw0 hw k j hi hj; omega) ⟨k, hi, by omega⟩
  rw [tsum_const] at up dn
  rw [s] at up dn
  rw [Int.mul_add] at up
  rw [Int.mul_sub] at dn
  constructor <;> omega
/-- the least, the greatest of finitely many -/
theorem exists_max (f : Nat → Int) : ∀ n, 0 < n → ∃ k, k < n ∧ ∀ j, j < n → f j ≤ f k
  | 1, _ => ⟨0, by omega, fun j hj => by have : j = 0 := by omega
                                         subst this; exact Int.le_refl _⟩
  | n + 2, _ => by
    obtain ⟨k, hk, h⟩ := exists_max f (n + 1) (by omega)
    by_cases c : f k ≤ f (n + 1)
    · refine ⟨n + 1, by omega, fun j hj => ?_⟩
      by_cases e : j = n + 1
      · subst e; exact Int.le_refl _
      · exact Int.le_trans (h j (by omega)) c
    · refine ⟨k, by omega, fun j hj => ?_⟩
      by_cases e : j = n + 1
      · subst e; omega
      · exact h j (by omega)
/-- a spread frame is an even one -/
theorem Spread.even {fs : List Int} (h : Spread fs) (h0 : 0 < fs.length) : ∃ t : Nat, t < fs.length ∧ evL (fs.length : Int) fs.sum (t : Int) = fs := by
  obtain ⟨k0, hk0, hmax⟩ := exists_max (fun k => (fs.length : Int) * psum fs k - k * fs.sum) fs.length h0
  -- the greatest lies less than the beats above any
  have key : ∀ k, (fs.length : Int) * psum fs k - k * fs.sum ≤ (fs.length : Int) * psum fs k0 - k0 * fs.sum ∧ (fs.length : Int) * psum fs k0 - k0 * fs.sum < (fs.length : Int) * psum fs k - k * fs.sum + fs.length := by
    have base : ∀ k, k < fs.length → (fs.length : Int) * psum fs k - k * fs.sum ≤ (fs.length : Int) * psum fs k0 - k0 * fs.sum ∧ (fs.length : Int) * psum fs k0 - k0 * fs.sum < (fs.length : Int) * psum fs k - k * fs.sum + fs.length := by
      intro k hk
      refine ⟨hmax k hk, ?_⟩
      by_cases c : k ≤ k0
      · obtain ⟨d, rfl⟩ : ∃ d, k0 = k + d := ⟨k0 - k, by omega⟩
        have n := (h.near h0 d k (by omega)).1
        unfold win at n
        rw [Int.mul_sub] at n
        rw [Int.natCast_add, Int.add_mul]
        omega
      · obtain ⟨d, rfl⟩ : ∃ d, k = k0 + d := ⟨k - k0, by omega⟩
        have n := (h.near h0 d k0 (by omega)).2
        unfold win at n
        rw [Int.mul_sub] at n
        rw [Int.natCast_add, Int.add_mul]
        omega
    intro k
    have e := Nat.div_add_mod k fs.length
    have hk := base (k % fs.length) (Nat.mod_lt _ h0)
    have h1 := psum_mul fs (k % fs.length) (k / fs.length)
    rw [Nat.mul_comm, ] at e
    rw [e] at h1
    have e2 : (k : Int) = (k / fs.length : Nat) * (fs.length : Int) + (k % fs.length : Nat) := by
      have := congrArg (fun z : Nat => (z : Int)) e
      simp only [Int.natCast_add, Int.natCast_mul] at this
      omega
    have e3 : (fs.length : Int) * psum fs k - k * fs.sum = (fs.length : Int) * psum fs (k % fs.length) - (k % fs.length : Nat) * fs.sum := by
      rw [h1]
      have : (k : Int) * fs.sum = (k / fs.length : Nat) * (fs.length : Int) * fs.sum + (k % fs.length : Nat) * fs.sum := by
        rw [← Int.add_mul]; congr 1
      rw [this, Int.mul_add, show (fs.length : Int) * (fs.sum * ((k / fs.length : Nat) : Int)) = ((k / fs.length : Nat) : Int) * (fs.length : Int) * fs.sum by
        rw [Int.mul_comm fs.sum, ← Int.mul_assoc, Int.mul_comm (fs.length : Int)]]
      omega
    rw [e3]; exact hk
  -- so the sums are floors
  have floor : ∀ k : Nat, psum fs k = ((k : Int) - k0) * fs.sum / fs.length + psum fs k0 := by
    intro k
    obtain ⟨a, b⟩ := key k
    have hn : (0 : Int) < fs.length := by omega
    have e : ((k : Int) - k0) * fs.sum = (fs.length : Int) * (psum fs k - psum fs k0) + (((fs.length : Int) * psum fs k0 - k0 * fs.sum) - ((fs.length : Int) * psum fs k - k * fs.sum)) := by
      rw [Int.sub_mul, Int.mul_sub]; omega
    rw [e, Int.add_comm ((fs.length : Int) * _), Int.add_mul_ediv_left _ _ (by omega), Int.ediv_eq_zero_of_lt (by omega) (by omega)]
    omega
  refine ⟨(fs.length - k0) % fs.length, Nat.mod_lt _ h0, ?_⟩
  -- the turn: less k0, going round
  have turn : ∀ k : Nat, evB (fs.length : Int) fs.sum (((fs.length - k0) % fs.length : Nat) : Int) k = evB (fs.length : Int) fs.sum (-(k0 : Int)) k := by
    intro k
    by_cases c : k0 = 0
    · subst c; simp
    · rw [Nat.mod_eq_of_lt (by omega)]
      have hn : (fs.length : Int) ≠ 0 := by omega
      unfold evB
      have e1 : ((k : Int) + 1 + ((fs.length - k0 : Nat) : Int)) * fs.sum = ((k : Int) + 1 + -(k0 : Int)) * fs.sum + fs.length * fs.sum := by
        rw [← Int.add_mul]; congr 1; omega
      have e2 : ((k : Int) + ((fs.length - k0 : Nat) : Int)) * fs.sum = ((k : Int) + -(k0 : Int)) * fs.sum + fs.length * fs.sum := by
        rw [← Int.add_mul]; congr 1; omega
      rw [e1, e2, Int.add_mul_ediv_left _ _ hn, Int.add_mul_ediv_left _ _ hn]
      omega
  apply List.ext_getElem
  · rw [evL_len]; simp
  · intro k h1 h2
    have hk : k < ((fs.length : Nat) : Int).toNat := by simpa [evL_len] using h1
    have g : (evL (fs.length : Int) fs.sum (((fs.length - k0) % fs.length : Nat) : Int))[k]? = some (evB (fs.length : Int) fs.sum (((fs.length - k0) % fs.length : Nat) : Int) k) := evL_get hk
    rw [List.getElem?_eq_getElem h1] at g
    rw [Option.some.inj g, turn]
    unfold evB
    have f1 := floor (k + 1)
    have f0 := floor k
    rw [psum, cyc_lt h2] at f1
    have e1 : ((k + 1 : Nat) : Int) - k0 = (k : Int) + 1 + -(k0 : Int) := by omega
    have e0 : (k : Int) - k0 = (k : Int) + -(k0 : Int) := by omega
    rw [e1] at f1
    rw [e0] at f0
    have : fs.getD k 0 = fs[k] := by simp [List.getD, List.getElem?_eq_getElem h2]
    omega
/-! ### windows of even frames -/
theorem evL_cyc {b p t : Int} (hb : 0 < b) (k : Nat) : cyc (evL b p t) k = evB b p t k := by
  have hl : (evL b p t).length = b.toNat := evL_len b p t
  have h0 : 0 < (evL b p t).length := by omega
  unfold cyc
  have g := evL_get (b := b) (p := p) (t := t) (k := k % (evL b p t).length) (by have := Nat.mod_lt k h0; omega)
  rw [List.getD, g, Option.getD_some]
  have e := Nat.div_add_mod k (evL b p t).length
  generalize k % (evL b p t).length = r at e
  generalize k / (evL b p t).length = q at e
  subst e
  unfold evB
  have e1 : (((evL b p t).length * q + r : Nat) : Int) = b * (q : Int) + (r : Int) := by rw [hl]; simp [Int.toNat_of_nonneg (Int.le_of_lt hb)]
  have e2 : ((b * (q : Int) + (r : Int)) + 1 + t) * p = ((r : Int) + 1 + t) * p + b * ((q : Int) * p) := by
    rw [show (b * (q : Int) + (r : Int)) + 1 + t = ((r : Int) + 1 + t) + b * (q : Int) by omega, Int.add_mul, Int.mul_assoc]
  have e3 : ((b * (q : Int) + (r : Int)) + t) * p = ((r : Int) + t) * p + b * ((q : Int) * p) := by
    rw [show (b * (q : Int) + (r : Int)) + t = ((r : Int) + t) + b * (q : Int) by omega, Int.add_mul, Int.mul_assoc]
  rw [e1, e2, e3, Int.add_mul_ediv_left _ _ (show b ≠ 0 by omega), Int.add_mul_ediv_left _ _ (show b ≠ 0 by omega)]
  omega
theorem evL_psum {b p t : Int} (hb : 0 < b) : ∀ k : Nat, psum (evL b p t) k = ((k : Int) + t) * p / b - t * p / b
  | 0 => by simp [psum]
  | k + 1 => by
    rw [psum, evL_psum hb k, evL_cyc hb, evB]
    have e1 : (((k + 1 : Nat) : Int) + t) = (k : Int) + 1 + t := by omega
    rw [e1]; omega
theorem evL_win {b p t : Int} (hb : 0 < b) (w k : Nat) : win (evL b p t) w k = (((k : Int) + t) * p + (w : Int) * p) / b - ((k : Int) + t) * p / b := by
  unfold win
  rw [evL_psum hb, evL_psum hb]
  have e : (((k + w : Nat) : Int) + t) * p = ((k : Int) + t) * p + (w : Int) * p := by
    rw [← Int.add_mul]; congr 1; omega
  rw [e]; omega
theorem div_part {x y b : Int} (hb : 0 < b) : y / b ≤ (x + y) / b - x / b ∧ (x + y) / b - x / b ≤ y / b + 1 := by
  have ex := Int.mul_ediv_add_emod x b
  have ey := Int.mul_ediv_add_emod y b
  have rx0 := Int.emod_nonneg x (show b ≠ 0 by omega)
  have rx1 := Int.emod_lt_of_pos x hb
  have ry0 := Int.emod_nonneg y (show b ≠ 0 by omega)
  have ry1 := Int.emod_lt_of_pos y hb
  have q : x + y = (x % b + y % b) + b * (x / b + y / b) := by rw [Int.mul_add]; omega
  rw [q, Int.add_mul_ediv_left _ _ (show b ≠ 0 by omega)]
  by_cases c : x % b + y % b < b
  · rw [Int.ediv_eq_zero_of_lt (by omega) c]; omega
  · have : (x % b + y % b) / b = 1 := by
      have e1 : x % b + y % b = (x % b + y % b - b) + b * 1 := by omega
      rw [e1, Int.add_mul_ediv_left _ _ (show b ≠ 0 by omega), Int.ediv_eq_zero_of_lt (by omega) (by omega)]; omega
    omega
/-- the windows of an even frame have the width's part, down to a whole one, or one more -/
theorem evL_part {b p t : Int} (hb : 0 < b) (w k : Nat) : (w : Int) * p / b ≤ win (evL b p t) w k ∧ win (evL b p t) w k ≤ (w : Int) * p / b + 1 := by
  rw [evL_win hb]; exact div_part hb
theorem evL_spread {b p t : Int} (hb : 0 < b) : Spread (evL b p t) := fun w _ _ i j _ _ => by
  have h1 := evL_part (p := p) (t := t) hb w i
  have h2 := evL_part (p := p) (t := t) hb w j
  omega
/-- all as many just where beats go into the width times the pulses -/
theorem evL_exact {b p t : Int} (hb : 0 < b) (w : Nat) : (∀ i j, i < b.toNat → j < b.toNat → win (evL b p t) w i = win (evL b p t) w j) ↔ (w : Int) * p % b = 0 := by
  have hl := evL_len b p t
  constructor
  · intro h
    have s := wins_sum (evL b p t) w
    rw [evL_sum hb, hl] at s
    have c : tsum (win (evL b p t) w) b.toNat = tsum (fun _ => win (evL b p t) w 0) b.toNat := tsum_congr _ fun k hk => h k 0 hk (by omega)
    rw [c, tsum_const, Int.toNat_of_nonneg (by omega)] at s
    rw [← s]
    exact Int.mul_emod_right b _
  · intro h i j _ _
    have e := Int.mul_ediv_add_emod ((w : Int) * p) b
    rw [h] at e
    rw [evL_win hb, evL_win hb]
    have e2 : (w : Int) * p = b * ((w : Int) * p / b) := by omega
    rw [e2, Int.add_mul_ediv_left _ _ (show b ≠ 0 by omega), Int.add_mul_ediv_left _ _ (show b ≠ 0 by omega)]
    omega
/-! ### windows cut out of a frame laid several times -/
def around (fs : List Int) (m : Nat) : List Int := (List.replicate m fs).flatten
theorem around_len (fs : List Int) (m : Nat) : (around fs m).length = m * fs.length := by simp [around]
theorem around_succ (fs : List Int) (m : Nat) : around fs (m + 1) = fs ++ around fs m := by simp [around, List.replicate_succ]
theorem around_take (fs : List Int) : ∀ (m k : Nat), k ≤ m * fs.length → ((around fs m).take k).sum = psum fs k
  | 0, k, h => by
    have : k = 0 := by omega
    subst this; simp [psum]
  | m + 1, k, h => by
    rw [around_succ]
    by_cases c : k ≤ fs.length
    · rw [List.take_append_of_le_length c, psum_take fs k c]
    · obtain ⟨d, rfl⟩ : ∃ d, k = fs.length + d := ⟨k - fs.length, by omega⟩
      rw [List.take_append, List.sum_append, List.take_of_length_le (by omega), show fs.length + d - fs.length = d by omega, around_take fs m d (by rw [Nat.add_mul] at h; omega), Nat.add_comm fs.length d, psum_add_len]
      omega
theorem drop_take_sum (l : List Int) (k w : Nat) : ((l.drop k).take w).sum = (l.take (k + w)).sum - (l.take k).sum := by
  rw [List.take_add, List.sum_append]; omega
theorem around_win {fs : List Int} {m k w : Nat} (h : k + w ≤ m * fs.length) : (((around fs m).drop k).take w).sum = win fs w k := by
  rw [drop_take_sum, around_take fs m _ h, around_take fs m k (by omega)]; rfl
/-! ### turns of a frame -/
def TS (fs : List Int) (n : Nat) : List Nat := (List.range n).filter fun j => decide (evL (fs.length : Int) fs.sum (j : Int) = fs)
theorem TS_succ (fs : List Int) (n : Nat) : TS fs (n + 1) = if evL (fs.length : Int) fs.sum (n : Int) = fs then TS fs n ++ [n] else TS fs n := by
  unfold TS
  rw [List.range_succ, List.filter_append]
  by_cases c : evL (fs.length : Int) fs.sum (n : Int) = fs
  · rw [if_pos c]; simp [c]
  · rw [if_neg c]; simp [c]
theorem TS_none {fs : List Int} : ∀ {n : Nat}, (∀ j, j < n → evL (fs.length : Int) fs.sum (j : Int) ≠ fs) → TS fs n = []
  | 0, _ => rfl
  | n + 1, h => by rw [TS_succ, if_neg (h n (by omega)), TS_none fun j hj => h j (by omega)]
theorem TS_first {fs : List Int} {t : Nat} (ht : evL (fs.length : Int) fs.sum (t : Int) = fs) (hn : ∀ j, j < t → evL (fs.length : Int) fs.sum (j : Int) ≠ fs) : ∀ n, t < n → ∃ r, TS fs n = t :: r
  | 0, h => absurd h (Nat.not_lt_zero _)
  | n + 1, h => by
    rw [TS_succ]
    by_cases e : t = n
    · subst e
      rw [if_pos ht, TS_none hn]
      exact ⟨[], rfl⟩
    · obtain ⟨r, hr⟩ := TS_first ht hn n (by omega)
      rw [hr]
      split
      · exact ⟨_, rfl⟩
      · exact ⟨_, rfl⟩
theorem TS_len (fs : List Int) (n : Nat) : (TS fs n).length ≤ n := by
  unfold TS
  have := List.length_filter_le (fun j : Nat => decide (evL (fs.length : Int) fs.sum (j : Int) = fs)) (List.range n)
  rw [List.length_range] at this
  exact this
theorem TS_ne {fs : List Int} {n : Nat} : TS fs n ≠ [] ↔ ∃ t, t < n ∧ evL (fs.length : Int) fs.sum (t : Int) = fs := by
  constructor
  · intro h
    obtain ⟨t, ht⟩ := List.exists_mem_of_ne_nil _ h
    unfold TS at ht
    obtain ⟨h1, h2⟩ := List.mem_filter.mp ht
    exact ⟨t, List.mem_range.mp h1, of_decide_eq_true h2⟩
  · rintro ⟨t, ht, e⟩ h
    have : t ∈ TS fs n := List.mem_filter.mpr ⟨List.mem_range.mpr ht, decide_eq_true e⟩
    rw [h] at this
    cases this
/-- a frame is spread just where some turn tells it -/
theorem spread_iff {fs : List Int} (h0 : 0 < fs.length) : Spread fs ↔ TS fs fs.length ≠ [] := by
  rw [TS_ne]
  constructor
  · exact fun h => h.even h0
  · rintro ⟨t, _, e⟩
    rw [← e]
    exact evL_spread (by omega)
def SpreadTo (fs : List Int) (n : Nat) : Prop := ∀ w, 1 ≤ w → w ≤ n → ∀ i j, i < fs.length → j < fs.length → win fs w i - win fs w j ≤ 1
theorem SpreadTo.zero (fs : List Int) : SpreadTo fs 0 := fun w h1 h2 => by omega
theorem spreadTo_succ {fs : List Int} {n : Nat} {lo hi : Int} (l1 : lo ∈ wins fs (n + 1)) (l2 : ∀ y, y ∈ wins fs (n + 1) → lo ≤ y) (h1 : hi ∈ wins fs (n + 1)) (h2 : ∀ y, y ∈ wins fs (n + 1) → y ≤ hi) : SpreadTo fs (n + 1) ↔ SpreadTo fs n ∧ hi - lo < 2 := by
  constructor
  · intro h
    refine ⟨fun w a b => h w a (by omega), ?_⟩
    obtain ⟨i, hi', rfl⟩ := mem_wins.mp l1
    obtain ⟨j, hj, rfl⟩ := mem_wins.mp h1
    have := h (n + 1) (by omega) (Nat.le_refl _) j i hj hi'
    omega
  · rintro ⟨h, d⟩ w a b i j hi' hj
    by_cases e : w = n + 1
    · subst e
      have := l2 _ (mem_wins.mpr ⟨j, hj, rfl⟩)
      have := h2 _ (mem_wins.mpr ⟨i, hi', rfl⟩)
      omega
    · exact h w a (by omega) i j hi' hj
/-! ### data of ints -/
def dI (ns : List Int) : PyData := .list (ns.map PyData.int)
theorem dI_layA : ∀ ns : List Int, PyData.canLayAll0 (ns.map PyData.int) = true
  | [] => by simp [PyData.canLayAll0]
  | z :: zs => by simp [PyData.canLayAll0, PyData.canLay0, dI_layA zs]
theorem dI_depthA : ∀ ns : List Int, PyData.depthAll (ns.map PyData.int) ≤ 1
  | [] => by simp [PyData.depthAll]
  | z :: zs => by
    have h1 := dI_depthA zs
    simp only [List.map_cons, PyData.depthAll, PyData.depth]
    omega
theorem dI_shaped (ns : List Int) : SeqAt.shaped (dI ns) = true := by
  have h1 := dI_depthA ns
  have h2 : PyData.depth (dI ns) ≤ 64 := by
    unfold dI
    simp only [PyData.depth]
    omega
  show (PyData.canLay0 (dI ns) && decide (PyData.depth (dI ns) ≤ 64)) = true
  rw [Bool.and_eq_true]
  exact ⟨by unfold dI; simp only [PyData.canLay0]; exact dI_layA ns, decide_eq_true h2⟩
theorem dI_eqvA : ∀ ns ms : List Int, PyData.eqvAll (ns.map PyData.int) (ms.map PyData.int) = decide (ns = ms)
  | [], [] => by simp [PyData.eqvAll]
  | [], _ :: _ => by simp [PyData.eqvAll]
  | _ :: _, [] => by simp [PyData.eqvAll]
  | n :: ns, m :: ms => by
    rw [List.map_cons, List.map_cons, PyData.eqvAll, dI_eqvA ns ms]
    by_cases e : n = m
    · subst e; simp [PyData.eqv]
    · simp [PyData.eqv, e]
theorem dI_eqv (ns ms : List Int) : PyData.eqv (dI ns) (dI ms) = decide (ns = ms) := by
  unfold dI
  simp only [PyData.eqv]
  exact dI_eqvA ns ms
theorem dpA_ints {K : PySem.W.Frag} {H : Hp} : ∀ ns : List Int, DpAll K H (ns.map V.int) (ns.map PyData.int)
  | [] => .nil
  | n :: ns => .cons (.int n) (dpA_ints ns)
theorem dp_ints {K : PySem.W.Frag} {H : Hp} {a : Addr} {ns : List Int} (h : SqL K H a (ns.map V.int)) : Dp K H (.ref a) (dI ns) := .lst h (dpA_ints ns)
theorem dp_nil {K : PySem.W.Frag} {H : Hp} {a : Addr} (h : SqL K H a []) : Dp K H (.ref a) (dI []) := dp_ints (ns := []) h
/-! ### cuts of lists of ints -/
theorem cut_to {ns : List Int} {k : Nat} (hk : k ≤ ns.length) : cutV (ns.map V.int) none (some (k : Int)) = (ns.take k).map V.int := by
  unfold cutV
  rw [HT.sIx_none, HT.sIx_nat, List.length_map, Nat.min_eq_left hk, List.drop_zero, Nat.sub_zero, List.map_take]
theorem cut_from {ns : List Int} {k : Nat} (hk : k ≤ ns.length) : cutV (ns.map V.int) (some (k : Int)) none = (ns.drop k).map V.int := by
  unfold cutV
  rw [HT.sIx_none, HT.sIx_nat, List.length_map, Nat.min_eq_left hk, List.map_drop]
  exact List.take_of_length_le (by rw [List.length_drop, List.length_map]; exact Nat.le_refl _)
theorem cut_mid {ns : List Int} {i j : Nat} (hi : i ≤ j) (hj : j ≤ ns.length) : cutV (ns.map V.int) (some (i : Int)) (some (j : Int)) = ((ns.drop i).take (j - i)).map V.int := by
  unfold cutV
  rw [HT.sIx_nat, HT.sIx_nat, List.length_map, Nat.min_eq_left (show i ≤ ns.length by omega), Nat.min_eq_left hj, List.map_take, List.map_drop]
/-! ### frames -/
structure Frm (fs : List Int) : Prop where
  pos : 0 < fs.length
  le : fs.length ≤ 64
  bit : ∀ f ∈ fs, f = 0 ∨ f = 1
theorem bits_sum : ∀ {fs : List Int}, (∀ f ∈ fs, f = 0 ∨ f = 1) → 0 ≤ fs.sum ∧ fs.sum ≤ fs.length
  | [], _ => by simp
  | f :: fs, h => by
    have h1 := bits_sum (fs := fs) fun g hg => h g (List.mem_cons_of_mem _ hg)
    have h2 := h f List.mem_cons_self
    rw [List.sum_cons, List.length_cons]
    omega
theorem Frm.sum {fs : List Int} (h : Frm fs) : 0 ≤ fs.sum ∧ fs.sum ≤ fs.length := bits_sum h.bit
theorem Frm.getD {fs : List Int} (h : Frm fs) (k : Nat) : fs.getD k 0 = 0 ∨ fs.getD k 0 = 1 := by
  by_cases c : k < fs.length
  · have e : fs.getD k 0 = fs[k] := by simp [List.getD, List.getElem?_eq_getElem c]
    rw [e]
    exact h.bit _ (List.getElem_mem c)
  · left
    simp [List.getD, List.getElem?_eq_none (Nat.le_of_not_lt c)]
theorem evL_frm {b p : Int} (b0 : 1 ≤ b) (b1 : b ≤ 64) (p0 : 0 ≤ p) (p1 : p ≤ b) (t : Int) : Frm (evL b p t) := by
  refine ⟨by rw [evL_len]; omega, by rw [evL_len]; omega, fun f hf => ?_⟩
  unfold evL at hf
  obtain ⟨k, _, rfl⟩ := List.mem_map.mp hf
  exact evB_01 (by omega) p0 p1 t k
def Lo (ws : List Int) (m : Int) : Prop := m ∈ ws ∧ ∀ y, y ∈ ws → m ≤ y
def Hi (ws : List Int) (m : Int) : Prop := m ∈ ws ∧ ∀ y, y ∈ ws → y ≤ m
theorem divP {i j : Int} {b : Nat} (h : 0 < j) (hb : j.natAbs < 2 ^ b) (h0 : 0 < b) (h9 : b ≤ 9000) : CDivP i j := ⟨h, PyProof.noPylong_of_log2 (Nat.lt_of_lt_of_le (PySem.Flt.log2_lt_of h0 hb) h9)⟩
/-! ### rules for an except suite -/
def rIsK (K : PySem.W.Frag) (cls : Value) (d : Option Addr) (a : Addr) : List V → Hp → VK → Prop := fun xs H Q => ∃ (D : Addr) (c : V) (cv : Value) (b : Bool), cls = .ref D ∧ d = none ∧ ExcC K D ∧ xs = [.ref a, c] ∧ (∀ u, RelV c u → u = cv) ∧ PySem.W.kitOne K (.ref D) cv = some b ∧ Q (.bl b) H
theorem call_isK {X : Cx} {a : Addr} {cls : Value} {d : Option Addr} {oe : Obj} {pn : List (Addr × Obj)} (hz : Zc cls d oe) (hf : ∃ vs, oe.data = .fields vs) : CallR (X.suite a ((a, oe) :: pn)) (.builtin "isinstance") (rIsK X.K cls d a) := by
  intro pins s σ H xs us Q I r h
  obtain ⟨D, c, cv, b, rfl, rfl, C, e1, e2, e3, q⟩ := h
  exact call_isE C hz hf pins s σ H xs us Q I r ⟨c, cv, b, e1, e2, e3, q⟩
theorem pe_nev {X : Cx} {e : Expr} : PE X e (fun _ _ _ => False) := ⟨fun _ _ _ _ _ _ h => h.elim⟩
theorem eqU_count {y : V} {vs : List V} {us : List Value} (r : Vals vs us) (hf : vs.all flatV = true) : us.countP (eqU y) = vs.countP fun z => eqV z y := by
  induction vs generalizing us with
  | nil => cases r; rfl
  | cons v vs ih =>
    cases r with
    | cons h t =>
      rw [List.all_cons, Bool.and_eq_true] at hf
      rw [List.countP_cons, List.countP_cons, ih t hf.2, eqU_of h hf.1]
def rCntV (K : PySem.W.Frag) : V → List V → Hp → VK → Prop := fun x xs H Q => ∃ (a : Addr) (ys : List V) (y : V), x = .ref a ∧ xs = [y] ∧ SqL K H a ys ∧ flatV y = true ∧ ys.all flatV = true ∧ Q (.int ((ys.countP fun z => eqV z y : Nat) : Int)) H
theorem mt_cntV {X : Cx} : MtR X "list.count" (rCntV X.K) := by
  intro pins s σ H x xs v us Q I rx rxs h
  obtain ⟨a, ys, y, rfl, rfl, hs, fy, fys, q⟩ := h
  cases rx
  cases rxs with
  | cons ry rt =>
    rename_i uy ut
    cases rt
    obtain ⟨its, rv, ⟨⟨cls, dd, data, sl⟩, n, ho, hc, hdn, hd⟩, hlen⟩ := I.list hs
    simp only at hc hd
    subst hc hd
    refine call_meets PySem.F.slot_list_count ⟨_, ho, rfl⟩ PySem.F.entry_list_count (PySem.F.args_list_count_2 _ _)
      (SeqAt.list_countAt a its.toArray n dd sl uy (eqU y)) ⟨ho, fun u' hu' => mem_eqAt ry fy rv fys u' (by simpa using hu'), ?_⟩
    have ec : its.toArray.toList.countP (eqU y) = ys.countP fun z => eqV z y := eqU_count rv fys
    refine ⟨.int ((ys.countP fun z => eqV z y : Nat) : Int), H, I.tok _, ⟨s.toks, ?_⟩, q⟩
    show Value.int ((its.toArray.toList.countP (eqU y) : Nat) : Int) s.toks = Value.int ((ys.countP fun z => eqV z y : Nat) : Int) s.toks
    rw [ec]
section
variable (K : PySem.W.Frag) {X : Cx}
theorem mtCntK (h : X.K = K := by rfl) : MtR X "list.count" (rCntV K) := h ▸ mt_cntV
theorem mtIndexK (h : X.K = K := by rfl) : MtR X "list.index" (rIndex K) := h ▸ mt_index
theorem pe_bmK {T id : String} {nm : Str} {r : V → List V → Hp → VK → Prop} {o e : Expr} {es : List Expr} {to : TE} {t : TA} {apos cpos : Pos} (pa : PlainAttrs T) (slot : Slot T nm id) (hty : typeOf (.builtin id) = pure (.type "method_descriptor")) (hm : MtR X id r) (ho : PE X o to) (ha : PA X (e :: es) t)
    (hbase : attributeBase o nm X.env (eval o X.env) = eval o X.env := by rfl)
    (hfew : ((backTo cpos (starEach (e :: es) X.env)).all (fun x => !x.1) && (backToKw cpos (keywordEach [] X.env)).all (fun x => x.1.isSome)
      && decide ((e :: es).length + ([] : List Keyword).length + (if ([] : List Keyword).isEmpty then 0 else 1) < 30)) = true := by rfl)
    (hline : (apos.endLine == cpos.line) = true := by rfl) (hs : starEach (e :: es) X.env = (false, eval e X.env) :: starEach es X.env := by rfl) (hplain : (backTo cpos (starEach es X.env)).any (·.1) = false := by rfl) (h : X.K = K := by rfl) :
    PE X (.Call (.Attribute o nm apos) (e :: es) [] cpos) (tBM K T r to t) := h ▸ pe_bm pa slot hty hm ho ha hbase hfew hline hs hplain
end
/-- an own error's class, that may be raised -/
structure ExF (K : PySem.W.Frag) (mg : Str → Option Value) (n : Str) : Prop where
  g : mg n = some (.ref (He.ga K n))
  x : PySem.W.excIn K (He.ga K n) He.veBase "ValueError.__new__" = true
  k : PySem.W.keepIn K (.ref (He.ga K n)) = true
  b : PySem.W.subIn K (.ref (He.ga K n)) (.type "BaseException") = some true
  t : PySem.W.typeIn K (.ref (He.ga K n)) = some (.type "type")
/-- the slots' number is known -/
theorem pss_len {X : Cx} {b : List Stmt} {t : L2.TS} (n : Nat) (h : PSs X b t) (hn : X.N.length = n := by rfl) : PSs X b (fun D σ H => σ.length = n → t D σ H) := ⟨fun pins s σ H D I hw => h.run pins s σ H D I (hw (I.len.trans hn))⟩
theorem five {σ : L2.St} (h : σ.length = 5) : ∃ a b c d e, σ = [a, b, c, d, e] := by
  match σ, h with
  | [a, b, c, d, e], _ => exact ⟨a, b, c, d, e, rfl⟩
theorem noAhead (bs : List Bool) (j : Nat) (h : ((List.range j).all fun m => bs[m]? != some true) = true) : ∀ (m : Nat) (z' : V), m < j → (bs.map V.bl)[m]? = some z' → eqV z' (.bl true) = false := fun m z' hm hz => by
  rw [List.all_eq_true] at h
  have h1 := h m (List.mem_range.mpr hm)
  rw [List.getElem?_map] at hz
  cases e : bs[m]? with
  | none => rw [e] at hz; cases hz
  | some b =>
    rw [e] at hz h1
    cases hz
    cases b with
    | false => rfl
    | true => simp at h1
/-! ### calls of defs that may raise -/
section
variable {X : Cx} {k j : Nat} {x : Str} {p pos : Pos} {e : Expr} {es : List Expr} {t : TA} {sp : Sp} {E : XK}
theorem pe_clT (c : Cl X.prog X.w X.K X.mg X.base (L2.CX X.prog X.w) k x sp) (hr : Room j X.A) (hk : k ≤ j) (hx : Passes (L2.CX X.prog X.w) X E) (hg : Gl X x) (ha : PA X (e :: es) t)
    (hdb : (x == ("__debug__" : Str)) = false := by decide) (he : starEach (e :: es) X.env = (false, eval e X.env) :: starEach es X.env := by rfl) (hpl : (backTo pos (starEach es X.env)).any (·.1) = false := by rfl) :
    PE X (.Call (.Name x p) (e :: es) [] pos) (tCall sp [] E t) := by
  obtain ⟨f, fd, ps, F, hm, kp, b⟩ := c.ex
  exact pe_call F (hr.mono hk) hg hm kp b .nil hx ha hdb he hpl
theorem pe_clG (c : Cl X.prog X.w X.K X.mg X.base (L2.CX X.prog X.w) k x sp) (hr : Room j X.A) (hk : k ≤ j) (hg : Gl X x) (ha : PA X (e :: es) t)
    (hdb : (x == ("__debug__" : Str)) = false := by decide) (he : starEach (e :: es) X.env = (false, eval e X.env) :: starEach es X.env := by rfl) (hpl : (backTo pos (starEach es X.env)).any (·.1) = false := by rfl) :
    PE X (.Call (.Name x p) (e :: es) [] pos) (tCall sp [] E0 t) := pe_clT c hr hk passL hg ha hdb he hpl
end
theorem FunG.clX {P : Program} {w : World} {K : PySem.W.Frag} {mg : Str → Option Value} {base : Heap} {CX : CXT} {k : Nat} {x : Str} {st : Stmt} {f : Addr} {fd : FuncData} {ps : List Str} {sp : Sp} (F : FunG K mg x st f fd ps) (h : FnOk P w K mg base CX k f fd ps sp) :
    Cl P w K mg base CX k x sp := ⟨f, fd, ps, h, F.mgf, F.fn.kp, F.b⟩
/-! ### heaps with a table of code objects -/
def lamQ : Str := ("law" : Str) ++ ".<locals>." ++ "<lambda>"
def noTab (H : Hp) : Hp := fun b => match H b with
  | some (.tbl _) => none
  | o => o
section
variable {K : PySem.W.Frag} {a st : Addr} {ns : List Int} {H H0 H1 H2 : Hp} {T : List (Addr × Str)}
theorem noTab_some {b : Addr} {o : HO} (h : noTab H b = some o) : H b = some o ∧ ∀ ps, o ≠ .tbl ps := by
  unfold noTab at h
  split at h
  · cases h
  · rename_i hn
    exact ⟨h, fun ps e => hn ps (by rw [h, e])⟩
theorem noTab_same (H : Hp) : Same (noTab H) H := fun _ _ h => (noTab_some h).1
theorem noTab_none {b : Addr} (h : H b = none) : noTab H b = none := by
  unfold noTab; rw [h]
theorem noTab_at {b : Addr} {o : HO} (h : H b = some o) (hn : ∀ ps, o ≠ .tbl ps) : noTab H b = some o := by
  unfold noTab
  rw [h]
  cases o <;> first | rfl | exact absurd rfl (hn _)
theorem noTab_sq {xs : List V} (h : SqL K H a xs) : SqL K (noTab H) a xs := by
  rcases h with (h | ⟨o, h⟩) | h
  · exact .inl (.inl (noTab_at h fun _ z => nomatch z))
  · exact .inl (.inr ⟨o, noTab_at h fun _ z => nomatch z⟩)
  · exact .inr h
theorem extN_same (h : Same (noTab H) H1) (e : ExtN H1 H2) : Same (noTab H) H2 := fun b o hb => e b o (h b o hb) (noTab_some hb).2
theorem SOk.extN (s : SOk K a ns st H1) (hq : SqL K (noTab H0) a (ns.map V.int)) (hst : noTab H0 st = none) (k : Same (noTab H0) H1) (e : ExtN H1 H2) : SOk K a ns st H2 := by
  obtain ⟨i, m, c, d, h⟩ := s.at_
  exact ⟨s.len, fun H' k' => ((extN_same k e).keepAll hst k').seq hq, i, m, c, d, e _ _ h fun _ z => nomatch z⟩
theorem tabs_same (t : Tabs T H) (e : Same H H1) : Tabs T H1 := t.ext e
theorem tabs_keep {xs : List V} (t : Tabs T H) (hs : H st = some (.lst xs)) (e : Keep st H H1) : Tabs T H1 := fun p hp => by
  obtain ⟨ps, h1, h2, h3⟩ := t p hp
  refine ⟨ps, e _ _ (fun z => by rw [z, hs] at h1; cases h1) h1, h2, fun pos cv hc => ?_⟩
  obtain ⟨c, e1, e2⟩ := h3 pos cv hc
  exact ⟨c, e1, e _ _ (fun z => by rw [z, hs] at e2; unfold CodeO at e2; cases e2) e2⟩
theorem SOk.tabs (s : SOk K a ns st H) (t : Tabs T H) (e : Keep st H H1) : Tabs T H1 := by
  obtain ⟨i, m, c, d, h⟩ := s.at_
  exact tabs_keep t h e
end
theorem tabs_keepL {T : List (Addr × Str)} {H : Hp} {l : Addr} {xs : List V} {o : HO} (t : Tabs T H) (hs : H l = some (.lst xs)) : Tabs T (upd H l o) := fun p hp => by
  obtain ⟨ps, h1, h2, h3⟩ := t p hp
  refine ⟨ps, by rw [upd_ne (fun z => by rw [z, hs] at h1; cases h1)]; exact h1, h2, fun pos cv hc => ?_⟩
  obtain ⟨c, e1, e2⟩ := h3 pos cv hc
  exact ⟨c, e1, by rw [upd_ne (fun z => by rw [z, hs] at e2; unfold CodeO at e2; cases e2)]; exact e2⟩
/-! ### lambdas that are kept: made, put in lists, called later -/
/-- a lambda's words, the cells that it captured, its code object -/
structure LF where
  qual : Str
  params : Arguments
  body : Expr
  scope : Scope
  cl : List (Str × Addr)
  c : Addr
abbrev LF.fd (F : LF) (pm ctv : Value) : FuncData := PySem.W.kla_fn "<lambda>" F.qual F.params F.body F.scope F.cl pm (.ref F.c) ctv
abbrev LF.nf (F : LF) : NdefX.NF := ⟨"<lambda>", F.qual, F.params, [], F.scope, F.cl, F.c⟩
def LamP (f : Addr) (F : LF) (h : Heap) : Prop := ∃ (od : Option Addr) (sl : Array (Option Value)) (pm ctv : Value), h.get? f = some (⟨.type "function", od, .func (F.fd pm ctv), sl⟩ : Obj)
def LamO (f : Addr) (F : LF) : HO := .ext (LamP f F)
def CellP (c : Addr) (v : V) (h : Heap) : Prop := ∃ u, RelV v u ∧ h.IsCell c (some u)
def CellO (c : Addr) (v : V) : HO := .ext (CellP c v)
theorem lamO_tbl {f : Addr} {F : LF} (ps : Array Value) : LamO f F ≠ .tbl ps := fun z => by unfold LamO at z; cases z
theorem cellO_tbl {c : Addr} {v : V} (ps : Array Value) : CellO c v ≠ .tbl ps := fun z => by unfold CellO at z; cases z
section
variable {P : Program} {w : World} {H : Hp} {h h' : Heap} {f c : Addr} {F : LF} {v : V}
theorem lamO_ok (x : LamP f F h) : ObjOk P w H h f (LamO f F) := by
  refine ⟨x, ?_, fun h1 h2 z k => ?_⟩
  · obtain ⟨od, sl, pm, ctv, e⟩ := x
    exact ⟨_, e⟩
  · obtain ⟨od, sl, pm, ctv, e⟩ := z
    exact ⟨od, sl, pm, ctv, k _ e⟩
theorem cellO_ok (x : CellP c v h) : ObjOk P w H h c (CellO c v) := by
  refine ⟨x, ?_, fun h1 h2 z k => ?_⟩
  · obtain ⟨u, _, o, e, _⟩ := x
    exact ⟨o, e⟩
  · obtain ⟨u, r, o, e, d⟩ := z
    exact ⟨u, r, o, k _ e, d⟩
theorem lamO_at (hok : HOk P w H h) (e : H f = some (LamO f F)) : LamP f F h := by
  have x : ObjOk P w H h f (.ext (LamP f F)) := hok f _ e
  exact x.1
theorem cellO_at (hok : HOk P w H h) (e : H c = some (CellO c v)) : CellP c v h := by
  have x : ObjOk P w H h c (.ext (CellP c v)) := hok c _ e
  exact x.1
theorem LamP.slots (x : LamP f F h) (k : ∀ o, h.get? f = some o → ∃ sl, h'.get? f = some { o with slots := sl }) : LamP f F h' := by
  obtain ⟨od, sl, pm, ctv, e⟩ := x
  obtain ⟨sl2, e2⟩ := k _ e
  exact ⟨od, sl2, pm, ctv, e2⟩
theorem CellP.slots (x : CellP c v h) (k : ∀ o, h.get? c = some o → ∃ sl, h'.get? c = some { o with slots := sl }) : CellP c v h' := by
  obtain ⟨u, r, o, e, d⟩ := x
  obtain ⟨sl2, e2⟩ := k _ e
  exact ⟨u, r, _, e2, d⟩
end
/-! ### the making -/
section
variable {X : Cx} {pins : List (Addr × Obj)} {σ : L2.St} {H : Hp} {s : Shared}
theorem inv_lam {F : LF} {t' : Nat} {pm ctv : Value} (I : Inv X pins σ H s) :
    Inv X pins σ (upd H s.heap.objs.size (LamO s.heap.objs.size F)) { s with heap := s.heap.push (PySem.W.kla_obj "<lambda>" F.qual F.params F.body F.scope F.cl pm F.c ctv), toks := t' } :=
  I.laid (a := s.heap.objs.size) (fun _ _ e => Heap.get?_push_of_some _ e) (Nat.le_refl _) (lamO_ok ⟨_, _, pm, ctv, Heap.get?_push_size _ rfl⟩)
/-- x: the reading of a lambda as a value -/
def tLamV (T : List (Addr × Str)) (mk : Addr → LF) : TE := fun _ H Q => Tabs T H ∧ ∀ mk' : Addr → LF, mk' = mk → ∀ (f c' : Addr) (H1 : Hp), ExtN H H1 → (∀ b, H1 b = none → H b = none) → Tabs T H1 → H f = none → f ≠ c' → H1 f = some (LamO f (mk' c')) → H1 c' = some (CodeO c' (mk' c').qual) → Q (.ref f) H1
theorem none_of_upd {a b : Addr} {o : HO} (e : upd H a o b = none) : H b = none := by
  by_cases q : b = a
  · subst q; rw [upd_same] at e; cases e
  · rw [upd_ne q] at e; exact e
theorem pe_lamv {T : List (Addr × Str)} {c P : Addr} {params : Arguments} {body : Expr} {scope : Scope} {pos : Pos} (TB : TabB X.base X.mg c P) (hcode : X.env.code = .ref c) (hm : (P, X.env.qual ++ "<lambda>") ∈ T) (hu : ∀ p ∈ T, p.1 = P → p.2 = X.env.qual ++ "<lambda>")
    (hdef : defaultsOf params X.env = ([], [])) (L : LamS X.env.scope scope) :
    PE X (.Lambda params body scope pos) (tLamV T fun c' => ⟨X.env.qual ++ "<lambda>", params, body, scope, cloFrom X.env.cells scope.names [], c'⟩) := by
  refine ⟨fun pins s σ H Q I h => PySem.W.kla_eval hdef ?_⟩
  obtain ⟨hT, h⟩ := h
  have clo := closure_ok (L.has I.ok)
  obtain ⟨ps, tb, ht, ha⟩ := hT _ hm
  have atP : s.heap.get? P = some { cls := .none, data := .fields ps } := I.hok P _ tb
  have blt : s.heap.BuiltinsAt X.mg P := TB.bm.keeps I.bk
  have cd := TB.code.keeps I.bk
  have gl := I.mod.glob.keeps I.bk
  cases look : codeAmong pos ps.toList with
  | some cv =>
    obtain ⟨c', rfl, hco⟩ := ha pos cv look
    refine PySem.W.kla_makeFunctionHit (mg := X.mg) (c := c) (P := P) (ps := ps) clo I.ok.glob gl hcode cd atP ht look blt fun ctv h' tk stay _ => ?_
    have J : Inv X pins σ H { s with heap := h', toks := tk } := I.kept stay
    have fr : H h'.objs.size = none := J.hok.fresh (Nat.le_refl _)
    have J2 := inv_lam (F := ⟨X.env.qual ++ "<lambda>", params, body, scope, cloFrom X.env.cells scope.names [], c'⟩) (t' := tk) (pm := (X.mg "__name__").getD .none) (ctv := ctv) J
    have up : ∀ b o, H b = some o → upd H h'.objs.size (LamO h'.objs.size ⟨X.env.qual ++ "<lambda>", params, body, scope, cloFrom X.env.cells scope.names [], c'⟩) b = some o := fun b o e => (upd_ne (ne_of_none e fr)).trans e
    exact ⟨.ref h'.objs.size, _, J2, rfl, h _ rfl h'.objs.size c' _ (ExtN.of up) (fun b e => none_of_upd e) (hT.ext up) fr (ne_of_none hco fr).symm upd_same (up _ _ hco)⟩
  | none =>
    refine PySem.W.kla_makeFunction (mg := X.mg) (c := c) (P := P) (ps := ps) clo I.ok.glob gl hcode cd atP ht look TB.gP blt fun c' ctv h' tk ext ge lt rec tab => ?_
    obtain ⟨c2, oc, vs, t, e2, q1, q2, q3⟩ := rec
    obtain rfl : c' = c2 := Value.ref.inj e2
    have nC : H c' = none := I.hok.fresh ge
    have J := inv_table (t' := tk) (more := #[rawInt pos.line, rawInt pos.col, .ref c']) (h' := h') I tb (fun b o hb e => ext b o hb e) tab ge ⟨oc, vs, t, q1, q2, q3⟩
    have hE : ExtN H (upd (upd H P (.tbl (ps ++ #[rawInt pos.line, rawInt pos.col, .ref c']))) c' (CodeO c' (X.env.qual ++ "<lambda>"))) := fun b o e n => by
      rw [upd_ne (ne_of_none e nC), upd_ne fun z => n ps (Option.some.inj (e.symm.trans (by rw [z]; exact tb)))]
      exact e
    have fr := J.hok.fresh (Nat.le_refl h'.objs.size)
    have T1 : Tabs T (upd (upd H P (.tbl (ps ++ #[rawInt pos.line, rawInt pos.col, .ref c']))) c' (CodeO c' (X.env.qual ++ "<lambda>"))) := fun p hp => by
      by_cases hb : p.1 = P
      · rw [hu p hp hb, hb]
        have tl : (ps ++ #[rawInt pos.line, rawInt pos.col, .ref c']).toList = ps.toList ++ [rawInt pos.line, rawInt pos.col, .ref c'] := by simp
        refine ⟨_, by rw [upd_ne (ne_of_none tb nC), upd_same], by rw [tl]; exact PySem.TriplesOk_snoc _ _ _ _ ht, fun p' cv hcv => ?_⟩
        rw [tl] at hcv
        rcases among_app _ ht hcv with z | z
        · obtain ⟨c0, y1, y2⟩ := ha p' cv z
          exact ⟨c0, y1, hE _ _ y2 codeO_ne⟩
        · exact ⟨c', z, upd_same⟩
      · obtain ⟨qs, y1, y2, y3⟩ := hT p hp
        refine ⟨qs, by rw [upd_ne (ne_of_none y1 nC), upd_ne hb]; exact y1, y2, fun p' cv hcv => ?_⟩
        obtain ⟨c0, z1, z2⟩ := y3 p' cv hcv
        exact ⟨c0, z1, hE _ _ z2 codeO_ne⟩
    have nn : ∀ b, upd (upd H P (.tbl (ps ++ #[rawInt pos.line, rawInt pos.col, .ref c']))) c' (CodeO c' (X.env.qual ++ "<lambda>")) b = none → H b = none := fun b e => none_of_upd (none_of_upd e)
    have hc' : upd (upd H P (.tbl (ps ++ #[rawInt pos.line, rawInt pos.col, .ref c']))) c' (CodeO c' (X.env.qual ++ "<lambda>")) c' = some (CodeO c' (X.env.qual ++ "<lambda>")) := upd_same
    have J2 := inv_lam (F := ⟨X.env.qual ++ "<lambda>", params, body, scope, cloFrom X.env.cells scope.names [], c'⟩) (t' := tk) (pm := (X.mg "__name__").getD .none) (ctv := ctv) J
    generalize upd (upd H P (.tbl (ps ++ #[rawInt pos.line, rawInt pos.col, .ref c']))) c' (CodeO c' (X.env.qual ++ "<lambda>")) = HX at J2 hE T1 fr J nn hc'
    have up : ∀ b o, HX b = some o → upd HX h'.objs.size (LamO h'.objs.size ⟨X.env.qual ++ "<lambda>", params, body, scope, cloFrom X.env.cells scope.names [], c'⟩) b = some o := fun b o e => (upd_ne (ne_of_none e fr)).trans e
    exact ⟨.ref h'.objs.size, _, J2, rfl, h _ rfl h'.objs.size c' _ (fun b o e n => up b o (hE b o e n)) (fun b e => nn b (none_of_upd e)) (T1.ext up) (I.hok.fresh (Nat.le_trans ge (Nat.le_of_lt lt))) (Nat.ne_of_gt lt) upd_same (up _ _ hc')⟩
end
/-! ### the call of a kept lambda -/
/-- the lambda F, at f, its cells fr holding ws: it does what tl says -/
structure LOk (P : Program) (w : World) (K : PySem.W.Frag) (mg : Str → Option Value) (base : Heap) (k : Nat) (f : Addr) (F : LF) (fr : List Str) (ws : List (Option V)) (tl : XK → Hp → VK → Prop) : Prop where
  run : ∀ (A : Around) (outer : List Env) (s : Shared) (H : Hp) (Q : VK) (E : XK), Room k A → Env0 P w K mg base A outer s H → LamP f F s.heap → H F.c = some (CodeO F.c F.qual) → NdefX.CellsAt F.cl fr ws s.heap H → tl E H Q →
    codeAny (model P w) A (.call (.ref f) ⟨[], []⟩) (CR (L2.CX P w) outer P w H s Q E) s
theorem LOk.mono {P : Program} {w : World} {K : PySem.W.Frag} {mg : Str → Option Value} {base : Heap} {j k : Nat} {f : Addr} {F : LF} {fr : List Str} {ws : List (Option V)} {tl : XK → Hp → VK → Prop} (o : LOk P w K mg base j f F fr ws tl) (h : j ≤ k) : LOk P w K mg base k f F fr ws tl :=
  ⟨fun A outer s H Q E hr => o.run A outer s H Q E (hr.mono h)⟩
theorem lok_of {P : Program} {w : World} {K : PySem.W.Frag} {mg : Str → Option Value} {base : Heap} {k : Nat} {f : Addr} {F : LF} {N fr : List Str} {ws : List (Option V)} {t : XK → TE} {tl : XK → Hp → VK → Prop} (S : NdefX.NScope N [] fr F.scope)
    (hbind : ∀ (pm ctv : Value), bindArgs (F.fd pm ctv) ⟨[], []⟩ = pure [])
    (hbody : ∀ (A : Around) (outer : List Env) (s : Shared) (H : Hp) (E : XK), Room k (A.deeper (NdefX.envF F.nf f s.heap.objs.size)) → PE (NdefX.ncx (L2.CX P w) P w K mg base N F.nf f A outer s H E) F.body (t E))
    (ht : ∀ E H Q, tl E H Q → t E (NdefX.startF N [] ws) H Q) : LOk P w K mg base (k + 1) f F fr ws tl := by
  refine ⟨fun A outer s H Q E hr e0 hf hc C q => ?_⟩
  have lim : s.heap.NoLimit := e0.mod.nolimit.keeps fun b o e => (e0.bs b o e).1
  obtain ⟨od, sl, pm, ctv, ho⟩ := hf
  refine PySem.W.kla_callFunE hr.depth ho rfl S.co S.gen rfl (NdefX.codeO_at e0.hok hc) ?_
  show wpAny _ _ (bindArgs (F.fd pm ctv) ⟨[], []⟩) _ _ _
  rw [hbind]
  refine wpAny_pure (wpAny_newFunctionEnv S.nocell (fun y hy => absurd hy (by simp)) (fun h₁ hns hsb => ⟨lim.fresh _ hsb, ?_⟩) S.kind)
  have kp : ∀ b o, s.heap.get? b = some o → h₁.get? b = some o := fun b o e => hsb.extBut b o (Nat.ne_of_lt (Heap.lt_size e)) (Heap.get?_push_of_some _ e)
  have J : Inv (NdefX.ncx (L2.CX P w) P w K mg base N F.nf f A outer s H E) [] (NdefX.startF N [] ws) H { s with heap := h₁, toks := s.toks + ([] : List (Str × Value)).length } :=
    NdefX.inv_startN (F := F.nf) (vs := []) (us := []) S hr.hd e0 rfl .nil C hns kp
  show codeAny _ _ (.expr F.body (NdefX.envF F.nf f s.heap.objs.size)) _ _
  refine PySem.W.kla_codeExpr (wpAny_mono ((hbody A outer s H E (hr.deeper _)).run [] _ _ H Q J (ht E H Q q)) (fun v s' hq => ?_) fun e s' hq => hq)
  obtain ⟨w', H', J', rv, q'⟩ := hq
  exact ⟨w', H', J'.os, J'.bare, J'.base, J'.hok, rv, q'⟩
/-- a kept lambda at f, in H; L: its own object and its cells -/
structure WorkAt (P : Program) (w : World) (K : PySem.W.Frag) (mg : Str → Option Value) (base : Heap) (k : Nat) (H : Hp) (f : Addr) (L : List Addr) (tl : XK → Hp → VK → Prop) : Prop where
  ex : ∃ (F : LF) (fr : List Str) (ws : List V), H f = some (LamO f F) ∧ H F.c = some (CodeO F.c F.qual) ∧ F.c ∉ L ∧ L = f :: F.cl.map (·.2) ∧ ws.length = fr.length ∧ (∀ (i : Nat) y, fr[i]? = some y → ∃ c x, F.cl.lookup y = some c ∧ ws[i]? = some x ∧ H c = some (CellO c x)) ∧
    (∀ p ∈ F.cl, ∃ i : Nat, fr[i]? = some p.1 ∧ F.cl.lookup p.1 = some p.2) ∧ (∀ x y c, F.cl.lookup x = some c → F.cl.lookup y = some c → x = y) ∧ LOk P w K mg base k f F fr (ws.map some) tl
theorem WorkAt.ext {P : Program} {w : World} {K : PySem.W.Frag} {mg : Str → Option Value} {base : Heap} {k : Nat} {H H1 : Hp} {f : Addr} {L : List Addr} {tl : XK → Hp → VK → Prop} (x : WorkAt P w K mg base k H f L tl) (e : ∀ b o, H b = some o → (∀ ps, o ≠ .tbl ps) → (∀ ys, o ≠ .lst ys) → H1 b = some o) : WorkAt P w K mg base k H1 f L tl := by
  obtain ⟨F, fr, ws, h1, h2, h3, rfl, h5, h6, h7, h8, h9⟩ := x
  refine ⟨F, fr, ws, e _ _ h1 lamO_tbl (fun ys z => by unfold LamO at z; cases z), e _ _ h2 codeO_ne (fun ys z => by unfold CodeO at z; cases z), h3, rfl, h5, fun i y hy => ?_, h7, h8, h9⟩
  obtain ⟨c, x, y1, y2, y3⟩ := h6 i y hy
  exact ⟨c, x, y1, y2, e _ _ y3 cellO_tbl (fun ys z => by unfold CellO at z; cases z)⟩
theorem WorkAt.same {P : Program} {w : World} {K : PySem.W.Frag} {mg : Str → Option Value} {base : Heap} {k : Nat} {H H1 : Hp} {f : Addr} {L : List Addr} {tl : XK → Hp → VK → Prop} (x : WorkAt P w K mg base k H f L tl) (e : Same H H1) : WorkAt P w K mg base k H1 f L tl := x.ext fun b o h _ _ => e b o h
def hideL (L : List Addr) (H : Hp) : Hp := fun b => if b ∈ L then none else H b
def showL (L : List Addr) (H H' : Hp) : Hp := fun b => if b ∈ L then H b else H' b
theorem hide_in {L : List Addr} {H : Hp} {b : Addr} (h : b ∈ L) : hideL L H b = none := if_pos h
theorem hide_out {L : List Addr} {H : Hp} {b : Addr} (h : b ∉ L) : hideL L H b = H b := if_neg h
theorem show_in {L : List Addr} {H H' : Hp} {b : Addr} (h : b ∈ L) : showL L H H' b = H b := if_pos h
theorem show_out {L : List Addr} {H H' : Hp} {b : Addr} (h : b ∉ L) : showL L H H' b = H' b := if_neg h
theorem hide_none {L : List Addr} {H : Hp} {b : Addr} (h : H b = none) : hideL L H b = none := by
  by_cases q : b ∈ L
  · exact hide_in q
  · rw [hide_out q]; exact h
theorem show_same {L : List Addr} {H H' : Hp} (e : Same (hideL L H) H') : Same H (showL L H H') := fun b o hb => by
  by_cases q : b ∈ L
  · rw [show_in q]; exact hb
  · rw [show_out q]; exact e b o (by rw [hide_out q]; exact hb)
section
variable {P : Program} {w : World} {K : PySem.W.Frag} {mg : Str → Option Value} {base : Heap} {H H' : Hp} {h h' : Heap} {L : List Addr}
/-- an entry that may be hidden -/
def Hid (b : Addr) (o : HO) : Prop := (∃ F, o = LamO b F) ∨ ∃ v, o = CellO b v
theorem hide_hok (hok : HOk P w H h) (hL : ∀ b ∈ L, ∃ o, H b = some o ∧ Hid b o) : HOk P w (hideL L H) h := fun b o e => by
  by_cases q : b ∈ L
  · rw [hide_in q] at e; cases e
  · rw [hide_out q] at e
    have nl : ∀ c (u : HO), H c = some u → (∀ F, u ≠ LamO c F) → (∀ v, u ≠ CellO c v) → c ∉ L := fun c u hc n1 n2 hm => by
      obtain ⟨o', ho', z⟩ := hL c hm
      rw [hc] at ho'
      cases ho'
      rcases z with ⟨F, z⟩ | ⟨v, z⟩
      · exact n1 F z
      · exact n2 v z
    refine (hok b o e).stay (fun c v _ z => z) (fun c z => ?_) fun c xs z => ?_
    · rw [hide_out (nl c _ z (fun F y => by unfold LamO at y; cases y) fun v y => by unfold CellO at y; cases y)]; exact z
    · rw [hide_out (nl c _ z (fun F y => by unfold LamO at y; cases y) fun v y => by unfold CellO at y; cases y)]; exact z
theorem hide_env0 {A : Around} {outer : List Env} {s : Shared} (e : Env0 P w K mg base A outer s H) (hL : ∀ b ∈ L, ∃ o, H b = some o ∧ Hid b o) : Env0 P w K mg base A outer s (hideL L H) :=
  ⟨e.frames, e.mod, fun b o h => ⟨(e.bs b o h).1, hide_none (e.bs b o h).2⟩, e.bsz, e.funs, fun b hb => hide_none (e.frf b hb), hide_hok e.hok hL, e.bare⟩
/-- behind a call with the hidden ones: they stand again -/
theorem show_ce {outer : List Env} {s s' : Shared} {Q : VK} {u : Value} (hok : HOk P w H s.heap) (hL : ∀ b ∈ L, ∃ o, H b = some o ∧ Hid b o) (c : CE outer P w (hideL L H) s (fun v H' => Q v (showL L H H')) u s') : CE outer P w H s Q u s' := by
  obtain ⟨v, H', os, bare, un, hok', r, q⟩ := c
  have there : ∀ b ∈ L, ∃ o, s.heap.get? b = some o := fun b hb => by
    obtain ⟨o, ho, z⟩ := hL b hb
    rcases z with ⟨F, rfl⟩ | ⟨x, rfl⟩
    · obtain ⟨_, _, _, _, e⟩ := lamO_at hok ho
      exact ⟨_, e⟩
    · obtain ⟨_, _, o, e, _⟩ := cellO_at hok ho
      exact ⟨o, e⟩
  have any : ∀ b ∈ L, ∀ o, s.heap.get? b = some o → ∃ sl, s'.heap.get? b = some { o with slots := sl } := fun b hb o e => un.any e (hide_in hb) (by simp)
  have nL : ∀ b ∈ L, H' b = none := fun b hb => by
    obtain ⟨o, e⟩ := there b hb
    exact un.free b o e (hide_in hb) (by simp)
  have out : ∀ {b : Addr} {o : HO}, H' b = some o → b ∉ L := fun {b o} e hm => by rw [nL b hm] at e; cases e
  have nl : ∀ c (u : HO), H c = some u → (∀ F, u ≠ LamO c F) → (∀ v, u ≠ CellO c v) → c ∉ L := fun c u hc n1 n2 hm => by
    obtain ⟨o', ho', z⟩ := hL c hm
    rw [hc] at ho'
    cases ho'
    rcases z with ⟨F, z⟩ | ⟨v, z⟩
    · exact n1 F z
    · exact n2 v z
  refine ⟨v, showL L H H', os, bare, ⟨fun b o e n hf hx => un.keep b o e (hide_none n) hf hx, fun b o e n hf hx => un.slot b o e (hide_none n) hf hx, fun b o e n hx => ?_, un.there, fun b xs e => ?_, fun b o u e => ?_, fun b ps e => ?_⟩, fun b o e => ?_, r, q⟩
  · by_cases hb : b ∈ L
    · rw [show_in hb]; exact n
    · rw [show_out hb]; exact un.free b o e (hide_none n) hx
  · have hb := nl b _ e (fun F y => by unfold LamO at y; cases y) fun v y => by unfold CellO at y; cases y
    rw [show_out hb]; exact un.tups b xs (by rw [hide_out hb]; exact e)
  · have hb := nl b _ e (fun F y => by unfold LamO at y; cases y) fun v y => by unfold CellO at y; cases y
    rw [show_out hb]; exact un.frzs b o u (by rw [hide_out hb]; exact e)
  · have hb := nl b _ e (fun F y => by unfold LamO at y; cases y) fun v y => by unfold CellO at y; cases y
    rw [show_out hb]; exact un.tbls b ps (by rw [hide_out hb]; exact e)
  · by_cases hb : b ∈ L
    · rw [show_in hb] at e
      obtain ⟨o', ho', z⟩ := hL b hb
      rw [e] at ho'
      cases ho'
      rcases z with ⟨F, rfl⟩ | ⟨x, rfl⟩
      · exact lamO_ok ((lamO_at hok e).slots (any b hb))
      · exact cellO_ok ((cellO_at hok e).slots (any b hb))
    · rw [show_out hb] at e
      exact (hok' b o e).stay (fun c v _ z => z) (fun c z => by rw [show_out (out z)]; exact z) fun c xs z => by rw [show_out (out z)]; exact z
end
theorem mem_lk {cl : List (Str × Addr)} {y : Str} {c : Addr} (h : cl.lookup y = some c) : c ∈ cl.map (·.2) := List.mem_map.mpr ⟨(y, c), PySem.mem_of_lookup h, rfl⟩
theorem WorkAt.hid {P : Program} {w : World} {K : PySem.W.Frag} {mg : Str → Option Value} {base : Heap} {k : Nat} {H : Hp} {f : Addr} {L : List Addr} {tl : XK → Hp → VK → Prop} (x : WorkAt P w K mg base k H f L tl) : ∀ b ∈ L, ∃ o, H b = some o ∧ Hid b o := by
  obtain ⟨F, fr, ws, h1, h2, h3, rfl, h5, h6, h7, h8, h9⟩ := x
  intro b hb
  rcases List.mem_cons.mp hb with rfl | hb
  · exact ⟨_, h1, .inl ⟨F, rfl⟩⟩
  · obtain ⟨p, hp, rfl⟩ := List.mem_map.mp hb
    obtain ⟨i, q1, q2⟩ := h7 p hp
    obtain ⟨c, x, y1, y2, y3⟩ := h6 i _ q1
    rw [q2] at y1
    cases y1
    exact ⟨_, y3, .inr ⟨x, rfl⟩⟩
/-- a(), in the def that got the lambda at f -/
theorem pe_actv {P : Program} {w : World} {K : PySem.W.Frag} {mg : Str → Option Value} {base : Heap} {CXg : CXT} {Eg : XK} {Ng : List Str} {qg : Str} {sg : Scope} {g f : Addr} {cdg : Value} {k i : Nat} {a : Str} {pn : List (Addr × Obj)} {xe : Value → Shared → Prop} {W : WX} {E : XK} {A0 : Around} {outer : List Env} {s : Shared} {H : Hp}
    {F : LF} {fr : List Str} {ws : List (Option V)} {tl : XK → Hp → VK → Prop} {p1 p2 : Pos} (o : LOk P w K mg base k f F fr ws tl) (hf : LamP f F s.heap) (hfn : H f = none) (C : NdefX.CellsAt F.cl fr ws s.heap H)
    (tk : Takes ((cxOf CXg P w K mg base Ng qg sg g cdg A0 outer s H Eg).tr pn xe) W) (hW : ∀ cls d σ' H', E cls d H' → W cls d σ' H') (hr : Room k (A0.deeper (envOfC qg sg s.heap.objs.size g cdg)))
    (hN : Ng[i]? = some a) (hv : Vis sg a) (hd : (a == ("__debug__" : Str)) = false := by decide) (hcd : (a == ("__classdict__" : Str)) = false := by decide) :
    PE ((cxOf CXg P w K mg base Ng qg sg g cdg A0 outer s H Eg).tr pn xe) (.Call (.Name a p1) [] [] p2) (fun σZ HZ Q => σZ[i]? = some (some (.ref f)) ∧ HZ F.c = some (CodeO F.c F.qual) ∧ tl E HZ Q) := by
  refine ⟨fun pinsZ sZ σZ HZ Q IZ h => ?_⟩
  obtain ⟨hs, hc, ht⟩ := h
  refine wpAny_Call_Name_kw (thn ((pe_var (pos := p1) (i := i) hN hv hd hcd).run pinsZ sZ σZ HZ (fun v H1 => v = .ref f ∧ H1 = HZ) IZ ⟨.ref f, hs, rfl, rfl⟩) fun u s1 hh => ?_)
  obtain ⟨v, H1, I1, r1, rfl, rfl⟩ := hh
  obtain rfl : u = Value.ref f := r1
  have un : Un (cxOf CXg P w K mg base Ng qg sg g cdg A0 outer s H Eg).fs [] H H1 s.heap s1.heap := I1.base
  have hf1 : LamP f F s1.heap := hf.slots fun o e => un.any e hfn (by simp)
  have cellK : ∀ {c : Addr} {v : Option Value}, H c = none → s.heap.IsCell c v → s1.heap.IsCell c v := fun {c v} n z => by
    obtain ⟨o, ho, hd⟩ := z
    obtain ⟨sl, q⟩ := un.any ho n (by simp)
    exact ⟨_, q, hd⟩
  have C1 : NdefX.CellsAt F.cl fr ws s1.heap H1 := by
    refine ⟨C.len, fun y c e => ?_, C.inj, fun j y e => ?_⟩
    · obtain ⟨n, v, z⟩ := C.all y c e
      refine ⟨?_, v, cellK n z⟩
      obtain ⟨o, ho, _⟩ := z
      exact un.free c o ho n (by simp)
    · obtain ⟨c, hc, hv⟩ := C.has j y e
      refine ⟨c, hc, fun v ev => ?_⟩
      obtain ⟨u, r, z⟩ := hv v ev
      exact ⟨u, r, cellK (C.all y c hc).1 z⟩
  obtain ⟨od, sl, pm, ctv, of1⟩ := id hf1
  refine PySem.W.callWith_F0 ⟨_, _, _, _, of1⟩ ?_
  have hx : Passes (L2.CX P w) ((cxOf CXg P w K mg base Ng qg sg g cdg A0 outer s H Eg).tr pn xe) E := passes_call tk hW
  refine wpAny_call (codeAny_mono (o.run _ _ s1 H1 Q E hr I1.env0 hf1 hc C1 ht) fun r s' hq => ?_)
  cases r with
  | error e => exact hx pinsZ σZ H1 s1 e s' I1 hq
  | ok fl =>
    cases fl with
    | ret u => exact I1.after hq
    | next => exact False.elim hq
    | brk => exact False.elim hq
    | cont => exact False.elim hq
section
variable {X : Cx}
/-- x(y), y a name that holds a kept lambda -/
def tKindV (P : Program) (w : World) (K : PySem.W.Frag) (mg : Str → Option Value) (base : Heap) (k i : Nat) (TT : (XK → Hp → VK → Prop) → Hp → VK → Prop) : TE := fun σ H Q => ∃ (f : Addr) (L : List Addr) (tl : XK → Hp → VK → Prop), σ[i]? = some (some (.ref f)) ∧ WorkAt P w K mg base k H f L tl ∧ TT tl (hideL L H) fun v H' => Q v (showL L H H')
theorem pe_kindv {TT : (XK → Hp → VK → Prop) → Hp → VK → Prop} {x a y : Str} {g : Addr} {k i : Nat} {pg : Arguments} {bg : List Stmt} {sg : Scope} {dV kV doc pm cdv ct oc : Value} {an od : Option Addr} {osl : Array (Option Value)} {Ng : List Str}
    {p py pos : Pos} (hg : Gl X x) (hm : X.mg x = some (.ref g)) (hk : PySem.W.keepIn X.K (.ref g) = true)
    (lk : X.K.lookup g = some ⟨oc, od, .func (PySem.W.fnOf x x pg bg sg dV kV doc pm an cdv ct), osl⟩) (hcg : PySem.W.codeIn X.K cdv x = true) (hb : L2.Binds X.K (PySem.W.fnOf x x pg bg sg dV kV doc pm an cdv ct) [a] []) (Sg : FnScope Ng [a] sg) (hNg : Ng[0]? = some a) (hva : Vis sg a)
    (hG : ∀ q, GivesTo X Ng x sg g cdv bg a q TT) (hr : Room (k + 1) X.A) (hN : X.N[i]? = some y) (hv : Vis X.env.scope y)
    (hdb : (x == ("__debug__" : Str)) = false := by decide) (hd : (a == ("__debug__" : Str)) = false := by decide) (hcd : (a == ("__classdict__" : Str)) = false := by decide) (hd2 : (y == ("__debug__" : Str)) = false := by decide) (hcd2 : (y == ("__classdict__" : Str)) = false := by decide) :
    PE X (.Call (.Name x p) [.Name y py] [] pos) (tKindV X.prog X.w X.K X.mg X.base k i TT) := by
  refine ⟨fun pins s σ H Q I h => ?_⟩
  obtain ⟨f, L, tl, hs, Wk, hT⟩ := h
  refine wpAny_Call_Name_kw (ld_glob I hg hm ?_ hdb)
  refine PySem.W.callWith_K (h₀ := X.base) I.ok.mod.kin hk ?_ (by rfl) (by rfl)
  show wpAny _ _ (spliced ((false, eval (.Name y py) X.env) :: backTo pos (starEach [] X.env))) _ _ _
  refine Calls.spliced_cons (thn ((pe_var (pos := py) (i := i) hN hv hd2 hcd2).run pins _ σ H (fun v H1 => v = .ref f ∧ H1 = H) (by first | exact I | exact I.tok _) ⟨.ref f, hs, rfl, rfl⟩) fun u s1 hh => ?_)
  obtain ⟨v, H1, I1, r1, rfl, rfl⟩ := hh
  obtain rfl : u = Value.ref f := r1
  refine Calls.spliced_nil ⟨I1.kIn, ?_⟩
  have hid := Wk.hid
  obtain ⟨F, fr, ws, h1, h2, h3, rfl, h5, h6, h7, h8, h9⟩ := Wk
  have C : NdefX.CellsAt F.cl fr (ws.map some) s1.heap (hideL (f :: F.cl.map (·.2)) H1) := by
    have cell : ∀ {y c x}, F.cl.lookup y = some c → H1 c = some (CellO c x) → ∃ u, RelV x u ∧ s1.heap.IsCell c (some u) := fun {y c x} e z => cellO_at I1.hok z
    refine ⟨by rw [List.length_map]; exact h5, fun y c e => ⟨hide_in (List.mem_cons_of_mem _ (mem_lk e)), ?_⟩, h8, fun j y e => ?_⟩
    · obtain ⟨j, q1, q2⟩ := h7 (y, c) (PySem.mem_of_lookup e)
      obtain ⟨c2, x, y1, y2, y3⟩ := h6 j _ q1
      rw [e] at y1
      cases y1
      obtain ⟨u, _, z⟩ := cell e y3
      exact ⟨_, z⟩
    · obtain ⟨c, x, y1, y2, y3⟩ := h6 j y e
      refine ⟨c, y1, fun v ev => ?_⟩
      rw [List.getElem?_map, y2] at ev
      cases ev
      exact cell y1 y3
  have rc : codeAny (model X.prog X.w) X.A (.call (.ref g) ⟨[.ref f], []⟩) (CR C8.CX0 X.stack X.prog X.w (hideL (f :: F.cl.map (·.2)) H1) s1 (fun v H' => Q v (showL (f :: F.cl.map (·.2)) H1 H')) C8.E0) s1 := by
    refine run_ofS (N := Ng) (ps := [a]) (us := [.ref f]) (vs := [.ref f]) lk hcg Sg hr (hide_env0 I1.env0 hid) (hb s1 [.ref f] I1.kIn rfl) (.cons rfl .nil) rfl fun hr' => ?_
    obtain ⟨t', ht', hq'⟩ := hG F.qual f F.c s1 (hideL (f :: F.cl.map (·.2)) H1) _ tl (fun W pn xe E p1 p2 tk hW => pe_actv (i := 0) h9 (lamO_at I1.hok h1) (hide_in List.mem_cons_self) C tk hW hr' hNg hva hd hcd) (by rw [hide_out h3]; exact h2) hT
    exact ⟨t', ht'.nox, hq'⟩
  refine wpAny_call (codeAny_mono rc fun r s2 hq => ?_)
  cases r with
  | error e => exact (show False from hq).elim
  | ok fl =>
    cases fl with
    | ret u => exact I1.after (show_ce I1.hok hid hq)
    | next => exact False.elim hq
    | brk => exact False.elim hq
    | cont => exact False.elim hq
end
/-! ### a def that tells what its cells hold at its end -/
/-- a body that ends by a return; R: what is told of its value, the slots and the heap then -/
def PB (X : Cx) (st : List Stmt) (t : (V → L2.St → Hp → Prop) → L2.St → Hp → Prop) : Prop := ∀ (pins : List (Addr × Obj)) (s : Shared) (σ : L2.St) (H : Hp) (R : V → L2.St → Hp → Prop), Inv X pins σ H s → t R σ H →
  wpAny (model X.prog X.w) X.A (execs st X.env) (fun fl s' => ∃ (u : Value) (v : V) (σ' : L2.St) (H' : Hp), fl = .ret u ∧ Inv X pins σ' H' s' ∧ RelV v u ∧ R v σ' H') X.xe s
theorem pb_cons {X : Cx} {st : Stmt} {rest : List Stmt} {t : L2.TS} {u : (V → L2.St → Hp → Prop) → L2.St → Hp → Prop} (h1 : PS X st t) (h2 : PB X rest u) : PB X (st :: rest) (fun R σ H => t { nx := u R, rt := fun _ _ => False } σ H) := by
  intro pins s σ H R I h
  refine wpAny_execs_cons (thn (h1.run pins s σ H _ I h) fun f s1 q => ?_)
  cases f with
  | next =>
    obtain ⟨σ', H', I', q⟩ := q
    exact h2 pins s1 σ' H' R I' q
  | ret v => obtain ⟨_, _, _, _, _, z⟩ := q; exact z.elim
  | brk => obtain ⟨_, _, _, z⟩ := q; exact False.elim z
  | cont => obtain ⟨_, _, _, z⟩ := q; exact False.elim z
theorem pb_ret {X : Cx} {e : Expr} {te : TE} {pos : Pos} (he : PE X e te) : PB X [.Return (some e) pos] (fun R σ H => te σ H fun v H' => R v σ H') := by
  intro pins s σ H R I h
  refine wpAny_execs_cons (wpAny_Return_some (thn (he.run pins s σ H _ I h) fun u s1 hh => ?_))
  obtain ⟨v, H1, I1, r1, q1⟩ := hh
  exact ⟨u, v, σ, H1, rfl, I1, r1, q1⟩
theorem lk_mem : ∀ {l : List (Addr × V)} {b : Addr} {v : V}, l.lookup b = some v → (b, v) ∈ l
  | [], _, _, h => by cases h
  | (c, x) :: l, b, v, h => by
    by_cases e : b = c
    · subst e
      rw [List.lookup_cons, beq_self_eq_true] at h
      cases h
      exact List.mem_cons_self
    · rw [List.lookup_cons, beq_eq_false_iff_ne.mpr e] at h
      exact List.mem_cons_of_mem _ (lk_mem h)
def addC (CS : List (Addr × V)) (H : Hp) : Hp := fun b => match CS.lookup b with
  | some v => some (CellO b v)
  | none => H b
theorem addC_in {CS : List (Addr × V)} {H : Hp} {b : Addr} {v : V} (h : CS.lookup b = some v) : addC CS H b = some (CellO b v) := by unfold addC; rw [h]
theorem addC_out {CS : List (Addr × V)} {H : Hp} {b : Addr} (h : CS.lookup b = none) : addC CS H b = H b := by unfold addC; rw [h]
/-- the cells of a def's frame, entered at s -/
abbrev frameCells (n : Nat) (scope : Scope) : List (Str × Addr) := cellsFrom (n + 1) scope.names []
theorem fn_ofC {CX : CXT} {P : Program} {w : World} {K : PySem.W.Frag} {mg : Str → Option Value} {base : Heap} {k : Nat} {f : Addr} {name qual : Str} {params : Arguments} {body : List Stmt} {scope : Scope} {dV kV doc pm cdv ct oc : Value} {an od : Option Addr}
    {osl : Array (Option Value)} {N ps : List Str} {sp : Sp} (lk : K.lookup f = some ⟨oc, od, .func (PySem.W.fnOf name qual params body scope dV kV doc pm an cdv ct), osl⟩) (hcd : PySem.W.codeIn K cdv qual = true) (S : FnScope N ps scope) (hlen : ∀ vs H Q E, sp vs H Q E → vs.length = ps.length)
    (hbody : ∀ (A : Around) (outer : List Env) (s : Shared) (H : Hp) (vs : List V) (Q : VK) (E : XK), Room k (A.deeper (envOfC qual scope s.heap.objs.size f cdv)) → sp vs H Q E → (∀ b, s.heap.objs.size ≤ b → H b = none) →
      ∃ t, PB (cxOf CX P w K mg base N qual scope f cdv A outer s H E) body t ∧ t (fun v σ' H' => ∃ CS : List (Addr × V), (∀ p ∈ CS, ∃ (j : Nat) (x : Str), N[j]? = some x ∧ σ'[j]? = some (some p.2) ∧ scope.names.lookup x = some .cell ∧ (frameCells s.heap.objs.size scope).lookup x = some p.1) ∧ ((∀ p ∈ CS, H' p.1 = none) → Q v (addC CS H'))) (L2.start N vs) H) :
    FnOk P w K mg base CX (k + 1) f (PySem.W.fnOf name qual params body scope dV kV doc pm an cdv ct) ps sp := by
  refine ⟨hlen, fun A outer s H args us vs Q E hr e0 hb r hsp => ?_⟩
  have hl := hlen _ _ _ _ hsp
  have stay : ∀ b o, base.get? b = some o → s.heap.get? b = some o := fun b o e => (e0.bs b o e).1
  have KX : K.In s.heap := e0.mod.kin.keeps stay
  have lim : s.heap.NoLimit := e0.mod.nolimit.keeps stay
  have kinds : ∀ y ∈ ps.zip us, scope.names.lookup y.1 = some .local ∨ (scope.names.lookup y.1 = some .cell ∧ ((cellsFrom (s.heap.objs.size + 1) scope.names []).lookup y.1).isSome = true) := fun y hy => by
    rcases S.par y.1 (List.of_mem_zip hy).1 with q | q
    · exact .inl q
    · exact .inr ⟨q, PySem.W.cellsFrom_some _ _ _ (.inl q)⟩
  refine codeAny_call_function hr.depth (KX _ _ lk) rfl S.co S.gen rfl (PySem.W.codeRec_of KX hcd) (hb _ _ _ _ ?_)
  refine wpAny_newFunctionEnv_cells S.kind kinds fun env he s1 x => ?_
  subst he
  refine ⟨lim.keeps x.toInCall.keep, codeAny_func ?_⟩
  obtain ⟨t, ht, hq⟩ := hbody A outer s H vs Q E (hr.deeper _) hsp (fun b hb => e0.hok.fresh hb)
  have I : Inv (cxOf CX P w K mg base N qual scope f cdv A outer s H E) [] (L2.start N vs) H s1 := inv_start S hr.hd e0 hl r x
  refine wpAny_mono (ht [] s1 (L2.start N vs) H _ I hq) (fun fl s' hs => ?_) fun e s' hs => hs
  obtain ⟨u, v, σ', H', rfl, J, rv, CS, hCS, q⟩ := hs
  have known : ∀ {b : Addr} {v : V}, CS.lookup b = some v → H' b = none ∧ s.heap.objs.size ≤ b ∧ CellP b v s'.heap := fun {b v} e => by
    have hm : (b, v) ∈ CS := lk_mem e
    obtain ⟨j, x, q1, q2, q3, q4⟩ := hCS _ hm
    have lkc : (cxOf CX P w K mg base N qual scope f cdv A outer s H E).env.cells.lookup x = some b := q4
    refine ⟨J.freeC x b lkc, J.ok.cab x b rfl lkc, ?_⟩
    obtain ⟨m, _, hl⟩ := J.loc
    obtain ⟨u', r', l⟩ := hl j x v q1 q2 (.inr (.inl q3))
    rcases l with ⟨z, _⟩ | ⟨_, b', hb', hc⟩
    · have z' : scope.names.lookup x = some .local := z
      rw [q3] at z'
      cases z'
    · rw [lkc] at hb'
      cases hb'
      exact ⟨u', r', hc⟩
  have nC : ∀ p ∈ CS, H' p.1 = none := fun p hm => by
    obtain ⟨j, x, _, _, _, q4⟩ := hCS _ hm
    have lkc : (cxOf CX P w K mg base N qual scope f cdv A outer s H E).env.cells.lookup x = some p.1 := q4
    exact J.freeC x p.1 lkc
  have out : ∀ {b : Addr} {o : HO}, H' b = some o → CS.lookup b = none := fun {b o} e => by
    cases z : CS.lookup b with
    | none => rfl
    | some v => rw [(known z).1] at e; cases e
  have base' : Un (frs outer) [] H H' s.heap s'.heap := J.base
  refine ⟨v, addC CS H', J.os, J.bare, ⟨base'.keep, base'.slot, fun b o e n hx => ?_, base'.there, fun b xs e => ?_, fun b o u e => ?_, fun b qs e => ?_⟩, fun b o e => ?_, rv, q nC⟩
  · have z : CS.lookup b = none := by
      cases z : CS.lookup b with
      | none => rfl
      | some v => exact absurd (Heap.lt_size e) (Nat.not_lt.mpr (known z).2.1)
    rw [addC_out z]
    exact base'.free b o e n hx
  · rw [addC_out (out (base'.tups b xs e))]; exact base'.tups b xs e
  · rw [addC_out (out (base'.frzs b o u e))]; exact base'.frzs b o u e
  · obtain ⟨more, z⟩ := base'.tbls b qs e
    exact ⟨more, by rw [addC_out (out z)]; exact z⟩
  · cases z : CS.lookup b with
    | some v =>
      rw [addC_in z] at e
      cases e
      exact cellO_ok (known z).2.2
    | none =>
      rw [addC_out z] at e
      exact (J.hok b o e).stay (fun c v _ z => z) (fun c z => by rw [addC_out (out z)]; exact z) fun c xs z => by rw [addC_out (out z)]; exact z
theorem addC_some {CS : List (Addr × V)} {H' : Hp} (nC : ∀ p ∈ CS, H' p.1 = none) {b : Addr} {o : HO} (h : H' b = some o) : addC CS H' b = some o := by
  have z : CS.lookup b = none := by
    cases z : CS.lookup b with
    | none => rfl
    | some v => rw [nC _ (lk_mem z)] at h; cases h
  rw [addC_out z]; exact h
theorem lamO_lst {f : Addr} {F : LF} (ys : List V) : LamO f F ≠ .lst ys := fun z => by unfold LamO at z; cases z
theorem codeO_lst {c : Addr} {q : Str} (ys : List V) : CodeO c q ≠ .lst ys := fun z => by unfold CodeO at z; cases z
theorem upd_lst {H : Hp} {p b : Addr} {xs : List V} {o u : HO} (hp : H p = some (.lst xs)) (hb : H b = some u) (hn : ∀ ys, u ≠ .lst ys) : upd H p o b = some u := by
  have ne : b ≠ p := fun z => by
    rw [z, hp] at hb
    exact hn xs (Option.some.inj hb).symm
  rw [upd_ne ne]
  exact hb
def lamQn (x : Str) : Str := x ++ ".<locals>." ++ "<lambda>"
theorem lk_at : ∀ {xs : List (Str × Addr × V)} {i : Nat} {x : Str × Addr × V}, (xs.map (·.1)).Nodup → xs[i]? = some x → (xs.map fun y : Str × Addr × V => (y.1, y.2.1)).lookup x.1 = some x.2.1
  | y :: xs, 0, x, _, h => by
    cases h
    simp [List.lookup]
  | y :: xs, i + 1, x, nd, h => by
    have h' : xs[i]? = some x := h
    have nd' := List.nodup_cons.mp nd
    have ne : x.1 ≠ y.1 := fun e => nd'.1 (List.mem_map.mpr ⟨x, List.mem_of_getElem? h', e⟩)
    have ih := lk_at nd'.2 h'
    rw [List.map_cons, List.lookup_cons, beq_eq_false_iff_ne.mpr ne]
    exact ih
/-- a lambda as the rule that makes it tells it -/
theorem work_of {P : Program} {w : World} {K : PySem.W.Frag} {mg : Str → Option Value} {base : Heap} {k : Nat} {H : Hp} {f : Addr} {F : LF} {tl : XK → Hp → VK → Prop} (xs : List (Str × Addr × V)) (h1 : H f = some (LamO f F)) (h2 : H F.c = some (CodeO F.c F.qual)) (h3 : f ≠ F.c)
    (hcl : F.cl = xs.map fun x => (x.1, x.2.1)) (hn : (xs.map (·.1)).Nodup) (hc : (xs.map (·.2.1)).Nodup) (hcell : ∀ x ∈ xs, H x.2.1 = some (CellO x.2.1 x.2.2)) (hco : ∀ x ∈ xs, F.c ≠ x.2.1) (ok : LOk P w K mg base k f F (xs.map (·.1)) (xs.map fun x => some x.2.2) tl) :
    WorkAt P w K mg base k H f (f :: xs.map (·.2.1)) tl := by
  have cm : ∀ p ∈ F.cl, ∃ (i : Nat) (x : Str × Addr × V), xs[i]? = some x ∧ p = (x.1, x.2.1) := fun p hp => by
    rw [hcl] at hp
    obtain ⟨x, hx, rfl⟩ := List.mem_map.mp hp
    obtain ⟨i, hi⟩ := List.mem_iff_getElem?.mp hx
    exact ⟨i, x, hi, rfl⟩
  refine ⟨F, xs.map (·.1), xs.map (·.2.2), h1, h2, fun hm => ?_, by rw [hcl, List.map_map]; rfl, by rw [List.length_map, List.length_map], fun i y hy => ?_, fun p hp => ?_, fun x y c e1 e2 => ?_, by rw [List.map_map]; exact ok⟩
  · rcases List.mem_cons.mp hm with z | z
    · exact h3 z.symm
    · obtain ⟨x, hx, e⟩ := List.mem_map.mp z
      exact hco x hx e.symm
  · rw [List.getElem?_map] at hy
    obtain ⟨x, hx, rfl⟩ := Option.map_eq_some_iff.mp hy
    exact ⟨x.2.1, x.2.2, by rw [hcl]; exact lk_at hn hx, by rw [List.getElem?_map, hx]; rfl, hcell x (List.mem_of_getElem? hx)⟩
  · obtain ⟨i, x, hx, rfl⟩ := cm p hp
    exact ⟨i, by rw [List.getElem?_map, hx]; rfl, by rw [hcl]; exact lk_at hn hx⟩
  · obtain ⟨i, x1, hx1, q1⟩ := cm _ (PySem.mem_of_lookup e1)
    obtain ⟨j, x2, hx2, q2⟩ := cm _ (PySem.mem_of_lookup e2)
    cases q1
    have e : x1.2.1 = x2.2.1 := congrArg Prod.snd q2
    have hij : i = j := by
      have a1 : (xs.map (·.2.1))[i]? = some x1.2.1 := by rw [List.getElem?_map, hx1]; rfl
      have a2 : (xs.map (·.2.1))[j]? = some x1.2.1 := by rw [List.getElem?_map, hx2, e]; rfl
      exact nd_ix hc a1 a2
    subst hij
    rw [hx1] at hx2
    cases hx2
    exact (congrArg Prod.fst q2).symm
theorem sq_hide {P : Program} {w : World} {K : PySem.W.Frag} {mg : Str → Option Value} {base : Heap} {k : Nat} {H : Hp} {f l : Addr} {L : List Addr} {tl : XK → Hp → VK → Prop} {xs : List V} (x : WorkAt P w K mg base k H f L tl) (h : SqL K H l xs) : SqL K (hideL L H) l xs := by
  have nl : ∀ o, H l = some o → (∀ F, o ≠ LamO l F) → (∀ v, o ≠ CellO l v) → hideL L H l = some o := fun o ho n1 n2 => by
    rw [hide_out fun hm => ?_]
    · exact ho
    · obtain ⟨o', ho', z⟩ := x.hid l hm
      rw [ho] at ho'
      cases ho'
      rcases z with ⟨F, z⟩ | ⟨v, z⟩
      · exact n1 F z
      · exact n2 v z
  rcases h with (h | ⟨o, h⟩) | h
  · exact .inl (.inl (nl _ h (fun F z => by unfold LamO at z; cases z) fun v z => by unfold CellO at z; cases z))
  · exact .inl (.inr ⟨o, nl _ h (fun F z => by unfold LamO at z; cases z) fun v z => by unfold CellO at z; cases z⟩)
  · exact .inr h
theorem lk_nth : ∀ {CS : List (Addr × V)} {i : Nat} {c : Addr} {v : V}, (CS.map (·.1)).Nodup → CS[i]? = some (c, v) → CS.lookup c = some v
  | y :: CS, 0, c, v, _, h => by
    cases h
    simp [List.lookup]
  | y :: CS, i + 1, c, v, nd, h => by
    have h' : CS[i]? = some (c, v) := h
    have nd' := List.nodup_cons.mp nd
    have ne : c ≠ y.1 := fun e => nd'.1 (List.mem_map.mpr ⟨(c, v), List.mem_of_getElem? h', e⟩)
    have ih := lk_nth nd'.2 h'
    rw [List.lookup_cons, beq_eq_false_iff_ne.mpr ne]
    exact ih
/-- pe_kindv, the written part said -/
theorem pe_kindvK (P : Program) (w : World) (K : PySem.W.Frag) (mg : Str → Option Value) (base : Heap) {X : Cx} {TT : (XK → Hp → VK → Prop) → Hp → VK → Prop} {x a y : Str} {g : Addr} {k i : Nat} {pg : Arguments} {bg : List Stmt} {sg : Scope} {dV kV doc pm cdv ct oc : Value} {an od : Option Addr} {osl : Array (Option Value)} {Ng : List Str}
    {p py pos : Pos} (hg : Gl X x) (hm : mg x = some (.ref g)) (hk : PySem.W.keepIn K (.ref g) = true)
    (lk : K.lookup g = some ⟨oc, od, .func (PySem.W.fnOf x x pg bg sg dV kV doc pm an cdv ct), osl⟩) (hcg : PySem.W.codeIn K cdv x = true) (hb : L2.Binds K (PySem.W.fnOf x x pg bg sg dV kV doc pm an cdv ct) [a] []) (Sg : FnScope Ng [a] sg) (hNg : Ng[0]? = some a) (hva : Vis sg a)
    (hG : ∀ q, GivesTo X Ng x sg g cdv bg a q TT) (hr : Room (k + 1) X.A) (hN : X.N[i]? = some y) (hv : Vis X.env.scope y)
    (h1 : X.prog = P := by rfl) (h2 : X.w = w := by rfl) (h3 : X.K = K := by rfl) (h4 : X.mg = mg := by rfl) (h5 : X.base = base := by rfl)
    (hdb : (x == ("__debug__" : Str)) = false := by decide) (hd : (a == ("__debug__" : Str)) = false := by decide) (hcd : (a == ("__classdict__" : Str)) = false := by decide) (hd2 : (y == ("__debug__" : Str)) = false := by decide) (hcd2 : (y == ("__classdict__" : Str)) = false := by decide) :
    PE X (.Call (.Name x p) [.Name y py] [] pos) (tKindV P w K mg base k i TT) := by
  subst h1 h2 h3 h4 h5
  exact pe_kindv hg hm hk lk hcg hb Sg hNg hva hG hr hN hv hdb hd hcd hd2 hcd2
/-! ### what refuses -/
def BadSh (b p : Int) : Prop := ¬ (1 ≤ b ∧ b ≤ 64 ∧ 0 ≤ p ∧ p ≤ b)
/-- of a frame that is none: BadFrame -/
def orF (K : PySem.W.Frag) (sp : Sp) : Sp := fun vs H Q E => sp vs H Q E ∨ ∃ (l : Addr) (xs : List Int), vs = [.ref l] ∧ SqL K H l (xs.map V.int) ∧ xs.length ≤ 10000 ∧ ¬ Frm xs ∧ ∀ H', Same H H' → E (.ref (He.ga K "BadFrame")) none H'
/-- of a share that is none: BadShare -/
def orS2 (K : PySem.W.Frag) (sp : Sp) : Sp := fun vs H Q E => sp vs H Q E ∨ ∃ b p : Int, vs = [.int b, .int p] ∧ BadSh b p ∧ E (.ref (He.ga K "BadShare")) none H
def orS3 (K : PySem.W.Frag) (sp : Sp) : Sp := fun vs H Q E => sp vs H Q E ∨ ∃ b p t : Int, vs = [.int b, .int p, .int t] ∧ BadSh b p ∧ E (.ref (He.ga K "BadShare")) none H
/-! ### changes -/
def prv (fs : List Int) (k : Nat) : Int := if k = 0 then fs.getD (fs.length - 1) 0 else fs.getD (k - 1) 0
def chgTo (fs : List Int) (n : Nat) : List Nat := (List.range n).filter fun k => decide (fs.getD k 0 ≠ prv fs k)
theorem chgTo_succ (fs : List Int) (n : Nat) : chgTo fs (n + 1) = if fs.getD n 0 ≠ prv fs n then chgTo fs n ++ [n] else chgTo fs n := by
  unfold chgTo
  rw [List.range_succ, List.filter_append]
  by_cases h : fs.getD n 0 ≠ prv fs n
  · rw [if_pos h]
    congr 1
    exact List.filter_cons_of_pos (p := fun k => decide (fs.getD k 0 ≠ prv fs k)) (decide_eq_true h)
  · rw [if_neg h, List.filter_cons_of_neg (p := fun k => decide (fs.getD k 0 ≠ prv fs k)) (fun z => h (of_decide_eq_true z)), List.filter_nil, List.append_nil]
theorem chgTo_len (fs : List Int) (n : Nat) : (chgTo fs n).length ≤ n := by
  have := List.length_filter_le (fun k => decide (fs.getD k 0 ≠ prv fs k)) (List.range n)
  rw [List.length_range] at this
  exact this
def chg (fs : List Int) : Nat := (chgTo fs fs.length).length
theorem chgTo_sum (fs : List Int) : ∀ n, ((chgTo fs n).length : Int) = tsum (fun k => if fs.getD k 0 = prv fs k then 0 else 1) n
  | 0 => rfl
  | n + 1 => by
    rw [tsum_succ, ← chgTo_sum fs n, chgTo_succ]
    by_cases h : fs.getD n 0 = prv fs n
    · rw [if_neg (fun z => z h), if_pos h]; omega
    · rw [if_pos h, if_neg h, List.length_append]; simp
theorem prv_cyc {fs : List Int} {k : Nat} (hk : k < fs.length) : prv fs k = cyc fs (k + (fs.length - 1)) := by
  unfold prv
  by_cases h : k = 0
  · subst h
    rw [if_pos rfl, Nat.zero_add, cyc_lt (by omega)]
  · rw [if_neg h, show k + (fs.length - 1) = (k - 1) + fs.length by omega, cyc_add, cyc_lt (by omega)]
theorem sum_prv (fs : List Int) : tsum (prv fs) fs.length = fs.sum := by
  rw [← tsum_shift fs (fs.length - 1)]
  exact tsum_congr _ fun k hk => prv_cyc hk
theorem sum_getD (fs : List Int) : tsum (fun k => fs.getD k 0) fs.length = fs.sum := by
  rw [← tsum_shift fs 0]
  exact tsum_congr _ fun k hk => (cyc_lt hk).symm
theorem prv_bit {fs : List Int} (h : ∀ k, fs.getD k 0 = 0 ∨ fs.getD k 0 = 1) (k : Nat) : prv fs k = 0 ∨ prv fs k = 1 := by
  unfold prv
  split
  · exact h _
  · exact h _
theorem chg_le {fs : List Int} (h : ∀ k, fs.getD k 0 = 0 ∨ fs.getD k 0 = 1) : (chg fs : Int) ≤ 2 * fs.sum ∧ (chg fs : Int) ≤ 2 * ((fs.length : Int) - fs.sum) := by
  have e := chgTo_sum fs fs.length
  have a := sum_getD fs
  have b := sum_prv fs
  have s := tsum_add (fun k => fs.getD k 0) (prv fs) fs.length
  rw [a, b] at s
  constructor
  · have := tsum_le (f := fun k => if fs.getD k 0 = prv fs k then 0 else 1) (g := fun k => fs.getD k 0 + prv fs k) fs.length fun k _ => by
      have := h k; have := prv_bit h k
      show (if fs.getD k 0 = prv fs k then (0 : Int) else 1) ≤ fs.getD k 0 + prv fs k
      split <;> omega
    unfold chg; omega
  · have := tsum_le (f := fun k => (if fs.getD k 0 = prv fs k then 0 else 1) + (fs.getD k 0 + prv fs k)) (g := fun _ => 2) fs.length fun k _ => by
      have := h k; have := prv_bit h k
      show (if fs.getD k 0 = prv fs k then (0 : Int) else 1) + (fs.getD k 0 + prv fs k) ≤ 2
      split <;> omega
    rw [tsum_const, tsum_add, ← e, s] at this
    unfold chg; omega
theorem chg_ev {b p t : Int} (hb : 0 < b) (hbit : ∀ k, (evL b p t).getD k 0 = 0 ∨ (evL b p t).getD k 0 = 1) : (chg (evL b p t) : Int) = 2 * (if b - p < p then b - p else p) := by
  have hl : ((evL b p t).length : Int) = b := by rw [evL_len]; omega
  have hs : (evL b p t).sum = p := evL_sum hb _ _
  have e := chgTo_sum (evL b p t) (evL b p t).length
  have a := sum_getD (evL b p t)
  have c := sum_prv (evL b p t)
  have s := tsum_add (fun k => (evL b p t).getD k 0) (prv (evL b p t)) (evL b p t).length
  rw [a, c] at s
  have w : ∀ k, k < (evL b p t).length → (2 : Int) * p / b ≤ (evL b p t).getD k 0 + prv (evL b p t) k ∧ (evL b p t).getD k 0 + prv (evL b p t) k ≤ 2 * p / b + 1 := fun k hk => by
    have h := evL_part (p := p) (t := t) hb 2 (k + ((evL b p t).length - 1))
    have e2 : win (evL b p t) 2 (k + ((evL b p t).length - 1)) = (evL b p t).getD k 0 + prv (evL b p t) k := by
      rw [prv_cyc hk, ← cyc_lt hk]
      unfold win
      rw [show k + ((evL b p t).length - 1) + 2 = (k + ((evL b p t).length - 1) + 1) + 1 by omega, psum, psum, show k + ((evL b p t).length - 1) + 1 = k + (evL b p t).length by omega, cyc_add]
      omega
    rw [e2] at h
    exact h
  by_cases hc : 2 * p < b
  · have q : 2 * p / b ≤ 0 := by
      have : 2 * p / b < 1 := Int.ediv_lt_of_lt_mul hb (by omega)
      omega
    have := tsum_congr (f := fun k => if (evL b p t).getD k 0 = prv (evL b p t) k then 0 else 1) (g := fun k => (evL b p t).getD k 0 + prv (evL b p t) k) (evL b p t).length fun k hk => by
      have := hbit k; have := prv_bit hbit k; have := w k hk
      show (if (evL b p t).getD k 0 = prv (evL b p t) k then (0 : Int) else 1) = (evL b p t).getD k 0 + prv (evL b p t) k
      split <;> omega
    rw [if_neg (by omega)]
    unfold chg; omega
  · have q : 1 ≤ 2 * p / b := Int.le_ediv_of_mul_le hb (by omega)
    have := tsum_congr (f := fun k => (if (evL b p t).getD k 0 = prv (evL b p t) k then 0 else 1) + ((evL b p t).getD k 0 + prv (evL b p t) k)) (g := fun _ => 2) (evL b p t).length fun k hk => by
      have := hbit k; have := prv_bit hbit k; have := w k hk
      show (if (evL b p t).getD k 0 = prv (evL b p t) k then (0 : Int) else 1) + ((evL b p t).getD k 0 + prv (evL b p t) k) = 2
      split <;> omega
    rw [tsum_const, tsum_add, ← e, s] at this
    by_cases hd : b - p < p
    · rw [if_pos hd]; unfold chg; omega
    · rw [if_neg hd]; unfold chg; omega
/-- changes, beat for beat -/
def lc : Int → List Int → Nat
  | _, [] => 0
  | p, x :: xs => (if x = p then 0 else 1) + lc x xs
theorem lc_filter : ∀ (fs : List Int) (p : Int), ((List.range fs.length).filter fun k => decide (fs.getD k 0 ≠ (p :: fs).getD k 0)).length = lc p fs
  | [], _ => rfl
  | x :: xs, p => by
    rw [List.length_cons, List.range_succ_eq_map, List.filter_cons]
    have ih := lc_filter xs x
    have e : ((List.map Nat.succ (List.range xs.length)).filter fun k => decide ((x :: xs).getD k 0 ≠ (p :: x :: xs).getD k 0)).length = lc x xs := by
      rw [List.filter_map, List.length_map, ← ih]
      rfl
    by_cases h : x = p
    · subst h
      simp only [List.getD_cons_zero, ne_eq, not_true, decide_false]
      rw [lc, if_pos rfl, Nat.zero_add]
      exact e
    · rw [lc, if_neg h]
      simp only [List.getD_cons_zero, ne_eq, h, not_false_eq_true, decide_true, if_true, List.length_cons]
      rw [e]
      omega
theorem chg_lc (fs : List Int) : chg fs = lc (fs.getD (fs.length - 1) 0) fs := by
  rw [← lc_filter]
  unfold chg chgTo
  congr 2
  funext k
  congr 2
  cases k with
  | zero => rfl
  | succ k => rfl
theorem lc_rep {p x : Int} {ys : List Int} : ∀ n, 0 < n → lc p (List.replicate n x ++ ys) = (if x = p then 0 else 1) + lc x ys
  | 1, _ => by simp [lc]
  | n + 2, _ => by
    rw [List.replicate_succ, List.cons_append, lc, lc_rep (n + 1) (by omega), if_pos rfl, Nat.zero_add]
/-! ### frames of told runs -/
def frs : List (Nat × Nat) → List Int
  | [] => []
  | z :: r => List.replicate z.1 1 ++ (List.replicate z.2 0 ++ frs r)
theorem frs_append : ∀ a b : List (Nat × Nat), frs (a ++ b) = frs a ++ frs b
  | [], _ => rfl
  | z :: r, b => by rw [List.cons_append, frs, frs, frs_append r b]; simp [List.append_assoc]
theorem frs_snoc (a : List (Nat × Nat)) (x y : Nat) : frs (a ++ [(x, y)]) = frs a ++ List.replicate x 1 ++ List.replicate y 0 := by
  rw [frs_append]; simp [frs, List.append_assoc]
theorem frs_bit : ∀ zs : List (Nat × Nat), ∀ f ∈ frs zs, f = 0 ∨ f = 1
  | [], f, h => absurd h (by simp [frs])
  | z :: r, f, h => by
    rw [frs, List.mem_append, List.mem_append] at h
    rcases h with h | h | h
    · right; exact List.eq_of_mem_replicate h
    · left; exact List.eq_of_mem_replicate h
    · exact frs_bit r f h
theorem rep_sum (x : Int) : ∀ n : Nat, (List.replicate n x).sum = (n : Int) * x
  | 0 => by simp
  | n + 1 => by rw [List.replicate_succ, List.sum_cons, rep_sum x n, Int.natCast_add, Int.add_mul]; omega
theorem frs_sum : ∀ zs : List (Nat × Nat), (frs zs).sum = (((zs.map Prod.fst).sum : Nat) : Int)
  | [] => rfl
  | z :: r => by
    rw [frs, List.sum_append, List.sum_append, frs_sum r, rep_sum, rep_sum, List.map_cons, List.sum_cons]
    simp
theorem frs_len : ∀ zs : List (Nat × Nat), (frs zs).length = (zs.map Prod.fst).sum + (zs.map Prod.snd).sum
  | [] => rfl
  | z :: r => by
    rw [frs, List.length_append, List.length_append, frs_len r, List.length_replicate, List.length_replicate, List.map_cons, List.sum_cons, List.map_cons, List.sum_cons]
    omega
theorem frs_lc : ∀ zs : List (Nat × Nat), (∀ z ∈ zs, 0 < z.1 ∧ 0 < z.2) → lc 0 (frs zs) = 2 * zs.length
  | [], _ => rfl
  | z :: r, h => by
    obtain ⟨h1, h2⟩ := h z List.mem_cons_self
    rw [frs, lc_rep _ h1, if_neg (by decide), lc_rep _ h2, if_neg (by decide), frs_lc r fun y hy => h y (List.mem_cons_of_mem _ hy), List.length_cons]
    omega
theorem last_app (xs : List Int) (n : Nat) (h : 0 < n) : (xs ++ List.replicate n 0).getD ((xs ++ List.replicate n 0).length - 1) 0 = 0 := by
  rw [List.getD_eq_getElem?_getD, List.length_append, List.length_replicate, List.getElem?_append_right (by omega), List.getElem?_replicate]
  split <;> rfl
theorem frs_chg {zs : List (Nat × Nat)} (h : ∀ z ∈ zs, 0 < z.1 ∧ 0 < z.2) : chg (frs zs) = 2 * zs.length := by
  rcases List.eq_nil_or_concat zs with e | ⟨a, z, e⟩
  · subst e; rfl
  · rw [chg_lc]
    have hl : (frs zs).getD ((frs zs).length - 1) 0 = 0 := by
      rw [e, List.concat_eq_append, frs_snoc a z.1 z.2]
      exact last_app _ _ (h z (by rw [e, List.concat_eq_append]; exact List.mem_append_right _ List.mem_cons_self)).2
    rw [hl, frs_lc zs h]
theorem frs_on (n : Nat) : chg (frs [(n, 0)]) = 0 := by
  rw [chg_lc]
  simp only [frs, List.replicate_zero, List.append_nil]
  cases n with
  | zero => rfl
  | succ n =>
    have : (List.replicate (n + 1) (1 : Int)).getD ((List.replicate (n + 1) (1 : Int)).length - 1) 0 = 1 := by
      rw [List.getD_eq_getElem?_getD, List.getElem?_replicate, List.length_replicate, if_pos (by omega)]; rfl
    rw [this]
    have := lc_rep (p := 1) (x := 1) (ys := []) (n + 1) (by omega)
    rw [List.append_nil] at this
    rw [this]; rfl
/-! ### parts -/
def part (m n k : Nat) : Nat := m / n + if k < m % n then 1 else 0
theorem part_near {m n k : Nat} : m / n ≤ part m n k ∧ part m n k ≤ m / n + 1 := by
  unfold part; split <;> omega
theorem part_pos {m n k : Nat} (hn : 0 < n) (h : n ≤ m) : 0 < part m n k := by
  have : 0 < m / n := Nat.div_pos h hn
  have := (part_near (m := m) (n := n) (k := k)).1
  omega
theorem part_one (m : Nat) : part m 1 0 = m := by simp [part, Nat.mod_one]
theorem ind_sum (r : Nat) : ∀ n : Nat, ((List.range n).map fun k => if k < r then 1 else 0).sum = min n r
  | 0 => by simp
  | n + 1 => by
    rw [List.range_succ, List.map_append, List.sum_append, ind_sum r n]
    simp only [List.map_cons, List.map_nil, List.sum_cons, List.sum_nil]
    split <;> omega
theorem sum_add_const (f : Nat → Nat) (q : Nat) : ∀ n : Nat, ((List.range n).map fun k => q + f k).sum = n * q + ((List.range n).map f).sum
  | 0 => by simp
  | n + 1 => by
    rw [List.range_succ, List.map_append, List.sum_append, sum_add_const f q n, List.map_append, List.sum_append, Nat.add_mul]
    simp only [List.map_cons, List.map_nil, List.sum_cons, List.sum_nil]
    omega
theorem part_sum {m n : Nat} (hn : 0 < n) : ((List.range n).map (part m n)).sum = m := by
  show ((List.range n).map fun k => m / n + if k < m % n then 1 else 0).sum = m
  rw [sum_add_const, ind_sum, Nat.min_eq_right (Nat.le_of_lt (Nat.mod_lt _ hn))]
  exact Nat.div_add_mod m n
/-- the pairs of a frame of n runs -/
def prs (p q n i : Nat) : List (Nat × Nat) := (List.range i).map fun k => (part p n k, part q n k)
theorem prs_succ (p q n i : Nat) : prs p q n (i + 1) = prs p q n i ++ [(part p n i, part q n i)] := by
  unfold prs; rw [List.range_succ, List.map_append]; rfl
theorem prs_fst (p q n i : Nat) : (prs p q n i).map Prod.fst = (List.range i).map (part p n) := by
  unfold prs; rw [List.map_map]; rfl
theorem prs_snd (p q n i : Nat) : (prs p q n i).map Prod.snd = (List.range i).map (part q n) := by
  unfold prs; rw [List.map_map]; rfl
theorem prs_len (p q n i : Nat) : (prs p q n i).length = i := by simp [prs]
theorem prs_pos {p q n : Nat} (hn : 0 < n) (h1 : n ≤ p) (h2 : n ≤ q) {i : Nat} : ∀ z ∈ prs p q n i, 0 < z.1 ∧ 0 < z.2 := fun z hz => by
  unfold prs at hz
  obtain ⟨k, _, rfl⟩ := List.mem_map.mp hz
  exact ⟨part_pos hn h1, part_pos hn h2⟩
/-! ### lengths of runs -/
def lenStep (x : Int) (s : List Int × Bool) (f : Int) : List Int × Bool := if f = x then (if s.2 = true then (s.1.dropLast ++ [s.1.getLastD 0 + 1], true) else (s.1 ++ [1], true)) else (s.1, false)
def lens (x : Int) (fs : List Int) : List Int × Bool := fs.foldl (lenStep x) ([], false)
theorem step_rep_in (x : Int) (L : List Int) : ∀ n : Nat, (List.replicate (n + 1) x).foldl (lenStep x) (L, false) = (L ++ [(n : Int) + 1], true)
  | 0 => by simp [lenStep]
  | n + 1 => by
    rw [List.replicate_succ', List.foldl_append, step_rep_in x L n]
    simp [lenStep]
theorem step_rep_out {x y : Int} (h : y ≠ x) (s : List Int × Bool) : ∀ n : Nat, (List.replicate (n + 1) y).foldl (lenStep x) s = (s.1, false)
  | 0 => by simp [lenStep, h]
  | n + 1 => by
    rw [List.replicate_succ', List.foldl_append, step_rep_out h s n]
    simp [lenStep, h]
theorem lens_one : ∀ (zs : List (Nat × Nat)) (L : List Int), (∀ z ∈ zs, 0 < z.1 ∧ 0 < z.2) → (frs zs).foldl (lenStep 1) (L, false) = (L ++ zs.map (fun z => (z.1 : Int)), false)
  | [], L, _ => by simp [frs]
  | z :: r, L, h => by
    obtain ⟨h1, h2⟩ := h z List.mem_cons_self
    obtain ⟨a, ha⟩ : ∃ a, z.1 = a + 1 := ⟨z.1 - 1, by omega⟩
    obtain ⟨b, hb⟩ : ∃ b, z.2 = b + 1 := ⟨z.2 - 1, by omega⟩
    rw [frs, ha, hb, List.foldl_append, step_rep_in, List.foldl_append, step_rep_out (by decide), lens_one r _ fun y hy => h y (List.mem_cons_of_mem _ hy), List.map_cons, ha]
    simp
theorem lens_zero : ∀ (zs : List (Nat × Nat)) (L : List Int) (f : Bool), (∀ z ∈ zs, 0 < z.1 ∧ 0 < z.2) → ((frs zs).foldl (lenStep 0) (L, f)).1 = L ++ zs.map (fun z => (z.2 : Int))
  | [], L, _, _ => by simp [frs]
  | z :: r, L, f, h => by
    obtain ⟨h1, h2⟩ := h z List.mem_cons_self
    obtain ⟨a, ha⟩ : ∃ a, z.1 = a + 1 := ⟨z.1 - 1, by omega⟩
    obtain ⟨b, hb⟩ : ∃ b, z.2 = b + 1 := ⟨z.2 - 1, by omega⟩
    rw [frs, ha, hb, List.foldl_append, step_rep_out (by decide), List.foldl_append, step_rep_in, lens_zero r _ _ fun y hy => h y (List.mem_cons_of_mem _ hy), List.map_cons, hb]
    simp
theorem lens_on (n : Nat) : (lens 1 (frs [(n + 1, 0)])).1 = [(n : Int) + 1] ∧ (lens 0 (frs [(n + 1, 0)])).1 = [] := by
  unfold lens
  simp only [frs, List.replicate_zero, List.append_nil]
  rw [step_rep_in, step_rep_out (by decide)]
  simp
theorem lens_take_succ {x : Int} {fs : List Int} {i : Nat} (h : i < fs.length) : lens x (fs.take (i + 1)) = lenStep x (lens x (fs.take i)) (fs.getD i 0) := by
  unfold lens
  rw [List.take_succ, List.getElem?_eq_getElem h, List.foldl_append]
  simp [List.getD, List.getElem?_eq_getElem h]
theorem lens_flag {x : Int} {fs : List Int} : ∀ {i : Nat}, i ≤ fs.length → ((lens x (fs.take i)).2 = true ↔ 0 < i ∧ fs.getD (i - 1) 0 = x) ∧ ((lens x (fs.take i)).2 = true → (lens x (fs.take i)).1 ≠ []) ∧ (lens x (fs.take i)).1.length ≤ i
  | 0, _ => by simp [lens]
  | i + 1, h => by
    obtain ⟨_, h2, h3⟩ := lens_flag (x := x) (fs := fs) (i := i) (by omega)
    rw [lens_take_succ (by omega)]
    unfold lenStep
    by_cases c : fs.getD i 0 = x
    · rw [if_pos c]
      by_cases d : (lens x (fs.take i)).2 = true
      · rw [if_pos d]
        have := h2 d
        have hp : 0 < (lens x (fs.take i)).1.length := List.length_pos_iff.mpr this
        refine ⟨⟨fun _ => ⟨by omega, by rw [Nat.add_sub_cancel]; exact c⟩, fun _ => rfl⟩, by simp, ?_⟩
        simp only [List.length_append, List.length_dropLast, List.length_cons, List.length_nil]
        omega
      · rw [if_neg d]
        refine ⟨⟨fun _ => ⟨by omega, by rw [Nat.add_sub_cancel]; exact c⟩, fun _ => rfl⟩, by simp, ?_⟩
        simp only [List.length_append, List.length_cons, List.length_nil]
        omega
    · rw [if_neg c]
      exact ⟨⟨fun z => absurd z Bool.false_ne_true, fun z => absurd (by rw [← z.2, Nat.add_sub_cancel]) c⟩, fun z => absurd z Bool.false_ne_true, Nat.le_succ_of_le h3⟩
/-! ### what a frame of told runs keeps -/
structure Runs (b p : Int) (m : Nat) (fs : List Int) : Prop where
  sum : fs.sum = p
  len : (fs.length : Int) = b
  bit : ∀ f ∈ fs, f = 0 ∨ f = 1
  chg : My.chg fs = if p < b then 2 * m else 0
  near : ∀ x : Int, x = 0 ∨ x = 1 → ∀ y z, y ∈ (lens x fs).1 → z ∈ (lens x fs).1 → y - z ≤ 1
theorem runs_mk {b p : Int} {m : Nat} (p0 : 0 ≤ p) (p1 : p ≤ b) (m0 : 1 ≤ m) (m1 : (m : Int) ≤ p) (m2 : m = 1 ∨ (m : Int) ≤ b - p) : Runs b p m (frs (prs p.toNat (b - p).toNat m m)) := by
  have hs : (frs (prs p.toNat (b - p).toNat m m)).sum = p := by rw [frs_sum, prs_fst, part_sum (by omega)]; omega
  have hl : ((frs (prs p.toNat (b - p).toNat m m)).length : Int) = b := by rw [frs_len, prs_fst, prs_snd, part_sum (by omega), part_sum (by omega)]; omega
  by_cases c : p < b
  · have hp := prs_pos (p := p.toNat) (q := (b - p).toNat) (n := m) (i := m) (by omega) (by omega) (by omega)
    refine ⟨hs, hl, frs_bit _, by rw [frs_chg hp, prs_len, if_pos c], fun x hx y z hy hz => ?_⟩
    rcases hx with e | e <;> subst e
    · rw [lens, lens_zero _ _ _ hp, List.nil_append] at hy hz
      obtain ⟨u, hu, rfl⟩ := List.mem_map.mp hy
      obtain ⟨v, hv, rfl⟩ := List.mem_map.mp hz
      obtain ⟨i, _, rfl⟩ := List.mem_map.mp hu
      obtain ⟨j, _, rfl⟩ := List.mem_map.mp hv
      have h1 := part_near (m := (b - p).toNat) (n := m) (k := i)
      have h2 := part_near (m := (b - p).toNat) (n := m) (k := j)
      show ((part (b - p).toNat m i : Nat) : Int) - ((part (b - p).toNat m j : Nat) : Int) ≤ 1
      omega
    · rw [lens, lens_one _ _ hp] at hy hz
      simp only [List.nil_append] at hy hz
      obtain ⟨u, hu, rfl⟩ := List.mem_map.mp hy
      obtain ⟨v, hv, rfl⟩ := List.mem_map.mp hz
      obtain ⟨i, _, rfl⟩ := List.mem_map.mp hu
      obtain ⟨j, _, rfl⟩ := List.mem_map.mp hv
      have h1 := part_near (m := p.toNat) (n := m) (k := i)
      have h2 := part_near (m := p.toNat) (n := m) (k := j)
      show ((part p.toNat m i : Nat) : Int) - ((part p.toNat m j : Nat) : Int) ≤ 1
      omega
  · have em : m = 1 := by omega
    have eq : (b - p).toNat = 0 := by omega
    obtain ⟨n, hn⟩ : ∃ n, p.toNat = n + 1 := ⟨p.toNat - 1, by omega⟩
    have e : prs p.toNat (b - p).toNat m m = [(n + 1, 0)] := by
      subst em
      rw [eq, hn]
      simp [prs, part, Nat.mod_one]
    rw [e] at hs hl ⊢
    obtain ⟨l1, l2⟩ := lens_on n
    refine ⟨hs, hl, frs_bit _, by rw [frs_on, if_neg c], fun x hx y z hy hz => ?_⟩
    rcases hx with e | e <;> subst e
    · rw [l2] at hy; cases hy
    · rw [l1] at hy hz
      simp only [List.mem_singleton] at hy hz
      omega
theorem bits_zero : ∀ {fs : List Int}, (∀ f ∈ fs, f = 0 ∨ f = 1) → fs.sum ≤ fs.length ∧ ((0 : Int) ∈ fs ↔ fs.sum < fs.length)
  | [], _ => by simp
  | f :: fs, h => by
    obtain ⟨h1, h2⟩ := bits_zero (fs := fs) fun g hg => h g (List.mem_cons_of_mem _ hg)
    have h3 := h f List.mem_cons_self
    rw [List.sum_cons, List.length_cons, List.mem_cons, h2]
    omega
def runsN (fs : List Int) : Int := if (0 : Int) ∈ fs then ((chg fs : Nat) : Int) / 2 else 1
theorem Runs.runs {b p : Int} {m : Nat} {fs : List Int} (h : Runs b p m fs) (m0 : 1 ≤ m) (m1 : (m : Int) ≤ p) (m2 : m = 1 ∨ (m : Int) ≤ b - p) : runsN fs = (m : Int) := by
  obtain ⟨h1, h2⟩ := bits_zero h.bit
  have a := h.sum
  have c := h.len
  have d := h.chg
  unfold runsN
  by_cases e : p < b
  · rw [if_pos (h2.mpr (by omega)), d, if_pos e]
    omega
  · rw [if_neg (fun z => e (by have := h2.mp z; omega))]
    omega
/-! ### texts of signs -/
def sgS (f : Int) : Str := if f = 0 then ⟨#[46]⟩ else ⟨#[35]⟩
def bitC (c : Nat) : Int := if c = 35 then 1 else 0
def okC (c : Nat) : Prop := c = 46 ∨ c = 35
instance (c : Nat) : Decidable (okC c) := inferInstanceAs (Decidable (_ ∨ _))
def bitsS (z : Str) : List Int := z.cps.toList.map bitC
def Gd (z : Str) : Prop := 1 ≤ z.cps.size ∧ z.cps.size ≤ 64 ∧ ∀ (i c : Nat), z.cps[i]? = some c → okC c
def Bd (z : Str) (n : Nat) : Prop := (z.cps.size = 0 ∧ n = 0) ∨ (n < z.cps.size ∧ n ≤ 64 ∧ (∀ i c : Nat, i < n → z.cps[i]? = some c → okC c) ∧ (n = 64 ∨ ∃ c, z.cps[n]? = some c ∧ ¬ okC c))
theorem gd_bd {z : Str} {n : Nat} (g : Gd z) (b : Bd z n) : False := by
  obtain ⟨g1, g2, g3⟩ := g
  rcases b with ⟨b1, _⟩ | ⟨b1, b2, b3, b4 | ⟨c, b4, b5⟩⟩
  · omega
  · omega
  · exact b5 (g3 n c b4)
theorem bd_bd {z : Str} {n m : Nat} (h : Bd z n) (k : Bd z m) : n = m := by
  rcases h with ⟨h1, h2⟩ | ⟨h1, h2, h3, h4⟩ <;> rcases k with ⟨k1, k2⟩ | ⟨k1, k2, k3, k4⟩
  · omega
  · omega
  · omega
  · rcases Nat.lt_trichotomy n m with l | l | l
    · rcases h4 with h4 | ⟨c, h4, h5⟩
      · omega
      · exact absurd (k3 n c l h4) h5
    · exact l
    · rcases k4 with k4 | ⟨c, k4, k5⟩
      · omega
      · exact absurd (h3 m c l k4) k5
theorem scan_s (z : Str) : ∀ N : Nat, (∃ n, n < N ∧ Bd z n) ∨ ∀ n, n < N → n < z.cps.size → n < 64 ∧ ∀ i c : Nat, i ≤ n → z.cps[i]? = some c → okC c
  | 0 => .inr fun n hn => absurd hn (Nat.not_lt_zero n)
  | N + 1 => by
    rcases scan_s z N with ⟨n, h1, h2⟩ | h
    · exact .inl ⟨n, Nat.lt_succ_of_lt h1, h2⟩
    by_cases hs : N < z.cps.size
    · have up : ∀ i c : Nat, i < N → z.cps[i]? = some c → okC c := fun i c hi e => (h i hi (Nat.lt_trans hi hs)).2 i c (Nat.le_refl _) e
      have le : N ≤ 64 := by
        cases N with
        | zero => omega
        | succ M => have := (h M (Nat.lt_succ_self M) (by omega)).1; omega
      by_cases h64 : N = 64
      · exact .inl ⟨N, Nat.lt_succ_self N, .inr ⟨hs, le, up, .inl h64⟩⟩
      by_cases hc : okC z.cps[N]
      · refine .inr fun n hn hz => ?_
        rcases Nat.lt_succ_iff_lt_or_eq.mp hn with l | l
        · exact h n l hz
        · subst l
          refine ⟨by omega, fun i c hi e => ?_⟩
          rcases Nat.lt_or_eq_of_le hi with l | l
          · exact up i c l e
          · subst l
            rw [Array.getElem?_eq_getElem hs] at e
            cases e
            exact hc
      · exact .inl ⟨N, Nat.lt_succ_self N, .inr ⟨hs, le, up, .inr ⟨_, Array.getElem?_eq_getElem hs, hc⟩⟩⟩
    · refine .inr fun n hn hz => ?_
      exact h n (by omega) hz
theorem gd_or_bd (z : Str) : Gd z ∨ ∃ n, Bd z n := by
  rcases scan_s z z.cps.size with ⟨n, _, h⟩ | h
  · exact .inr ⟨n, h⟩
  by_cases h0 : z.cps.size = 0
  · exact .inr ⟨0, .inl ⟨h0, rfl⟩⟩
  have h1 := h (z.cps.size - 1) (by omega) (by omega)
  refine .inl ⟨by omega, by omega, fun i c e => ?_⟩
  have hi : i < z.cps.size := (Array.getElem?_eq_some_iff.mp e).1
  exact h1.2 i c (by omega) e
theorem join_cps : ∀ ys : List Str, (Str.join ⟨#[]⟩ ys).cps.toList = ys.flatMap fun y => y.cps.toList
  | [] => rfl
  | [x] => by simp [Str.join]
  | x :: y :: r => by
    have ih := join_cps (y :: r)
    show (x.cps ++ #[] ++ (Str.join ⟨#[]⟩ (y :: r)).cps).toList = _
    rw [List.flatMap_cons, ← ih]
    simp
def wrS (fs : List Int) : Str := Txt.join ⟨#[]⟩ (fs.map sgS)
def sgC (f : Int) : Nat := if f = 0 then 46 else 35
theorem wrS_cps (fs : List Int) : (wrS fs).cps.toList = fs.map sgC := by
  unfold wrS
  rw [TL.join_eq, join_cps]
  induction fs with
  | nil => rfl
  | cons f fs ih =>
    rw [List.map_cons, List.flatMap_cons, ih, List.map_cons]
    unfold sgS sgC
    by_cases h : f = 0 <;> simp [h]
theorem wrS_size (fs : List Int) : (wrS fs).cps.size = fs.length := by
  have h := congrArg List.length (wrS_cps fs)
  rw [List.length_map, Array.length_toList] at h
  exact h
theorem sgC_ok (f : Int) : okC (sgC f) := by
  unfold sgC okC
  by_cases h : f = 0 <;> simp [h]
theorem wrS_gd {fs : List Int} (h : Frm fs) : Gd (wrS fs) := by
  refine ⟨by rw [wrS_size]; exact h.pos, by rw [wrS_size]; exact h.le, fun i c e => ?_⟩
  have e2 : (wrS fs).cps.toList[i]? = some c := by rw [Array.getElem?_toList]; exact e
  rw [wrS_cps, List.getElem?_map] at e2
  obtain ⟨f, _, rfl⟩ := Option.map_eq_some_iff.mp e2
  exact sgC_ok f
theorem bits_wrS {fs : List Int} (h : Frm fs) : bitsS (wrS fs) = fs := by
  unfold bitsS
  rw [wrS_cps, List.map_map]
  refine (List.map_congr_left (g := id) fun f hf => ?_).trans (List.map_id fs)
  show bitC (sgC f) = f
  rcases h.bit f hf with e | e <;> subst e <;> rfl
theorem sg_sum (fs : List Int) : ((fs.map sgS).map (·.length)).sum = fs.length := by
  induction fs with
  | nil => rfl
  | cons f fs ih =>
    rw [List.map_cons, List.map_cons, List.sum_cons, ih, List.length_cons]
    have : (sgS f).length = 1 := by unfold sgS; by_cases h : f = 0 <;> simp [h] <;> rfl
    omega
theorem at_ex {xs : List Nat} {r : Int} (h0 : 0 ≤ r) (h1 : r < xs.length) : ∃ c, atI xs r = some c := by
  have hl : r.toNat < xs.length := by omega
  refine ⟨xs[r.toNat], ?_⟩
  unfold atI ixN
  rw [if_pos h0, if_pos h1]
  exact List.getElem?_eq_getElem hl
theorem at_nat {xs : List Nat} {i : Nat} {r : Int} {c : Nat} (e : r = (i : Int)) (h : xs[i]? = some c) : atI xs r = some c := by
  have h1 := (List.getElem?_eq_some_iff.mp h).1
  subst e
  unfold atI ixN
  rw [if_pos (Int.natCast_nonneg i), if_pos (by omega)]
  exact h
/-! ### exact -/
def exN (b p : Nat) : Nat := b / Nat.gcd b p
theorem gcd_pos {b p : Nat} (hb : 0 < b) : 0 < Nat.gcd b p := Nat.gcd_pos_of_pos_left p hb
theorem exN_pos {b p : Nat} (hb : 0 < b) : 0 < exN b p := Nat.div_pos (Nat.le_of_dvd hb (Nat.gcd_dvd_left b p)) (gcd_pos hb)
theorem exN_le (b p : Nat) : exN b p ≤ b := Nat.div_le_self _ _
theorem exN_dvd (b p : Nat) : b % exN b p = 0 := Nat.mod_eq_zero_of_dvd (Nat.div_dvd_of_dvd (Nat.gcd_dvd_left b p))
theorem exN_iff {b p : Nat} (hb : 0 < b) (w : Nat) : (w * p) % b = 0 ↔ w % exN b p = 0 := by
  have hg := gcd_pos (p := p) hb
  obtain ⟨p', hp⟩ := Nat.gcd_dvd_right b p
  obtain ⟨b', hb'⟩ := Nat.gcd_dvd_left b p
  have hco : Nat.Coprime (b / Nat.gcd b p) (p / Nat.gcd b p) := Nat.coprime_div_gcd_div_gcd hg
  have e1 : b / Nat.gcd b p = b' := by conv => lhs; lhs; rw [hb']
                                       exact Nat.mul_div_cancel_left _ hg
  have e2 : p / Nat.gcd b p = p' := by conv => lhs; lhs; rw [hp]
                                       exact Nat.mul_div_cancel_left _ hg
  rw [e1, e2] at hco
  unfold exN
  rw [e1]
  constructor
  · intro h
    refine Nat.mod_eq_zero_of_dvd ?_
    have d : b ∣ w * p := Nat.dvd_of_mod_eq_zero h
    have d2 : Nat.gcd b p * b' ∣ Nat.gcd b p * (w * p') := by
      rw [← hb', Nat.mul_left_comm, ← hp]; exact d
    have d3 : b' ∣ w * p' := Nat.dvd_of_mul_dvd_mul_left hg d2
    exact Nat.Coprime.dvd_of_dvd_mul_right hco d3
  · intro h
    refine Nat.mod_eq_zero_of_dvd ?_
    have d : b' ∣ w := Nat.dvd_of_mod_eq_zero h
    have k : Nat.gcd b p * b' ∣ Nat.gcd b p * (w * p') := Nat.mul_dvd_mul_left _ (Nat.dvd_trans d (Nat.dvd_mul_right w p'))
    rw [← hb', Nat.mul_left_comm, ← hp] at k
    exact k
theorem exact_iff {b p : Int} (hb : 1 ≤ b) (hp : 0 ≤ p) (w : Nat) : (w : Int) * p % b = 0 ↔ (w : Int) % ((exN b.toNat p.toNat : Nat) : Int) = 0 := by
  have eb : b = (b.toNat : Int) := by omega
  have ep : p = (p.toNat : Int) := by omega
  have h := exN_iff (b := b.toNat) (p := p.toNat) (by omega) w
  constructor
  · intro z
    rw [ep, eb, ← Int.natCast_mul, ← Int.natCast_emod] at z
    have := h.mp (by omega)
    rw [← Int.natCast_emod, this]; rfl
  · intro z
    rw [← Int.natCast_emod] at z
    have := h.mpr (by omega)
    rw [ep, eb, ← Int.natCast_mul, ← Int.natCast_emod, this]; rfl
/-! ### least and greatest window of an even frame -/
structure EvSpan (b p : Int) (ws : List Int) (w : Nat) (lo hi : Int) : Prop where
  near : lo ≤ hi ∧ hi ≤ lo + 1
  eq : lo = hi ↔ (w : Int) % ((exN b.toNat p.toNat : Nat) : Int) = 0
  low : lo * b ≤ (w : Int) * p
  high : (w : Int) * p ≤ hi * b
  mem : ∀ y, y ∈ ws ↔ y = lo ∨ y = hi
  pos : 0 ≤ lo
  top : hi ≤ (w : Int) + 1
theorem evSpan {b p t : Int} (hb : 1 ≤ b) (hp : 0 ≤ p) (hpb : p ≤ b) (w : Nat) {lo hi : Int} (l1 : lo ∈ wins (evL b p t) w) (l2 : ∀ y, y ∈ wins (evL b p t) w → lo ≤ y) (h1 : hi ∈ wins (evL b p t) w) (h2 : ∀ y, y ∈ wins (evL b p t) w → y ≤ hi) : EvSpan b p (wins (evL b p t) w) w lo hi := by
  have hl := evL_len b p t
  have s := wins_sum (evL b p t) w
  rw [evL_sum (by omega), hl] at s
  have nb : (b.toNat : Int) = b := by omega
  have inw : ∀ k, k < b.toNat → win (evL b p t) w k ∈ wins (evL b p t) w := fun k hk => mem_wins.mpr ⟨k, by omega, rfl⟩
  have part : ∀ y, y ∈ wins (evL b p t) w → (w : Int) * p / b ≤ y ∧ y ≤ (w : Int) * p / b + 1 := fun y hy => by
    obtain ⟨k, _, rfl⟩ := mem_wins.mp hy
    exact evL_part (by omega) w k
  have pl := part lo l1
  have ph := part hi h1
  have lh := l2 hi h1
  refine ⟨⟨lh, by omega⟩, ?_, ?_, ?_, fun y => ⟨fun hy => ?_, fun hy => ?_⟩, ?_, ?_⟩
  · rw [← exact_iff hb hp, ← evL_exact (t := t) (by omega)]
    constructor
    · intro e i j hi' hj
      have a1 := l2 _ (inw i hi')
      have a2 := h2 _ (inw i hi')
      have a3 := l2 _ (inw j hj)
      have a4 := h2 _ (inw j hj)
      omega
    · intro h
      obtain ⟨i, hi', rfl⟩ := mem_wins.mp l1
      obtain ⟨j, hj, rfl⟩ := mem_wins.mp h1
      exact h i j (by omega) (by omega)
  · have := tsum_le (f := fun _ => lo) (g := win (evL b p t) w) b.toNat fun k hk => l2 _ (inw k hk)
    rw [tsum_const, s, nb, Int.mul_comm] at this
    exact this
  · have := tsum_le (f := win (evL b p t) w) (g := fun _ => hi) b.toNat fun k hk => h2 _ (inw k hk)
    rw [tsum_const, s, nb, Int.mul_comm b hi] at this
    exact this
  · have := l2 y hy
    have := h2 y hy
    omega
  · rcases hy with e | e <;> subst e
    · exact l1
    · exact h1
  · have : 0 ≤ (w : Int) * p / b := Int.ediv_nonneg (Int.mul_nonneg (by omega) hp) (by omega)
    omega
  · have : (w : Int) * p / b ≤ (w : Int) := by
      refine Int.ediv_le_of_le_mul (by omega) ?_
      exact Int.mul_le_mul_of_nonneg_left hpb (by omega)
    omega
structure Txt (K : PySem.W.Frag) (mg : Str → Option Value) : Prop where
  g_BadBegins : mg "BadBegins" = some (.ref (He.ga K "BadBegins"))
  g_BadFrame : mg "BadFrame" = some (.ref (He.ga K "BadFrame"))
  x_BadFrame : ExF K mg "BadFrame"
  g_BadRuns : mg "BadRuns" = some (.ref (He.ga K "BadRuns"))
  x_BadRuns : ExF K mg "BadRuns"
  g_BadShare : mg "BadShare" = some (.ref (He.ga K "BadShare"))
  x_BadShare : ExF K mg "BadShare"
  g_BadText : mg "BadText" = some (.ref (He.ga K "BadText"))
  g_BadWidth : mg "BadWidth" = some (.ref (He.ga K "BadWidth"))
  x_BadWidth : ExF K mg "BadWidth"
  k_MOST_BEATS : ∃ u, mg "MOST_BEATS" = some u ∧ RelV (.int 64) u
  k_MOST_WIDTH : ∃ u, mg "MOST_WIDTH" = some u ∧ RelV (.int 10000) u
  g_NoRoom : mg "NoRoom" = some (.ref (He.ga K "NoRoom"))
  x_NoRoom : ExF K mg "NoRoom"
  g_PulseError : mg "PulseError" = some (.ref (He.ga K "PulseError"))
  k_SIGNS : ∃ u, mg "SIGNS" = some u ∧ RelV (.str ".#") u
  b_ValueError : mg "ValueError" = none
  b_divmod : mg "divmod" = none
  b_int : mg "int" = none
  b_isinstance : mg "isinstance" = none
  b_len : mg "len" = none
  b_list : mg "list" = none
  b_max : mg "max" = none
  b_min : mg "min" = none
  b_range : mg "range" = none
  b_sum : mg "sum" = none
  b_zip : mg "zip" = none
section
variable {P : Program} {w : World} {K : PySem.W.Frag} {mg : Str → Option Value} {base : Heap}
abbrev s_law_start : Stmt := top 36
theorem sc_law_start : FnScope ["_law_script", "_law_mixed", "_law_cell"] ["_law_script"] (defScope s_law_start) := ⟨rfl, rfl, rfl, by decide +kernel, rfl, by decide +kernel, by decide +kernel⟩
/-- _law_start(script): a new good state -/
def spStart (K : PySem.W.Frag) : Sp := fun vs H Q _ => ∃ (a : Addr) (ns : List Int), vs = [.ref a] ∧ SqL K H a (ns.map V.int) ∧ ∀ (st : Addr) (m : Int), H st = none → Drw 0 m 0 → Q (.ref st) (upd H st (StO a 0 m 0))
theorem ok_law_start {f : Addr} {fd : FuncData} (F : FunG K mg "_law_start" s_law_start f fd ["_law_script"]) : FnOk P w K mg base CX0 1 f fd ["_law_script"] (spStart K) := by
  refine F.fn.ok sc_law_start (fun vs H Q E h => ?_) (fun cdv A outer s H vs Q E hr h => ?_)
  · obtain ⟨a, ns, rfl, _⟩ := h
    rfl
  · obtain ⟨a, ns, rfl, hS, k⟩ := h
    refine ⟨_, (pss_cons (ps_set (i := 1) sc_law_start.nd rfl (.inl rfl) pe_int)
      (pss_cons (ps_for PassesOwn.never (by rfl) (pi_list (pv 0)) (pg_name (i := 2) sc_law_start.nd rfl (.inl rfl)) (pss_one (ps_set (i := 1) sc_law_start.nd rfl (.inl rfl) (pe_op op_mod (pe_op op_add (pe_op op_add (pe_op op_mulW (pv 1) pe_int) (pv 2)) pe_int) pe_int))))
      (pss_one (ps_ret (pe_lst (pa_cons (pv 0) (pa_cons pe_int (pa_cons (pv 1) (pa_cons pe_int pa_nil))))))))), ?_⟩
    refine ⟨_, rfl, a, rfl, ⟨_, hS⟩, for_list (K := K) (a := a) (xs := ns.map V.int) (fun i σ H' => ∃ (m : Int) (v : Option V), σ = [some (.ref a), some (.int m), v] ∧ H' = H ∧ 0 ≤ m ∧ m < 2147483647)
      ⟨1, none, rfl, rfl, by decide, by decide⟩ (fun i σ H' _ ⟨_, _, _, e, _⟩ => e ▸ hS) ?_ ?_⟩
    · rintro i y σ H' hi ⟨m, v, rfl, rfl, m0, m1⟩
      obtain ⟨z, hz, rfl⟩ := getV hi
      refine ⟨_, rfl, _, _, rfl, rfl, wide_mul (a := 31) (b := 17) (by omega) (by decide) (by decide) (by decide) (by decide), _, rfl, _, _, rfl, rfl, _, _, rfl, rfl, _, _, rfl, rfl, (by show (0 : Int) < 2147483647; decide), ?_⟩
      exact ⟨_, _, rfl, rfl, Int.emod_nonneg _ (by decide), Int.emod_lt_of_pos _ (by decide)⟩
    · rintro σ H' ⟨m, v, rfl, rfl, m0, m1⟩
      refine ⟨_, rfl, _, rfl, (by show 4 ≤ sizeLine; decide), fun p hp => ?_⟩
      exact k p m hp ⟨Int.le_refl _, m0, m1, Int.le_refl _⟩
abbrev s_law_drawn : Stmt := top 37
theorem sc_law_drawn : FnScope ["_law_state", "_law_many", "_law_found", "_law_cell"] ["_law_state", "_law_many"] (defScope s_law_drawn) := ⟨rfl, rfl, rfl, by decide +kernel, rfl, by decide +kernel, by decide +kernel⟩
/-- _law_drawn(state, many): some number from 0 on below many; the state is good behind it, all else as it was -/
def spDrawn (K : PySem.W.Frag) : Sp := fun vs H Q _ => ∃ (st a : Addr) (ns : List Int) (many : Int), vs = [.ref st, .int many] ∧ SOk K a ns st H ∧ 0 < many ∧ many < 2 ^ 200 ∧
  ∀ r i m c : Int, 0 ≤ r → r < many → Drw i m c → Q (.int r) (upd H st (StO a i m c))
theorem SOk.drawn {K : PySem.W.Frag} {a st : Addr} {ns : List Int} {H : Hp} (s : SOk K a ns st H) {i m c : Int} (d : Drw i m c) : SOk K a ns st (upd H st (StO a i m c)) := s.keep (Keep.refl st H).atSt d upd_same
theorem ok_law_drawn {f : Addr} {fd : FuncData} (F : FunG K mg "_law_drawn" s_law_drawn f fd ["_law_state", "_law_many"]) (T : Txt K mg) : FnOk P w K mg base CX0 1 f fd ["_law_state", "_law_many"] (spDrawn K) := by
  refine F.fn.ok sc_law_drawn (fun vs H Q E h => ?_) (fun cdv A outer s H vs Q E hr h => ?_)
  · obtain ⟨st, a, ns, many, rfl, _⟩ := h
    rfl
  · obtain ⟨st, a, ns, many, rfl, hs, m0, m1, k⟩ := h
    obtain ⟨i, m, c, d, hst⟩ := hs.at_
    have hdiv : ∀ x : Int, CDivW x many := fun x => wide_div (b := 200) m0 (by omega) (by decide) (by decide)
    have hl : H st = some (.lst [.ref a, .int i, .int m, .int c]) := hst
    refine ⟨_, (pss_cons (ps_if (pt_cmpR op_gt (pe_ix (ixL K) (pv 0) pe_int (fun _ _ => rfl)) pe_int (nomark _)) (pss_cons (ps_set (i := 2) sc_law_drawn.nd rfl (.inl rfl) (pe_op op_mod (pe_ix (ixL K) (pv 0) pe_int (fun _ _ => rfl)) (pv 1)))
      (pss_cons (ps_asg (pe_op op_fdivW (pe_ix (ixL K) (pv 0) pe_int (fun _ _ => rfl)) (pv 1)) (pg_sub (pv 0) pe_int set_list))
      (pss_one (ps_ret (pv 2))))) pss_nil)
      (pss_cons (ps_asg (pe_op op_add (pe_ix (ixL K) (pv 0) pe_int (fun _ _ => rfl)) pe_int) (pg_sub (pv 0) pe_int set_list))
      (pss_cons (ps_if (pt_cmpR op_le (pe_ix (ixL K) (pv 0) pe_int (fun _ _ => rfl)) (pe_callB (clLen K) (by rfl) T.b_len (by decide +kernel) (pa_cons (pe_ix (ixL K) (pv 0) pe_int (fun _ _ => rfl)) pa_nil)) (nomark _)) (pss_cons (ps_set (i := 3) sc_law_drawn.nd rfl (.inl rfl) (pe_ix (ixL K) (pe_ix (ixL K) (pv 0) pe_int (fun _ _ => rfl)) (pe_op op_sub (pe_ix (ixL K) (pv 0) pe_int (fun _ _ => rfl)) pe_int) (fun _ _ => rfl)))
      (pss_cons (ps_asg (pe_ifExp (pt_cmpR op_ge (pv 3) (pe_op op_pow pe_int pe_int) (nomark _)) (pe_op op_fdivW (pv 3) (pv 1)) pe_int) (pg_sub (pv 0) pe_int set_list))
      (pss_one (ps_ret (pe_op op_mod (pv 3) (pv 1)))))) pss_nil)
      (pss_cons (ps_asg (pe_op op_mod (pe_op op_add (pe_op op_mulW (pe_ix (ixL K) (pv 0) pe_int (fun _ _ => rfl)) pe_int) pe_int) pe_int) (pg_sub (pv 0) pe_int set_list))
      (pss_one (ps_ret (pe_op op_mod (pe_op op_fdivW (pe_ix (ixL K) (pv 0) pe_int (fun _ _ => rfl)) pe_int) (pv 1)))))))), ?_⟩
    refine ⟨_, rfl, _, _, _, _, rfl, rfl, SqL.of hl, rfl, _, _, rfl, rfl, _, rfl, ?_⟩
    refine ite2 (fun hc => ?_) (fun hc => ?_)
    · have hc : 0 < c := of_decide_eq_true hc
      refine ⟨_, rfl, _, _, _, _, rfl, rfl, SqL.of hl, rfl, _, rfl, _, _, rfl, rfl, m0, ?_⟩
      refine ⟨_, rfl, _, _, _, _, rfl, rfl, SqL.of hl, rfl, _, rfl, _, _, rfl, rfl, hdiv _, _, rfl, st, _, _, 3, rfl, rfl, hl, rfl, ?_⟩
      refine ⟨_, rfl, ?_⟩
      exact k (c % many) i m (c / many) (Int.emod_nonneg _ (by omega)) (Int.emod_lt_of_pos _ m0) ⟨d.i0, d.m0, d.m1, Int.ediv_nonneg d.c0 (by omega)⟩
    · refine ⟨_, rfl, _, _, _, _, rfl, rfl, SqL.of hl, rfl, _, _, rfl, rfl, _, rfl, st, _, _, 1, rfl, rfl, hl, rfl, ?_⟩
      have hl1 : (upd H st (.lst [.ref a, .int (i + 1), .int m, .int c])) st = some (.lst [.ref a, .int (i + 1), .int m, .int c]) := upd_same
      have hS1 : SqL K (upd H st (.lst [.ref a, .int (i + 1), .int m, .int c])) a (ns.map V.int) := hs.sq _ (Keep.refl st H).atSt
      refine ⟨_, rfl, _, _, _, _, rfl, rfl, SqL.of hl1, rfl, _, rfl, _, _, _, _, rfl, rfl, SqL.of hl1, rfl, _, _, rfl, .inl hS1, _, _, rfl, rfl, _, rfl, ?_⟩
      refine ite2 (fun hb => ?_) (fun hb => ?_)
      · have hb : i + 1 ≤ ((ns.map V.int).length : Int) := of_decide_eq_true hb
        rw [List.length_map] at hb
        have i0 := d.i0
        refine ⟨_, rfl, _, _, _, _, rfl, rfl, SqL.of hl1, rfl, _, rfl, _, _, _, _, rfl, rfl, SqL.of hl1, rfl, _, _, rfl, rfl, _, _, _, _, rfl, rfl, hS1, atV (j := i.toNat) (by omega) (by omega), ?_⟩
        refine ⟨_, rfl, _, _, rfl, rfl, ⟨by decide, by decide, by decide⟩, _, _, rfl, rfl, _, rfl, ?_⟩
        generalize ns.getD i.toNat 0 = z
        refine ite2 (fun hz => ?_) (fun hz => ?_)
        · have hz : (10 : Int) ^ (18 : Int).toNat ≤ z := of_decide_eq_true hz
          have z0 : 0 ≤ z := Int.le_trans (by decide) hz
          refine ⟨_, rfl, _, rfl, _, _, rfl, rfl, hdiv _, _, rfl, st, _, _, 3, rfl, rfl, hl1, rfl, ?_⟩
          refine ⟨_, rfl, _, rfl, _, _, rfl, rfl, m0, ?_⟩
          rw [upd_upd]
          exact k (z % many) (i + 1) m (z / many) (Int.emod_nonneg _ (by omega)) (Int.emod_lt_of_pos _ m0) ⟨by omega, d.m0, d.m1, Int.ediv_nonneg z0 (by omega)⟩
        · refine ⟨_, rfl, st, _, _, 3, rfl, rfl, hl1, rfl, ?_⟩
          refine ⟨_, rfl, _, rfl, _, _, rfl, rfl, m0, ?_⟩
          rw [upd_upd]
          exact k (z % many) (i + 1) m 0 (Int.emod_nonneg _ (by omega)) (Int.emod_lt_of_pos _ m0) ⟨by omega, d.m0, d.m1, Int.le_refl _⟩
      · refine ⟨_, rfl, _, _, _, _, rfl, rfl, SqL.of hl1, rfl, _, _, rfl, rfl, wide_mul (a := 31) (b := 17) (by have := d.m0; have := d.m1; omega) (by decide) (by decide) (by decide) (by decide), _, _, rfl, rfl, _, _, rfl, rfl, (by show (0 : Int) < 2147483647; decide), _, rfl, st, _, _, 2, rfl, rfl, hl1, rfl, ?_⟩
        rw [upd_upd]
        have n0 := Int.emod_nonneg (m * 48271 + 11) (show (2147483647 : Int) ≠ 0 by decide)
        have n1 := Int.emod_lt_of_pos (m * 48271 + 11) (show (0 : Int) < 2147483647 by decide)
        have hl2 : (upd H st (.lst [.ref a, .int (i + 1), .int ((m * 48271 + 11) % 2147483647), .int c])) st = some (.lst [.ref a, .int (i + 1), .int ((m * 48271 + 11) % 2147483647), .int c]) := upd_same
        refine ⟨_, rfl, _, _, _, _, rfl, rfl, SqL.of hl2, rfl, _, _, rfl, rfl, wide_div (b := 3) (by decide) (by decide) (by decide) (by decide), _, rfl, _, _, rfl, rfl, m0, ?_⟩
        have i0 := d.i0
        exact k ((m * 48271 + 11) % 2147483647 / 7 % many) (i + 1) ((m * 48271 + 11) % 2147483647) c (Int.emod_nonneg _ (by omega)) (Int.emod_lt_of_pos _ m0) ⟨by omega, n0, n1, d.c0⟩
abbrev s_law_share : Stmt := top 40
theorem sc_law_share : FnScope ["_law_state", "_law_beats"] ["_law_state"] (defScope s_law_share) := ⟨rfl, rfl, rfl, by decide +kernel, rfl, by decide +kernel, by decide +kernel⟩
/-- _law_share(state): a new pair of beats and pulses -/
def spShare (K : PySem.W.Frag) : Sp := fun vs H Q _ => ∃ (st a : Addr) (ns : List Int), vs = [.ref st] ∧ SOk K a ns st H ∧
  ∀ (b p : Int) (t : Addr) (H' : Hp), 1 ≤ b → b ≤ 64 → 0 ≤ p → p ≤ b → H t = none → Keep st H H' → SOk K a ns st H' → H' t = some (.tup [.int b, .int p]) → Q (.ref t) H'
theorem ok_law_share {f : Addr} {fd : FuncData} (F : FunG K mg "_law_share" s_law_share f fd ["_law_state"]) (c_law_drawn : Cl P w K mg base CX0 1 "_law_drawn" (spDrawn K)) : FnOk P w K mg base CX0 2 f fd ["_law_state"] (spShare K) := by
  refine F.fn.ok sc_law_share (fun vs H Q E h => ?_) (fun cdv A outer s H vs Q E hr h => ?_)
  · obtain ⟨st, a, ns, rfl, _⟩ := h
    rfl
  · obtain ⟨st, a, ns, rfl, hs, k⟩ := h
    refine ⟨_, (pss_cons (ps_set (i := 1) sc_law_share.nd rfl (.inl rfl) (pe_op op_add pe_int (pe_cl c_law_drawn hr (by decide) (by rfl) (pa_cons (pv 0) (pa_cons (pe_ix (ixL K) (pe_lst (pa_cons pe_int (pa_cons pe_int (pa_cons pe_int pa_nil)))) (pe_cl c_law_drawn hr (by decide) (by rfl) (pa_cons (pv 0) (pa_cons pe_int pa_nil))) (fun _ _ => rfl)) pa_nil)))))
      (pss_one (ps_ret (pe_tup (pa_cons (pv 1) (pa_cons (pe_ix (ixL K) (pe_lst (pa_cons pe_int (pa_cons (pv 1) (pa_cons (pe_cl c_law_drawn hr (by decide) (by rfl) (pa_cons (pv 0) (pa_cons (pe_op op_add (pv 1) pe_int) pa_nil))) (pa_cons (pe_cl c_law_drawn hr (by decide) (by rfl) (pa_cons (pv 0) (pa_cons (pe_op op_add (pv 1) pe_int) pa_nil))) pa_nil))))) (pe_cl c_law_drawn hr (by decide) (by rfl) (pa_cons (pv 0) (pa_cons pe_int pa_nil))) (fun _ _ => rfl)) pa_nil)))))), ?_⟩
    -- beats = 1 + drawn(state, [6, 16, 64][drawn(state, 3)])
    refine ⟨_, rfl, (by show 3 ≤ sizeLine; decide), fun p1 hp1 => ?_⟩
    have s1 := hs.new (o := .lst [.int 6, .int 16, .int 64]) hp1
    refine ⟨_, rfl, st, a, ns, 3, rfl, s1, by decide, by decide, fun r i m c r0 r1 d => ?_⟩
    have s2 := s1.drawn d
    have n1 := hs.ne_of hp1
    have k2 : Keep st H (upd (upd H p1 (.lst [.int 6, .int 16, .int 64])) st (StO a i m c)) := ((Keep.refl st H).new hp1).atSt
    have hp2 : (upd (upd H p1 (.lst [.int 6, .int 16, .int 64])) st (StO a i m c)) p1 = some (.lst [.int 6, .int 16, .int 64]) := by rw [upd_ne n1, upd_same]
    generalize upd (upd H p1 (.lst [.int 6, .int 16, .int 64])) st (StO a i m c) = H2 at s2 k2 hp2
    have hat : ∃ v : Int, atI [V.int 6, V.int 16, V.int 64] r = some (.int v) ∧ 1 ≤ v ∧ v ≤ 64 := by
      rcases pick3 r0 r1 with e | e | e <;> subst e <;> exact ⟨_, rfl, by decide, by decide⟩
    obtain ⟨v, hv, v0, v1⟩ := hat
    refine ⟨_, _, _, _, rfl, rfl, SqL.of hp2, hv, st, a, ns, v, rfl, s2, by omega, Int.lt_of_le_of_lt v1 (by decide), fun r2 i2 m2 c2 r20 r21 d2 => ?_⟩
    have s3 := s2.drawn d2
    have k3 := k2.atSt (o := StO a i2 m2 c2)
    generalize upd H2 st (StO a i2 m2 c2) = H3 at s3 k3
    -- (beats, [0, beats, drawn(state, beats + 1), drawn(state, beats + 1)][drawn(state, 4)])
    refine ⟨_, _, rfl, rfl, _, rfl, _, rfl, _, rfl, _, rfl, _, _, rfl, rfl, st, a, ns, _, rfl, s3, by omega, Int.lt_of_le_of_lt (show 1 + r2 + 1 ≤ 66 by omega) (by decide), fun r4 i4 m4 c4 r40 r41 d4 => ?_⟩
    have s4 := s3.drawn d4
    have k4 := k3.atSt (o := StO a i4 m4 c4)
    generalize upd H3 st (StO a i4 m4 c4) = H4 at s4 k4
    refine ⟨_, rfl, _, rfl, _, _, rfl, rfl, st, a, ns, _, rfl, s4, by omega, Int.lt_of_le_of_lt (show 1 + r2 + 1 ≤ 66 by omega) (by decide), fun r5 i5 m5 c5 r50 r51 d5 => ?_⟩
    have s5 := s4.drawn d5
    have k5 := k4.atSt (o := StO a i5 m5 c5)
    generalize upd H4 st (StO a i5 m5 c5) = H5 at s5 k5
    refine ⟨(by show 4 ≤ sizeLine; decide), fun p6 hp6 => ?_⟩
    have s6 := s5.new (o := .lst [.int 0, .int (1 + r2), .int r4, .int r5]) hp6
    have k6 := k5.new (o := .lst [.int 0, .int (1 + r2), .int r4, .int r5]) hp6
    have n6 := s5.ne_of hp6
    refine ⟨_, rfl, st, a, ns, 4, rfl, s6, by decide, by decide, fun r7 i7 m7 c7 r70 r71 d7 => ?_⟩
    have s7 := s6.drawn d7
    have k7 := k6.atSt (o := StO a i7 m7 c7)
    have hp7 : (upd (upd H5 p6 (.lst [.int 0, .int (1 + r2), .int r4, .int r5])) st (StO a i7 m7 c7)) p6 = some (.lst [.int 0, .int (1 + r2), .int r4, .int r5]) := by rw [upd_ne n6, upd_same]
    generalize upd (upd H5 p6 (.lst [.int 0, .int (1 + r2), .int r4, .int r5])) st (StO a i7 m7 c7) = H7 at s7 k7 hp7
    have hat : ∃ v : Int, atI [V.int 0, V.int (1 + r2), V.int r4, V.int r5] r7 = some (.int v) ∧ 0 ≤ v ∧ v ≤ 1 + r2 := by
      rcases pick4 r70 r71 with e | e | e | e <;> subst e
      · exact ⟨_, rfl, by omega, by omega⟩
      · exact ⟨_, rfl, by omega, by omega⟩
      · exact ⟨_, rfl, by omega, by omega⟩
      · exact ⟨_, rfl, by omega, by omega⟩
    obtain ⟨q, hq, q0, q1⟩ := hat
    refine ⟨_, _, _, _, rfl, rfl, SqL.of hp7, hq, (by show 2 ≤ sizeLine; decide), fun t ht => ?_⟩
    refine k (1 + r2) q t _ (by omega) (by omega) q0 q1 ?_ (k7.new ht) (s7.new ht) upd_same
    cases e : H t with
    | none => rfl
    | some o =>
      have e2 := k7 t o (s7.ne_of ht) e
      rw [ht] at e2
      cases e2
abbrev s_law_even : Stmt := top 42
theorem sc_law_even : FnScope ["_law_beats", "_law_pulses", "_law_turn", "_law_left", "_law_found", "_law_k"] ["_law_beats", "_law_pulses", "_law_turn"] (defScope s_law_even) := ⟨rfl, rfl, rfl, by decide +kernel, rfl, by decide +kernel, by decide +kernel⟩
/-- _law_even(beats, pulses, turn): the even frame, a new list -/
def spLEven : Sp := fun vs H Q _ => ∃ b p t : Int, vs = [.int b, .int p, .int t] ∧ 0 < b ∧ b ≤ 64 ∧ 0 ≤ p ∧ p ≤ b ∧ t.natAbs < 2 ^ 300 ∧
  ∀ l, H l = none → Q (.ref l) (upd H l (.lst ((evL b p t).map V.int)))
theorem ok_law_even {f : Addr} {fd : FuncData} (F : FunG K mg "_law_even" s_law_even f fd ["_law_beats", "_law_pulses", "_law_turn"]) (T : Txt K mg) : FnOk P w K mg base CX0 1 f fd ["_law_beats", "_law_pulses", "_law_turn"] spLEven := by
  refine F.fn.ok sc_law_even (fun vs H Q E h => ?_) (fun cdv A outer s H vs Q E hr h => ?_)
  · obtain ⟨b, p, t, rfl, _⟩ := h
    rfl
  · obtain ⟨b, p, t, rfl, b0, b1, p0, p1, ht, k⟩ := h
    refine ⟨_, (pss_cons (ps_set (i := 3) sc_law_even.nd rfl (.inl rfl) (pe_op op_mod (pe_op op_mulW (pv 2) (pv 1)) (pv 0)))
      (pss_cons (ps_set (i := 4) sc_law_even.nd rfl (.inl rfl) (pe_lst pa_nil))
      (pss_cons (ps_for PassesOwn.never (by rfl) (pi_range1 (by rfl) T.b_range (pa_cons (pv 0) pa_nil)) (pg_name (i := 5) sc_law_even.nd rfl (.inl rfl)) (pss_cons (ps_set (i := 3) sc_law_even.nd rfl (.inl rfl) (pe_op op_add (pv 3) (pv 1)))
      (pss_cons (ps_expr (pe_bm PySem.F.plainAttrs_list PySem.F.slot_list_append PySem.F.type_list_append mt_append (pv 4) (pa_cons (pe_callTy call_int1 (by rfl) T.b_int (by decide +kernel) (pa_cons (pe_cmpR op_ge (pv 3) (pv 0) (nomark _)) pa_nil)) pa_nil)))
      (pss_one (ps_set (i := 3) sc_law_even.nd rfl (.inl rfl) (pe_op op_sub (pv 3) (pe_op op_mulW (pv 0) (pe_ix (ixL K) (pv 4) (pe_un un_neg pe_int) (fun _ _ => rfl)))))))))
      (pss_one (ps_ret (pv 4)))))), ?_⟩
    refine ⟨_, rfl, _, rfl, _, _, rfl, rfl, wide_mul (a := 300) (b := 7) ht (by omega) (by decide) (by decide) (by decide), _, rfl, _, _, rfl, rfl, b0, ?_⟩
    refine ⟨Nat.zero_le _, fun l hl => ?_⟩
    refine ⟨_, rfl, _, rfl, by omega, by omega, for_range (lo := 0) (n := b.toNat) (fun i σ H' => ∃ v : Option V, σ = [some (.int b), some (.int p), some (.int t), some (.int (evR b p t i)), some (.ref l), v] ∧ H' = upd H l (.lst (((List.range i).map (evB b p t)).map V.int)))
      ⟨none, by unfold evR; simp only [Int.natCast_zero, Int.zero_add]; rfl, rfl⟩ ?_ ?_⟩
    · rintro i σ H' hi ⟨v, rfl, rfl⟩
      refine ⟨_, rfl, _, rfl, _, _, rfl, rfl, ?_⟩
      have hL : upd H l (.lst (((List.range i).map (evB b p t)).map V.int)) l = some (.lst (((List.range i).map (evB b p t)).map V.int)) := upd_same
      refine ⟨_, rfl, .inl ⟨rfl, _, SqL.of hL⟩, _, rfl, _, rfl, _, _, rfl, rfl, .inr ⟨_, rfl, l, _, _, rfl, rfl, hL, small_of (m := 64) (by simp; omega), ?_⟩⟩
      rw [upd_upd]
      have e1 : (if decide (b ≤ evR b p t i + p) = true then (1 : Int) else 0) = evB b p t i := by
        rw [evB_eq b0 p0 p1]
        simp only [decide_eq_true_eq]
      rw [e1]
      have e2 : ((List.range i).map (evB b p t)).map V.int ++ [V.int (evB b p t i)] = ((List.range (i + 1)).map (evB b p t)).map V.int := by
        rw [List.range_succ, List.map_append, List.map_append]; rfl
      have hL2 : upd H l (.lst (((List.range i).map (evB b p t)).map V.int ++ [V.int (evB b p t i)])) l = some (.lst (((List.range i).map (evB b p t)).map V.int ++ [V.int (evB b p t i)])) := upd_same
      refine ⟨_, rfl, _, rfl, _, rfl, _, rfl, _, _, _, _, rfl, rfl, SqL.of hL2, atI_last _ _, _, _, rfl, rfl, wide_mul (a := 7) (b := 2) (by omega) (by rcases evB_01 b0 p0 p1 t i with e | e <;> rw [e] <;> decide) (by decide) (by decide) (by decide), _, _, rfl, rfl, ?_⟩
      refine ⟨some (.int (0 + (i : Int))), ?_, by rw [e2]⟩
      rw [evR_next b0 p0 p1]
      rfl
    · rintro σ H' ⟨v, rfl, rfl⟩
      exact ⟨_, rfl, k l hl⟩
end
end My

namespace My
open PySem PySem.Spec PyProof.Rows LamX L2
section
variable {P : Program} {w : World} {K : PySem.W.Frag} {mg : Str → Option Value} {base : Heap}
abbrev s_law_kind : Stmt := top 38
theorem sc_law_kind : FnScope ["_law_work", "e", "_law_kinds", "_law_words", "_law_word"] ["_law_work"] (defScope s_law_kind) := ⟨rfl, rfl, rfl, by decide +kernel, rfl, by decide +kernel, by decide +kernel⟩
/-- the errors' names -/
def kindW : List Str := ["BadFrame", "BadShare", "BadWidth", "BadBegins", "BadRuns", "NoRoom", "BadText"]
/-- the class of the name x is the j-th of these -/
structure ErrK (K : PySem.W.Frag) (x : Str) (j : Nat) : Prop where
  exc : ExcC K (He.ga K x)
  pe : PySem.W.exmOne K (.ref (He.ga K x)) (.ref (He.ga K "PulseError")) = some true
  k0 : PySem.W.kitOne K (.ref (He.ga K x)) (.ref (He.ga K "BadFrame")) = some (decide (j = 0))
  k1 : PySem.W.kitOne K (.ref (He.ga K x)) (.ref (He.ga K "BadShare")) = some (decide (j = 1))
  k2 : PySem.W.kitOne K (.ref (He.ga K x)) (.ref (He.ga K "BadWidth")) = some (decide (j = 2))
  k3 : PySem.W.kitOne K (.ref (He.ga K x)) (.ref (He.ga K "BadBegins")) = some (decide (j = 3))
  k4 : PySem.W.kitOne K (.ref (He.ga K x)) (.ref (He.ga K "BadRuns")) = some (decide (j = 4))
  k5 : PySem.W.kitOne K (.ref (He.ga K x)) (.ref (He.ga K "NoRoom")) = some (decide (j = 5))
  k6 : PySem.W.kitOne K (.ref (He.ga K x)) (.ref (He.ga K "BadText")) = some (decide (j = 6))
  ve : PySem.W.kitOne K (.ref (He.ga K x)) (.type "ValueError") = some true
  lt : j < 6
  nm : kindW[j]? = some x
/-- _law_kind's making of what it got: its answer, or the error's name -/
def TKind (K : PySem.W.Frag) : (XK → Hp → VK → Prop) → Hp → VK → Prop := fun tl H Q =>
  tl (fun cls d H' => ∃ (x : Str) (j : Nat), cls = .ref (He.ga K x) ∧ d = none ∧ ErrK K x j ∧ ∀ H'', Same H' H'' → Q (.str x) H'') H Q
theorem kind_gives {X : Cx} (T : Txt X.K X.mg) {g : Addr} {cdg : Value} {q : Str} : GivesTo X ["_law_work", "e", "_law_kinds", "_law_words", "_law_word"] "_law_kind" (defScope s_law_kind) g cdg (defBody s_law_kind) "_law_work" q (TKind X.K) := by
  intro f c' s H Q tl act hc h
  refine ⟨_, pss_one (ps_try_as (X := (cxOf C8.CX0 X.prog X.w X.K X.mg X.base ["_law_work", "e", "_law_kinds", "_law_words", "_law_word"] "_law_kind" (defScope s_law_kind) g cdg X.A X.stack s H C8.E0).nox) (i := 1) (c := .ref (He.ga X.K "PulseError"))
      (tb := fun W D σ H => ∃ Ech : XK, (∀ cls d σ' H', Ech cls d H' → W cls d σ' H') ∧ σ[0]? = some (some (.ref f)) ∧ H c' = some (CodeO c' q) ∧ tl Ech H D.rt)
      rfl rfl sc_law_kind.nd rfl (by rfl) ⟨rfl, by decide, .inl T.g_PulseError⟩ L2.takes0 (fun W pn xe tk _ => ?_) (fun a oe cls d pn hz hf => pss_len 5 (pss_cons (ps_set (i := 2) sc_law_kind.nd rfl (.inl rfl) (pe_lst (pa_cons (pe_callB (call_isK hz hf) (by rfl) T.b_isinstance (by decide +kernel) (pa_cons (pv 1) (pa_cons (pe_glob (v := .ref (He.ga X.K "BadFrame")) (by rfl) T.g_BadFrame rfl) pa_nil))) (pa_cons (pe_callB (call_isK hz hf) (by rfl) T.b_isinstance (by decide +kernel) (pa_cons (pv 1) (pa_cons (pe_glob (v := .ref (He.ga X.K "BadShare")) (by rfl) T.g_BadShare rfl) pa_nil))) (pa_cons (pe_callB (call_isK hz hf) (by rfl) T.b_isinstance (by decide +kernel) (pa_cons (pv 1) (pa_cons (pe_glob (v := .ref (He.ga X.K "BadWidth")) (by rfl) T.g_BadWidth rfl) pa_nil))) (pa_cons (pe_callB (call_isK hz hf) (by rfl) T.b_isinstance (by decide +kernel) (pa_cons (pv 1) (pa_cons (pe_glob (v := .ref (He.ga X.K "BadBegins")) (by rfl) T.g_BadBegins rfl) pa_nil))) pa_nil))))))
      (pss_cons (ps_set (i := 2) sc_law_kind.nd rfl (.inl rfl) (pe_op op_cat (pv 2) (pe_lst (pa_cons (pe_callB (call_isK hz hf) (by rfl) T.b_isinstance (by decide +kernel) (pa_cons (pv 1) (pa_cons (pe_glob (v := .ref (He.ga X.K "BadRuns")) (by rfl) T.g_BadRuns rfl) pa_nil))) (pa_cons (pe_callB (call_isK hz hf) (by rfl) T.b_isinstance (by decide +kernel) (pa_cons (pv 1) (pa_cons (pe_glob (v := .ref (He.ga X.K "NoRoom")) (by rfl) T.g_NoRoom rfl) pa_nil))) (pa_cons (pe_callB (call_isK hz hf) (by rfl) T.b_isinstance (by decide +kernel) (pa_cons (pv 1) (pa_cons (pe_glob (v := .ref (He.ga X.K "BadText")) (by rfl) T.g_BadText rfl) pa_nil))) pa_nil))))))
      (pss_cons (ps_set (i := 3) sc_law_kind.nd rfl (.inl rfl) (pe_lst (pa_cons pe_str (pa_cons pe_str (pa_cons pe_str (pa_cons pe_str (pa_cons pe_str (pa_cons pe_str (pa_cons pe_str pa_nil)))))))))
      (pss_cons (ps_if (PW.pt (pw_or (pt_cmpR op_ne (pe_bmK X.K PySem.F.plainAttrs_list PySem.F.slot_list_count PySem.F.type_list_count (mtCntK X.K) (pv 2) (pa_cons pe_bl pa_nil)) pe_int (nomark _)) (pw_or1 (pt_not (pt_val (pe_callB (call_isK hz hf) (by rfl) T.b_isinstance (by decide +kernel) (pa_cons (pv 1) (pa_cons (pe_bltn (v := .ty "ValueError") (u := .type "ValueError") (by rfl) T.b_ValueError (by decide +kernel) rfl) pa_nil)))))))) (pss_one (ps_ret pe_str)) pss_nil)
      (pss_cons (ps_set (i := 4) sc_law_kind.nd rfl (.inl rfl) (pe_ix (ixL X.K) (pv 3) (pe_bmK X.K PySem.F.plainAttrs_list PySem.F.slot_list_index PySem.F.type_list_index (mtIndexK X.K) (pv 2) (pa_cons pe_bl pa_nil)) (fun _ _ => rfl)))
      (pss_one (ps_ret (pe_ifExp (pt_cmpR op_eq (pv 4) pe_str (nomark _)) (pe_tup (pa_cons (pv 4) (pa_cons pe_nev pa_nil))) (pv 4))))))))))), ?_⟩
  · refine ⟨fun pins s' σ H' D I h' => ?_⟩
    obtain ⟨Ech, hW, h1, h2, h3⟩ := h'
    exact (pss_one (ps_ret (act W pn xe Ech _ _ tk hW))).run pins s' σ H' D I ⟨h1, h2, h3⟩
  · refine ⟨fun cls d H' => ∃ (x : Str) (j : Nat), cls = .ref (He.ga X.K x) ∧ d = none ∧ ErrK X.K x j ∧ ∀ H'', Same H' H'' → Q (.str x) H'', ?_, rfl, hc, h⟩
    rintro cls d σ' H' ⟨x, j, rfl, rfl, E, k⟩
    refine ⟨true, E.pe, fun _ a ha hlen => ?_, fun z => nomatch z⟩
    rw [List.length_set] at hlen
    obtain ⟨v0, v1, v2, v3, v4, rfl⟩ := five hlen
    have hj := E.lt
    refine ⟨_, rfl, _, _, _, _, rfl, rfl, E.exc, rfl, (fun _ h => h), E.k0, _, rfl, _, _, _, _, rfl, rfl, E.exc, rfl, (fun _ h => h), E.k1, _, rfl, _, _, _, _, rfl, rfl, E.exc, rfl, (fun _ h => h), E.k2, _, rfl, _, _, _, _, rfl, rfl, E.exc, rfl, (fun _ h => h), E.k3, (by show 4 ≤ sizeLine; decide), fun p1 hp1 => ?_⟩
    have e1 : Same H' (upd H' p1 (.lst [.bl (decide (j = 0)), .bl (decide (j = 1)), .bl (decide (j = 2)), .bl (decide (j = 3))])) := Same.upd hp1
    have h1 : upd H' p1 (.lst [.bl (decide (j = 0)), .bl (decide (j = 1)), .bl (decide (j = 2)), .bl (decide (j = 3))]) p1 = some (.lst [.bl (decide (j = 0)), .bl (decide (j = 1)), .bl (decide (j = 2)), .bl (decide (j = 3))]) := upd_same
    generalize upd H' p1 (.lst [.bl (decide (j = 0)), .bl (decide (j = 1)), .bl (decide (j = 2)), .bl (decide (j = 3))]) = H1 at e1 h1
    refine ⟨_, rfl, _, rfl, _, _, _, _, rfl, rfl, E.exc, rfl, (fun _ h => h), E.k4, _, rfl, _, _, _, _, rfl, rfl, E.exc, rfl, (fun _ h => h), E.k5, _, rfl, _, _, _, _, rfl, rfl, E.exc, rfl, (fun _ h => h), E.k6, (by show 3 ≤ sizeLine; decide), fun p2 hp2 => ?_⟩
    have e2 : Same H' (upd H1 p2 (.lst [.bl (decide (j = 4)), .bl (decide (j = 5)), .bl (decide (j = 6))])) := e1.new hp2
    have h12 : upd H1 p2 (.lst [.bl (decide (j = 4)), .bl (decide (j = 5)), .bl (decide (j = 6))]) p1 = _ := (upd_ne (ne_of_none h1 hp2)).trans h1
    have h2 : upd H1 p2 (.lst [.bl (decide (j = 4)), .bl (decide (j = 5)), .bl (decide (j = 6))]) p2 = some (.lst [.bl (decide (j = 4)), .bl (decide (j = 5)), .bl (decide (j = 6))]) := upd_same
    generalize upd H1 p2 (.lst [.bl (decide (j = 4)), .bl (decide (j = 5)), .bl (decide (j = 6))]) = H2 at e2 h12 h2
    refine ⟨_, _, _, _, rfl, rfl, h12, h2, (by show 7 ≤ sizeLine; decide), fun p3 hp3 => ?_⟩
    have e3 : Same H' (upd H2 p3 (.lst ([.bl (decide (j = 0)), .bl (decide (j = 1)), .bl (decide (j = 2)), .bl (decide (j = 3))] ++ [.bl (decide (j = 4)), .bl (decide (j = 5)), .bl (decide (j = 6))]))) := e2.new hp3
    have h3 : upd H2 p3 (.lst ([.bl (decide (j = 0)), .bl (decide (j = 1)), .bl (decide (j = 2)), .bl (decide (j = 3))] ++ [.bl (decide (j = 4)), .bl (decide (j = 5)), .bl (decide (j = 6))])) p3 = some (.lst [.bl (decide (j = 0)), .bl (decide (j = 1)), .bl (decide (j = 2)), .bl (decide (j = 3)), .bl (decide (j = 4)), .bl (decide (j = 5)), .bl (decide (j = 6))]) := upd_same
    generalize upd H2 p3 (.lst ([.bl (decide (j = 0)), .bl (decide (j = 1)), .bl (decide (j = 2)), .bl (decide (j = 3))] ++ [.bl (decide (j = 4)), .bl (decide (j = 5)), .bl (decide (j = 6))])) = H3 at e3 h3
    refine ⟨(by show 7 ≤ sizeLine; decide), fun p4 hp4 => ?_⟩
    have e4 : Same H' (upd H3 p4 (.lst [V.str "BadFrame", V.str "BadShare", V.str "BadWidth", V.str "BadBegins", V.str "BadRuns", V.str "NoRoom", V.str "BadText"])) := e3.new hp4
    have h34 : upd H3 p4 (.lst [V.str "BadFrame", V.str "BadShare", V.str "BadWidth", V.str "BadBegins", V.str "BadRuns", V.str "NoRoom", V.str "BadText"]) p3 = _ := (upd_ne (ne_of_none h3 hp4)).trans h3
    have h4 : upd H3 p4 (.lst [V.str "BadFrame", V.str "BadShare", V.str "BadWidth", V.str "BadBegins", V.str "BadRuns", V.str "NoRoom", V.str "BadText"]) p4 = some (.lst [V.str "BadFrame", V.str "BadShare", V.str "BadWidth", V.str "BadBegins", V.str "BadRuns", V.str "NoRoom", V.str "BadText"]) := upd_same
    have fin := k _ e4
    generalize upd H3 p4 (.lst [V.str "BadFrame", V.str "BadShare", V.str "BadWidth", V.str "BadBegins", V.str "BadRuns", V.str "NoRoom", V.str "BadText"]) = H4 at e4 h34 h4 fin
    have hnm := E.nm
    have six : j = 0 ∨ j = 1 ∨ j = 2 ∨ j = 3 ∨ j = 4 ∨ j = 5 := by omega
    rcases six with e | e | e | e | e | e <;> subst e <;> cases hnm
    · refine ⟨_, rfl, .inl ⟨rfl, _, SqL.of h34⟩, _, _, _, rfl, rfl, SqL.of h34, rfl, rfl, rfl, _, rfl, iteFe rfl ⟨_, rfl, _, _, _, _, rfl, rfl, E.exc, rfl, (fun _ h => h), E.ve, _, rfl, iteF ?_⟩⟩
      refine ⟨_, rfl, _, rfl, .inl ⟨rfl, _, SqL.of h34⟩, _, _, _, 0, _, rfl, rfl, SqL.of h34, rfl, rfl, rfl, rfl, noAhead [decide (0 = 0), decide (0 = 1), decide (0 = 2), decide (0 = 3), decide (0 = 4), decide (0 = 5), decide (0 = 6)] 0 (by decide), _, _, _, _, rfl, rfl, SqL.of h4, at_of (j := 0) rfl rfl, ?_⟩
      exact ⟨_, rfl, rfl, _, rfl, iteFe (by decide) ⟨_, rfl, fin⟩⟩
    · refine ⟨_, rfl, .inl ⟨rfl, _, SqL.of h34⟩, _, _, _, rfl, rfl, SqL.of h34, rfl, rfl, rfl, _, rfl, iteFe rfl ⟨_, rfl, _, _, _, _, rfl, rfl, E.exc, rfl, (fun _ h => h), E.ve, _, rfl, iteF ?_⟩⟩
      refine ⟨_, rfl, _, rfl, .inl ⟨rfl, _, SqL.of h34⟩, _, _, _, 1, _, rfl, rfl, SqL.of h34, rfl, rfl, rfl, rfl, noAhead [decide (1 = 0), decide (1 = 1), decide (1 = 2), decide (1 = 3), decide (1 = 4), decide (1 = 5), decide (1 = 6)] 1 (by decide), _, _, _, _, rfl, rfl, SqL.of h4, at_of (j := 1) rfl rfl, ?_⟩
      exact ⟨_, rfl, rfl, _, rfl, iteFe (by decide) ⟨_, rfl, fin⟩⟩
    · refine ⟨_, rfl, .inl ⟨rfl, _, SqL.of h34⟩, _, _, _, rfl, rfl, SqL.of h34, rfl, rfl, rfl, _, rfl, iteFe rfl ⟨_, rfl, _, _, _, _, rfl, rfl, E.exc, rfl, (fun _ h => h), E.ve, _, rfl, iteF ?_⟩⟩
      refine ⟨_, rfl, _, rfl, .inl ⟨rfl, _, SqL.of h34⟩, _, _, _, 2, _, rfl, rfl, SqL.of h34, rfl, rfl, rfl, rfl, noAhead [decide (2 = 0), decide (2 = 1), decide (2 = 2), decide (2 = 3), decide (2 = 4), decide (2 = 5), decide (2 = 6)] 2 (by decide), _, _, _, _, rfl, rfl, SqL.of h4, at_of (j := 2) rfl rfl, ?_⟩
      exact ⟨_, rfl, rfl, _, rfl, iteFe (by decide) ⟨_, rfl, fin⟩⟩
    · refine ⟨_, rfl, .inl ⟨rfl, _, SqL.of h34⟩, _, _, _, rfl, rfl, SqL.of h34, rfl, rfl, rfl, _, rfl, iteFe rfl ⟨_, rfl, _, _, _, _, rfl, rfl, E.exc, rfl, (fun _ h => h), E.ve, _, rfl, iteF ?_⟩⟩
      refine ⟨_, rfl, _, rfl, .inl ⟨rfl, _, SqL.of h34⟩, _, _, _, 3, _, rfl, rfl, SqL.of h34, rfl, rfl, rfl, rfl, noAhead [decide (3 = 0), decide (3 = 1), decide (3 = 2), decide (3 = 3), decide (3 = 4), decide (3 = 5), decide (3 = 6)] 3 (by decide), _, _, _, _, rfl, rfl, SqL.of h4, at_of (j := 3) rfl rfl, ?_⟩
      exact ⟨_, rfl, rfl, _, rfl, iteFe (by decide) ⟨_, rfl, fin⟩⟩
    · refine ⟨_, rfl, .inl ⟨rfl, _, SqL.of h34⟩, _, _, _, rfl, rfl, SqL.of h34, rfl, rfl, rfl, _, rfl, iteFe rfl ⟨_, rfl, _, _, _, _, rfl, rfl, E.exc, rfl, (fun _ h => h), E.ve, _, rfl, iteF ?_⟩⟩
      refine ⟨_, rfl, _, rfl, .inl ⟨rfl, _, SqL.of h34⟩, _, _, _, 4, _, rfl, rfl, SqL.of h34, rfl, rfl, rfl, rfl, noAhead [decide (4 = 0), decide (4 = 1), decide (4 = 2), decide (4 = 3), decide (4 = 4), decide (4 = 5), decide (4 = 6)] 4 (by decide), _, _, _, _, rfl, rfl, SqL.of h4, at_of (j := 4) rfl rfl, ?_⟩
      exact ⟨_, rfl, rfl, _, rfl, iteFe (by decide) ⟨_, rfl, fin⟩⟩
    · refine ⟨_, rfl, .inl ⟨rfl, _, SqL.of h34⟩, _, _, _, rfl, rfl, SqL.of h34, rfl, rfl, rfl, _, rfl, iteFe rfl ⟨_, rfl, _, _, _, _, rfl, rfl, E.exc, rfl, (fun _ h => h), E.ve, _, rfl, iteF ?_⟩⟩
      refine ⟨_, rfl, _, rfl, .inl ⟨rfl, _, SqL.of h34⟩, _, _, _, 5, _, rfl, rfl, SqL.of h34, rfl, rfl, rfl, rfl, noAhead [decide (5 = 0), decide (5 = 1), decide (5 = 2), decide (5 = 3), decide (5 = 4), decide (5 = 5), decide (5 = 6)] 5 (by decide), _, _, _, _, rfl, rfl, SqL.of h4, at_of (j := 5) rfl rfl, ?_⟩
      exact ⟨_, rfl, rfl, _, rfl, iteFe (by decide) ⟨_, rfl, fin⟩⟩
end
end My

namespace My
open PySem PySem.Spec PyProof.Rows LamX L2
section
variable {P : Program} {w : World} {K : PySem.W.Frag} {mg : Str → Option Value} {base : Heap}
abbrev s_law_frame : Stmt := top 41
theorem sc_law_frame : FnScope ["_law_state", "_law_beats", "_law_pulses", "_law_often", "_law_k", "_law_found", "_law_turn", "_law_one", "_law_other", "_law_had"] ["_law_state"] (defScope s_law_frame) := ⟨rfl, rfl, rfl, by decide +kernel, rfl, by decide +kernel, by decide +kernel⟩
/-- _law_frame(state): some frame, a new list -/
def spFrame (K : PySem.W.Frag) : Sp := fun vs H Q _ => ∃ (st a : Addr) (ns : List Int), vs = [.ref st] ∧ SOk K a ns st H ∧
  ∀ (fs : List Int) (l : Addr) (H' : Hp), Frm fs → H l = none → Keep st H H' → SOk K a ns st H' → H' l = some (.lst (fs.map V.int)) → Q (.ref l) H'
theorem set_bit {fs : List Int} (h : ∀ f ∈ fs, f = 0 ∨ f = 1) {z : Int} (hz : z = 0 ∨ z = 1) (j : Nat) : ∀ f ∈ fs.set j z, f = 0 ∨ f = 1 := fun f hf => by
  rcases List.mem_or_eq_of_mem_set hf with m | e
  · exact h f m
  · rw [e]; exact hz
theorem ok_law_frame {f : Addr} {fd : FuncData} (F : FunG K mg "_law_frame" s_law_frame f fd ["_law_state"]) (T : Txt K mg) (c_law_drawn : Cl P w K mg base CX0 1 "_law_drawn" (spDrawn K)) (c_law_share : Cl P w K mg base CX0 2 "_law_share" (spShare K))
    (c_law_even : Cl P w K mg base CX0 1 "_law_even" spLEven) : FnOk P w K mg base CX0 3 f fd ["_law_state"] (spFrame K) := by
  refine F.fn.ok sc_law_frame (fun vs H Q E h => ?_) (fun cdv A outer s H vs Q E hr h => ?_)
  · obtain ⟨st, a, ns, rfl, _⟩ := h
    rfl
  · obtain ⟨st, a, ns, rfl, hs, k⟩ := h
    refine ⟨_, (pss_cons (ps_asg (pe_cl c_law_share hr (by decide) (by rfl) (pa_cons (pv 0) pa_nil)) (pg_tup (by rfl) (pgs_cons (pg_name (i := 1) sc_law_frame.nd rfl (.inl rfl)) (pgs_cons (pg_name (i := 2) sc_law_frame.nd rfl (.inl rfl)) pgs_nil))))
      (pss_cons (ps_if (pt_cmpR op_eq (pe_cl c_law_drawn hr (by decide) (by rfl) (pa_cons (pv 0) (pa_cons pe_int pa_nil))) pe_int (nomark _)) (pss_cons (ps_set (i := 3) sc_law_frame.nd rfl (.inr rfl) (pe_op op_add pe_int (pe_cl c_law_drawn hr (by decide) (by rfl) (pa_cons (pv 0) (pa_cons pe_int pa_nil)))))
      (pss_one (ps_ret (pe_lc (own := [("_law_k", 4)]) (g := gName 4) (tt := tYes) (by rfl) sc_law_frame.nd (pi_range1 (by rfl) T.b_range (pa_cons (pv 1) pa_nil)) (blkOk_by (own := [("_law_k", 4)]) (N := ["_law_state", "_law_beats", "_law_pulses", "_law_often", "_law_k", "_law_found", "_law_turn", "_law_one", "_law_other", "_law_had"]) (sc := defScope s_law_frame) (by decide +kernel)) (fun _ _ _ _ _ => (pg_name (i := 4) sc_law_frame.nd rfl (.inl rfl))) (fun _ _ _ _ _ => pts_nil) (fun _ _ _ _ _ => (pe_callTy call_int1 (by rfl) T.b_int (by decide +kernel) (pa_cons (pe_cmpR op_eq (pe_cl c_law_drawn hr (by decide) (by rfl) (pa_cons (pv 0) (pa_cons (pv 3) pa_nil))) pe_int (nomark _)) pa_nil))))))) pss_nil)
      (pss_cons (ps_set (i := 5) sc_law_frame.nd rfl (.inl rfl) (pe_cl c_law_even hr (by decide) (by rfl) (pa_cons (pv 1) (pa_cons (pv 2) (pa_cons (pe_cl c_law_drawn hr (by decide) (by rfl) (pa_cons (pv 0) (pa_cons (pv 1) pa_nil))) pa_nil)))))
      (pss_cons (ps_for PassesOwn.never (by rfl) (pi_range1 (by rfl) T.b_range (pa_cons (pe_cl c_law_drawn hr (by decide) (by rfl) (pa_cons (pv 0) (pa_cons pe_int pa_nil))) pa_nil)) (pg_name (i := 6) sc_law_frame.nd rfl (.inl rfl)) (pss_cons (ps_par (i := 7) (j := 8) (by rfl) sc_law_frame.nd rfl rfl (by decide) rfl rfl (pa_cons (pe_cl c_law_drawn hr (by decide) (by rfl) (pa_cons (pv 0) (pa_cons (pv 1) pa_nil))) (pa_cons (pe_cl c_law_drawn hr (by decide) (by rfl) (pa_cons (pv 0) (pa_cons (pv 1) pa_nil))) pa_nil)) (by rfl))
      (pss_cons (ps_set (i := 9) sc_law_frame.nd rfl (.inl rfl) (pe_ix (ixL K) (pv 5) (pv 7) (fun _ _ => rfl)))
      (pss_cons (ps_asg (pe_ix (ixL K) (pv 5) (pv 8) (fun _ _ => rfl)) (pg_sub (pv 5) (pv 7) set_list))
      (pss_one (ps_asg (pv 9) (pg_sub (pv 5) (pv 8) set_list)))))))
      (pss_one (ps_ret (pv 5))))))), ?_⟩
    refine ⟨_, rfl, st, a, ns, rfl, hs, fun b p t H1 b0 b1 p0 p1 ht k1 s1 ht1 => ⟨_, _, rfl, SqT.of ht1, rfl, ?_⟩⟩
    refine ⟨_, _, rfl, _, _, rfl, rfl, ?_⟩
    refine ⟨_, rfl, st, a, ns, 2, rfl, s1, by decide, by decide, fun r i2 m2 c2 r0 r1 d2 => ?_⟩
    have s2 := s1.drawn d2
    have k2 := k1.atSt (o := StO a i2 m2 c2)
    generalize upd H1 st (StO a i2 m2 c2) = H2 at s2 k2
    refine ⟨rfl, _, rfl, ite2 (fun hc => ?_) (fun hc => ?_)⟩
    · -- any frame
      refine ⟨_, rfl, st, a, ns, 4, rfl, s2, by decide, by decide, fun r3 i3 m3 c3 r30 r31 d3 => ?_⟩
      have s3 := s2.drawn d3
      have k3 := k2.atSt (o := StO a i3 m3 c3)
      generalize upd H2 st (StO a i3 m3 c3) = H3 at s3 k3
      refine ⟨_, _, rfl, rfl, ?_⟩
      refine ⟨_, rfl, _, rfl, by omega, by omega, fun D hD => ?_⟩
      have nD := s3.ne_of hD
      have hDn : H D = none := k3.free nD hD
      refine lc_range (lo := 0) (n := b.toNat) (fun i H' => SOk K a ns st H' ∧ Keep st H H' ∧ ∃ fs : List Int, fs.length = i ∧ (∀ f ∈ fs, f = 0 ∨ f = 1) ∧ H' D = some (.lst (fs.map V.int))) ⟨s3.new hD, k3.new hD, [], rfl, by simp, upd_same⟩ ?_ ?_
      · rintro i H' hi ⟨s4, k4, fs, hl, hb, hd⟩
        refine ⟨rfl, _, rfl, _, rfl, st, a, ns, _, rfl, s4, by omega, Int.lt_of_le_of_lt (show 2 + r3 ≤ 10 by omega) (by decide), fun r5 i5 m5 c5 r50 r51 d5 => ?_⟩
        have s5 := s4.drawn d5
        have k5 := k4.atSt (o := StO a i5 m5 c5)
        have hd5 : upd H' st (StO a i5 m5 c5) D = some (.lst (fs.map V.int)) := by rw [upd_ne nD]; exact hd
        generalize upd H' st (StO a i5 m5 c5) = H5 at s5 k5 hd5
        refine ⟨rfl, .inr ⟨_, rfl, _, hd5, small_of (m := 64) (by rw [List.length_map, hl]; omega), ?_⟩⟩
        refine ⟨s5.mutK hs k5 hDn, k5.mut hDn, fs ++ [if (decide (V.int r5 = V.int 0)) = true then 1 else 0], by rw [List.length_append, hl]; rfl, fun z hz => ?_, by rw [upd_same, List.map_append]; rfl⟩
        rcases List.mem_append.mp hz with m | m
        · exact hb z m
        · rw [List.mem_singleton.mp m]; split <;> simp
      · rintro H' ⟨s4, k4, fs, hl, hb, hd⟩
        exact k fs D H' ⟨by omega, by omega, hb⟩ hDn k4 s4 hd
    · -- a told one, beats exchanged
      refine ⟨_, rfl, _, rfl, _, rfl, _, rfl, st, a, ns, b, rfl, s2, by omega, Int.lt_of_le_of_lt b1 (by decide), fun r3 i3 m3 c3 r30 r31 d3 => ?_⟩
      have s3 := s2.drawn d3
      have k3 := k2.atSt (o := StO a i3 m3 c3)
      generalize upd H2 st (StO a i3 m3 c3) = H3 at s3 k3
      refine ⟨b, p, r3, rfl, by omega, b1, p0, p1, Nat.lt_of_lt_of_le (show r3.natAbs < 100 by omega) (by decide), fun l hl => ?_⟩
      have nl := s3.ne_of hl
      have hln : H l = none := k3.free nl hl
      have s4 := s3.new (o := .lst ((evL b p r3).map V.int)) hl
      have k4 := k3.new (o := .lst ((evL b p r3).map V.int)) hl
      have hl4 : upd H3 l (.lst ((evL b p r3).map V.int)) l = some (.lst ((evL b p r3).map V.int)) := upd_same
      generalize upd H3 l (.lst ((evL b p r3).map V.int)) = H4 at s4 k4 hl4
      have hfr := evL_frm b0 b1 p0 p1 r3
      have hfl : (evL b p r3).length = b.toNat := evL_len b p r3
      refine ⟨_, rfl, st, a, ns, 3, rfl, s4, by decide, by decide, fun r5 i5 m5 c5 r50 r51 d5 => ?_⟩
      have s5 := s4.drawn d5
      have k5 := k4.atSt (o := StO a i5 m5 c5)
      have hl5 : upd H4 st (StO a i5 m5 c5) l = some (.lst ((evL b p r3).map V.int)) := by rw [upd_ne nl]; exact hl4
      generalize upd H4 st (StO a i5 m5 c5) = H5 at s5 k5 hl5
      refine ⟨_, rfl, by omega, by omega, for_range (lo := 0) (n := r5.toNat) (fun i σ H' => (∃ v3 v4 v6 v7 v8 v9 : Option V, σ = [some (.ref st), some (.int b), some (.int p), v3, v4, some (.ref l), v6, v7, v8, v9]) ∧ SOk K a ns st H' ∧ Keep st H H' ∧ ∃ fs : List Int, fs.length = b.toNat ∧ (∀ f ∈ fs, f = 0 ∨ f = 1) ∧ H' l = some (.lst (fs.map V.int)))
        ⟨⟨_, _, _, _, _, _, rfl⟩, s5, k5, _, hfl, hfr.bit, hl5⟩ ?_ ?_⟩
      · rintro i σ H' hi ⟨⟨v3, v4, v6, v7, v8, v9, rfl⟩, s6, k6, fs, hfl6, hb6, hl6⟩
        refine ⟨_, rfl, _, rfl, st, a, ns, b, rfl, s6, by omega, Int.lt_of_le_of_lt b1 (by decide), fun r7 i7 m7 c7 r70 r71 d7 => ?_⟩
        have s7 := s6.drawn d7
        have k7 := k6.atSt (o := StO a i7 m7 c7)
        have hl7 : upd H' st (StO a i7 m7 c7) l = some (.lst (fs.map V.int)) := by rw [upd_ne nl]; exact hl6
        generalize upd H' st (StO a i7 m7 c7) = H7 at s7 k7 hl7
        refine ⟨_, rfl, _, rfl, st, a, ns, b, rfl, s7, by omega, Int.lt_of_le_of_lt b1 (by decide), fun r8 i8 m8 c8 r80 r81 d8 => ?_⟩
        have s8 := s7.drawn d8
        have k8 := k7.atSt (o := StO a i8 m8 c8)
        have hl8 : upd H7 st (StO a i8 m8 c8) l = some (.lst (fs.map V.int)) := by rw [upd_ne nl]; exact hl7
        generalize upd H7 st (StO a i8 m8 c8) = H8 at s8 k8 hl8
        refine ⟨_, _, rfl, ?_⟩
        have j7 : r7.toNat < fs.length := by omega
        have j8 : r8.toNat < fs.length := by omega
        have q7 : r7 = (r7.toNat : Int) := by omega
        have q8 : r8 = (r8.toNat : Int) := by omega
        have gb : ∀ j : Nat, fs.getD j 0 = 0 ∨ fs.getD j 0 = 1 := fun j => (Frm.getD (fs := fs) ⟨by omega, by omega, hb6⟩ j)
        have ix : ∀ {z : Int} {j : Nat} {n : Nat}, z = (j : Int) → j < n → ixN n z = some j := fun {z j n} e h => by
          subst e; unfold ixN; rw [if_pos (by omega), if_pos (by omega), Int.toNat_natCast]
        refine ⟨_, rfl, _, rfl, _, _, _, _, rfl, rfl, SqL.of hl8, atV q7 j7, ?_⟩
        refine ⟨_, rfl, _, rfl, _, _, _, _, rfl, rfl, SqL.of hl8, atV q8 j8, _, rfl, _, rfl, l, _, _, r7.toNat, rfl, rfl, hl8, ix q7 (by rw [List.length_map]; exact j7), ?_⟩
        have e9 : (fs.map V.int).set r7.toNat (.int (fs.getD r8.toNat 0)) = (fs.set r7.toNat (fs.getD r8.toNat 0)).map V.int := List.map_set.symm
        rw [e9]
        have s9 := s8.mutK (o := .lst ((fs.set r7.toNat (fs.getD r8.toNat 0)).map V.int)) hs k8 hln
        have k9 := k8.mut (o := .lst ((fs.set r7.toNat (fs.getD r8.toNat 0)).map V.int)) hln
        have hl9 : upd H8 l (.lst ((fs.set r7.toNat (fs.getD r8.toNat 0)).map V.int)) l = some (.lst ((fs.set r7.toNat (fs.getD r8.toNat 0)).map V.int)) := upd_same
        generalize upd H8 l (.lst ((fs.set r7.toNat (fs.getD r8.toNat 0)).map V.int)) = H9 at s9 k9 hl9
        refine ⟨_, rfl, _, rfl, _, rfl, l, _, _, r8.toNat, rfl, rfl, hl9, ix q8 (by rw [List.length_map, List.length_set]; exact j8), ?_⟩
        have e10 : ((fs.set r7.toNat (fs.getD r8.toNat 0)).map V.int).set r8.toNat (.int (fs.getD r7.toNat 0)) = ((fs.set r7.toNat (fs.getD r8.toNat 0)).set r8.toNat (fs.getD r7.toNat 0)).map V.int := List.map_set.symm
        rw [e10]
        exact ⟨⟨_, _, _, _, _, _, rfl⟩, s9.mutK hs k9 hln, k9.mut hln, _, by rw [List.length_set, List.length_set]; exact hfl6, set_bit (set_bit hb6 (gb _) _) (gb _) _, upd_same⟩
      · rintro σ H' ⟨⟨v3, v4, v6, v7, v8, v9, rfl⟩, s6, k6, fs, hfl6, hb6, hl6⟩
        exact ⟨_, rfl, k fs l H' ⟨by omega, by omega, hb6⟩ hln k6 s6 hl6⟩
abbrev s_need_frame : Stmt := top 12
theorem sc_need_frame : FnScope ["frame", "beat"] ["frame"] (defScope s_need_frame) := ⟨rfl, rfl, rfl, by decide +kernel, rfl, by decide +kernel, by decide +kernel⟩
/-- need_frame(frame), a good one or not -/
def spNeedFrame (K : PySem.W.Frag) : Sp := fun vs H Q _ => ∃ (l : Addr) (fs : List Int), vs = [.ref l] ∧ SqL K H l (fs.map V.int) ∧ Frm fs ∧ ∀ H', Same H H' → Q .non H'
def bit01 (z : Int) : Bool := z == 0 || z == 1
theorem bit01_iff (z : Int) : bit01 z = true ↔ z = 0 ∨ z = 1 := by simp [bit01]
theorem inV_01 (z : Int) : inV (.int z) [.int 0, .int 1] = bit01 z := by
  unfold bit01
  by_cases h0 : z = 0
  · subst h0; rfl
  · by_cases h1 : z = 1
    · subst h1; rfl
    · have e0 : ((0 : Int) == z) = false := beq_eq_false_iff_ne.mpr fun e => h0 e.symm
      have e1 : ((1 : Int) == z) = false := beq_eq_false_iff_ne.mpr fun e => h1 e.symm
      show (((0 : Int) == z) || (((1 : Int) == z) || false)) = _
      rw [e0, e1, beq_eq_false_iff_ne.mpr h0, beq_eq_false_iff_ne.mpr h1]; rfl
theorem frm_iff {xs : List Int} : Frm xs ↔ 1 ≤ xs.length ∧ xs.length ≤ 64 ∧ xs.filter (fun z => !bit01 z) = [] := by
  constructor
  · intro h
    exact ⟨h.pos, h.le, List.filter_eq_nil_iff.mpr fun z hz => by rw [(bit01_iff z).mpr (h.bit z hz)]; simp⟩
  · intro h
    refine ⟨h.1, h.2.1, fun z hz => (bit01_iff z).mp ?_⟩
    have q := List.filter_eq_nil_iff.mp h.2.2 z hz
    cases e : bit01 z with
    | true => rfl
    | false => rw [e] at q; exact absurd rfl q
theorem ok_need_frame {f : Addr} {fd : FuncData} (F : FunG K mg "need_frame" s_need_frame f fd ["frame"]) (T : Txt K mg) : FnOk P w K mg base (L2.CX P w) 1 f fd ["frame"] (orF K (spNeedFrame K)) := by
  refine F.fn.okX sc_need_frame (fun vs H Q E h => ?_) (fun cdv A outer s H vs Q E hr h => ?_)
  · rcases h with ⟨l, fs, rfl, _⟩ | ⟨l, fs, rfl, _⟩ <;> rfl
  · refine ⟨_, (pss_one (ps_if (PW.pt (pw_or (pt_not (pt_chain op_le op_le pe_int (pe_callB (clLen K) (by rfl) T.b_len (by decide +kernel) (pa_cons (pv 0) pa_nil)) (C8.pe_gc (by rfl) T.k_MOST_BEATS))) (pw_or1 (pt_cmpR (opNeD K hr.units) (pe_lc (own := [("beat", 1)]) (g := gName 1) (by rfl) sc_need_frame.nd (pi_list (pv 0)) (blkOk_by (own := [("beat", 1)]) (N := ["frame", "beat"]) (sc := defScope s_need_frame) (by decide +kernel)) (fun _ _ _ _ _ => (pg_name (i := 1) sc_need_frame.nd rfl (.inl rfl))) (fun _ _ _ _ _ => (pts_one (pt_cmpR (opNotInQ K) (pv 1) (pe_tup (pa_cons pe_int (pa_cons pe_int pa_nil))) (by rfl)))) (fun _ _ _ _ _ => (pv 1))) (pe_lst pa_nil) (nomark _))))) (pss_one (ps_raise (by rfl) (takes_of rfl rfl rfl rfl) (pmk_own PySem.F.excBase_ValueError T.x_BadFrame.x T.x_BadFrame.g T.x_BadFrame.k (raises_own T.x_BadFrame.b T.x_BadFrame.t) (by rfl)))) pss_nil)), ?_⟩
    have both : ∃ (l : Addr) (xs : List Int), vs = [.ref l] ∧ SqL K H l (xs.map V.int) ∧ xs.length ≤ 10000 ∧ (Frm xs → ∀ H', Same H H' → Q .non H') ∧ (¬ Frm xs → ∀ H', Same H H' → E (.ref (He.ga K "BadFrame")) none H') := by
      rcases h with ⟨l, fs, rfl, hS, hf, k⟩ | ⟨l, xs, rfl, hS, hl, hb, k⟩
      · exact ⟨l, fs, rfl, hS, Nat.le_trans hf.le (by decide), fun _ => k, fun z => absurd hf z⟩
      · exact ⟨l, xs, rfl, hS, hl, fun z => absurd z hb, fun _ => k⟩
    obtain ⟨l, xs, rfl, hS, hl, kg, kb⟩ := both
    have hlen : (xs.map V.int).length = xs.length := List.length_map _
    refine ⟨_, rfl, _, _, rfl, .inl hS, _, _, rfl, rfl, _, rfl, ?_⟩
    by_cases h1 : (1 : Int) ≤ ((xs.map V.int).length : Int)
    · refine iteTe (decide_eq_true h1) ⟨_, _, rfl, rfl, _, rfl, ?_⟩
      by_cases h2 : ((xs.map V.int).length : Int) ≤ 64
      · refine iteFe (c := !decide (((xs.map V.int).length : Int) ≤ 64)) (by rw [decide_eq_true h2]; rfl) ⟨_, rfl, _, rfl, ⟨_, hS⟩, fun D hD => lc_list (K := K) (a := l) (xs := xs.map V.int) (fun i H' => Same H H' ∧ H' D = some (.lst (((xs.take i).filter (fun z => !bit01 z)).map V.int))) ⟨Same.upd hD, upd_same⟩ (fun i H' _ h => h.1.seq hS) ?_ ?_⟩
        · rintro i x H' hi ⟨e, hd⟩
          obtain ⟨z, hz, rfl⟩ := getV hi
          refine ⟨rfl, _, rfl, (by show 2 ≤ sizeLine; decide), fun p hp => ⟨_, _, rfl, .inr (SqT.of upd_same), rfl, rfl, _, rfl, ?_⟩⟩
          have hd2 : upd H' p (.tup [.int 0, .int 1]) D = some (.lst (((xs.take i).filter (fun z => !bit01 z)).map V.int)) := by rw [upd_ne (ne_of_none hd hp)]; exact hd
          have e2 : Same H (upd H' p (.tup [.int 0, .int 1])) := e.new hp
          generalize upd H' p (.tup [.int 0, .int 1]) = H2 at hd2 e2
          have tk : (xs.take (i + 1)).filter (fun z => !bit01 z) = (xs.take i).filter (fun z => !bit01 z) ++ [z].filter (fun z => !bit01 z) := by
            rw [List.take_succ, hz, List.filter_append]; rfl
          show (if (!inV (.int z) [.int 0, .int 1]) = true then _ else _)
          rw [inV_01]
          by_cases c : bit01 z = true
          · rw [c]
            refine iteF ⟨e2, ?_⟩
            rw [hd2, tk]
            simp [c]
          · have c' : bit01 z = false := by cases q : bit01 z with
              | true => exact absurd q c
              | false => rfl
            rw [c']
            refine iteT ⟨_, rfl, _, hd2, small_of (m := 10000) ?_, e2.mut hD, ?_⟩
            · rw [List.length_map]
              exact Nat.le_trans (List.length_filter_le _ _) (by rw [List.length_take]; omega)
            · rw [upd_same, tk]
              simp [c']
        · rintro H' ⟨e, hd⟩
          rw [hlen, List.take_length] at hd
          refine ⟨Nat.zero_le _, fun q hq => ⟨_, _, dp_ints (SqL.of (by rw [upd_ne (ne_of_none hd hq)]; exact hd)), dp_nil (SqL.of upd_same), dI_shaped _, dI_shaped _, _, rfl, ?_⟩⟩
          rw [dI_eqv]
          have e2 : Same H (upd H' q (.lst [])) := e.new hq
          by_cases c : xs.filter (fun z => !bit01 z) = []
          · exact iteFe (by rw [decide_eq_true c]; rfl) (kg (frm_iff.mpr ⟨by omega, by omega, c⟩) _ e2)
          · exact iteTe (by rw [decide_eq_false c]; rfl) (kb (fun z => c (frm_iff.mp z).2.2) _ e2)
      · exact iteTe (c := !decide (((xs.map V.int).length : Int) ≤ 64)) (by rw [decide_eq_false h2]; rfl) (iteT (kb (fun z => h2 (by rw [hlen]; have := z.le; omega)) H (Same.refl H)))
    · exact iteFe (decide_eq_false h1) ⟨_, rfl, iteT (iteT (kb (fun z => h1 (by rw [hlen]; have := z.pos; omega)) H (Same.refl H)))⟩
abbrev s_need_beats : Stmt := top 13
theorem sc_need_beats : FnScope ["beats"] ["beats"] (defScope s_need_beats) := ⟨rfl, rfl, rfl, by decide +kernel, rfl, by decide +kernel, by decide +kernel⟩
/-- need_beats(beats), good ones or not -/
def spNeedBeatsX (K : PySem.W.Frag) : Sp := fun vs H Q E => ∃ b : Int, vs = [.int b] ∧ ((1 ≤ b ∧ b ≤ 64 ∧ Q .non H) ∨ (¬ (1 ≤ b ∧ b ≤ 64) ∧ E (.ref (He.ga K "BadShare")) none H))
theorem ok_need_beats {f : Addr} {fd : FuncData} (F : FunG K mg "need_beats" s_need_beats f fd ["beats"]) (T : Txt K mg) : FnOk P w K mg base (L2.CX P w) 1 f fd ["beats"] (spNeedBeatsX K) := by
  refine F.fn.okX sc_need_beats (fun vs H Q E h => ?_) (fun cdv A outer s H vs Q E hr h => ?_)
  · obtain ⟨b, rfl, _⟩ := h
    rfl
  · obtain ⟨b, rfl, k⟩ := h
    refine ⟨_, (pss_one (ps_if (pt_not (pt_chain op_le op_le pe_int (pv 0) (C8.pe_gc (by rfl) T.k_MOST_BEATS))) (pss_one (ps_raise (by rfl) (takes_of rfl rfl rfl rfl) (pmk_own PySem.F.excBase_ValueError T.x_BadShare.x T.x_BadShare.g T.x_BadShare.k (raises_own T.x_BadShare.b T.x_BadShare.t) (by rfl)))) pss_nil)), ?_⟩
    refine ⟨_, rfl, _, _, rfl, rfl, _, rfl, ?_⟩
    by_cases b0 : 1 ≤ b
    · refine iteTe (decide_eq_true b0) ⟨_, _, rfl, rfl, _, rfl, ?_⟩
      by_cases b1 : b ≤ 64
      · refine iteFe (c := !decide (b ≤ 64)) (by rw [decide_eq_true b1]; rfl) ?_
        rcases k with ⟨_, _, k⟩ | ⟨hn, _⟩
        · exact k
        · exact absurd ⟨b0, b1⟩ hn
      · refine iteTe (c := !decide (b ≤ 64)) (by rw [decide_eq_false b1]; rfl) ?_
        rcases k with ⟨_, h, _⟩ | ⟨_, k⟩
        · exact absurd h b1
        · exact k
    · refine iteFe (decide_eq_false b0) ⟨_, rfl, ?_⟩
      refine iteT ?_
      rcases k with ⟨h, _⟩ | ⟨_, k⟩
      · exact absurd h b0
      · exact k
abbrev s_need_share : Stmt := top 14
theorem sc_need_share : FnScope ["beats", "pulses"] ["beats", "pulses"] (defScope s_need_share) := ⟨rfl, rfl, rfl, by decide +kernel, rfl, by decide +kernel, by decide +kernel⟩
/-- need_share(beats, pulses), a good one or not -/
def spNeedShare : Sp := fun vs H Q _ => ∃ b p : Int, vs = [.int b, .int p] ∧ 1 ≤ b ∧ b ≤ 64 ∧ 0 ≤ p ∧ p ≤ b ∧ Q .non H
theorem ok_need_share {f : Addr} {fd : FuncData} (F : FunG K mg "need_share" s_need_share f fd ["beats", "pulses"]) (T : Txt K mg) (c_need_beats : Cl P w K mg base (L2.CX P w) 1 "need_beats" (spNeedBeatsX K)) : FnOk P w K mg base (L2.CX P w) 2 f fd ["beats", "pulses"] (orS2 K spNeedShare) := by
  refine F.fn.okX sc_need_share (fun vs H Q E h => ?_) (fun cdv A outer s H vs Q E hr h => ?_)
  · rcases h with ⟨b, p, rfl, _⟩ | ⟨b, p, rfl, _⟩ <;> rfl
  · refine ⟨_, (pss_cons (ps_expr (pe_clT c_need_beats hr (by decide) (passes_call (takes_of rfl rfl rfl rfl) (fun _ _ _ _ h => h)) (by rfl) (pa_cons (pv 0) pa_nil)))
      (pss_one (ps_if (pt_not (pt_chain op_le op_le pe_int (pv 1) (pv 0))) (pss_one (ps_raise (by rfl) (takes_of rfl rfl rfl rfl) (pmk_own PySem.F.excBase_ValueError T.x_BadShare.x T.x_BadShare.g T.x_BadShare.k (raises_own T.x_BadShare.b T.x_BadShare.t) (by rfl)))) pss_nil))), ?_⟩
    have both : ∃ b p : Int, vs = [.int b, .int p] ∧ ((1 ≤ b ∧ b ≤ 64 ∧ 0 ≤ p ∧ p ≤ b) → Q .non H) ∧ (BadSh b p → E (.ref (He.ga K "BadShare")) none H) := by
      rcases h with ⟨b, p, rfl, h1, h2, h3, h4, k⟩ | ⟨b, p, rfl, hb, k⟩
      · exact ⟨b, p, rfl, fun _ => k, fun z => absurd ⟨h1, h2, h3, h4⟩ z⟩
      · exact ⟨b, p, rfl, fun z => absurd z hb, fun _ => k⟩
    obtain ⟨b, p, rfl, kg, kb⟩ := both
    by_cases hb : 1 ≤ b ∧ b ≤ 64
    · refine ⟨_, rfl, b, rfl, .inl ⟨hb.1, hb.2, ?_⟩⟩
      refine ⟨_, rfl, _, _, rfl, rfl, _, rfl, ?_⟩
      by_cases p0 : 0 ≤ p
      · refine iteTe (decide_eq_true p0) ⟨_, rfl, _, _, rfl, rfl, _, rfl, ?_⟩
        by_cases p1 : p ≤ b
        · exact iteFe (c := !decide (p ≤ b)) (by rw [decide_eq_true p1]; rfl) (kg ⟨hb.1, hb.2, p0, p1⟩)
        · exact iteTe (c := !decide (p ≤ b)) (by rw [decide_eq_false p1]; rfl) (kb fun z => p1 z.2.2.2)
      · exact iteFe (decide_eq_false p0) ⟨_, rfl, iteT (kb fun z => p0 z.2.2.1)⟩
    · exact ⟨_, rfl, b, rfl, .inr ⟨hb, kb fun z => hb ⟨z.1, z.2.1⟩⟩⟩
abbrev s_law_far : Stmt := top 39
theorem sc_law_far : FnScope ["_law_state", "_law_least", "_law_most", "_law_far_here"] ["_law_state", "_law_least", "_law_most"] (defScope s_law_far) := ⟨rfl, rfl, rfl, by decide +kernel, rfl, by decide +kernel, by decide +kernel⟩
/-- _law_far(state, least, most): a number beyond -/
def spFar (K : PySem.W.Frag) : Sp := fun vs H Q _ => ∃ (st a : Addr) (ns : List Int) (lo hi : Int), vs = [.ref st, .int lo, .int hi] ∧ SOk K a ns st H ∧
  ∀ (v : Int) (H' : Hp), (v < lo ∨ hi < v) → Keep st H H' → SOk K a ns st H' → Q (.int v) H'
theorem ok_law_far {f : Addr} {fd : FuncData} (F : FunG K mg "_law_far" s_law_far f fd ["_law_state", "_law_least", "_law_most"]) (c_law_drawn : Cl P w K mg base CX0 1 "_law_drawn" (spDrawn K)) : FnOk P w K mg base CX0 2 f fd ["_law_state", "_law_least", "_law_most"] (spFar K) := by
  refine F.fn.ok sc_law_far (fun vs H Q E h => ?_) (fun cdv A outer s H vs Q E hr h => ?_)
  · obtain ⟨st, a, ns, lo, hi, rfl, _⟩ := h
    rfl
  · obtain ⟨st, a, ns, lo, hi, rfl, hs, k⟩ := h
    refine ⟨_, (pss_cons (ps_set (i := 3) sc_law_far.nd rfl (.inl rfl) (pe_ix (ixL K) (pe_lst (pa_cons pe_int (pa_cons pe_int (pa_cons (pe_op op_pow pe_int pe_int) pa_nil)))) (pe_cl c_law_drawn hr (by decide) (by rfl) (pa_cons (pv 0) (pa_cons pe_int pa_nil))) (fun _ _ => rfl)))
      (pss_one (ps_ret (pe_ix (ixL K) (pe_lst (pa_cons (pe_op op_sub (pe_op op_sub (pv 1) pe_int) (pe_cl c_law_drawn hr (by decide) (by rfl) (pa_cons (pv 0) (pa_cons (pv 3) pa_nil)))) (pa_cons (pe_op op_add (pe_op op_add (pv 2) pe_int) (pe_cl c_law_drawn hr (by decide) (by rfl) (pa_cons (pv 0) (pa_cons (pv 3) pa_nil)))) pa_nil))) (pe_cl c_law_drawn hr (by decide) (by rfl) (pa_cons (pv 0) (pa_cons pe_int pa_nil))) (fun _ _ => rfl))))), ?_⟩
    refine ⟨_, _, rfl, rfl, ⟨by decide, by decide, by decide⟩, (by show 3 ≤ sizeLine; decide), fun p3 hp3 => ?_⟩
    have s3 := hs.new (o := .lst [.int 1, .int 20, .int (10 ^ (29 : Int).toNat)]) hp3
    have n3 := hs.ne_of hp3
    refine ⟨_, rfl, st, a, ns, 3, rfl, s3, by decide, by decide, fun r i4 m4 c4 r0 r1 d4 => ?_⟩
    have s4 := s3.drawn d4
    have k4 : Keep st H (upd (upd H p3 (.lst [.int 1, .int 20, .int (10 ^ (29 : Int).toNat)])) st (StO a i4 m4 c4)) := ((Keep.refl st H).new hp3).atSt
    have hp4 : (upd (upd H p3 (.lst [.int 1, .int 20, .int (10 ^ (29 : Int).toNat)])) st (StO a i4 m4 c4)) p3 = some (.lst [.int 1, .int 20, .int (10 ^ (29 : Int).toNat)]) := by rw [upd_ne n3, upd_same]
    generalize upd (upd H p3 (.lst [.int 1, .int 20, .int (10 ^ (29 : Int).toNat)])) st (StO a i4 m4 c4) = H4 at s4 k4 hp4
    have hat : ∃ v : Int, atI [V.int 1, V.int 20, V.int (10 ^ (29 : Int).toNat)] r = some (.int v) ∧ 1 ≤ v ∧ v ≤ 10 ^ 29 := by
      rcases pick3 r0 r1 with e | e | e <;> subst e
      · exact ⟨_, rfl, by decide, by decide⟩
      · exact ⟨_, rfl, by decide, by decide⟩
      · exact ⟨_, rfl, by decide, by decide⟩
    obtain ⟨far, hfar, f0, f1⟩ := hat
    refine ⟨_, _, _, _, rfl, rfl, SqL.of hp4, hfar, ?_⟩
    refine ⟨_, rfl, _, _, rfl, rfl, _, rfl, _, rfl, st, a, ns, far, rfl, s4, by omega, Int.lt_of_le_of_lt f1 (by decide), fun r5 i5 m5 c5 r50 r51 d5 => ?_⟩
    have s5 := s4.drawn d5
    have k5 := k4.atSt (o := StO a i5 m5 c5)
    generalize upd H4 st (StO a i5 m5 c5) = H5 at s5 k5
    refine ⟨_, _, rfl, rfl, _, rfl, _, _, rfl, rfl, _, rfl, _, rfl, st, a, ns, far, rfl, s5, by omega, Int.lt_of_le_of_lt f1 (by decide), fun r6 i6 m6 c6 r60 r61 d6 => ?_⟩
    have s6 := s5.drawn d6
    have k6 := k5.atSt (o := StO a i6 m6 c6)
    generalize upd H5 st (StO a i6 m6 c6) = H6 at s6 k6
    refine ⟨_, _, rfl, rfl, (by show 2 ≤ sizeLine; decide), fun p7 hp7 => ?_⟩
    have s7 := s6.new (o := .lst [.int (lo - 1 - r5), .int (hi + 1 + r6)]) hp7
    have k7 := k6.new (o := .lst [.int (lo - 1 - r5), .int (hi + 1 + r6)]) hp7
    have n7 := s6.ne_of hp7
    refine ⟨_, rfl, st, a, ns, 2, rfl, s7, by decide, by decide, fun r8 i8 m8 c8 r80 r81 d8 => ?_⟩
    have s8 := s7.drawn d8
    have k8 := k7.atSt (o := StO a i8 m8 c8)
    have hp8 : (upd (upd H6 p7 (.lst [.int (lo - 1 - r5), .int (hi + 1 + r6)])) st (StO a i8 m8 c8)) p7 = some (.lst [.int (lo - 1 - r5), .int (hi + 1 + r6)]) := by rw [upd_ne n7, upd_same]
    generalize upd (upd H6 p7 (.lst [.int (lo - 1 - r5), .int (hi + 1 + r6)])) st (StO a i8 m8 c8) = H8 at s8 k8 hp8
    have hx : r8 = 0 ∨ r8 = 1 := by omega
    rcases hx with e | e <;> subst e
    · exact ⟨_, _, _, _, rfl, rfl, SqL.of hp8, at_of (j := 0) rfl rfl, k _ _ (.inl (by omega)) k8 s8⟩
    · exact ⟨_, _, _, _, rfl, rfl, SqL.of hp8, at_of (j := 1) rfl rfl, k _ _ (.inr (by omega)) k8 s8⟩
abbrev s_sums_of : Stmt := top 17
theorem sc_sums_of : FnScope ["frame", "width", "around", "rest", "here", "found", "k"] ["frame", "width"] (defScope s_sums_of) := ⟨rfl, rfl, rfl, by decide +kernel, rfl, by decide +kernel, by decide +kernel⟩
/-- sums_of(frame, width): all windows of the width, a new list -/
def spSums (K : PySem.W.Frag) : Sp := fun vs H Q _ => ∃ (l : Addr) (fs : List Int) (w : Nat), vs = [.ref l, .int (w : Int)] ∧ SqL K H l (fs.map V.int) ∧ Frm fs ∧ w ≤ 10000 ∧
  ∀ p H', Same H H' → H p = none → H' p = some (.lst ((wins fs w).map V.int)) → Q (.ref p) H'
theorem ok_sums_of {f : Addr} {fd : FuncData} (F : FunG K mg "sums_of" s_sums_of f fd ["frame", "width"]) (T : Txt K mg) : FnOk P w K mg base CX0 1 f fd ["frame", "width"] (spSums K) := by
  refine F.fn.ok sc_sums_of (fun vs H Q E h => ?_) (fun cdv A outer s H vs Q E hr h => ?_)
  · obtain ⟨l, fs, w, rfl, _⟩ := h
    rfl
  · obtain ⟨l, fs, w, rfl, hS, hf, hw, k⟩ := h
    refine ⟨_, (pss_cons (ps_asg (pe_callB call_divmodW (by rfl) T.b_divmod (by decide +kernel) (pa_cons (pv 1) (pa_cons (pe_callB (clLen K) (by rfl) T.b_len (by decide +kernel) (pa_cons (pv 0) pa_nil)) pa_nil))) (pg_tup (by rfl) (pgs_cons (pg_name (i := 2) sc_sums_of.nd rfl (.inl rfl)) (pgs_cons (pg_name (i := 3) sc_sums_of.nd rfl (.inl rfl)) pgs_nil))))
      (pss_cons (ps_set (i := 4) sc_sums_of.nd rfl (.inl rfl) (pe_op op_add (pe_op op_mulW (pe_callB (clSum K rfl) (by rfl) T.b_sum (by decide +kernel) (pa_cons (pv 0) pa_nil)) (pv 2)) (pe_callB (clSum K rfl) (by rfl) T.b_sum (by decide +kernel) (pa_cons (pe_slice (slL K) (pv 0) po_none (po_some (pv 3))) pa_nil))))
      (pss_cons (ps_set (i := 5) sc_sums_of.nd rfl (.inl rfl) (pe_lst pa_nil))
      (pss_cons (ps_for PassesOwn.never (by rfl) (pi_range1 (by rfl) T.b_range (pa_cons (pe_callB (clLen K) (by rfl) T.b_len (by decide +kernel) (pa_cons (pv 0) pa_nil)) pa_nil)) (pg_name (i := 6) sc_sums_of.nd rfl (.inl rfl)) (pss_cons (ps_expr (pe_bm PySem.F.plainAttrs_list PySem.F.slot_list_append PySem.F.type_list_append mt_append (pv 5) (pa_cons (pv 4) pa_nil)))
      (pss_one (ps_set (i := 4) sc_sums_of.nd rfl (.inl rfl) (pe_op op_add (pe_op op_sub (pv 4) (pe_ix (ixL K) (pv 0) (pv 6) (fun _ _ => rfl))) (pe_ix (ixL K) (pv 0) (pe_op op_mod (pe_op op_add (pv 6) (pv 3)) (pe_callB (clLen K) (by rfl) T.b_len (by decide +kernel) (pa_cons (pv 0) pa_nil))) (fun _ _ => rfl)))))))
      (pss_one (ps_ret (pv 5))))))), ?_⟩
    have h0 := hf.pos
    have h1 := hf.le
    obtain ⟨sm0, sm1⟩ := hf.sum
    have hlen : (fs.map V.int).length = fs.length := List.length_map _
    have hr0 : w % fs.length < fs.length := Nat.mod_lt _ h0
    -- around, rest = divmod(width, len(frame))
    refine ⟨_, rfl, _, rfl, _, _, rfl, .inl hS, _, _, rfl, divP (b := 7) (by rw [hlen]; omega) (by rw [hlen]; omega) (by decide) (by decide), fun q hq => ⟨_, _, rfl, SqT.of upd_same, rfl, ?_⟩⟩
    have e1 : Same H (upd H q (.tup [.int ((w : Int) / ((fs.map V.int).length : Int)), .int ((w : Int) % ((fs.map V.int).length : Int))])) := Same.upd hq
    rw [hlen, show (w : Int) / (fs.length : Int) = ((w / fs.length : Nat) : Int) from (Int.natCast_ediv _ _).symm, show (w : Int) % (fs.length : Int) = ((w % fs.length : Nat) : Int) from (Int.natCast_emod _ _).symm] at e1 ⊢
    refine ⟨_, _, rfl, _, _, rfl, rfl, ?_⟩
    generalize upd H q (.tup [.int ((w / fs.length : Nat) : Int), .int ((w % fs.length : Nat) : Int)]) = H1 at e1
    have hS1 := e1.seq hS
    -- here = sum(frame) * around + sum(frame[:rest])
    have hq10 : w / fs.length ≤ 10000 := Nat.le_trans (Nat.div_le_self _ _) hw
    refine ⟨_, rfl, _, _, rfl, hS1, _, rfl, _, _, rfl, rfl, wide_mul (a := 7) (b := 14) (by omega) (by rw [Int.natAbs_natCast]; exact Nat.lt_of_le_of_lt hq10 (by decide)) (by decide) (by decide) (by decide), _, rfl, _, rfl, _, rfl, _, _, rfl, hS1, fun p hp => ?_⟩
    rw [cut_to (Nat.le_of_lt hr0)]
    have e2 : Same H (upd H1 p (.lst ((fs.take (w % fs.length)).map V.int))) := e1.new hp
    refine ⟨_, _, rfl, SqL.of upd_same, _, _, rfl, rfl, ?_⟩
    generalize upd H1 p (.lst ((fs.take (w % fs.length)).map V.int)) = H2 at e2
    have hS2 := e2.seq hS
    -- found = []
    refine ⟨Nat.zero_le _, fun D hD => ?_⟩
    have hDn : H D = none := e2.free hD
    refine ⟨_, rfl, _, _, rfl, .inl ((e2.new hD).seq hS), _, rfl, by rw [hlen]; omega, by rw [hlen]; omega, for_range (lo := 0) (n := ((fs.map V.int).length : Int).toNat) (fun i σ H' => (∃ v : Option V, σ = [some (.ref l), some (.int (w : Int)), some (.int ((w / fs.length : Nat) : Int)), some (.int ((w % fs.length : Nat) : Int)), some (.int (win fs w i)), some (.ref D), v]) ∧ Same H H' ∧ H' D = some (.lst (((List.range i).map (win fs w)).map V.int)))
      ?_ ?_ ?_⟩
    · refine ⟨⟨none, ?_⟩, e2.new hD, upd_same⟩
      rw [← win_first w]
      rfl
    · rintro i σ H' hi ⟨⟨v, rfl⟩, e3, hd⟩
      rw [hlen, Int.toNat_natCast] at hi
      refine ⟨_, rfl, .inl ⟨rfl, _, SqL.of hd⟩, _, rfl, D, _, _, rfl, rfl, hd, small_of (m := 64) (by simp; omega), ?_⟩
      have e4 : Same H (upd H' D (.lst (((List.range i).map (win fs w)).map V.int ++ [.int (win fs w i)]))) := e3.mut hDn
      have e5 : ((List.range i).map (win fs w)).map V.int ++ [.int (win fs w i)] = ((List.range (i + 1)).map (win fs w)).map V.int := by
        rw [List.range_succ, List.map_append, List.map_append]; rfl
      rw [e5] at e4 ⊢
      have hS4 := e4.seq hS
      have hj : (i + w % fs.length) % fs.length < fs.length := Nat.mod_lt _ h0
      refine ⟨_, rfl, _, rfl, _, rfl, _, _, _, _, rfl, rfl, hS4, atV (j := i) (by omega) hi, _, _, rfl, rfl, _, rfl, _, rfl, _, rfl, _, _, rfl, rfl, _, rfl, _, _, rfl, .inl hS4, _, _, rfl, rfl, (by show (0 : Int) < ((fs.map V.int).length : Int); rw [hlen]; omega), _, _, _, _, rfl, rfl, hS4, atV (j := (i + w % fs.length) % fs.length) ?_ hj, _, _, rfl, rfl, ?_⟩
      · rw [hlen]
        show (0 + (i : Int) + ((w % fs.length : Nat) : Int)) % (fs.length : Int) = _
        rw [Int.zero_add]
        simp only [Int.natCast_emod, Int.natCast_add]
      · refine ⟨⟨some (.int (0 + (i : Int))), ?_⟩, e4, upd_same⟩
        have c1 : cyc fs i = fs.getD i 0 := cyc_lt hi
        have c2 : cyc fs (i + w) = fs.getD ((i + w % fs.length) % fs.length) 0 := by
          unfold cyc
          rw [Nat.add_mod_mod]
        have e6 : win fs w (i + 1) = win fs w i - fs.getD i 0 + fs.getD ((i + w % fs.length) % fs.length) 0 := by rw [win_next, c1, c2]
        rw [e6]
        rfl
    · rintro σ H' ⟨⟨v, rfl⟩, e3, hd⟩
      rw [hlen, Int.toNat_natCast] at hd
      exact ⟨_, rfl, k D H' e3 hDn hd⟩
abbrev s_spans_of : Stmt := top 18
theorem sc_spans_of : FnScope ["frame", "width", "some"] ["frame", "width"] (defScope s_spans_of) := ⟨rfl, rfl, rfl, by decide +kernel, rfl, by decide +kernel, by decide +kernel⟩
/-- spans_of(frame, width): a new pair -/
def spSpans (K : PySem.W.Frag) : Sp := fun vs H Q _ => ∃ (l : Addr) (fs : List Int) (w : Nat), vs = [.ref l, .int (w : Int)] ∧ SqL K H l (fs.map V.int) ∧ Frm fs ∧ 1 ≤ w ∧ w ≤ 10000 ∧
  ∀ lo hi t H', Lo (wins fs w) lo → Hi (wins fs w) hi → Same H H' → H t = none → H' t = some (.tup [.int lo, .int hi]) → Q (.ref t) H'
theorem ok_spans_of {f : Addr} {fd : FuncData} (F : FunG K mg "spans_of" s_spans_of f fd ["frame", "width"]) (T : Txt K mg) (c_sums_of : Cl P w K mg base CX0 1 "sums_of" (spSums K)) : FnOk P w K mg base CX0 2 f fd ["frame", "width"] (spSpans K) := by
  refine F.fn.ok sc_spans_of (fun vs H Q E h => ?_) (fun cdv A outer s H vs Q E hr h => ?_)
  · obtain ⟨l, fs, w, rfl, _⟩ := h
    rfl
  · obtain ⟨l, fs, w, rfl, hS, hf, _, hw, k⟩ := h
    refine ⟨_, (pss_cons (ps_set (i := 2) sc_spans_of.nd rfl (.inl rfl) (pe_cl c_sums_of hr (by decide) (by rfl) (pa_cons (pv 0) (pa_cons (pv 1) pa_nil))))
      (pss_one (ps_ret (pe_tup (pa_cons (pe_callB (clMin K rfl) (by rfl) T.b_min (by decide +kernel) (pa_cons (pv 2) pa_nil)) (pa_cons (pe_callB (clMax K rfl) (by rfl) T.b_max (by decide +kernel) (pa_cons (pv 2) pa_nil)) pa_nil)))))), ?_⟩
    have h0 := hf.pos
    have hl : 0 < (wins fs w).length := by rw [wins_len]; exact h0
    refine ⟨_, rfl, _, rfl, l, fs, w, rfl, hS, hf, hw, fun p H1 e1 hp hp1 => ?_⟩
    refine ⟨_, rfl, _, _, rfl, SqL.of hp1, hl, fun lo l1 l2 => ⟨_, rfl, _, _, rfl, SqL.of hp1, hl, fun hi h1 h2 => ⟨(by show 2 ≤ sizeLine; decide), fun t ht => ?_⟩⟩⟩
    exact k lo hi t _ ⟨l1, l2⟩ ⟨h1, h2⟩ (e1.new ht) (e1.free ht) upd_same
end
end My

namespace My
open PySem PySem.Spec PyProof.Rows LamX L2
section
variable {P : Program} {w : World} {K : PySem.W.Frag} {mg : Str → Option Value} {base : Heap}
abbrev s_spans : Stmt := top 19
theorem sc_spans : FnScope ["frame", "width"] ["frame", "width"] (defScope s_spans) := ⟨rfl, rfl, rfl, by decide +kernel, rfl, by decide +kernel, by decide +kernel⟩
/-- spans(frame, width) of no frame: BadFrame -/
def spSpansB (K : PySem.W.Frag) : Sp := fun vs H Q E => ∃ (l : Addr) (xs : List Int) (wd : Int), vs = [.ref l, .int wd] ∧ SqL K H l (xs.map V.int) ∧ xs.length ≤ 10000 ∧ ¬ Frm xs ∧ ∀ H', Same H H' → E (.ref (He.ga K "BadFrame")) none H'
theorem ok_spans {f : Addr} {fd : FuncData} (F : FunG K mg "spans" s_spans f fd ["frame", "width"]) (T : Txt K mg) (c_need_frame : Cl P w K mg base (L2.CX P w) 1 "need_frame" (orF K (spNeedFrame K))) (c_spans_of : Cl P w K mg base CX0 2 "spans_of" (spSpans K)) : FnOk P w K mg base (L2.CX P w) 3 f fd ["frame", "width"] (spSpansB K) := by
  refine F.fn.okX sc_spans (fun vs H Q E h => ?_) (fun cdv A outer s H vs Q E hr h => ?_)
  · obtain ⟨l, fs, wd, rfl, _⟩ := h
    rfl
  · obtain ⟨l, xs, wd, rfl, hS, hl, hb, k⟩ := h
    refine ⟨_, (pss_cons (ps_expr (pe_clT c_need_frame hr (by decide) (passes_call (takes_of rfl rfl rfl rfl) (fun _ _ _ _ h => h)) (by rfl) (pa_cons (pv 0) pa_nil)))
      (pss_cons (ps_if (pt_not (pt_chain op_le op_le pe_int (pv 1) (C8.pe_gc (by rfl) T.k_MOST_WIDTH))) (pss_one (ps_raise (by rfl) (takes_of rfl rfl rfl rfl) (pmk_own PySem.F.excBase_ValueError T.x_BadWidth.x T.x_BadWidth.g T.x_BadWidth.k (raises_own T.x_BadWidth.b T.x_BadWidth.t) (by rfl)))) pss_nil)
      (PSs.nox (pss_one (ps_ret (pe_cl c_spans_of hr (by decide) (by rfl) (pa_cons (pv 0) (pa_cons (pv 1) pa_nil)))))))), ?_⟩
    exact ⟨_, rfl, .inr ⟨l, xs, rfl, hS, hl, hb, fun H1 e1 => k H1 e1⟩⟩
abbrev s_is_spread : Stmt := top 20
theorem sc_is_spread : FnScope ["frame", "width", "rows", "row"] ["frame"] (defScope s_is_spread) := ⟨rfl, rfl, rfl, by decide +kernel, rfl, by decide +kernel, by decide +kernel⟩
/-- is_spread(frame) -/
def spSpread (K : PySem.W.Frag) : Sp := fun vs H Q _ => ∃ (l : Addr) (fs : List Int), vs = [.ref l] ∧ SqL K H l (fs.map V.int) ∧ Frm fs ∧ ∀ b H', (b = true ↔ Spread fs) → Same H H' → Q (.bl b) H'
/-- what is told of widths 1 .. n: pairs of least and greatest, laid at the addresses -/
def RowsAt (fs : List Int) (H : Hp) (n : Nat) (ts : List (Addr × Int × Int)) : Prop :=
  ts.length = n ∧ ∀ i t lo hi, ts[i]? = some (t, lo, hi) → H t = some (.tup [.int lo, .int hi]) ∧ Lo (wins fs (i + 1)) lo ∧ Hi (wins fs (i + 1)) hi
theorem RowsAt.same {fs : List Int} {H H' : Hp} {n : Nat} {ts : List (Addr × Int × Int)} (h : RowsAt fs H n ts) (e : Same H H') : RowsAt fs H' n ts :=
  ⟨h.1, fun i t lo hi hi' => ⟨e _ _ (h.2 i t lo hi hi').1, (h.2 i t lo hi hi').2⟩⟩
theorem RowsAt.push {fs : List Int} {H : Hp} {n : Nat} {ts : List (Addr × Int × Int)} (h : RowsAt fs H n ts) {t : Addr} {lo hi : Int} (ht : H t = some (.tup [.int lo, .int hi])) (hl : Lo (wins fs (n + 1)) lo) (hh : Hi (wins fs (n + 1)) hi) : RowsAt fs H (n + 1) (ts ++ [(t, lo, hi)]) := by
  obtain ⟨h1, h2⟩ := h
  refine ⟨by rw [List.length_append, h1]; rfl, fun i t' lo' hi' hi2 => ?_⟩
  by_cases c : i < ts.length
  · rw [List.getElem?_append_left c] at hi2
    exact h2 i t' lo' hi' hi2
  · have e : i = n := by
      have := (List.getElem?_eq_some_iff.mp hi2).1
      rw [List.length_append, h1] at this
      simp at this
      omega
    subst e
    rw [List.getElem?_append_right (by omega), h1, Nat.sub_self] at hi2
    cases hi2
    exact ⟨ht, hl, hh⟩
theorem spread_rows {fs : List Int} {H : Hp} {ts : List (Addr × Int × Int)} (h : RowsAt fs H fs.length ts) : (ts.all fun r => decide (r.2.2 - r.2.1 ≤ 1)) = true ↔ Spread fs := by
  obtain ⟨h1, h2⟩ := h
  rw [List.all_eq_true]
  constructor
  · intro ha w hw1 hw2 i j hi hj
    have hlt : w - 1 < ts.length := by omega
    rcases hr : ts[w - 1] with ⟨t, lo, hi'⟩
    have g : ts[w - 1]? = some (t, lo, hi') := by rw [List.getElem?_eq_getElem hlt, hr]
    obtain ⟨_, hlo, hhi⟩ := h2 _ _ _ _ g
    rw [show w - 1 + 1 = w by omega] at hlo hhi
    have d := of_decide_eq_true (ha _ (List.mem_of_getElem? g))
    have := hlo.2 _ (mem_wins.mpr ⟨j, hj, rfl⟩)
    have := hhi.2 _ (mem_wins.mpr ⟨i, hi, rfl⟩)
    simp only at d
    omega
  · intro hs r hr
    obtain ⟨i, hi, rfl⟩ := List.getElem_of_mem hr
    rcases hr' : ts[i] with ⟨t, lo, hi'⟩
    have g : ts[i]? = some (t, lo, hi') := by rw [List.getElem?_eq_getElem hi, hr']
    obtain ⟨_, hlo, hhi⟩ := h2 _ _ _ _ g
    obtain ⟨a, ha, rfl⟩ := mem_wins.mp hlo.1
    obtain ⟨b, hb, rfl⟩ := mem_wins.mp hhi.1
    exact decide_eq_true (hs (i + 1) (by omega) (by omega) b a hb ha)
def rowD (r : Addr × Int × Int) : PyData := .tuple [.int r.2.1, .int r.2.2]
theorem rows_layA : ∀ ts : List (Addr × Int × Int), PyData.canLayAll0 (ts.map rowD) = true
  | [] => by simp [PyData.canLayAll0]
  | z :: zs => by simp [PyData.canLayAll0, PyData.canLay0, rowD, rows_layA zs]
theorem rows_depthA : ∀ ts : List (Addr × Int × Int), PyData.depthAll (ts.map rowD) ≤ 2
  | [] => by simp [PyData.depthAll]
  | z :: zs => by
    have h1 := rows_depthA zs
    simp only [List.map_cons, PyData.depthAll, PyData.depth, rowD]
    omega
theorem rows_shaped (ts : List (Addr × Int × Int)) : SeqAt.shaped (.list (ts.map rowD)) = true := by
  have h1 := rows_depthA ts
  have h2 : PyData.depth (.list (ts.map rowD)) ≤ 64 := by
    simp only [PyData.depth]
    omega
  show (PyData.canLay0 (.list (ts.map rowD)) && decide (PyData.depth (.list (ts.map rowD)) ≤ 64)) = true
  rw [Bool.and_eq_true]
  exact ⟨by simp only [PyData.canLay0]; exact rows_layA ts, decide_eq_true h2⟩
theorem rows_eqv (ts : List (Addr × Int × Int)) : PyData.eqv (.list (ts.map rowD)) (dI []) = ts.isEmpty := by
  cases ts <;> simp [PyData.eqv, PyData.eqvAll, dI]
theorem rows_dp {K : PySem.W.Frag} {H : Hp} : ∀ ts : List (Addr × Int × Int), (∀ r ∈ ts, H r.1 = some (.tup [.int r.2.1, .int r.2.2])) → DpAll K H (ts.map fun r => V.ref r.1) (ts.map rowD)
  | [], _ => .nil
  | r :: ts, h => .cons (.tup (SqT.of (h r List.mem_cons_self)) (.cons (.int _) (.cons (.int _) .nil))) (rows_dp ts fun q hq => h q (List.mem_cons_of_mem _ hq))
theorem ok_is_spread {f : Addr} {fd : FuncData} (F : FunG K mg "is_spread" s_is_spread f fd ["frame"]) (T : Txt K mg) (c_spans_of : Cl P w K mg base CX0 2 "spans_of" (spSpans K)) : FnOk P w K mg base CX0 3 f fd ["frame"] (spSpread K) := by
  refine F.fn.ok sc_is_spread (fun vs H Q E h => ?_) (fun cdv A outer s H vs Q E hr h => ?_)
  · obtain ⟨l, fs, rfl, _⟩ := h
    rfl
  · obtain ⟨l, fs, rfl, hS, hf, k⟩ := h
    refine ⟨_, (pss_cons (ps_setLc (i := 2) (own := [("width", 1)]) (g := gName 1) (tt := tYes) rfl sc_is_spread.nd rfl rfl (sw_true rfl rfl rfl (by decide +kernel)) (pi_range2 (by rfl) T.b_range (pa_cons pe_int (pa_cons (pe_op op_add (pe_callB (clLen K) (by rfl) T.b_len (by decide +kernel) (pa_cons (pv 0) pa_nil)) pe_int) pa_nil))) (blkOk_by (own := [("width", 1)]) (N := ["frame", "width", "rows", "row"]) (sc := defScope s_is_spread) (by decide +kernel)) (fun _ _ _ _ _ => (pg_name (i := 1) sc_is_spread.nd rfl (.inl rfl))) (fun _ _ _ _ _ => pts_nil) (fun _ _ _ _ _ => (pe_cl c_spans_of hr (by decide) (by rfl) (pa_cons (pv 0) (pa_cons (pv 1) pa_nil)))))
      (pss_one (ps_ret (pe_cmpR (opEqD K hr.units) (pe_lc (own := [("row", 3)]) (g := gName 3) (by rfl) sc_is_spread.nd (pi_list (pv 2)) (blkOk_by (own := [("row", 3)]) (N := ["frame", "width", "rows", "row"]) (sc := defScope s_is_spread) (by decide +kernel)) (fun _ _ _ _ _ => (pg_name (i := 3) sc_is_spread.nd rfl (.inl rfl))) (fun _ _ _ _ _ => (pts_one (pt_cmpR op_gt (pe_op op_sub (pe_ix (ixT K) (pv 3) pe_int (fun _ _ => rfl)) (pe_ix (ixT K) (pv 3) pe_int (fun _ _ => rfl))) pe_int (nomark _)))) (fun _ _ _ _ _ => (pv 3))) (pe_lst pa_nil) (nomark _))))), ?_⟩
    have h0 := hf.pos
    have h1 := hf.le
    have hlen : (fs.map V.int).length = fs.length := List.length_map _
    refine ⟨_, rfl, _, _, rfl, .inl hS, _, _, rfl, rfl, _, _, rfl, ⟨by decide, by decide, by rw [hlen]; omega, by rw [hlen]; omega⟩, fun D hD => ?_⟩
    rw [hlen, show ((fs.length : Int) + 1 - 1).toNat = fs.length by omega]
    refine lc_range (lo := 1) (n := fs.length) (fun i H' => Same H H' ∧ ∃ ts, RowsAt fs H' i ts ∧ H' D = some (.lst (ts.map fun r => V.ref r.1))) ⟨Same.upd hD, [], ⟨rfl, fun i t lo hi h => by simp at h⟩, upd_same⟩ ?_ ?_
    · rintro i H' hi ⟨e, ts, hR, hd⟩
      refine ⟨rfl, _, rfl, _, rfl, l, fs, i + 1, by rw [show ((i + 1 : Nat) : Int) = 1 + (i : Int) by omega]; rfl, e.seq hS, hf, by omega, by omega, fun lo hi' t H2 hlo hhi e2 ht ht2 => ⟨_, e2 _ _ hd, small_of (m := 64) (by rw [List.length_map, hR.1]; omega), ?_⟩⟩
      have e3 : Same H' (upd H2 D (.lst ((ts.map fun r => V.ref r.1) ++ [.ref t]))) → True := fun _ => trivial
      have nDt : t ≠ D := fun z => by rw [z, hd] at ht; cases ht
      refine ⟨(e.trans e2).mut hD, ts ++ [(t, lo, hi')], ?_, by rw [List.map_append, upd_same]; rfl⟩
      refine RowsAt.push (H := upd H2 D _) ⟨hR.1, fun j t' lo' hi2 hj => ?_⟩ (by rw [upd_ne nDt]; exact ht2) hlo hhi
      obtain ⟨a1, a2⟩ := hR.2 j t' lo' hi2 hj
      have nD' : t' ≠ D := ne_of a1 hd (by intro z; cases z)
      exact ⟨by rw [upd_ne nD']; exact e2 _ _ a1, a2⟩
    · rintro H1 ⟨e1, ts, hR, hd⟩
      refine ⟨_, rfl, _, rfl, ⟨_, SqL.of hd⟩, fun D2 hD2 => lc_list (K := K) (a := D) (xs := ts.map fun r => V.ref r.1) (fun i H' => Same H1 H' ∧ H' D2 = some (.lst (((ts.take i).filter fun r => decide (1 < r.2.2 - r.2.1)).map fun r => V.ref r.1))) ⟨Same.upd hD2, by rw [upd_same]; simp⟩ (fun i H' _ h => SqL.of (h.1 _ _ hd)) ?_ ?_⟩
      · rintro i x H' hi ⟨e2, hd2⟩
        rw [List.getElem?_map] at hi
        obtain ⟨⟨t, lo, hi'⟩, hr'⟩ : ∃ r, ts[i]? = some r := by
          cases q : ts[i]? with
          | none => rw [q] at hi; cases hi
          | some r => exact ⟨r, rfl⟩
        rw [hr'] at hi
        cases hi
        obtain ⟨a1, a2, a3⟩ := hR.2 i t lo hi' hr'
        have ht := e2 _ _ a1
        have etake : ts.take (i + 1) = ts.take i ++ [(t, lo, hi')] := by
          rw [List.take_succ, hr']; rfl
        refine ⟨rfl, _, rfl, _, _, _, _, rfl, rfl, SqT.of ht, rfl, _, rfl, _, _, _, _, rfl, rfl, SqT.of ht, rfl, _, _, rfl, rfl, _, _, rfl, rfl, _, rfl, ?_⟩
        by_cases c : 1 < hi' - lo
        · show (if decide (1 < hi' - lo) = true then _ else _)
          rw [decide_eq_true c]
          refine iteT ⟨_, rfl, _, hd2, small_of (m := 64) (by rw [List.length_map]; exact Nat.le_trans (List.length_filter_le _ _) (by rw [List.length_take, hR.1]; omega)), e2.mut hD2, ?_⟩
          rw [upd_same, etake, List.filter_append, List.map_append]
          simp [c]
        · show (if decide (1 < hi' - lo) = true then _ else _)
          rw [decide_eq_false c]
          refine iteF ⟨e2, ?_⟩
          rw [hd2, etake, List.filter_append, List.map_append]
          simp [c]
      · rintro H2 ⟨e2, hd2⟩
        rw [List.length_map, List.take_length] at hd2
        refine ⟨Nat.zero_le _, fun q hq => ⟨_, _, .lst (SqL.of (by rw [upd_ne (ne_of_none hd2 hq)]; exact hd2)) (rows_dp _ fun r hr => ?_), dp_nil (SqL.of upd_same), rows_shaped _, dI_shaped _, ?_⟩⟩
        · obtain ⟨j, hj, rfl⟩ := List.getElem_of_mem (List.mem_filter.mp hr).1
          rcases hq' : ts[j] with ⟨t, lo, hi'⟩
          have g : ts[j]? = some (t, lo, hi') := by rw [List.getElem?_eq_getElem hj, hq']
          have a1 := e2 _ _ (hR.2 j t lo hi' g).1
          simp only
          rw [upd_ne (ne_of_none a1 hq)]
          exact a1
        · rw [rows_eqv]
          refine k _ _ ?_ ((e1.trans e2).new hq)
          rw [← spread_rows hR]
          rw [List.isEmpty_iff, List.filter_eq_nil_iff, List.all_eq_true]
          constructor
          · intro h r hr
            have := h r hr
            simp only [decide_eq_true_eq] at this ⊢
            omega
          · intro h r hr
            have := h r hr
            simp only [decide_eq_true_eq] at this ⊢
            omega
abbrev s_is_even : Stmt := top 21
theorem sc_is_even : FnScope ["frame"] ["frame"] (defScope s_is_even) := ⟨rfl, rfl, rfl, by decide +kernel, rfl, by decide +kernel, by decide +kernel⟩
/-- is_even(frame) -/
theorem ok_is_even {f : Addr} {fd : FuncData} (F : FunG K mg "is_even" s_is_even f fd ["frame"]) (c_need_frame : Cl P w K mg base (L2.CX P w) 1 "need_frame" (orF K (spNeedFrame K))) (c_is_spread : Cl P w K mg base CX0 3 "is_spread" (spSpread K)) : FnOk P w K mg base (L2.CX P w) 4 f fd ["frame"] (orF K (spSpread K)) := by
  refine F.fn.okX sc_is_even (fun vs H Q E h => ?_) (fun cdv A outer s H vs Q E hr h => ?_)
  · rcases h with ⟨l, fs, rfl, _⟩ | ⟨l, fs, rfl, _⟩ <;> rfl
  · refine ⟨_, (pss_cons (ps_expr (pe_clT c_need_frame hr (by decide) (passes_call (takes_of rfl rfl rfl rfl) (fun _ _ _ _ h => h)) (by rfl) (pa_cons (pv 0) pa_nil)))
      (PSs.nox (pss_one (ps_ret (pe_cl c_is_spread hr (by decide) (by rfl) (pa_cons (pv 0) pa_nil)))))), ?_⟩
    rcases h with ⟨l, fs, rfl, hS, hf, k⟩ | ⟨l, xs, rfl, hS, hl, hb, k⟩
    rotate_left 1
    · exact ⟨_, rfl, .inr ⟨l, xs, rfl, hS, hl, hb, fun H1 e1 => k H1 e1⟩⟩
    refine ⟨_, rfl, .inl ⟨l, fs, rfl, hS, hf, fun H1 e1 => ?_⟩⟩
    exact ⟨_, rfl, l, fs, rfl, e1.seq hS, hf, fun b H2 hb e2 => k b H2 hb (e1.trans e2)⟩
abbrev s_even_frame : Stmt := top 15
theorem sc_even_frame : FnScope ["beats", "pulses", "turn", "k"] ["beats", "pulses", "turn"] (defScope s_even_frame) := ⟨rfl, rfl, rfl, by decide +kernel, rfl, by decide +kernel, by decide +kernel⟩
/-- even_frame(beats, pulses, turn): a new list -/
def spEven : Sp := fun vs H Q _ => ∃ b p t : Int, vs = [.int b, .int p, .int t] ∧ 1 ≤ b ∧ b ≤ 64 ∧ 0 ≤ p ∧ p ≤ b ∧ t.natAbs < 2 ^ 300 ∧
  ∀ l, H l = none → Q (.ref l) (upd H l (.lst ((evL b p t).map V.int)))
theorem ok_even_frame {f : Addr} {fd : FuncData} (F : FunG K mg "even_frame" s_even_frame f fd ["beats", "pulses", "turn"]) (T : Txt K mg) : FnOk P w K mg base CX0 1 f fd ["beats", "pulses", "turn"] spEven := by
  refine F.fn.ok sc_even_frame (fun vs H Q E h => ?_) (fun cdv A outer s H vs Q E hr h => ?_)
  · obtain ⟨b, p, t, rfl, _⟩ := h
    rfl
  · obtain ⟨b, p, t, rfl, b0, b1, p0, p1, ht, k⟩ := h
    refine ⟨_, (pss_one (ps_ret (pe_lc (own := [("k", 3)]) (g := gName 3) (tt := tYes) (by rfl) sc_even_frame.nd (pi_range1 (by rfl) T.b_range (pa_cons (pv 0) pa_nil)) (blkOk_by (own := [("k", 3)]) (N := ["beats", "pulses", "turn", "k"]) (sc := defScope s_even_frame) (by decide +kernel)) (fun _ _ _ _ _ => (pg_name (i := 3) sc_even_frame.nd rfl (.inl rfl))) (fun _ _ _ _ _ => pts_nil) (fun _ _ _ _ _ => (pe_op op_sub (pe_op op_fdivW (pe_op op_mulW (pe_op op_add (pe_op op_add (pv 3) pe_int) (pv 2)) (pv 1)) (pv 0)) (pe_op op_fdivW (pe_op op_mulW (pe_op op_add (pv 3) (pv 2)) (pv 1)) (pv 0))))))), ?_⟩
    refine ⟨_, rfl, _, rfl, by omega, by omega, fun D hD => lc_range (lo := 0) (n := b.toNat) (fun i H' => H' = upd H D (.lst (((List.range i).map (evB b p t)).map V.int))) rfl ?_ ?_⟩
    · rintro i H' hi rfl
      have hbd : b.natAbs < 2 ^ 7 := by omega
      have hp : p.natAbs < 2 ^ 7 := by omega
      have h301 : ∀ z : Int, 0 ≤ z → z < 100 → (z + t).natAbs < 2 ^ 301 := fun z z0 z1 => by
        have e : (2 : Nat) ^ 301 = 2 ^ 300 + 2 ^ 300 := by rw [Nat.pow_succ]; omega
        have e2 : (100 : Nat) ≤ 2 ^ 300 := by decide
        rw [e]; omega
      have hi' : (i : Int) < 64 := by omega
      have hd : ∀ x : Int, CDivW x b := fun x => wide_div (b := 7) (by omega) hbd (by decide) (by decide)
      refine ⟨rfl, _, rfl, _, _, rfl, rfl, _, rfl, _, _, rfl, rfl, _, rfl, _, _, rfl, rfl, wide_mul (a := 301) (b := 7) (h301 _ (by omega) (by omega)) hp (by decide) (by decide) (by decide), _, rfl, _, _, rfl, rfl, hd _, _, rfl, _, rfl, _, _, rfl, rfl, _, rfl, _, _, rfl, rfl,
        wide_mul (a := 301) (b := 7) (h301 _ (by omega) (by omega)) hp (by decide) (by decide) (by decide), _, rfl, _, _, rfl, rfl, hd _, _, _, rfl, rfl, _, upd_same, small_of (m := 64) (by simp; omega), ?_⟩
      rw [upd_upd, List.range_succ, List.map_append, List.map_append]
      simp only [Int.zero_add]
      rfl
    · rintro H' rfl
      exact k D hD
abbrev s_turn_of : Stmt := top 22
theorem sc_turn_of : FnScope ["frame", "turn"] ["frame"] (defScope s_turn_of) := ⟨rfl, rfl, rfl, by decide +kernel, rfl, by decide +kernel, by decide +kernel⟩
/-- turn_of(frame): the least turn, or None -/
def IsTurn (fs : List Int) (v : V) : Prop := (∃ t : Nat, v = .int (t : Int) ∧ t < fs.length ∧ evL (fs.length : Int) fs.sum (t : Int) = fs ∧ ∀ j : Nat, j < t → evL (fs.length : Int) fs.sum (j : Int) ≠ fs) ∨ (v = .non ∧ ∀ j : Nat, j < fs.length → evL (fs.length : Int) fs.sum (j : Int) ≠ fs)
def spTurn (K : PySem.W.Frag) : Sp := fun vs H Q _ => ∃ (l : Addr) (fs : List Int), vs = [.ref l] ∧ SqL K H l (fs.map V.int) ∧ Frm fs ∧ ∀ v H', IsTurn fs v → Same H H' → Q v H'
theorem ok_turn_of {f : Addr} {fd : FuncData} (F : FunG K mg "turn_of" s_turn_of f fd ["frame"]) (T : Txt K mg) (c_need_frame : Cl P w K mg base (L2.CX P w) 1 "need_frame" (orF K (spNeedFrame K))) (c_even_frame : Cl P w K mg base CX0 1 "even_frame" spEven) : FnOk P w K mg base (L2.CX P w) 2 f fd ["frame"] (orF K (spTurn K)) := by
  refine F.fn.okX sc_turn_of (fun vs H Q E h => ?_) (fun cdv A outer s H vs Q E hr h => ?_)
  · rcases h with ⟨l, fs, rfl, _⟩ | ⟨l, fs, rfl, _⟩ <;> rfl
  · refine ⟨_, (pss_cons (ps_expr (pe_clT c_need_frame hr (by decide) (passes_call (takes_of rfl rfl rfl rfl) (fun _ _ _ _ h => h)) (by rfl) (pa_cons (pv 0) pa_nil)))
      (PSs.nox (pss_cons (ps_for PassesOwn.never (by rfl) (pi_range1 (by rfl) T.b_range (pa_cons (pe_callB (clLen K) (by rfl) T.b_len (by decide +kernel) (pa_cons (pv 0) pa_nil)) pa_nil)) (pg_name (i := 1) sc_turn_of.nd rfl (.inl rfl)) (pss_one (ps_if (pt_cmpR (opEqD K hr.units) (pe_cl c_even_frame hr (by decide) (by rfl) (pa_cons (pe_callB (clLen K) (by rfl) T.b_len (by decide +kernel) (pa_cons (pv 0) pa_nil)) (pa_cons (pe_callB (clSum K rfl) (by rfl) T.b_sum (by decide +kernel) (pa_cons (pv 0) pa_nil)) (pa_cons (pv 1) pa_nil)))) (pe_callTy (clList K) (by rfl) T.b_list (by decide +kernel) (pa_cons (pv 0) pa_nil)) (nomark _)) (pss_one (ps_ret (pv 1))) pss_nil)))
      (pss_one (ps_ret pe_non))))), ?_⟩
    rcases h with ⟨l, fs, rfl, hS, hf, k⟩ | ⟨l, xs, rfl, hS, hl, hb, k⟩
    rotate_left 1
    · exact ⟨_, rfl, .inr ⟨l, xs, rfl, hS, hl, hb, fun H1 e1 => k H1 e1⟩⟩
    have h0 := hf.pos
    have h1 := hf.le
    obtain ⟨sm0, sm1⟩ := hf.sum
    have hlen : (fs.map V.int).length = fs.length := List.length_map _
    refine ⟨_, rfl, .inl ⟨l, fs, rfl, hS, hf, fun H1 e1 => ?_⟩⟩
    refine ⟨_, rfl, _, _, rfl, .inl (e1.seq hS), _, rfl, by rw [hlen]; omega, by rw [hlen]; omega, for_range (lo := 0) (n := ((fs.map V.int).length : Int).toNat) (fun i σ H' => (∃ v : Option V, σ = [some (.ref l), v]) ∧ Same H H' ∧ ∀ j : Nat, j < i → evL (fs.length : Int) fs.sum (j : Int) ≠ fs) ⟨⟨none, rfl⟩, e1, fun j hj => absurd hj (Nat.not_lt_zero _)⟩ ?_ ?_⟩
    · rintro i σ H' hi ⟨⟨v, rfl⟩, e2, hn⟩
      rw [hlen] at hi
      have hi : i < fs.length := by omega
      have hS2 := e2.seq hS
      refine ⟨_, rfl, _, _, rfl, .inl hS2, _, rfl, _, _, rfl, hS2, _, rfl, (fs.length : Int), fs.sum, (i : Int), by rw [hlen, Int.zero_add]; rfl, by omega, by omega, sm0, sm1, Nat.lt_of_lt_of_le (show (i : Int).natAbs < 100 by omega) (by decide), fun q hq => ?_⟩
      have e3 := e2.new (o := .lst ((evL (fs.length : Int) fs.sum (i : Int)).map V.int)) hq
      refine ⟨_, rfl, _, _, rfl, .inl (e3.seq hS), fun p hp => ⟨_, _, dp_ints (SqL.of (by rw [upd_ne (ne_of_none upd_same hp)]; exact upd_same)), dp_ints (SqL.of upd_same), dI_shaped _, dI_shaped _, _, rfl, ?_⟩⟩
      rw [dI_eqv]
      refine ite2 (fun c => ?_) (fun c => ?_)
      · have c := of_decide_eq_true c
        refine ⟨_, rfl, ?_⟩
        rw [Int.zero_add]
        exact k _ _ (.inl ⟨i, rfl, hi, c, hn⟩) (e3.new hp)
      · have c : ¬ evL (fs.length : Int) fs.sum (i : Int) = fs := fun z => c (decide_eq_true z)
        refine ⟨⟨_, rfl⟩, e3.new hp, fun j hj => ?_⟩
        by_cases e : j = i
        · subst e; exact c
        · exact hn j (by omega)
    · rintro σ H' ⟨⟨v, rfl⟩, e2, hn⟩
      rw [hlen] at hn
      exact k _ _ (.inr ⟨rfl, fun j hj => hn j (by omega)⟩) e2
abbrev s_changes_of : Stmt := top 29
theorem sc_changes_of : FnScope ["frame", "k"] ["frame"] (defScope s_changes_of) := ⟨rfl, rfl, rfl, by decide +kernel, rfl, by decide +kernel, by decide +kernel⟩
theorem at_prv {fs : List Int} {k : Nat} {z : Int} (hz : z = (k : Int) - 1) (hk : k < fs.length) : atI (fs.map V.int) z = some (V.int (prv fs k)) := by
  unfold prv
  by_cases h : k = 0
  · subst h
    rw [if_pos rfl]
    have e : ixN (fs.map V.int).length z = some (fs.length - 1) := by
      unfold ixN
      rw [List.length_map, if_neg (by omega), if_pos (by omega)]
      congr 1
      omega
    unfold atI
    rw [e]
    show (fs.map V.int)[fs.length - 1]? = _
    rw [List.getElem?_map, List.getElem?_eq_getElem (by omega)]
    simp [List.getD, List.getElem?_eq_getElem (show fs.length - 1 < fs.length by omega)]
  · rw [if_neg h]
    exact atV (j := k - 1) (by omega) (by omega)
/-- changes_of(frame) -/
def spChanges (K : PySem.W.Frag) : Sp := fun vs H Q _ => ∃ (l : Addr) (fs : List Int), vs = [.ref l] ∧ SqL K H l (fs.map V.int) ∧ Frm fs ∧ ∀ H', Same H H' → Q (.int ((chg fs : Nat) : Int)) H'
theorem ok_changes_of {f : Addr} {fd : FuncData} (F : FunG K mg "changes_of" s_changes_of f fd ["frame"]) (T : Txt K mg) : FnOk P w K mg base CX0 1 f fd ["frame"] (spChanges K) := by
  refine F.fn.ok sc_changes_of (fun vs H Q E h => ?_) (fun cdv A outer s H vs Q E hr h => ?_)
  · obtain ⟨l, fs, rfl, _⟩ := h
    rfl
  · obtain ⟨l, fs, rfl, hS, hf, k⟩ := h
    refine ⟨_, (pss_one (ps_ret (pe_callB (clLen K) (by rfl) T.b_len (by decide +kernel) (pa_cons (pe_lc (own := [("k", 1)]) (g := gName 1) (by rfl) sc_changes_of.nd (pi_range1 (by rfl) T.b_range (pa_cons (pe_callB (clLen K) (by rfl) T.b_len (by decide +kernel) (pa_cons (pv 0) pa_nil)) pa_nil)) (blkOk_by (own := [("k", 1)]) (N := ["frame", "k"]) (sc := defScope s_changes_of) (by decide +kernel)) (fun _ _ _ _ _ => (pg_name (i := 1) sc_changes_of.nd rfl (.inl rfl))) (fun _ _ _ _ _ => (pts_one (pt_cmpR op_ne (pe_ix (ixL K) (pv 0) (pv 1) (fun _ _ => rfl)) (pe_ix (ixL K) (pv 0) (pe_op op_sub (pv 1) pe_int) (fun _ _ => rfl)) (nomark _)))) (fun _ _ _ _ _ => (pv 1))) pa_nil)))), ?_⟩
    have h0 := hf.pos
    have h1 := hf.le
    have hlen : (fs.map V.int).length = fs.length := List.length_map _
    refine ⟨_, rfl, _, _, rfl, .inl hS, _, rfl, by rw [hlen]; omega, by rw [hlen]; omega, fun D hD => lc_range (lo := 0) (n := ((fs.map V.int).length : Int).toNat) (fun i H' => Same H H' ∧ H' D = some (.lst ((chgTo fs i).map fun k : Nat => V.int (k : Int)))) ⟨Same.upd hD, upd_same⟩ ?_ ?_⟩
    · rintro j H' hj ⟨e, hd⟩
      rw [hlen] at hj
      have hj : j < fs.length := by omega
      have hS' := e.seq hS
      refine ⟨rfl, _, rfl, _, rfl, _, _, _, _, rfl, rfl, hS', atV (j := j) (by omega) hj, _, rfl, _, rfl, _, _, rfl, rfl, _, _, _, _, rfl, rfl, hS', at_prv (k := j) (by omega) hj, rfl, _, rfl, ?_⟩
      rw [chgTo_succ]
      by_cases c : fs.getD j 0 = prv fs j
      · rw [if_neg (fun z => z c), c]
        exact iteNS rfl ⟨e, hd⟩
      · rw [if_pos c]
        have c2 : ¬ V.int (fs.getD j 0) = V.int (prv fs j) := fun z => c (V.int.inj z)
        rw [decide_eq_false c2]
        refine iteT ⟨_, rfl, _, hd, small_of (m := 64) (by rw [List.length_map]; exact Nat.le_trans (chgTo_len _ _) (by omega)), e.mut hD, ?_⟩
        rw [upd_same, List.map_append, Int.zero_add]
        rfl
    · rintro H' ⟨e, hd⟩
      refine ⟨_, _, rfl, .inl (SqL.of hd), ?_⟩
      rw [List.length_map, hlen, Int.toNat_natCast]
      exact k H' e
/-- changes(frame) -/
abbrev s_runs : Stmt := top 31
theorem sc_runs : FnScope ["frame"] ["frame"] (defScope s_runs) := ⟨rfl, rfl, rfl, by decide +kernel, rfl, by decide +kernel, by decide +kernel⟩
/-- runs(frame) -/
theorem flat_ints : ∀ ns : List Int, (ns.map V.int).all flatV = true
  | [] => rfl
  | n :: ns => by rw [List.map_cons, List.all_cons, flat_ints ns]; rfl
theorem inV_ints (z : Int) : ∀ ns : List Int, inV (.int z) (ns.map V.int) = decide (z ∈ ns)
  | [] => rfl
  | n :: ns => by
    have ih := inV_ints z ns
    rw [Bool.eq_iff_iff, decide_eq_true_iff] at ih ⊢
    rw [List.map_cons, List.mem_cons, ← ih]
    by_cases c : z = n
    · subst c
      simp [inV, eqV]
    · have c' : ¬ n = z := fun e => c e.symm
      simp [inV, eqV, c, c']
def spRuns (K : PySem.W.Frag) : Sp := fun vs H Q _ => ∃ (l : Addr) (fs : List Int), vs = [.ref l] ∧ SqL K H l (fs.map V.int) ∧ Frm fs ∧ ∀ H', Same H H' → Q (.int (runsN fs)) H'
theorem ok_runs {f : Addr} {fd : FuncData} (F : FunG K mg "runs" s_runs f fd ["frame"]) (c_need_frame : Cl P w K mg base (L2.CX P w) 1 "need_frame" (orF K (spNeedFrame K))) (c_changes_of : Cl P w K mg base CX0 1 "changes_of" (spChanges K)) : FnOk P w K mg base (L2.CX P w) 2 f fd ["frame"] (orF K (spRuns K)) := by
  refine F.fn.okX sc_runs (fun vs H Q E h => ?_) (fun cdv A outer s H vs Q E hr h => ?_)
  · rcases h with ⟨l, fs, rfl, _⟩ | ⟨l, fs, rfl, _⟩ <;> rfl
  · refine ⟨_, (pss_cons (ps_expr (pe_clT c_need_frame hr (by decide) (passes_call (takes_of rfl rfl rfl rfl) (fun _ _ _ _ h => h)) (by rfl) (pa_cons (pv 0) pa_nil)))
      (PSs.nox (pss_one (ps_ret (pe_ifExp (pt_cmpR (opNotInQ K) pe_int (pv 0) (by rfl)) pe_int (pe_op op_fdivW (pe_cl c_changes_of hr (by decide) (by rfl) (pa_cons (pv 0) pa_nil)) pe_int)))))), ?_⟩
    rcases h with ⟨l, fs, rfl, hS, hf, k⟩ | ⟨l, xs, rfl, hS, hl, hb, k⟩
    rotate_left 1
    · exact ⟨_, rfl, .inr ⟨l, xs, rfl, hS, hl, hb, fun H1 e1 => k H1 e1⟩⟩
    refine ⟨_, rfl, .inl ⟨l, fs, rfl, hS, hf, fun H1 e1 => ?_⟩⟩
    refine ⟨_, rfl, _, _, rfl, .inl (e1.seq hS), rfl, flat_ints fs, _, rfl, ?_⟩
    show (if (!inV (.int 0) (fs.map V.int)) = true then _ else _)
    rw [inV_ints]
    unfold runsN at k
    by_cases c : (0 : Int) ∈ fs
    · rw [decide_eq_true c]
      rw [if_pos c] at k
      exact iteF ⟨_, rfl, l, fs, rfl, e1.seq hS, hf, fun H2 e2 => ⟨_, _, rfl, rfl, wide_div (b := 2) (by decide) (by decide) (by decide) (by decide), k H2 (e1.trans e2)⟩⟩
    · rw [decide_eq_false c]
      rw [if_neg c] at k
      exact iteT (k H1 e1)
abbrev s_changes : Stmt := top 30
theorem sc_changes : FnScope ["frame"] ["frame"] (defScope s_changes) := ⟨rfl, rfl, rfl, by decide +kernel, rfl, by decide +kernel, by decide +kernel⟩
/-- changes(frame) -/
theorem ok_changes {f : Addr} {fd : FuncData} (F : FunG K mg "changes" s_changes f fd ["frame"]) (c_need_frame : Cl P w K mg base (L2.CX P w) 1 "need_frame" (orF K (spNeedFrame K))) (c_changes_of : Cl P w K mg base CX0 1 "changes_of" (spChanges K)) : FnOk P w K mg base (L2.CX P w) 2 f fd ["frame"] (orF K (spChanges K)) := by
  refine F.fn.okX sc_changes (fun vs H Q E h => ?_) (fun cdv A outer s H vs Q E hr h => ?_)
  · rcases h with ⟨l, fs, rfl, _⟩ | ⟨l, fs, rfl, _⟩ <;> rfl
  · refine ⟨_, (pss_cons (ps_expr (pe_clT c_need_frame hr (by decide) (passes_call (takes_of rfl rfl rfl rfl) (fun _ _ _ _ h => h)) (by rfl) (pa_cons (pv 0) pa_nil)))
      (PSs.nox (pss_one (ps_ret (pe_cl c_changes_of hr (by decide) (by rfl) (pa_cons (pv 0) pa_nil)))))), ?_⟩
    rcases h with ⟨l, fs, rfl, hS, hf, k⟩ | ⟨l, xs, rfl, hS, hl, hb, k⟩
    rotate_left 1
    · exact ⟨_, rfl, .inr ⟨l, xs, rfl, hS, hl, hb, fun H1 e1 => k H1 e1⟩⟩
    refine ⟨_, rfl, .inl ⟨l, fs, rfl, hS, hf, fun H1 e1 => ?_⟩⟩
    exact ⟨_, rfl, l, fs, rfl, e1.seq hS, hf, fun H2 e2 => k H2 (e1.trans e2)⟩
abbrev s_written : Stmt := top 27
theorem sc_written : FnScope ["frame", "beat"] ["frame"] (defScope s_written) := ⟨rfl, rfl, rfl, by decide +kernel, rfl, by decide +kernel, by decide +kernel⟩
/-- written(frame), a good one: its signs -/
def spWritten (K : PySem.W.Frag) : Sp := fun vs H Q _ => ∃ (l : Addr) (fs : List Int), vs = [.ref l] ∧ SqL K H l (fs.map V.int) ∧ Frm fs ∧ ∀ H', Same H H' → Q (.str (wrS fs)) H'
theorem ok_written {f : Addr} {fd : FuncData} (F : FunG K mg "written" s_written f fd ["frame"]) (T : Txt K mg) (c_need_frame : Cl P w K mg base (L2.CX P w) 1 "need_frame" (orF K (spNeedFrame K))) : FnOk P w K mg base (L2.CX P w) 2 f fd ["frame"] (orF K (spWritten K)) := by
  refine F.fn.okX sc_written (fun vs H Q E h => ?_) (fun cdv A outer s H vs Q E hr h => ?_)
  · rcases h with ⟨l, fs, rfl, _⟩ | ⟨l, fs, rfl, _⟩ <;> rfl
  · refine ⟨_, (pss_cons (ps_expr (pe_clT c_need_frame hr (by decide) (passes_call (takes_of rfl rfl rfl rfl) (fun _ _ _ _ h => h)) (by rfl) (pa_cons (pv 0) pa_nil)))
      (PSs.nox (pss_one (ps_ret (pe_join pe_str (pe_lc (own := [("beat", 1)]) (g := gName 1) (tt := tYes) (by rfl) sc_written.nd (pi_list (pv 0)) (blkOk_by (own := [("beat", 1)]) (N := ["frame", "beat"]) (sc := defScope s_written) (by decide +kernel)) (fun _ _ _ _ _ => (pg_name (i := 1) sc_written.nd rfl (.inl rfl))) (fun _ _ _ _ _ => pts_nil) (fun _ _ _ _ _ => (pe_ix ix_str (C8.pe_gc (by rfl) T.k_SIGNS) (pv 1) (fun _ _ => rfl))))))))), ?_⟩
    rcases h with ⟨l, fs, rfl, hS, hf, k⟩ | ⟨l, xs, rfl, hS, hl, hb, k⟩
    rotate_left 1
    · exact ⟨_, rfl, .inr ⟨l, xs, rfl, hS, hl, hb, fun H1 e1 => k H1 e1⟩⟩
    refine ⟨_, rfl, .inl ⟨l, fs, rfl, hS, hf, fun H1 e1 => ?_⟩⟩
    refine ⟨⟨_, rfl⟩, _, rfl, _, rfl, ⟨_, e1.seq hS⟩, fun D hD => lc_list (K := K) (a := l) (xs := fs.map V.int) (fun i H' => Same H H' ∧ H' D = some (.lst (((fs.take i).map sgS).map V.str))) ⟨e1.new hD, upd_same⟩ (fun i H' _ h => h.1.seq hS) ?_ ?_⟩
    · rintro i x H' hi ⟨e, hd⟩
      obtain ⟨z, hz, rfl⟩ := getV hi
      have hDn := e1.free hD
      have hat : ∃ c, atI ((⟨#[46, 35]⟩ : Str).cps.toList) z = some c ∧ (⟨#[c]⟩ : Str) = sgS z := by
        rcases hf.bit z (List.mem_of_getElem? hz) with e | e <;> subst e <;> exact ⟨_, rfl, rfl⟩
      obtain ⟨c, hc1, hc2⟩ := hat
      refine ⟨rfl, _, rfl, _, _, _, rfl, rfl, (by show 2 ≤ sizeLine; decide), hc1, ?_⟩
      refine ⟨_, hd, small_of (m := 64) (by have := hf.le; simp; omega), e.mut hDn, ?_⟩
      rw [upd_same, List.take_succ, hz, hc2]
      simp
    · rintro H' ⟨e, hd⟩
      rw [List.length_map, List.take_length] at hd
      refine ⟨_, _, fs.map sgS, rfl, rfl, .inl (SqL.of hd), ?_, k H' e⟩
      have := hf.le
      rw [sg_sum, List.length_map]
      show fs.length + fs.length * 0 ≤ 16777216
      omega
end
end My

namespace My
open PySem PySem.Spec PyProof.Rows LamX L2
section
variable {P : Program} {w : World} {K : PySem.W.Frag} {mg : Str → Option Value} {base : Heap}
abbrev s_even : Stmt := top 16
theorem sc_even : FnScope ["beats", "pulses", "turn"] ["beats", "pulses", "turn"] (defScope s_even) := ⟨rfl, rfl, rfl, by decide +kernel, rfl, by decide +kernel, by decide +kernel⟩
/-- even(beats, pulses, turn) -/
theorem ok_even {f : Addr} {fd : FuncData} (F : FunG K mg "even" s_even f fd ["beats", "pulses", "turn"]) (c_need_share : Cl P w K mg base (L2.CX P w) 2 "need_share" (orS2 K spNeedShare)) (c_even_frame : Cl P w K mg base CX0 1 "even_frame" spEven) : FnOk P w K mg base (L2.CX P w) 3 f fd ["beats", "pulses", "turn"] (orS3 K spEven) := by
  refine F.fn.okX sc_even (fun vs H Q E h => ?_) (fun cdv A outer s H vs Q E hr h => ?_)
  · rcases h with ⟨b, p, t, rfl, _⟩ | ⟨b, p, t, rfl, _⟩ <;> rfl
  · refine ⟨_, (pss_cons (ps_expr (pe_clT c_need_share hr (by decide) (passes_call (takes_of rfl rfl rfl rfl) (fun _ _ _ _ h => h)) (by rfl) (pa_cons (pv 0) (pa_cons (pv 1) pa_nil))))
      (PSs.nox (pss_one (ps_ret (pe_cl c_even_frame hr (by decide) (by rfl) (pa_cons (pv 0) (pa_cons (pv 1) (pa_cons (pv 2) pa_nil)))))))), ?_⟩
    rcases h with ⟨b, p, t, rfl, b0, b1, p0, p1, ht, k⟩ | ⟨b, p, t, rfl, hb, k⟩
    rotate_left 1
    · exact ⟨_, rfl, _, rfl, .inr ⟨b, p, rfl, hb, k⟩⟩
    refine ⟨_, rfl, _, rfl, .inl ⟨b, p, rfl, b0, b1, p0, p1, ?_⟩⟩
    exact ⟨_, rfl, _, rfl, _, rfl, b, p, t, rfl, b0, b1, p0, p1, ht, k⟩
abbrev s_divisor : Stmt := top 23
theorem sc_divisor : FnScope ["one", "other", "rest"] ["one", "other"] (defScope s_divisor) := ⟨rfl, rfl, rfl, by decide +kernel, rfl, by decide +kernel, by decide +kernel⟩
/-- divisor(one, other): the greatest common divisor -/
def spDivisor : Sp := fun vs H Q _ => ∃ x y : Nat, vs = [.int (x : Int), .int (y : Int)] ∧ y ≤ 64 ∧ Q (.int ((Nat.gcd x y : Nat) : Int)) H
theorem ok_divisor {f : Addr} {fd : FuncData} (F : FunG K mg "divisor" s_divisor f fd ["one", "other"]) : FnOk P w K mg base CX0 1 f fd ["one", "other"] spDivisor := by
  refine F.fn.ok sc_divisor (fun vs H Q E h => ?_) (fun cdv A outer s H vs Q E hr h => ?_)
  · obtain ⟨x, y, rfl, _⟩ := h
    rfl
  · obtain ⟨x, y, rfl, hy, k⟩ := h
    refine ⟨_, (pss_cons (ps_while PassesOwn.never (pt_cmpR op_gt (pv 1) pe_int (nomark _)) (pss_cons (ps_set (i := 2) sc_divisor.nd rfl (.inl rfl) (pe_op op_mod (pv 0) (pv 1)))
      (pss_cons (ps_set (i := 0) sc_divisor.nd rfl (.inl rfl) (pv 1))
      (pss_one (ps_set (i := 1) sc_divisor.nd rfl (.inl rfl) (pv 2))))))
      (pss_one (ps_ret (pv 0)))), ?_⟩
    refine while_by (fun σ H' => H' = H ∧ ∃ (x' y' : Nat) (v : Option V), σ = [some (.int (x' : Int)), some (.int (y' : Int)), v] ∧ y' ≤ 64 ∧ Nat.gcd x' y' = Nat.gcd x y) (fun σ _ => match σ with | [_, some (.int z), _] => z.toNat | _ => 0) ⟨rfl, x, y, none, rfl, hy, rfl⟩ ?_ ?_
    · rintro σ H' ⟨rfl, x', y', v, rfl, hy', hg⟩
      refine ⟨_, rfl, _, _, rfl, rfl, _, rfl, ?_⟩
      refine ite2 (fun c => ?_) (fun c => ?_)
      · have c : (0 : Int) < (y' : Int) := of_decide_eq_true c
        refine ⟨_, rfl, _, rfl, _, _, rfl, rfl, c, _, rfl, _, rfl, ?_⟩
        have hm : x' % y' < y' := Nat.mod_lt _ (by omega)
        refine ⟨⟨rfl, y', x' % y', some (.int (x' % y')), rfl, by omega, ?_⟩, ?_⟩
        · rw [← hg, Nat.gcd_comm y', ← Nat.gcd_rec, Nat.gcd_comm]
        · show ((x' : Int) % (y' : Int)).toNat < (y' : Int).toNat
          omega
      · have c : ¬ (0 : Int) < (y' : Int) := fun z => c (decide_eq_true z)
        have e : y' = 0 := by omega
        subst e
        rw [Nat.gcd_zero_right] at hg
        refine ⟨_, rfl, ?_⟩
        rw [hg]
        exact k
    · rintro σ H' Q1 Q2 hq ⟨a1, b1, a2, a3, b2, b3, a4, b4, q⟩
      exact ⟨a1, b1, a2, a3, b2, b3, a4, b4, hq _ _ q⟩
abbrev s_exact : Stmt := top 24
theorem sc_exact : FnScope ["beats", "pulses"] ["beats", "pulses"] (defScope s_exact) := ⟨rfl, rfl, rfl, by decide +kernel, rfl, by decide +kernel, by decide +kernel⟩
/-- exact(beats, pulses) -/
def spExact : Sp := fun vs H Q _ => ∃ b p : Int, vs = [.int b, .int p] ∧ 1 ≤ b ∧ b ≤ 64 ∧ 0 ≤ p ∧ p ≤ b ∧ Q (.int ((exN b.toNat p.toNat : Nat) : Int)) H
theorem ok_exact {f : Addr} {fd : FuncData} (F : FunG K mg "exact" s_exact f fd ["beats", "pulses"]) (c_need_share : Cl P w K mg base (L2.CX P w) 2 "need_share" (orS2 K spNeedShare)) (c_divisor : Cl P w K mg base CX0 1 "divisor" spDivisor) : FnOk P w K mg base (L2.CX P w) 3 f fd ["beats", "pulses"] (orS2 K spExact) := by
  refine F.fn.okX sc_exact (fun vs H Q E h => ?_) (fun cdv A outer s H vs Q E hr h => ?_)
  · rcases h with ⟨b, p, rfl, _⟩ | ⟨b, p, rfl, _⟩ <;> rfl
  · refine ⟨_, (pss_cons (ps_expr (pe_clT c_need_share hr (by decide) (passes_call (takes_of rfl rfl rfl rfl) (fun _ _ _ _ h => h)) (by rfl) (pa_cons (pv 0) (pa_cons (pv 1) pa_nil))))
      (PSs.nox (pss_one (ps_ret (pe_op op_fdivW (pv 0) (pe_cl c_divisor hr (by decide) (by rfl) (pa_cons (pv 0) (pa_cons (pv 1) pa_nil)))))))), ?_⟩
    rcases h with ⟨b, p, rfl, b0, b1, p0, p1, k⟩ | ⟨b, p, rfl, hb, k⟩
    rotate_left 1
    · exact ⟨_, rfl, _, rfl, .inr ⟨b, p, rfl, hb, k⟩⟩
    have eb : b = (b.toNat : Int) := by omega
    have ep : p = (p.toNat : Int) := by omega
    have hg : 0 < Nat.gcd b.toNat p.toNat := gcd_pos (by omega)
    have hle : Nat.gcd b.toNat p.toNat ≤ b.toNat := Nat.le_of_dvd (by omega) (Nat.gcd_dvd_left _ _)
    refine ⟨_, rfl, _, rfl, .inl ⟨b, p, rfl, b0, b1, p0, p1, ?_⟩⟩
    refine ⟨_, rfl, _, rfl, _, rfl, b.toNat, p.toNat, by rw [← eb, ← ep]; rfl, by omega, _, _, rfl, rfl, wide_div (b := 7) (by omega) (by omega) (by decide) (by decide), ?_⟩
    have e : b / ((Nat.gcd b.toNat p.toNat : Nat) : Int) = ((exN b.toNat p.toNat : Nat) : Int) := by
      unfold exN
      rw [Int.natCast_ediv, ← eb]
    show Q (.int (b / ((Nat.gcd b.toNat p.toNat : Nat) : Int))) H
    rw [e]
    exact k
abbrev s_parted : Stmt := top 32
theorem sc_parted : FnScope ["many", "parts", "k"] ["many", "parts"] (defScope s_parted) := ⟨rfl, rfl, rfl, by decide +kernel, rfl, by decide +kernel, by decide +kernel⟩
/-- parted(many, parts): a new list -/
def spParted : Sp := fun vs H Q _ => ∃ m n : Nat, vs = [.int (m : Int), .int (n : Int)] ∧ 0 < n ∧ n ≤ 64 ∧ m ≤ 64 ∧
  ∀ p, H p = none → Q (.ref p) (upd H p (.lst ((List.range n).map fun k => V.int ((part m n k : Nat) : Int))))
theorem ok_parted {f : Addr} {fd : FuncData} (F : FunG K mg "parted" s_parted f fd ["many", "parts"]) (T : Txt K mg) : FnOk P w K mg base CX0 1 f fd ["many", "parts"] spParted := by
  refine F.fn.ok sc_parted (fun vs H Q E h => ?_) (fun cdv A outer s H vs Q E hr h => ?_)
  · obtain ⟨m, n, rfl, _⟩ := h
    rfl
  · obtain ⟨m, n, rfl, n0, n1, m1, k⟩ := h
    refine ⟨_, (pss_one (ps_ret (pe_lc (own := [("k", 2)]) (g := gName 2) (tt := tYes) (by rfl) sc_parted.nd (pi_range1 (by rfl) T.b_range (pa_cons (pv 1) pa_nil)) (blkOk_by (own := [("k", 2)]) (N := ["many", "parts", "k"]) (sc := defScope s_parted) (by decide +kernel)) (fun _ _ _ _ _ => (pg_name (i := 2) sc_parted.nd rfl (.inl rfl))) (fun _ _ _ _ _ => pts_nil) (fun _ _ _ _ _ => (pe_op op_add (pe_op op_fdivW (pv 0) (pv 1)) (pe_callTy call_int1 (by rfl) T.b_int (by decide +kernel) (pa_cons (pe_cmpR op_lt (pv 2) (pe_op op_mod (pv 0) (pv 1)) (nomark _)) pa_nil))))))), ?_⟩
    refine ⟨_, rfl, _, rfl, by omega, by omega, fun D hD => lc_range (lo := 0) (n := (n : Int).toNat) (fun i H' => H' = upd H D (.lst ((List.range i).map fun k => V.int ((part m n k : Nat) : Int)))) rfl ?_ ?_⟩
    · rintro j H' hj rfl
      refine ⟨rfl, _, rfl, _, rfl, _, _, rfl, rfl, wide_div (b := 7) (by omega) (by omega) (by decide) (by decide), _, rfl, _, rfl, _, rfl, _, _, rfl, rfl, (by show (0 : Int) < (n : Int); omega), _, _, rfl, rfl, .inr ⟨_, rfl, _, _, rfl, rfl, _, upd_same, small_of (m := 64) (by rw [List.length_map, List.length_range]; omega), ?_⟩⟩
      rw [upd_upd, List.range_succ, List.map_append]
      congr 3
      show [V.int ((m : Int) / (n : Int) + (if decide (0 + (j : Int) < (m : Int) % (n : Int)) = true then 1 else 0))] = [V.int ((part m n j : Nat) : Int)]
      unfold part
      congr 2
      by_cases c : j < m % n
      · have c2 : (0 : Int) + (j : Int) < (m : Int) % (n : Int) := by
          rw [← Int.natCast_emod]; omega
        rw [if_pos c, decide_eq_true c2, if_pos rfl, Int.natCast_add, Int.natCast_ediv]; rfl
      · have c2 : ¬ (0 : Int) + (j : Int) < (m : Int) % (n : Int) := by
          rw [← Int.natCast_emod]; omega
        rw [if_neg c, decide_eq_false c2, if_neg (by decide), Int.natCast_add, Int.natCast_ediv]; rfl
    · rintro H' rfl
      rw [Int.toNat_natCast]
      exact k D hD
abbrev s_is_room : Stmt := top 33
theorem sc_is_room : FnScope ["beats", "pulses", "many"] ["beats", "pulses", "many"] (defScope s_is_room) := ⟨rfl, rfl, rfl, by decide +kernel, rfl, by decide +kernel, by decide +kernel⟩
def roomB (b p m : Int) : Bool := if m = 0 then decide (p = 0) else decide (m ≤ p ∧ (m = 1 ∨ m ≤ b - p))
/-- is_room(beats, pulses, many) -/
def spIsRoomB : Sp := fun vs H Q _ => ∃ b p m : Int, vs = [.int b, .int p, .int m] ∧ Q (.bl (roomB b p m)) H
theorem ok_is_room {f : Addr} {fd : FuncData} (F : FunG K mg "is_room" s_is_room f fd ["beats", "pulses", "many"]) : FnOk P w K mg base CX0 1 f fd ["beats", "pulses", "many"] spIsRoomB := by
  refine F.fn.ok sc_is_room (fun vs H Q E h => ?_) (fun cdv A outer s H vs Q E hr h => ?_)
  · obtain ⟨b, p, m, rfl, _⟩ := h
    rfl
  · obtain ⟨b, p, m, rfl, k⟩ := h
    refine ⟨_, (pss_cons (ps_if (pt_cmpR op_eq (pv 2) pe_int (nomark _)) (pss_one (ps_ret (pe_cmpR op_eq (pv 1) pe_int (nomark _)))) pss_nil)
      (pss_one (ps_ret (pe_and (pe_cmpR op_le (pv 2) (pv 1) (nomark _)) (pe_one (pe_or (pe_cmpR op_eq (pv 2) pe_int (nomark _)) (pe_one (pe_cmpR op_le (pv 2) (pe_op op_sub (pv 0) (pv 1)) (nomark _))))))))), ?_⟩
    unfold roomB at k
    refine ⟨_, rfl, rfl, _, rfl, ?_⟩
    by_cases hz : m = 0
    · rw [if_pos hz] at k
      refine iteTe (decide_eq_true (congrArg V.int hz)) ⟨_, rfl, rfl, ?_⟩
      show Q (.bl (decide (V.int p = V.int 0))) H
      rw [show decide (V.int p = V.int 0) = decide (p = 0) from decide_eq_decide.mpr ⟨fun z => V.int.inj z, fun z => congrArg V.int z⟩]
      exact k
    rw [if_neg hz] at k
    refine iteFe (decide_eq_false fun z => hz (V.int.inj z)) ?_
    refine ⟨_, rfl, _, rfl, _, _, rfl, rfl, _, rfl, ?_⟩
    by_cases h1 : m ≤ p
    · refine iteTe (decide_eq_true h1) ⟨_, rfl, rfl, _, rfl, ?_⟩
      by_cases c : m = 1
      · rw [decide_eq_true (⟨h1, .inl c⟩ : m ≤ p ∧ (m = 1 ∨ m ≤ b - p))] at k
        exact iteTe (decide_eq_true (congrArg V.int c)) k
      · refine iteFe (decide_eq_false fun z => c (V.int.inj z)) ⟨_, rfl, _, rfl, _, rfl, _, _, rfl, rfl, _, _, rfl, rfl, ?_⟩
        show Q (.bl (decide (m ≤ b - p))) H
        rw [show decide (m ≤ b - p) = decide (m ≤ p ∧ (m = 1 ∨ m ≤ b - p)) from decide_eq_decide.mpr ⟨fun z => ⟨h1, .inr z⟩, fun z => z.2.resolve_left c⟩]
        exact k
    · rw [decide_eq_false (fun z : m ≤ p ∧ (m = 1 ∨ m ≤ b - p) => h1 z.1)] at k
      exact iteFe (decide_eq_false h1) k
abbrev s_with_runs : Stmt := top 34
theorem sc_with_runs : FnScope ["beats", "pulses", "many", "found", "on", "off"] ["beats", "pulses", "many"] (defScope s_with_runs) := ⟨rfl, rfl, rfl, by decide +kernel, rfl, by decide +kernel, by decide +kernel⟩
/-- with_runs(beats, pulses, many) of no share: BadShare -/
def spWithRunsB (K : PySem.W.Frag) : Sp := fun vs H Q E => ∃ b p m : Int, vs = [.int b, .int p, .int m] ∧ BadSh b p ∧ E (.ref (He.ga K "BadShare")) none H
theorem ok_with_runs {f : Addr} {fd : FuncData} (F : FunG K mg "with_runs" s_with_runs f fd ["beats", "pulses", "many"]) (T : Txt K mg) (c_need_share : Cl P w K mg base (L2.CX P w) 2 "need_share" (orS2 K spNeedShare)) (c_is_room : Cl P w K mg base CX0 1 "is_room" spIsRoomB) (c_parted : Cl P w K mg base CX0 1 "parted" spParted) : FnOk P w K mg base (L2.CX P w) 3 f fd ["beats", "pulses", "many"] (spWithRunsB K) := by
  refine F.fn.okX sc_with_runs (fun vs H Q E h => ?_) (fun cdv A outer s H vs Q E hr h => ?_)
  · obtain ⟨b, p, m, rfl, _⟩ := h
    rfl
  · obtain ⟨b, p, m, rfl, hb, k⟩ := h
    refine ⟨_, (pss_cons (ps_expr (pe_clT c_need_share hr (by decide) (passes_call (takes_of rfl rfl rfl rfl) (fun _ _ _ _ h => h)) (by rfl) (pa_cons (pv 0) (pa_cons (pv 1) pa_nil))))
      (pss_cons (ps_if (pt_cmpR op_lt (pv 2) pe_int (nomark _)) (pss_one (ps_raise (by rfl) (takes_of rfl rfl rfl rfl) (pmk_own PySem.F.excBase_ValueError T.x_BadRuns.x T.x_BadRuns.g T.x_BadRuns.k (raises_own T.x_BadRuns.b T.x_BadRuns.t) (by rfl)))) pss_nil)
      (pss_cons (ps_if (pt_not (pt_val (pe_cl c_is_room hr (by decide) (by rfl) (pa_cons (pv 0) (pa_cons (pv 1) (pa_cons (pv 2) pa_nil)))))) (pss_one (ps_raise (by rfl) (takes_of rfl rfl rfl rfl) (pmk_own PySem.F.excBase_ValueError T.x_NoRoom.x T.x_NoRoom.g T.x_NoRoom.k (raises_own T.x_NoRoom.b T.x_NoRoom.t) (by rfl)))) pss_nil)
      (PSs.nox (pss_cons (ps_if (pt_cmpR op_eq (pv 2) pe_int (nomark _)) (pss_one (ps_ret (pe_op op_rep (pe_lst (pa_cons pe_int pa_nil)) (pv 0)))) pss_nil)
      (pss_cons (ps_set (i := 3) sc_with_runs.nd rfl (.inl rfl) (pe_lst pa_nil))
      (pss_cons (ps_for PassesOwn.never (by rfl) (pi_zip (by rfl) T.b_zip (pa_cons (pe_cl c_parted hr (by decide) (by rfl) (pa_cons (pv 1) (pa_cons (pv 2) pa_nil))) (pa_cons (pe_cl c_parted hr (by decide) (by rfl) (pa_cons (pe_op op_sub (pv 0) (pv 1)) (pa_cons (pv 2) pa_nil))) pa_nil))) (pg_tup (by rfl) (pgs_cons (pg_name (i := 4) sc_with_runs.nd rfl (.inl rfl)) (pgs_cons (pg_name (i := 5) sc_with_runs.nd rfl (.inl rfl)) pgs_nil))) (pss_one (ps_set (i := 3) sc_with_runs.nd rfl (.inl rfl) (pe_op op_cat (pe_op op_cat (pv 3) (pe_op op_rep (pe_lst (pa_cons pe_int pa_nil)) (pv 4))) (pe_op op_rep (pe_lst (pa_cons pe_int pa_nil)) (pv 5))))))
      (pss_one (ps_ret (pv 3)))))))))), ?_⟩
    exact ⟨_, rfl, _, rfl, .inr ⟨b, p, rfl, hb, k⟩⟩
end
end My

namespace My
open PySem PySem.Spec PyProof.Rows LamX L2
section
variable {P : Program} {w : World} {K : PySem.W.Frag} {mg : Str → Option Value} {base : Heap}
abbrev s_law_works : Stmt := top 43
theorem sc_law_works : FnScope ["_law_frame_here", "_law_works_here"] ["_law_frame_here"] (defScope s_law_works) := ⟨rfl, rfl, rfl, by decide +kernel, rfl, by decide +kernel, by decide +kernel⟩
/-! ### what the lambdas tell -/
def NotBF (v : V) : Prop := scal v (.str "BadFrame") = true ∧ v ≠ .str "BadFrame"
theorem nbf_bl (b : Bool) : NotBF (.bl b) := ⟨rfl, fun z => nomatch z⟩
theorem nbf_int (i : Int) : NotBF (.int i) := ⟨rfl, fun z => nomatch z⟩
theorem nbf_turn {fs : List Int} {v : V} (h : IsTurn fs v) : NotBF v := by
  rcases h with ⟨t, rfl, _⟩ | ⟨rfl, _⟩
  · exact nbf_int _
  · exact ⟨rfl, fun z => nomatch z⟩
theorem nbf_wr (fs : List Int) : NotBF (.str (wrS fs)) := by
  refine ⟨rfl, fun z => ?_⟩
  have h := congrArg (fun s : Str => s.cps.toList) (V.str.inj z)
  have h2 : (wrS fs).cps.toList = [66, 97, 100, 70, 114, 97, 109, 101] := h.trans (by decide +kernel)
  rw [wrS_cps] at h2
  cases fs with
  | nil => cases h2
  | cons f fs =>
    have h3 : sgC f = 66 := (List.cons.inj h2).1
    unfold sgC at h3
    by_cases q : f = 0
    · rw [if_pos q] at h3; cases h3
    · rw [if_neg q] at h3; cases h3
def wB (K : PySem.W.Frag) (l : Addr) : XK → Hp → VK → Prop := fun E H _ => ∃ xs : List Int, SqL K H l (xs.map V.int) ∧ xs.length ≤ 10000 ∧ ¬ Frm xs ∧ ∀ H', Same H H' → E (.ref (He.ga K "BadFrame")) none H'
def wBG (K : PySem.W.Frag) (l : Addr) : XK → Hp → VK → Prop := fun E H Q => (∃ xs : List Int, SqL K H l (xs.map V.int) ∧ xs.length ≤ 10000 ∧ ¬ Frm xs ∧ ∀ H', Same H H' → E (.ref (He.ga K "BadFrame")) none H') ∨ ∃ xs : List Int, SqL K H l (xs.map V.int) ∧ Frm xs ∧ ∀ v H', NotBF v → Same H H' → Q v H'
def wS (K : PySem.W.Frag) (b p : Int) : XK → Hp → VK → Prop := fun E H _ => BadSh b p ∧ E (.ref (He.ga K "BadShare")) none H
def tllaw_works (K : PySem.W.Frag) (l : Addr) (i : Nat) : XK → Hp → VK → Prop := if i = 0 then wB K l else wBG K l
def splaw_works (P : Program) (w : World) (K : PySem.W.Frag) (mg : Str → Option Value) (base : Heap) (TL : List (Addr × Str)) : Sp := fun vs H Q _ => ∃ (l : Addr), vs = [.ref l] ∧ Tabs TL H ∧
  ∀ (p : Addr) (fL : List (Addr × List Addr)) (H' : Hp), ExtN H H' → Tabs TL H' → H p = none → H' p = some (.lst (fL.map fun x => V.ref x.1)) → fL.length = 6 → (∀ (i : Nat) x, fL[i]? = some x → WorkAt P w K mg base 5 H' x.1 x.2 (tllaw_works K l i)) → Q (.ref p) H'
theorem ok_law_works {f : Addr} {oc : Value} {od : Option Addr} {dV kV doc pm : Value} {an : Option Addr} {ct : Value} {osl : Array (Option Value)} {c Pt : Addr} (lk : K.lookup f = some ⟨oc, od, .func (PySem.W.fnOf "_law_works" "_law_works" (defArgs s_law_works) (defBody s_law_works) (defScope s_law_works) dV kV doc pm an (.ref c) ct), osl⟩) (hcd : PySem.W.codeIn K (.ref c) "_law_works" = true) {TL : List (Addr × Str)} (hmT : (Pt, lamQn "_law_works") ∈ TL) (huT : ∀ p ∈ TL, p.1 = Pt → p.2 = lamQn "_law_works") (TB : TabB base mg c Pt) (T : Txt K mg) (c_spans : Cl P w K mg base (L2.CX P w) 3 "spans" (spSpansB K)) (c_is_even : Cl P w K mg base (L2.CX P w) 4 "is_even" (orF K (spSpread K))) (c_turn_of : Cl P w K mg base (L2.CX P w) 2 "turn_of" (orF K (spTurn K))) (c_runs : Cl P w K mg base (L2.CX P w) 2 "runs" (orF K (spRuns K))) (c_changes : Cl P w K mg base (L2.CX P w) 2 "changes" (orF K (spChanges K))) (c_written : Cl P w K mg base (L2.CX P w) 2 "written" (orF K (spWritten K))) :
    FnOk P w K mg base CX0 (0 + 1) f (PySem.W.fnOf "_law_works" "_law_works" (defArgs s_law_works) (defBody s_law_works) (defScope s_law_works) dV kV doc pm an (.ref c) ct) ["_law_frame_here"] (splaw_works P w K mg base TL) := by
  refine fn_ofC lk hcd sc_law_works (fun vs H Q E h => ?_) (fun A outer s H vs Q E hr h fresh => ?_)
  · obtain ⟨l, rfl, _⟩ := h
    rfl
  · obtain ⟨l, rfl, tL, k⟩ := h
    refine ⟨_, (pb_cons (ps_set (i := 1) sc_law_works.nd rfl (.inl rfl) (pe_lst (pa_cons (pe_lamv (T := TL) TB rfl hmT huT rfl (lamS_by (sc := defScope s_law_works) (by decide +kernel))) pa_nil)))
      (pb_cons (ps_expr (pe_bm PySem.F.plainAttrs_list PySem.F.slot_list_append PySem.F.type_list_append mt_append (pv 1) (pa_cons (pe_lamv (T := TL) TB rfl hmT huT rfl (lamS_by (sc := defScope s_law_works) (by decide +kernel))) pa_nil)))
      (pb_cons (ps_expr (pe_bm PySem.F.plainAttrs_list PySem.F.slot_list_append PySem.F.type_list_append mt_append (pv 1) (pa_cons (pe_lamv (T := TL) TB rfl hmT huT rfl (lamS_by (sc := defScope s_law_works) (by decide +kernel))) pa_nil)))
      (pb_cons (ps_expr (pe_bm PySem.F.plainAttrs_list PySem.F.slot_list_append PySem.F.type_list_append mt_append (pv 1) (pa_cons (pe_lamv (T := TL) TB rfl hmT huT rfl (lamS_by (sc := defScope s_law_works) (by decide +kernel))) pa_nil)))
      (pb_cons (ps_expr (pe_bm PySem.F.plainAttrs_list PySem.F.slot_list_append PySem.F.type_list_append mt_append (pv 1) (pa_cons (pe_lamv (T := TL) TB rfl hmT huT rfl (lamS_by (sc := defScope s_law_works) (by decide +kernel))) pa_nil)))
      (pb_cons (ps_expr (pe_bm PySem.F.plainAttrs_list PySem.F.slot_list_append PySem.F.type_list_append mt_append (pv 1) (pa_cons (pe_lamv (T := TL) TB rfl hmT huT rfl (lamS_by (sc := defScope s_law_works) (by decide +kernel))) pa_nil)))
      (pb_ret (pv 1)))))))), ?_⟩
    refine ⟨tL, fun L0 eL0 f0 k0 H0 e0 nn0 t0 nf0 nfc0 hf0 hc0 => ⟨(by show 1 ≤ sizeLine; decide), fun p hp => ?_⟩⟩
    have nP : H p = none := nn0 p hp
    have ee : ExtN H (upd H0 p (.lst [.ref f0])) := fun b o hb n => by rw [upd_ne (ne_of_none (e0 b o hb n) hp)]; exact e0 b o hb n
    have tt : Tabs TL (upd H0 p (.lst [.ref f0])) := t0.ext fun b o hb => by rw [upd_ne (ne_of_none hb hp)]; exact hb
    have pp : upd H0 p (.lst [.ref f0]) p = some (.lst [.ref f0]) := upd_same
    have hF0 : upd H0 p (.lst [.ref f0]) f0 = _ := (upd_ne (ne_of_none hf0 hp)).trans hf0
    have hC0 : upd H0 p (.lst [.ref f0]) k0 = _ := (upd_ne (ne_of_none hc0 hp)).trans hc0
    generalize upd H0 p (.lst [.ref f0]) = G0 at ee tt pp hF0 hC0
    refine ⟨_, rfl, .inl ⟨rfl, _, SqL.of pp⟩, tt, fun L1 eL1 f1 k1 H1 e1 nn1 t1 nf1 nfc1 hf1 hc1 => ?_⟩
    have pj1 : H1 p = _ := e1 _ _ pp (fun _ z => nomatch z)
    refine ⟨p, _, _, rfl, rfl, pj1, small_of (m := 64) (by show 1 ≤ 64; decide), ?_⟩
    have ee1 : ExtN H (upd H1 p (.lst ([.ref f0] ++ [.ref f1]))) := fun b o hb n => by rw [upd_ne (ne_of_none hb nP)]; exact e1 b o (ee b o hb n) n
    have tt1 : Tabs TL (upd H1 p (.lst ([.ref f0] ++ [.ref f1]))) := tabs_keepL t1 pj1
    have pp1 : upd H1 p (.lst ([.ref f0] ++ [.ref f1])) p = some (.lst ([.ref f0] ++ [.ref f1])) := upd_same
    have hF0_1 : upd H1 p (.lst ([.ref f0] ++ [.ref f1])) f0 = _ := upd_lst pj1 (e1 _ _ hF0 lamO_tbl) lamO_lst
    have hC0_1 : upd H1 p (.lst ([.ref f0] ++ [.ref f1])) k0 = _ := upd_lst pj1 (e1 _ _ hC0 codeO_ne) codeO_lst
    have hF1_1 : upd H1 p (.lst ([.ref f0] ++ [.ref f1])) f1 = _ := upd_lst pj1 hf1 lamO_lst
    have hC1_1 : upd H1 p (.lst ([.ref f0] ++ [.ref f1])) k1 = _ := upd_lst pj1 hc1 codeO_lst
    clear ee tt pp
    generalize upd H1 p (.lst ([.ref f0] ++ [.ref f1])) = G1 at ee1 tt1 pp1 hF0_1 hC0_1 hF1_1 hC1_1
    have ee := ee1
    have tt := tt1
    have pp : G1 p = some (.lst [.ref f0, .ref f1]) := pp1
    clear ee1 tt1 pp1
    refine ⟨_, rfl, .inl ⟨rfl, _, SqL.of pp⟩, tt, fun L2 eL2 f2 k2 H2 e2 nn2 t2 nf2 nfc2 hf2 hc2 => ?_⟩
    have pj2 : H2 p = _ := e2 _ _ pp (fun _ z => nomatch z)
    refine ⟨p, _, _, rfl, rfl, pj2, small_of (m := 64) (by show 2 ≤ 64; decide), ?_⟩
    have ee2 : ExtN H (upd H2 p (.lst ([.ref f0, .ref f1] ++ [.ref f2]))) := fun b o hb n => by rw [upd_ne (ne_of_none hb nP)]; exact e2 b o (ee b o hb n) n
    have tt2 : Tabs TL (upd H2 p (.lst ([.ref f0, .ref f1] ++ [.ref f2]))) := tabs_keepL t2 pj2
    have pp2 : upd H2 p (.lst ([.ref f0, .ref f1] ++ [.ref f2])) p = some (.lst ([.ref f0, .ref f1] ++ [.ref f2])) := upd_same
    have hF0_2 : upd H2 p (.lst ([.ref f0, .ref f1] ++ [.ref f2])) f0 = _ := upd_lst pj2 (e2 _ _ hF0_1 lamO_tbl) lamO_lst
    have hC0_2 : upd H2 p (.lst ([.ref f0, .ref f1] ++ [.ref f2])) k0 = _ := upd_lst pj2 (e2 _ _ hC0_1 codeO_ne) codeO_lst
    have hF1_2 : upd H2 p (.lst ([.ref f0, .ref f1] ++ [.ref f2])) f1 = _ := upd_lst pj2 (e2 _ _ hF1_1 lamO_tbl) lamO_lst
    have hC1_2 : upd H2 p (.lst ([.ref f0, .ref f1] ++ [.ref f2])) k1 = _ := upd_lst pj2 (e2 _ _ hC1_1 codeO_ne) codeO_lst
    have hF2_2 : upd H2 p (.lst ([.ref f0, .ref f1] ++ [.ref f2])) f2 = _ := upd_lst pj2 hf2 lamO_lst
    have hC2_2 : upd H2 p (.lst ([.ref f0, .ref f1] ++ [.ref f2])) k2 = _ := upd_lst pj2 hc2 codeO_lst
    clear ee tt pp
    generalize upd H2 p (.lst ([.ref f0, .ref f1] ++ [.ref f2])) = G2 at ee2 tt2 pp2 hF0_2 hC0_2 hF1_2 hC1_2 hF2_2 hC2_2
    have ee := ee2
    have tt := tt2
    have pp : G2 p = some (.lst [.ref f0, .ref f1, .ref f2]) := pp2
    clear ee2 tt2 pp2
    refine ⟨_, rfl, .inl ⟨rfl, _, SqL.of pp⟩, tt, fun L3 eL3 f3 k3 H3 e3 nn3 t3 nf3 nfc3 hf3 hc3 => ?_⟩
    have pj3 : H3 p = _ := e3 _ _ pp (fun _ z => nomatch z)
    refine ⟨p, _, _, rfl, rfl, pj3, small_of (m := 64) (by show 3 ≤ 64; decide), ?_⟩
    have ee3 : ExtN H (upd H3 p (.lst ([.ref f0, .ref f1, .ref f2] ++ [.ref f3]))) := fun b o hb n => by rw [upd_ne (ne_of_none hb nP)]; exact e3 b o (ee b o hb n) n
    have tt3 : Tabs TL (upd H3 p (.lst ([.ref f0, .ref f1, .ref f2] ++ [.ref f3]))) := tabs_keepL t3 pj3
    have pp3 : upd H3 p (.lst ([.ref f0, .ref f1, .ref f2] ++ [.ref f3])) p = some (.lst ([.ref f0, .ref f1, .ref f2] ++ [.ref f3])) := upd_same
    have hF0_3 : upd H3 p (.lst ([.ref f0, .ref f1, .ref f2] ++ [.ref f3])) f0 = _ := upd_lst pj3 (e3 _ _ hF0_2 lamO_tbl) lamO_lst
    have hC0_3 : upd H3 p (.lst ([.ref f0, .ref f1, .ref f2] ++ [.ref f3])) k0 = _ := upd_lst pj3 (e3 _ _ hC0_2 codeO_ne) codeO_lst
    have hF1_3 : upd H3 p (.lst ([.ref f0, .ref f1, .ref f2] ++ [.ref f3])) f1 = _ := upd_lst pj3 (e3 _ _ hF1_2 lamO_tbl) lamO_lst
    have hC1_3 : upd H3 p (.lst ([.ref f0, .ref f1, .ref f2] ++ [.ref f3])) k1 = _ := upd_lst pj3 (e3 _ _ hC1_2 codeO_ne) codeO_lst
    have hF2_3 : upd H3 p (.lst ([.ref f0, .ref f1, .ref f2] ++ [.ref f3])) f2 = _ := upd_lst pj3 (e3 _ _ hF2_2 lamO_tbl) lamO_lst
    have hC2_3 : upd H3 p (.lst ([.ref f0, .ref f1, .ref f2] ++ [.ref f3])) k2 = _ := upd_lst pj3 (e3 _ _ hC2_2 codeO_ne) codeO_lst
    have hF3_3 : upd H3 p (.lst ([.ref f0, .ref f1, .ref f2] ++ [.ref f3])) f3 = _ := upd_lst pj3 hf3 lamO_lst
    have hC3_3 : upd H3 p (.lst ([.ref f0, .ref f1, .ref f2] ++ [.ref f3])) k3 = _ := upd_lst pj3 hc3 codeO_lst
    clear ee tt pp
    generalize upd H3 p (.lst ([.ref f0, .ref f1, .ref f2] ++ [.ref f3])) = G3 at ee3 tt3 pp3 hF0_3 hC0_3 hF1_3 hC1_3 hF2_3 hC2_3 hF3_3 hC3_3
    have ee := ee3
    have tt := tt3
    have pp : G3 p = some (.lst [.ref f0, .ref f1, .ref f2, .ref f3]) := pp3
    clear ee3 tt3 pp3
    refine ⟨_, rfl, .inl ⟨rfl, _, SqL.of pp⟩, tt, fun L4 eL4 f4 k4 H4 e4 nn4 t4 nf4 nfc4 hf4 hc4 => ?_⟩
    have pj4 : H4 p = _ := e4 _ _ pp (fun _ z => nomatch z)
    refine ⟨p, _, _, rfl, rfl, pj4, small_of (m := 64) (by show 4 ≤ 64; decide), ?_⟩
    have ee4 : ExtN H (upd H4 p (.lst ([.ref f0, .ref f1, .ref f2, .ref f3] ++ [.ref f4]))) := fun b o hb n => by rw [upd_ne (ne_of_none hb nP)]; exact e4 b o (ee b o hb n) n
    have tt4 : Tabs TL (upd H4 p (.lst ([.ref f0, .ref f1, .ref f2, .ref f3] ++ [.ref f4]))) := tabs_keepL t4 pj4
    have pp4 : upd H4 p (.lst ([.ref f0, .ref f1, .ref f2, .ref f3] ++ [.ref f4])) p = some (.lst ([.ref f0, .ref f1, .ref f2, .ref f3] ++ [.ref f4])) := upd_same
    have hF0_4 : upd H4 p (.lst ([.ref f0, .ref f1, .ref f2, .ref f3] ++ [.ref f4])) f0 = _ := upd_lst pj4 (e4 _ _ hF0_3 lamO_tbl) lamO_lst
    have hC0_4 : upd H4 p (.lst ([.ref f0, .ref f1, .ref f2, .ref f3] ++ [.ref f4])) k0 = _ := upd_lst pj4 (e4 _ _ hC0_3 codeO_ne) codeO_lst
    have hF1_4 : upd H4 p (.lst ([.ref f0, .ref f1, .ref f2, .ref f3] ++ [.ref f4])) f1 = _ := upd_lst pj4 (e4 _ _ hF1_3 lamO_tbl) lamO_lst
    have hC1_4 : upd H4 p (.lst ([.ref f0, .ref f1, .ref f2, .ref f3] ++ [.ref f4])) k1 = _ := upd_lst pj4 (e4 _ _ hC1_3 codeO_ne) codeO_lst
    have hF2_4 : upd H4 p (.lst ([.ref f0, .ref f1, .ref f2, .ref f3] ++ [.ref f4])) f2 = _ := upd_lst pj4 (e4 _ _ hF2_3 lamO_tbl) lamO_lst
    have hC2_4 : upd H4 p (.lst ([.ref f0, .ref f1, .ref f2, .ref f3] ++ [.ref f4])) k2 = _ := upd_lst pj4 (e4 _ _ hC2_3 codeO_ne) codeO_lst
    have hF3_4 : upd H4 p (.lst ([.ref f0, .ref f1, .ref f2, .ref f3] ++ [.ref f4])) f3 = _ := upd_lst pj4 (e4 _ _ hF3_3 lamO_tbl) lamO_lst
    have hC3_4 : upd H4 p (.lst ([.ref f0, .ref f1, .ref f2, .ref f3] ++ [.ref f4])) k3 = _ := upd_lst pj4 (e4 _ _ hC3_3 codeO_ne) codeO_lst
    have hF4_4 : upd H4 p (.lst ([.ref f0, .ref f1, .ref f2, .ref f3] ++ [.ref f4])) f4 = _ := upd_lst pj4 hf4 lamO_lst
    have hC4_4 : upd H4 p (.lst ([.ref f0, .ref f1, .ref f2, .ref f3] ++ [.ref f4])) k4 = _ := upd_lst pj4 hc4 codeO_lst
    clear ee tt pp
    generalize upd H4 p (.lst ([.ref f0, .ref f1, .ref f2, .ref f3] ++ [.ref f4])) = G4 at ee4 tt4 pp4 hF0_4 hC0_4 hF1_4 hC1_4 hF2_4 hC2_4 hF3_4 hC3_4 hF4_4 hC4_4
    have ee := ee4
    have tt := tt4
    have pp : G4 p = some (.lst [.ref f0, .ref f1, .ref f2, .ref f3, .ref f4]) := pp4
    clear ee4 tt4 pp4
    refine ⟨_, rfl, .inl ⟨rfl, _, SqL.of pp⟩, tt, fun L5 eL5 f5 k5 H5 e5 nn5 t5 nf5 nfc5 hf5 hc5 => ?_⟩
    have pj5 : H5 p = _ := e5 _ _ pp (fun _ z => nomatch z)
    refine ⟨p, _, _, rfl, rfl, pj5, small_of (m := 64) (by show 5 ≤ 64; decide), ?_⟩
    have ee5 : ExtN H (upd H5 p (.lst ([.ref f0, .ref f1, .ref f2, .ref f3, .ref f4] ++ [.ref f5]))) := fun b o hb n => by rw [upd_ne (ne_of_none hb nP)]; exact e5 b o (ee b o hb n) n
    have tt5 : Tabs TL (upd H5 p (.lst ([.ref f0, .ref f1, .ref f2, .ref f3, .ref f4] ++ [.ref f5]))) := tabs_keepL t5 pj5
    have pp5 : upd H5 p (.lst ([.ref f0, .ref f1, .ref f2, .ref f3, .ref f4] ++ [.ref f5])) p = some (.lst ([.ref f0, .ref f1, .ref f2, .ref f3, .ref f4] ++ [.ref f5])) := upd_same
    have hF0_5 : upd H5 p (.lst ([.ref f0, .ref f1, .ref f2, .ref f3, .ref f4] ++ [.ref f5])) f0 = _ := upd_lst pj5 (e5 _ _ hF0_4 lamO_tbl) lamO_lst
    have hC0_5 : upd H5 p (.lst ([.ref f0, .ref f1, .ref f2, .ref f3, .ref f4] ++ [.ref f5])) k0 = _ := upd_lst pj5 (e5 _ _ hC0_4 codeO_ne) codeO_lst
    have hF1_5 : upd H5 p (.lst ([.ref f0, .ref f1, .ref f2, .ref f3, .ref f4] ++ [.ref f5])) f1 = _ := upd_lst pj5 (e5 _ _ hF1_4 lamO_tbl) lamO_lst
    have hC1_5 : upd H5 p (.lst ([.ref f0, .ref f1, .ref f2, .ref f3, .ref f4] ++ [.ref f5])) k1 = _ := upd_lst pj5 (e5 _ _ hC1_4 codeO_ne) codeO_lst
    have hF2_5 : upd H5 p (.lst ([.ref f0, .ref f1, .ref f2, .ref f3, .ref f4] ++ [.ref f5])) f2 = _ := upd_lst pj5 (e5 _ _ hF2_4 lamO_tbl) lamO_lst
    have hC2_5 : upd H5 p (.lst ([.ref f0, .ref f1, .ref f2, .ref f3, .ref f4] ++ [.ref f5])) k2 = _ := upd_lst pj5 (e5 _ _ hC2_4 codeO_ne) codeO_lst
    have hF3_5 : upd H5 p (.lst ([.ref f0, .ref f1, .ref f2, .ref f3, .ref f4] ++ [.ref f5])) f3 = _ := upd_lst pj5 (e5 _ _ hF3_4 lamO_tbl) lamO_lst
    have hC3_5 : upd H5 p (.lst ([.ref f0, .ref f1, .ref f2, .ref f3, .ref f4] ++ [.ref f5])) k3 = _ := upd_lst pj5 (e5 _ _ hC3_4 codeO_ne) codeO_lst
    have hF4_5 : upd H5 p (.lst ([.ref f0, .ref f1, .ref f2, .ref f3, .ref f4] ++ [.ref f5])) f4 = _ := upd_lst pj5 (e5 _ _ hF4_4 lamO_tbl) lamO_lst
    have hC4_5 : upd H5 p (.lst ([.ref f0, .ref f1, .ref f2, .ref f3, .ref f4] ++ [.ref f5])) k4 = _ := upd_lst pj5 (e5 _ _ hC4_4 codeO_ne) codeO_lst
    have hF5_5 : upd H5 p (.lst ([.ref f0, .ref f1, .ref f2, .ref f3, .ref f4] ++ [.ref f5])) f5 = _ := upd_lst pj5 hf5 lamO_lst
    have hC5_5 : upd H5 p (.lst ([.ref f0, .ref f1, .ref f2, .ref f3, .ref f4] ++ [.ref f5])) k5 = _ := upd_lst pj5 hc5 codeO_lst
    clear ee tt pp
    generalize upd H5 p (.lst ([.ref f0, .ref f1, .ref f2, .ref f3, .ref f4] ++ [.ref f5])) = G5 at ee5 tt5 pp5 hF0_5 hC0_5 hF1_5 hC1_5 hF2_5 hC2_5 hF3_5 hC3_5 hF4_5 hC4_5 hF5_5 hC5_5
    have ee := ee5
    have tt := tt5
    have pp : G5 p = some (.lst [.ref f0, .ref f1, .ref f2, .ref f3, .ref f4, .ref f5]) := pp5
    clear ee5 tt5 pp5
    refine ⟨_, rfl, [(s.heap.objs.size + 1, .ref l)], fun q hq => ?_, fun nC => ?_⟩
    · simp only [List.mem_cons, List.not_mem_nil, or_false] at hq
      subst hq
      exact ⟨0, "_law_frame_here", rfl, rfl, rfl, rfl⟩
    · have n_0 : G5 (s.heap.objs.size + 1) = none := nC (s.heap.objs.size + 1, .ref l) (by simp)
      have a_0 : addC [(s.heap.objs.size + 1, .ref l)] G5 (s.heap.objs.size + 1) = some (CellO (s.heap.objs.size + 1) (.ref l)) := addC_in (lk_nth (i := 0) (by simp) rfl)
      have W0 : WorkAt P w K mg base 5 (addC [(s.heap.objs.size + 1, .ref l)] G5) f0 (f0 :: ([("_law_frame_here", s.heap.objs.size + 1, .ref l)] : List (Str × Addr × V)).map (·.2.1)) (tllaw_works K l 0) := by
        refine work_of [("_law_frame_here", s.heap.objs.size + 1, .ref l)] (F := L0 k0) (addC_some nC hF0_5) (by have z := addC_some nC hC0_5; rw [eL0] at z ⊢; exact z) (by rw [eL0]; exact nfc0) (by rw [eL0]; rfl) (show (["_law_frame_here"] : List Str).Nodup by decide) (by simp) (fun x hx => by simp only [List.mem_cons, List.not_mem_nil, or_false] at hx; subst hx; exact a_0) (fun x hx => by simp only [List.mem_cons, List.not_mem_nil, or_false] at hx; subst hx; (rw [eL0]; exact ne_of_none hC0_5 n_0)) ?_
        rw [eL0]
        refine lok_of (k := 4) (N := ["_law_frame_here"]) (fr := ["_law_frame_here"]) (NdefX.nscope_by (by dsimp only; decide +kernel)) (fun _ _ => rfl) (fun A outer s H E hr => (pe_clT c_spans hr (by decide) (passes_call (takes_of rfl rfl rfl rfl) (fun _ _ _ _ h => h)) (by rfl) (pa_cons (pv 0) (pa_cons pe_int pa_nil)))) (fun E H Q h => ?_)
        obtain ⟨xs, hS, hl, hb, k⟩ := h
        exact ⟨_, rfl, l, xs, 0, rfl, hS, hl, hb, k⟩
      have W1 : WorkAt P w K mg base 5 (addC [(s.heap.objs.size + 1, .ref l)] G5) f1 (f1 :: ([("_law_frame_here", s.heap.objs.size + 1, .ref l)] : List (Str × Addr × V)).map (·.2.1)) (tllaw_works K l 1) := by
        refine work_of [("_law_frame_here", s.heap.objs.size + 1, .ref l)] (F := L1 k1) (addC_some nC hF1_5) (by have z := addC_some nC hC1_5; rw [eL1] at z ⊢; exact z) (by rw [eL1]; exact nfc1) (by rw [eL1]; rfl) (show (["_law_frame_here"] : List Str).Nodup by decide) (by simp) (fun x hx => by simp only [List.mem_cons, List.not_mem_nil, or_false] at hx; subst hx; exact a_0) (fun x hx => by simp only [List.mem_cons, List.not_mem_nil, or_false] at hx; subst hx; (rw [eL1]; exact ne_of_none hC1_5 n_0)) ?_
        rw [eL1]
        refine lok_of (k := 4) (N := ["_law_frame_here"]) (fr := ["_law_frame_here"]) (NdefX.nscope_by (by dsimp only; decide +kernel)) (fun _ _ => rfl) (fun A outer s H E hr => (pe_clT c_is_even hr (by decide) (passes_call (takes_of rfl rfl rfl rfl) (fun _ _ _ _ h => h)) (by rfl) (pa_cons (pv 0) pa_nil))) (fun E H Q h => ?_)
        rcases h with ⟨xs, hS, hl, hb, k⟩ | ⟨xs, hS, hf, k⟩
        · exact ⟨_, rfl, .inr ⟨l, xs, rfl, hS, hl, hb, k⟩⟩
        · exact ⟨_, rfl, .inl ⟨l, xs, rfl, hS, hf, fun b H1 _ e => k (.bl b) H1 (nbf_bl b) e⟩⟩
      have W2 : WorkAt P w K mg base 5 (addC [(s.heap.objs.size + 1, .ref l)] G5) f2 (f2 :: ([("_law_frame_here", s.heap.objs.size + 1, .ref l)] : List (Str × Addr × V)).map (·.2.1)) (tllaw_works K l 2) := by
        refine work_of [("_law_frame_here", s.heap.objs.size + 1, .ref l)] (F := L2 k2) (addC_some nC hF2_5) (by have z := addC_some nC hC2_5; rw [eL2] at z ⊢; exact z) (by rw [eL2]; exact nfc2) (by rw [eL2]; rfl) (show (["_law_frame_here"] : List Str).Nodup by decide) (by simp) (fun x hx => by simp only [List.mem_cons, List.not_mem_nil, or_false] at hx; subst hx; exact a_0) (fun x hx => by simp only [List.mem_cons, List.not_mem_nil, or_false] at hx; subst hx; (rw [eL2]; exact ne_of_none hC2_5 n_0)) ?_
        rw [eL2]
        refine lok_of (k := 4) (N := ["_law_frame_here"]) (fr := ["_law_frame_here"]) (NdefX.nscope_by (by dsimp only; decide +kernel)) (fun _ _ => rfl) (fun A outer s H E hr => (pe_clT c_turn_of hr (by decide) (passes_call (takes_of rfl rfl rfl rfl) (fun _ _ _ _ h => h)) (by rfl) (pa_cons (pv 0) pa_nil))) (fun E H Q h => ?_)
        rcases h with ⟨xs, hS, hl, hb, k⟩ | ⟨xs, hS, hf, k⟩
        · exact ⟨_, rfl, .inr ⟨l, xs, rfl, hS, hl, hb, k⟩⟩
        · exact ⟨_, rfl, .inl ⟨l, xs, rfl, hS, hf, fun v H1 ht e => k v H1 (nbf_turn ht) e⟩⟩
      have W3 : WorkAt P w K mg base 5 (addC [(s.heap.objs.size + 1, .ref l)] G5) f3 (f3 :: ([("_law_frame_here", s.heap.objs.size + 1, .ref l)] : List (Str × Addr × V)).map (·.2.1)) (tllaw_works K l 3) := by
        refine work_of [("_law_frame_here", s.heap.objs.size + 1, .ref l)] (F := L3 k3) (addC_some nC hF3_5) (by have z := addC_some nC hC3_5; rw [eL3] at z ⊢; exact z) (by rw [eL3]; exact nfc3) (by rw [eL3]; rfl) (show (["_law_frame_here"] : List Str).Nodup by decide) (by simp) (fun x hx => by simp only [List.mem_cons, List.not_mem_nil, or_false] at hx; subst hx; exact a_0) (fun x hx => by simp only [List.mem_cons, List.not_mem_nil, or_false] at hx; subst hx; (rw [eL3]; exact ne_of_none hC3_5 n_0)) ?_
        rw [eL3]
        refine lok_of (k := 4) (N := ["_law_frame_here"]) (fr := ["_law_frame_here"]) (NdefX.nscope_by (by dsimp only; decide +kernel)) (fun _ _ => rfl) (fun A outer s H E hr => (pe_clT c_runs hr (by decide) (passes_call (takes_of rfl rfl rfl rfl) (fun _ _ _ _ h => h)) (by rfl) (pa_cons (pv 0) pa_nil))) (fun E H Q h => ?_)
        rcases h with ⟨xs, hS, hl, hb, k⟩ | ⟨xs, hS, hf, k⟩
        · exact ⟨_, rfl, .inr ⟨l, xs, rfl, hS, hl, hb, k⟩⟩
        · exact ⟨_, rfl, .inl ⟨l, xs, rfl, hS, hf, fun H1 e => k _ H1 (nbf_int _) e⟩⟩
      have W4 : WorkAt P w K mg base 5 (addC [(s.heap.objs.size + 1, .ref l)] G5) f4 (f4 :: ([("_law_frame_here", s.heap.objs.size + 1, .ref l)] : List (Str × Addr × V)).map (·.2.1)) (tllaw_works K l 4) := by
        refine work_of [("_law_frame_here", s.heap.objs.size + 1, .ref l)] (F := L4 k4) (addC_some nC hF4_5) (by have z := addC_some nC hC4_5; rw [eL4] at z ⊢; exact z) (by rw [eL4]; exact nfc4) (by rw [eL4]; rfl) (show (["_law_frame_here"] : List Str).Nodup by decide) (by simp) (fun x hx => by simp only [List.mem_cons, List.not_mem_nil, or_false] at hx; subst hx; exact a_0) (fun x hx => by simp only [List.mem_cons, List.not_mem_nil, or_false] at hx; subst hx; (rw [eL4]; exact ne_of_none hC4_5 n_0)) ?_
        rw [eL4]
        refine lok_of (k := 4) (N := ["_law_frame_here"]) (fr := ["_law_frame_here"]) (NdefX.nscope_by (by dsimp only; decide +kernel)) (fun _ _ => rfl) (fun A outer s H E hr => (pe_clT c_changes hr (by decide) (passes_call (takes_of rfl rfl rfl rfl) (fun _ _ _ _ h => h)) (by rfl) (pa_cons (pv 0) pa_nil))) (fun E H Q h => ?_)
        rcases h with ⟨xs, hS, hl, hb, k⟩ | ⟨xs, hS, hf, k⟩
        · exact ⟨_, rfl, .inr ⟨l, xs, rfl, hS, hl, hb, k⟩⟩
        · exact ⟨_, rfl, .inl ⟨l, xs, rfl, hS, hf, fun H1 e => k _ H1 (nbf_int _) e⟩⟩
      have W5 : WorkAt P w K mg base 5 (addC [(s.heap.objs.size + 1, .ref l)] G5) f5 (f5 :: ([("_law_frame_here", s.heap.objs.size + 1, .ref l)] : List (Str × Addr × V)).map (·.2.1)) (tllaw_works K l 5) := by
        refine work_of [("_law_frame_here", s.heap.objs.size + 1, .ref l)] (F := L5 k5) (addC_some nC hF5_5) (by have z := addC_some nC hC5_5; rw [eL5] at z ⊢; exact z) (by rw [eL5]; exact nfc5) (by rw [eL5]; rfl) (show (["_law_frame_here"] : List Str).Nodup by decide) (by simp) (fun x hx => by simp only [List.mem_cons, List.not_mem_nil, or_false] at hx; subst hx; exact a_0) (fun x hx => by simp only [List.mem_cons, List.not_mem_nil, or_false] at hx; subst hx; (rw [eL5]; exact ne_of_none hC5_5 n_0)) ?_
        rw [eL5]
        refine lok_of (k := 4) (N := ["_law_frame_here"]) (fr := ["_law_frame_here"]) (NdefX.nscope_by (by dsimp only; decide +kernel)) (fun _ _ => rfl) (fun A outer s H E hr => (pe_clT c_written hr (by decide) (passes_call (takes_of rfl rfl rfl rfl) (fun _ _ _ _ h => h)) (by rfl) (pa_cons (pv 0) pa_nil))) (fun E H Q h => ?_)
        rcases h with ⟨xs, hS, hl, hb, k⟩ | ⟨xs, hS, hf, k⟩
        · exact ⟨_, rfl, .inr ⟨l, xs, rfl, hS, hl, hb, k⟩⟩
        · exact ⟨_, rfl, .inl ⟨l, xs, rfl, hS, hf, fun H1 e => k _ H1 (nbf_wr xs) e⟩⟩
      refine k p [(f0, f0 :: ([("_law_frame_here", s.heap.objs.size + 1, .ref l)] : List (Str × Addr × V)).map (·.2.1)), (f1, f1 :: ([("_law_frame_here", s.heap.objs.size + 1, .ref l)] : List (Str × Addr × V)).map (·.2.1)), (f2, f2 :: ([("_law_frame_here", s.heap.objs.size + 1, .ref l)] : List (Str × Addr × V)).map (·.2.1)), (f3, f3 :: ([("_law_frame_here", s.heap.objs.size + 1, .ref l)] : List (Str × Addr × V)).map (·.2.1)), (f4, f4 :: ([("_law_frame_here", s.heap.objs.size + 1, .ref l)] : List (Str × Addr × V)).map (·.2.1)), (f5, f5 :: ([("_law_frame_here", s.heap.objs.size + 1, .ref l)] : List (Str × Addr × V)).map (·.2.1))] _ (fun b o hb n => addC_some nC (ee b o hb n)) (tt.ext fun b o hb => addC_some nC hb) nP (addC_some nC pp) rfl fun i x hx => ?_
      match i, hx with
      | 0, hx => cases hx; exact W0
      | 1, hx => cases hx; exact W1
      | 2, hx => cases hx; exact W2
      | 3, hx => cases hx; exact W3
      | 4, hx => cases hx; exact W4
      | 5, hx => cases hx; exact W5
      | i + 6, hx => exact absurd hx (by simp)
abbrev s_law_others : Stmt := top 44
theorem sc_law_others : FnScope ["_law_beats", "_law_pulses", "_law_works_here"] ["_law_beats", "_law_pulses"] (defScope s_law_others) := ⟨rfl, rfl, rfl, by decide +kernel, rfl, by decide +kernel, by decide +kernel⟩
def tllaw_others (K : PySem.W.Frag) (b p_ : Int) (i : Nat) : XK → Hp → VK → Prop := wS K b p_
def splaw_others (P : Program) (w : World) (K : PySem.W.Frag) (mg : Str → Option Value) (base : Heap) (TL : List (Addr × Str)) : Sp := fun vs H Q _ => ∃ (b p_ : Int), vs = [.int b, .int p_] ∧ Tabs TL H ∧
  ∀ (p : Addr) (fL : List (Addr × List Addr)) (H' : Hp), ExtN H H' → Tabs TL H' → H p = none → H' p = some (.lst (fL.map fun x => V.ref x.1)) → fL.length = 3 → (∀ (i : Nat) x, fL[i]? = some x → WorkAt P w K mg base 5 H' x.1 x.2 (tllaw_others K b p_ i)) → Q (.ref p) H'
theorem ok_law_others {f : Addr} {oc : Value} {od : Option Addr} {dV kV doc pm : Value} {an : Option Addr} {ct : Value} {osl : Array (Option Value)} {c Pt : Addr} (lk : K.lookup f = some ⟨oc, od, .func (PySem.W.fnOf "_law_others" "_law_others" (defArgs s_law_others) (defBody s_law_others) (defScope s_law_others) dV kV doc pm an (.ref c) ct), osl⟩) (hcd : PySem.W.codeIn K (.ref c) "_law_others" = true) {TL : List (Addr × Str)} (hmT : (Pt, lamQn "_law_others") ∈ TL) (huT : ∀ p ∈ TL, p.1 = Pt → p.2 = lamQn "_law_others") (TB : TabB base mg c Pt) (T : Txt K mg) (c_even : Cl P w K mg base (L2.CX P w) 3 "even" (orS3 K spEven)) (c_exact : Cl P w K mg base (L2.CX P w) 3 "exact" (orS2 K spExact)) (c_with_runs : Cl P w K mg base (L2.CX P w) 3 "with_runs" (spWithRunsB K)) :
    FnOk P w K mg base CX0 (0 + 1) f (PySem.W.fnOf "_law_others" "_law_others" (defArgs s_law_others) (defBody s_law_others) (defScope s_law_others) dV kV doc pm an (.ref c) ct) ["_law_beats", "_law_pulses"] (splaw_others P w K mg base TL) := by
  refine fn_ofC lk hcd sc_law_others (fun vs H Q E h => ?_) (fun A outer s H vs Q E hr h fresh => ?_)
  · obtain ⟨b, p_, rfl, _⟩ := h
    rfl
  · obtain ⟨b, p_, rfl, tL, k⟩ := h
    refine ⟨_, (pb_cons (ps_set (i := 2) sc_law_others.nd rfl (.inl rfl) (pe_lst (pa_cons (pe_lamv (T := TL) TB rfl hmT huT rfl (lamS_by (sc := defScope s_law_others) (by decide +kernel))) pa_nil)))
      (pb_cons (ps_expr (pe_bm PySem.F.plainAttrs_list PySem.F.slot_list_append PySem.F.type_list_append mt_append (pv 2) (pa_cons (pe_lamv (T := TL) TB rfl hmT huT rfl (lamS_by (sc := defScope s_law_others) (by decide +kernel))) pa_nil)))
      (pb_cons (ps_expr (pe_bm PySem.F.plainAttrs_list PySem.F.slot_list_append PySem.F.type_list_append mt_append (pv 2) (pa_cons (pe_lamv (T := TL) TB rfl hmT huT rfl (lamS_by (sc := defScope s_law_others) (by decide +kernel))) pa_nil)))
      (pb_ret (pv 2))))), ?_⟩
    refine ⟨tL, fun L0 eL0 f0 k0 H0 e0 nn0 t0 nf0 nfc0 hf0 hc0 => ⟨(by show 1 ≤ sizeLine; decide), fun p hp => ?_⟩⟩
    have nP : H p = none := nn0 p hp
    have ee : ExtN H (upd H0 p (.lst [.ref f0])) := fun b o hb n => by rw [upd_ne (ne_of_none (e0 b o hb n) hp)]; exact e0 b o hb n
    have tt : Tabs TL (upd H0 p (.lst [.ref f0])) := t0.ext fun b o hb => by rw [upd_ne (ne_of_none hb hp)]; exact hb
    have pp : upd H0 p (.lst [.ref f0]) p = some (.lst [.ref f0]) := upd_same
    have hF0 : upd H0 p (.lst [.ref f0]) f0 = _ := (upd_ne (ne_of_none hf0 hp)).trans hf0
    have hC0 : upd H0 p (.lst [.ref f0]) k0 = _ := (upd_ne (ne_of_none hc0 hp)).trans hc0
    generalize upd H0 p (.lst [.ref f0]) = G0 at ee tt pp hF0 hC0
    refine ⟨_, rfl, .inl ⟨rfl, _, SqL.of pp⟩, tt, fun L1 eL1 f1 k1 H1 e1 nn1 t1 nf1 nfc1 hf1 hc1 => ?_⟩
    have pj1 : H1 p = _ := e1 _ _ pp (fun _ z => nomatch z)
    refine ⟨p, _, _, rfl, rfl, pj1, small_of (m := 64) (by show 1 ≤ 64; decide), ?_⟩
    have ee1 : ExtN H (upd H1 p (.lst ([.ref f0] ++ [.ref f1]))) := fun b o hb n => by rw [upd_ne (ne_of_none hb nP)]; exact e1 b o (ee b o hb n) n
    have tt1 : Tabs TL (upd H1 p (.lst ([.ref f0] ++ [.ref f1]))) := tabs_keepL t1 pj1
    have pp1 : upd H1 p (.lst ([.ref f0] ++ [.ref f1])) p = some (.lst ([.ref f0] ++ [.ref f1])) := upd_same
    have hF0_1 : upd H1 p (.lst ([.ref f0] ++ [.ref f1])) f0 = _ := upd_lst pj1 (e1 _ _ hF0 lamO_tbl) lamO_lst
    have hC0_1 : upd H1 p (.lst ([.ref f0] ++ [.ref f1])) k0 = _ := upd_lst pj1 (e1 _ _ hC0 codeO_ne) codeO_lst
    have hF1_1 : upd H1 p (.lst ([.ref f0] ++ [.ref f1])) f1 = _ := upd_lst pj1 hf1 lamO_lst
    have hC1_1 : upd H1 p (.lst ([.ref f0] ++ [.ref f1])) k1 = _ := upd_lst pj1 hc1 codeO_lst
    clear ee tt pp
    generalize upd H1 p (.lst ([.ref f0] ++ [.ref f1])) = G1 at ee1 tt1 pp1 hF0_1 hC0_1 hF1_1 hC1_1
    have ee := ee1
    have tt := tt1
    have pp : G1 p = some (.lst [.ref f0, .ref f1]) := pp1
    clear ee1 tt1 pp1
    refine ⟨_, rfl, .inl ⟨rfl, _, SqL.of pp⟩, tt, fun L2 eL2 f2 k2 H2 e2 nn2 t2 nf2 nfc2 hf2 hc2 => ?_⟩
    have pj2 : H2 p = _ := e2 _ _ pp (fun _ z => nomatch z)
    refine ⟨p, _, _, rfl, rfl, pj2, small_of (m := 64) (by show 2 ≤ 64; decide), ?_⟩
    have ee2 : ExtN H (upd H2 p (.lst ([.ref f0, .ref f1] ++ [.ref f2]))) := fun b o hb n => by rw [upd_ne (ne_of_none hb nP)]; exact e2 b o (ee b o hb n) n
    have tt2 : Tabs TL (upd H2 p (.lst ([.ref f0, .ref f1] ++ [.ref f2]))) := tabs_keepL t2 pj2
    have pp2 : upd H2 p (.lst ([.ref f0, .ref f1] ++ [.ref f2])) p = some (.lst ([.ref f0, .ref f1] ++ [.ref f2])) := upd_same
    have hF0_2 : upd H2 p (.lst ([.ref f0, .ref f1] ++ [.ref f2])) f0 = _ := upd_lst pj2 (e2 _ _ hF0_1 lamO_tbl) lamO_lst
    have hC0_2 : upd H2 p (.lst ([.ref f0, .ref f1] ++ [.ref f2])) k0 = _ := upd_lst pj2 (e2 _ _ hC0_1 codeO_ne) codeO_lst
    have hF1_2 : upd H2 p (.lst ([.ref f0, .ref f1] ++ [.ref f2])) f1 = _ := upd_lst pj2 (e2 _ _ hF1_1 lamO_tbl) lamO_lst
    have hC1_2 : upd H2 p (.lst ([.ref f0, .ref f1] ++ [.ref f2])) k1 = _ := upd_lst pj2 (e2 _ _ hC1_1 codeO_ne) codeO_lst
    have hF2_2 : upd H2 p (.lst ([.ref f0, .ref f1] ++ [.ref f2])) f2 = _ := upd_lst pj2 hf2 lamO_lst
    have hC2_2 : upd H2 p (.lst ([.ref f0, .ref f1] ++ [.ref f2])) k2 = _ := upd_lst pj2 hc2 codeO_lst
    clear ee tt pp
    generalize upd H2 p (.lst ([.ref f0, .ref f1] ++ [.ref f2])) = G2 at ee2 tt2 pp2 hF0_2 hC0_2 hF1_2 hC1_2 hF2_2 hC2_2
    have ee := ee2
    have tt := tt2
    have pp : G2 p = some (.lst [.ref f0, .ref f1, .ref f2]) := pp2
    clear ee2 tt2 pp2
    refine ⟨_, rfl, [(s.heap.objs.size + 1, .int b), (s.heap.objs.size + 2, .int p_)], fun q hq => ?_, fun nC => ?_⟩
    · simp only [List.mem_cons, List.not_mem_nil, or_false] at hq
      rcases hq with rfl | rfl
      · exact ⟨0, "_law_beats", rfl, rfl, rfl, rfl⟩
      · exact ⟨1, "_law_pulses", rfl, rfl, rfl, rfl⟩
    · have n_0 : G2 (s.heap.objs.size + 1) = none := nC (s.heap.objs.size + 1, .int b) (by simp)
      have a_0 : addC [(s.heap.objs.size + 1, .int b), (s.heap.objs.size + 2, .int p_)] G2 (s.heap.objs.size + 1) = some (CellO (s.heap.objs.size + 1) (.int b)) := addC_in (lk_nth (i := 0) (by simp) rfl)
      have n_1 : G2 (s.heap.objs.size + 2) = none := nC (s.heap.objs.size + 2, .int p_) (by simp)
      have a_1 : addC [(s.heap.objs.size + 1, .int b), (s.heap.objs.size + 2, .int p_)] G2 (s.heap.objs.size + 2) = some (CellO (s.heap.objs.size + 2) (.int p_)) := addC_in (lk_nth (i := 1) (by simp) rfl)
      have W0 : WorkAt P w K mg base 5 (addC [(s.heap.objs.size + 1, .int b), (s.heap.objs.size + 2, .int p_)] G2) f0 (f0 :: ([("_law_pulses", s.heap.objs.size + 2, .int p_), ("_law_beats", s.heap.objs.size + 1, .int b)] : List (Str × Addr × V)).map (·.2.1)) (tllaw_others K b p_ 0) := by
        refine work_of [("_law_pulses", s.heap.objs.size + 2, .int p_), ("_law_beats", s.heap.objs.size + 1, .int b)] (F := L0 k0) (addC_some nC hF0_2) (by have z := addC_some nC hC0_2; rw [eL0] at z ⊢; exact z) (by rw [eL0]; exact nfc0) (by rw [eL0]; rfl) (show (["_law_pulses", "_law_beats"] : List Str).Nodup by decide) (by simp) (fun x hx => by simp only [List.mem_cons, List.not_mem_nil, or_false] at hx; rcases hx with rfl | rfl <;> first | exact a_1 | exact a_0) (fun x hx => by simp only [List.mem_cons, List.not_mem_nil, or_false] at hx; rcases hx with rfl | rfl <;> first | (rw [eL0]; exact ne_of_none hC0_2 n_1) | (rw [eL0]; exact ne_of_none hC0_2 n_0)) ?_
        rw [eL0]
        refine lok_of (k := 4) (N := ["_law_pulses", "_law_beats"]) (fr := ["_law_pulses", "_law_beats"]) (NdefX.nscope_by (by dsimp only; decide +kernel)) (fun _ _ => rfl) (fun A outer s H E hr => (pe_clT c_even hr (by decide) (passes_call (takes_of rfl rfl rfl rfl) (fun _ _ _ _ h => h)) (by rfl) (pa_cons (pv 1) (pa_cons (pv 0) (pa_cons pe_int pa_nil))))) (fun E H Q h => ?_)
        obtain ⟨hb, k⟩ := h
        exact ⟨_, rfl, _, rfl, .inr ⟨b, p_, 0, rfl, hb, k⟩⟩
      have W1 : WorkAt P w K mg base 5 (addC [(s.heap.objs.size + 1, .int b), (s.heap.objs.size + 2, .int p_)] G2) f1 (f1 :: ([("_law_pulses", s.heap.objs.size + 2, .int p_), ("_law_beats", s.heap.objs.size + 1, .int b)] : List (Str × Addr × V)).map (·.2.1)) (tllaw_others K b p_ 1) := by
        refine work_of [("_law_pulses", s.heap.objs.size + 2, .int p_), ("_law_beats", s.heap.objs.size + 1, .int b)] (F := L1 k1) (addC_some nC hF1_2) (by have z := addC_some nC hC1_2; rw [eL1] at z ⊢; exact z) (by rw [eL1]; exact nfc1) (by rw [eL1]; rfl) (show (["_law_pulses", "_law_beats"] : List Str).Nodup by decide) (by simp) (fun x hx => by simp only [List.mem_cons, List.not_mem_nil, or_false] at hx; rcases hx with rfl | rfl <;> first | exact a_1 | exact a_0) (fun x hx => by simp only [List.mem_cons, List.not_mem_nil, or_false] at hx; rcases hx with rfl | rfl <;> first | (rw [eL1]; exact ne_of_none hC1_2 n_1) | (rw [eL1]; exact ne_of_none hC1_2 n_0)) ?_
        rw [eL1]
        refine lok_of (k := 4) (N := ["_law_pulses", "_law_beats"]) (fr := ["_law_pulses", "_law_beats"]) (NdefX.nscope_by (by dsimp only; decide +kernel)) (fun _ _ => rfl) (fun A outer s H E hr => (pe_clT c_exact hr (by decide) (passes_call (takes_of rfl rfl rfl rfl) (fun _ _ _ _ h => h)) (by rfl) (pa_cons (pv 1) (pa_cons (pv 0) pa_nil)))) (fun E H Q h => ?_)
        obtain ⟨hb, k⟩ := h
        exact ⟨_, rfl, _, rfl, .inr ⟨b, p_, rfl, hb, k⟩⟩
      have W2 : WorkAt P w K mg base 5 (addC [(s.heap.objs.size + 1, .int b), (s.heap.objs.size + 2, .int p_)] G2) f2 (f2 :: ([("_law_pulses", s.heap.objs.size + 2, .int p_), ("_law_beats", s.heap.objs.size + 1, .int b)] : List (Str × Addr × V)).map (·.2.1)) (tllaw_others K b p_ 2) := by
        refine work_of [("_law_pulses", s.heap.objs.size + 2, .int p_), ("_law_beats", s.heap.objs.size + 1, .int b)] (F := L2 k2) (addC_some nC hF2_2) (by have z := addC_some nC hC2_2; rw [eL2] at z ⊢; exact z) (by rw [eL2]; exact nfc2) (by rw [eL2]; rfl) (show (["_law_pulses", "_law_beats"] : List Str).Nodup by decide) (by simp) (fun x hx => by simp only [List.mem_cons, List.not_mem_nil, or_false] at hx; rcases hx with rfl | rfl <;> first | exact a_1 | exact a_0) (fun x hx => by simp only [List.mem_cons, List.not_mem_nil, or_false] at hx; rcases hx with rfl | rfl <;> first | (rw [eL2]; exact ne_of_none hC2_2 n_1) | (rw [eL2]; exact ne_of_none hC2_2 n_0)) ?_
        rw [eL2]
        refine lok_of (k := 4) (N := ["_law_pulses", "_law_beats"]) (fr := ["_law_pulses", "_law_beats"]) (NdefX.nscope_by (by dsimp only; decide +kernel)) (fun _ _ => rfl) (fun A outer s H E hr => (pe_clT c_with_runs hr (by decide) (passes_call (takes_of rfl rfl rfl rfl) (fun _ _ _ _ h => h)) (by rfl) (pa_cons (pv 1) (pa_cons (pv 0) (pa_cons (pe_op op_sub pe_int pe_int) pa_nil))))) (fun E H Q h => ?_)
        obtain ⟨hb, k⟩ := h
        exact ⟨_, rfl, _, rfl, _, _, rfl, rfl, b, p_, _, rfl, hb, k⟩
      refine k p [(f0, f0 :: ([("_law_pulses", s.heap.objs.size + 2, .int p_), ("_law_beats", s.heap.objs.size + 1, .int b)] : List (Str × Addr × V)).map (·.2.1)), (f1, f1 :: ([("_law_pulses", s.heap.objs.size + 2, .int p_), ("_law_beats", s.heap.objs.size + 1, .int b)] : List (Str × Addr × V)).map (·.2.1)), (f2, f2 :: ([("_law_pulses", s.heap.objs.size + 2, .int p_), ("_law_beats", s.heap.objs.size + 1, .int b)] : List (Str × Addr × V)).map (·.2.1))] _ (fun b o hb n => addC_some nC (ee b o hb n)) (tt.ext fun b o hb => addC_some nC hb) nP (addC_some nC pp) rfl fun i x hx => ?_
      match i, hx with
      | 0, hx => cases hx; exact W0
      | 1, hx => cases hx; exact W1
      | 2, hx => cases hx; exact W2
      | i + 3, hx => exact absurd hx (by simp)
end
end My

namespace My
open PySem PySem.Spec PyProof.Rows LamX L2
section
variable {P : Program} {w : World} {K : PySem.W.Frag} {mg : Str → Option Value} {base : Heap}
abbrev s_law : Stmt := top 45
theorem sc_law : FnScope ["_law_script", "_law_state", "_law_turn", "_law_frame_here", "_law_at", "_law_odd", "_law_beat", "_law_work", "_law_beats", "_law_pulses", "_law_bad", "_law_long"] ["_law_script"] (defScope s_law) := ⟨rfl, rfl, rfl, by decide +kernel, rfl, by decide +kernel, by decide +kernel⟩
theorem cutV_to {ns : List Int} {k : Nat} : cutV (ns.map V.int) none (some (k : Int)) = (ns.take k).map V.int := by
  unfold cutV
  rw [HT.sIx_none, HT.sIx_nat, List.length_map, List.drop_zero, Nat.sub_zero, ← List.map_take]
  congr 1
  by_cases h : k ≤ ns.length
  · rw [Nat.min_eq_left h]
  · rw [Nat.min_eq_right (by omega), List.take_of_length_le (Nat.le_refl _), List.take_of_length_le (by omega)]
theorem cutV_from {xs : List V} {k : Nat} (hk : k ≤ xs.length) : cutV xs (some (k : Int)) none = xs.drop k := by
  unfold cutV
  rw [HT.sIx_none, HT.sIx_nat, Nat.min_eq_left hk]
  exact List.take_of_length_le (by rw [List.length_drop]; exact Nat.le_refl _)
theorem rep_map (n : Nat) (fs : List Int) : (List.replicate n (fs.map V.int)).flatten = ((List.replicate n fs).flatten).map V.int := by
  induction n with
  | zero => rfl
  | succ n ih => rw [List.replicate_succ, List.flatten_cons, List.replicate_succ, List.flatten_cons, List.map_append, ih]
theorem rep_len (n : Nat) (fs : List Int) : ((List.replicate n fs).flatten).length = n * fs.length := by
  induction n with
  | zero => simp
  | succ n ih => rw [List.replicate_succ, List.flatten_cons, List.length_append, ih, Nat.succ_mul, Nat.add_comm]
theorem rep_mem {n : Nat} {fs : List Int} {x : Int} (h : x ∈ (List.replicate n fs).flatten) : x ∈ fs := by
  obtain ⟨l, hl, hx⟩ := List.mem_flatten.mp h
  rw [List.eq_of_mem_replicate hl] at hx
  exact hx
theorem tlw_bad {K : PySem.W.Frag} {l : Addr} {i : Nat} {E : XK} {H : Hp} {Q : VK} (h : wB K l E H Q) : tllaw_works K l i E H Q := by
  unfold tllaw_works
  by_cases c : i = 0
  · rw [if_pos c]; exact h
  · rw [if_neg c]; exact .inl h
theorem tlw_good {K : PySem.W.Frag} {l : Addr} {i : Nat} (hi : i ≠ 0) {E : XK} {H : Hp} {Q : VK} (h : ∃ xs : List Int, SqL K H l (xs.map V.int) ∧ Frm xs ∧ ∀ v H', NotBF v → Same H H' → Q v H') : tllaw_works K l i E H Q := by
  unfold tllaw_works
  rw [if_neg hi]
  exact .inr h
theorem tkind_of {K : PySem.W.Frag} {tl : XK → Hp → VK → Prop} {H : Hp} {Q : VK} (h : tl (fun cls d H' => ∃ (x : Str) (j : Nat), cls = .ref (He.ga K x) ∧ d = none ∧ ErrK K x j ∧ ∀ H'', Same H' H'' → Q (.str x) H'') H Q) : TKind K tl H Q := h
theorem tlo_bad {K : PySem.W.Frag} {b p : Int} {i : Nat} {E : XK} {H : Hp} {Q : VK} (h : BadSh b p ∧ E (.ref (He.ga K "BadShare")) none H) : tllaw_others K b p i E H Q := h
theorem refs_at {fL : List (Addr × List Addr)} {j : Nat} {x : V} (h : (fL.map fun y => V.ref y.1)[j]? = some x) : ∃ y, fL[j]? = some y ∧ x = .ref y.1 := by
  rw [List.getElem?_map] at h
  obtain ⟨y, hy, e⟩ := Option.map_eq_some_iff.mp h
  exact ⟨y, hy, e.symm⟩
theorem jn {A : Prop} {S G : Hp → Prop} (main : (∀ Hx, S Hx → G Hx) → A) (rest : ∀ Hx, S Hx → G Hx) : A := main rest
def in01 (z : Int) : Bool := decide (0 ≤ z) && decide (z ≤ 1)
theorem in01_iff (z : Int) : in01 z = true ↔ z = 0 ∨ z = 1 := by
  unfold in01
  rw [Bool.and_eq_true, decide_eq_true_iff, decide_eq_true_iff]
  omega
theorem bad01 {xs : List Int} (h : ¬ Frm xs) (h1 : 1 ≤ xs.length) (h2 : xs.length ≤ 64) : xs.filter (fun z => !in01 z) ≠ [] := fun q => h ⟨h1, h2, fun z hz => (in01_iff z).mp (by
  have := List.filter_eq_nil_iff.mp q z hz
  cases e : in01 z with
  | true => rfl
  | false => rw [e] at this; exact absurd rfl this)⟩
def spLaw (K : PySem.W.Frag) (Pw Po : Addr) : Sp := fun vs H Q _ => ∃ (a : Addr) (ns : List Int), vs = [.ref a] ∧ SqL K H a (ns.map V.int) ∧ ns.length ≤ 63 ∧ H Pw = some (.tbl #[]) ∧ H Po = some (.tbl #[]) ∧ ∀ H', Q (.bl true) H'
theorem ok_law {f : Addr} {oc : Value} {od : Option Addr} {dV kV doc pm : Value} {an : Option Addr} {ct : Value} {osl : Array (Option Value)} {c Pw Po : Addr} (lk : K.lookup f = some ⟨oc, od, .func (PySem.W.fnOf "law" "law" (defArgs s_law) (defBody s_law) (defScope s_law) dV kV doc pm an (.ref c) ct), osl⟩) (hcd : PySem.W.codeIn K (.ref c) "law" = true) (T : Txt K mg)
    {g : Addr} {fdk : FuncData} (GK : FunG K mg "_law_kind" s_law_kind g fdk ["_law_work"]) {TL : List (Addr × Str)} (hTL : TL = [(Pw, lamQn "_law_works"), (Po, lamQn "_law_others")]) (c_law_start : Cl P w K mg base CX0 1 "_law_start" (spStart K)) (c_law_drawn : Cl P w K mg base CX0 1 "_law_drawn" (spDrawn K)) (c_law_frame : Cl P w K mg base CX0 3 "_law_frame" (spFrame K)) (c_law_share : Cl P w K mg base CX0 2 "_law_share" (spShare K)) (c_law_far : Cl P w K mg base CX0 2 "_law_far" (spFar K))
    (c_even : Cl P w K mg base (L2.CX P w) 3 "even" (orS3 K spEven)) (c_exact : Cl P w K mg base (L2.CX P w) 3 "exact" (orS2 K spExact)) (c_law_works : Cl P w K mg base CX0 1 "_law_works" (splaw_works P w K mg base TL)) (c_law_others : Cl P w K mg base CX0 1 "_law_others" (splaw_others P w K mg base TL)) (eBF : ErrK K "BadFrame" 0) (eBS : ErrK K "BadShare" 1) :
    FnOk P w K mg base CX0 (7 + 1) f (PySem.W.fnOf "law" "law" (defArgs s_law) (defBody s_law) (defScope s_law) dV kV doc pm an (.ref c) ct) ["_law_script"] (spLaw K Pw Po) := by
  obtain ⟨ock, odk, kVk, dock, pmk, ank, cdvk, ctk, oslk, rfl, lkK, hcK⟩ := GK.fn.ex
  refine fn_of lk hcd sc_law (fun vs H Q E h => ?_) (fun A outer s H vs Q E hr h => ?_)
  · obtain ⟨a, ns, rfl, _⟩ := h
    rfl
  · obtain ⟨a, ns, rfl, hS, hlen, hPw, hPo, k⟩ := h
    refine ⟨_, PSs.nox (pss_cons (ps_set (i := 1) sc_law.nd rfl (.inl rfl) (pe_cl c_law_start hr (by decide) (by rfl) (pa_cons (pv 0) pa_nil)))
      (pss_cons (ps_for PassesOwn.never (by rfl) (pi_range1 (by rfl) T.b_range (pa_cons pe_int pa_nil)) (pg_name (i := 2) sc_law.nd rfl (.inl rfl)) (pss_cons (ps_set (i := 3) sc_law.nd rfl (.inl rfl) (pe_cl c_law_frame hr (by decide) (by rfl) (pa_cons (pv 1) pa_nil)))
      (pss_cons (ps_set (i := 4) sc_law.nd rfl (.inl rfl) (pe_cl c_law_drawn hr (by decide) (by rfl) (pa_cons (pv 1) (pa_cons (pe_callB (clLen K) (by rfl) T.b_len (by decide +kernel) (pa_cons (pv 3) pa_nil)) pa_nil))))
      (pss_cons (ps_set (i := 5) sc_law.nd rfl (.inl rfl) (pe_lst (pa_cons (pe_op op_cat (pe_op op_cat (pe_slice (slL K) (pv 3) po_none (po_some (pv 4))) (pe_lst (pa_cons (pe_cl c_law_far hr (by decide) (by rfl) (pa_cons (pv 1) (pa_cons pe_int (pa_cons pe_int pa_nil)))) pa_nil))) (pe_slice (slL K) (pv 3) (po_some (pe_op op_add (pv 4) pe_int)) po_none)) (pa_cons (pe_lst pa_nil) (pa_cons (pe_slice (slL K) (pe_op op_rep (pv 3) pe_int) po_none (po_some (pe_op op_add pe_int (pe_cl c_law_drawn hr (by decide) (by rfl) (pa_cons (pv 1) (pa_cons pe_int pa_nil)))))) pa_nil)))))
      (pss_cons (ps_set (i := 5) sc_law.nd rfl (.inl rfl) (pe_ix (ixL K) (pv 5) (pe_cl c_law_drawn hr (by decide) (by rfl) (pa_cons (pv 1) (pa_cons pe_int pa_nil))) (fun _ _ => rfl)))
      (pss_cons (ps_if (PW.pt (pw_or (pt_cmpR op_gt (pe_callB (clLen K) (by rfl) T.b_len (by decide +kernel) (pa_cons (pv 5) pa_nil)) pe_int (nomark _)) (pw_or (pt_cmpR (opEqD K hr.units) (pv 5) (pe_lst pa_nil) (nomark _)) (pw_or1 (pt_cmpR (opNeD K hr.units) (pe_lc (own := [("_law_beat", 6)]) (g := gName 6) (by rfl) sc_law.nd (pi_list (pv 5)) (blkOk_by (own := [("_law_beat", 6)]) (N := ["_law_script", "_law_state", "_law_turn", "_law_frame_here", "_law_at", "_law_odd", "_law_beat", "_law_work", "_law_beats", "_law_pulses", "_law_bad", "_law_long"]) (sc := defScope s_law) (by decide +kernel)) (fun _ _ _ _ _ => (pg_name (i := 6) sc_law.nd rfl (.inl rfl))) (fun _ _ _ _ _ => (pts_one (pt_not (pt_chain op_le op_le pe_int (pv 6) pe_int)))) (fun _ _ _ _ _ => (pv 6))) (pe_lst pa_nil) (nomark _)))))) (pss_one (ps_if (pt_cmpR (opNeD K hr.units) (pe_lc (own := [("_law_work", 7)]) (g := gName 7) (by rfl) sc_law.nd (pi_list (pe_cl c_law_works hr (by decide) (by rfl) (pa_cons (pv 5) pa_nil))) (blkOk_by (own := [("_law_work", 7)]) (N := ["_law_script", "_law_state", "_law_turn", "_law_frame_here", "_law_at", "_law_odd", "_law_beat", "_law_work", "_law_beats", "_law_pulses", "_law_bad", "_law_long"]) (sc := defScope s_law) (by decide +kernel)) (fun _ _ _ _ _ => (pg_name (i := 7) sc_law.nd rfl (.inl rfl))) (fun _ _ _ _ _ => (pts_one (pt_cmpR op_ne (pe_kindvK P w K mg base (TT := TKind K) (i := 7) (k := 5) (by rfl) GK.mgf GK.fn.kp lkK hcK GK.b sc_law_kind rfl (.inl rfl) (fun q => kind_gives T) (hr.mono (by decide)) rfl (.inl rfl)) pe_str (nomark _)))) (fun _ _ _ _ _ => (pv 7))) (pe_lst pa_nil) (nomark _)) (pss_one (ps_ret pe_bl)) pss_nil)) pss_nil)
      (pss_cons (ps_asg (pe_cl c_law_share hr (by decide) (by rfl) (pa_cons (pv 1) pa_nil)) (pg_tup (by rfl) (pgs_cons (pg_name (i := 8) sc_law.nd rfl (.inl rfl)) (pgs_cons (pg_name (i := 9) sc_law.nd rfl (.inl rfl)) pgs_nil))))
      (pss_cons (ps_set (i := 10) sc_law.nd rfl (.inl rfl) (pe_lst (pa_cons (pe_tup (pa_cons pe_int (pa_cons pe_int pa_nil))) (pa_cons (pe_tup (pa_cons pe_int (pa_cons (pv 9) pa_nil))) (pa_cons (pe_tup (pa_cons (pe_cl c_law_far hr (by decide) (by rfl) (pa_cons (pv 1) (pa_cons pe_int (pa_cons pe_int pa_nil)))) (pa_cons pe_int pa_nil))) (pa_cons (pe_tup (pa_cons (pv 8) (pa_cons (pe_cl c_law_far hr (by decide) (by rfl) (pa_cons (pv 1) (pa_cons pe_int (pa_cons (pv 8) pa_nil)))) pa_nil))) pa_nil))))))
      (pss_cons (ps_set (i := 10) sc_law.nd rfl (.inl rfl) (pe_ix (ixL K) (pe_op op_cat (pv 10) (pe_lst (pa_cons (pe_tup (pa_cons (pv 8) (pa_cons (pe_op op_add (pv 8) pe_int) pa_nil))) pa_nil))) (pe_cl c_law_drawn hr (by decide) (by rfl) (pa_cons (pv 1) (pa_cons pe_int pa_nil))) (fun _ _ => rfl)))
      (pss_cons (ps_if (pt_cmpR (opNeD K hr.units) (pe_lc (own := [("_law_work", 7)]) (g := gName 7) (by rfl) sc_law.nd (pi_list (pe_cl c_law_others hr (by decide) (by rfl) (pa_cons (pe_ix (ixT K) (pv 10) pe_int (fun _ _ => rfl)) (pa_cons (pe_ix (ixT K) (pv 10) pe_int (fun _ _ => rfl)) pa_nil)))) (blkOk_by (own := [("_law_work", 7)]) (N := ["_law_script", "_law_state", "_law_turn", "_law_frame_here", "_law_at", "_law_odd", "_law_beat", "_law_work", "_law_beats", "_law_pulses", "_law_bad", "_law_long"]) (sc := defScope s_law) (by decide +kernel)) (fun _ _ _ _ _ => (pg_name (i := 7) sc_law.nd rfl (.inl rfl))) (fun _ _ _ _ _ => (pts_one (pt_cmpR op_ne (pe_kindvK P w K mg base (TT := TKind K) (i := 7) (k := 5) (by rfl) GK.mgf GK.fn.kp lkK hcK GK.b sc_law_kind rfl (.inl rfl) (fun q => kind_gives T) (hr.mono (by decide)) rfl (.inl rfl)) pe_str (nomark _)))) (fun _ _ _ _ _ => (pv 7))) (pe_lst pa_nil) (nomark _)) (pss_one (ps_ret pe_bl)) pss_nil)
      (pss_cons (ps_set (i := 11) sc_law.nd rfl (.inl rfl) (pe_slice (slL K) (pe_op op_rep (pv 3) pe_int) po_none (po_some pe_int)))
      (pss_cons (ps_if (pt_cmpR (opNeD K hr.units) (pe_lc (own := [("_law_work", 7)]) (g := gName 7) (by rfl) sc_law.nd (pi_list (pe_slice (slL K) (pe_cl c_law_works hr (by decide) (by rfl) (pa_cons (pv 11) pa_nil)) (po_some pe_int) po_none)) (blkOk_by (own := [("_law_work", 7)]) (N := ["_law_script", "_law_state", "_law_turn", "_law_frame_here", "_law_at", "_law_odd", "_law_beat", "_law_work", "_law_beats", "_law_pulses", "_law_bad", "_law_long"]) (sc := defScope s_law) (by decide +kernel)) (fun _ _ _ _ _ => (pg_name (i := 7) sc_law.nd rfl (.inl rfl))) (fun _ _ _ _ _ => (pts_one (pt_cmpR op_eq (pe_kindvK P w K mg base (TT := TKind K) (i := 7) (k := 5) (by rfl) GK.mgf GK.fn.kp lkK hcK GK.b sc_law_kind rfl (.inl rfl) (fun q => kind_gives T) (hr.mono (by decide)) rfl (.inl rfl)) pe_str (nomark _)))) (fun _ _ _ _ _ => (pv 7))) (pe_lst pa_nil) (nomark _)) (pss_one (ps_ret pe_bl)) pss_nil)
      (pss_one (ps_if (PW.pt (pw_or (pt_cmpR op_ne (pe_callB (clLen K) (by rfl) T.b_len (by decide +kernel) (pa_cons (pe_clG c_even hr (by decide) (by rfl) (pa_cons pe_int (pa_cons pe_int (pa_cons pe_int pa_nil)))) pa_nil)) pe_int (nomark _)) (pw_or (pt_cmpR op_ne (pe_clG c_exact hr (by decide) (by rfl) (pa_cons pe_int (pa_cons pe_int pa_nil))) pe_int (nomark _)) (pw_or1 (pt_cmpR (opNeD K hr.units) (pe_clG c_even hr (by decide) (by rfl) (pa_cons pe_int (pa_cons pe_int (pa_cons pe_int pa_nil)))) (pe_lst (pa_cons pe_int pa_nil)) (nomark _)))))) (pss_one (ps_ret pe_bl)) pss_nil))))))))))))))
      (pss_one (ps_ret pe_bl)))), ?_⟩
    have hSm := noTab_sq hS
    have tb0 : Tabs TL H := fun p hp => by
      rw [hTL] at hp
      rcases List.mem_cons.mp hp with rfl | hp
      · exact TabS.nil hPw
      · rw [List.mem_singleton] at hp; subst hp; exact TabS.nil hPo
    refine ⟨_, rfl, a, ns, rfl, hS, fun st m0 hst d0 => ?_⟩
    have hstm := noTab_none hst
    have s0 : SOk K a ns st (upd H st (StO a 0 m0 0)) := SOk.make hlen hS hst d0
    have e0 : Same (noTab H) (upd H st (StO a 0 m0 0)) := (noTab_same H).new hst
    have t0 : Tabs TL (upd H st (StO a 0 m0 0)) := tabs_same tb0 (Same.upd hst)
    generalize upd H st (StO a 0 m0 0) = H0 at s0 e0 t0
    refine ⟨_, rfl, by decide, by decide, for_range (lo := 0) (n := 10) (fun i σ H' => (∃ v2 v3 v4 v5 v6 v7 v8 v9 v10 v11 : Option V, σ = [some (.ref a), some (.ref st), v2, v3, v4, v5, v6, v7, v8, v9, v10, v11]) ∧ SOk K a ns st H' ∧ Same (noTab H) H' ∧ Tabs TL H')
      ⟨⟨none, none, none, none, none, none, none, none, none, none, rfl⟩, s0, e0, t0⟩ ?_ ?_⟩
    · rintro i σ H1 hi ⟨⟨v2, v3, v4, v5, v6, v7, v8, v9, v10, v11, rfl⟩, s1, e1, t1⟩
      refine ⟨_, rfl, st, a, ns, rfl, s1, fun fs l H2 hf hl k2 s2 hl2 => ?_⟩
      have e2 : Same (noTab H) H2 := e1.keepAll hstm k2
      have t2 := s1.tabs t1 k2
      have h0 := hf.pos
      have h64 := hf.le
      have hfl : (fs.map V.int).length = fs.length := List.length_map _
      have nls : l ≠ st := s1.ne_of hl
      refine ⟨_, rfl, _, rfl, _, _, rfl, .inl (SqL.of hl2), st, a, ns, _, rfl, s2, by rw [hfl]; omega, by rw [hfl]; omega, fun at_ ib mb cb a0 a1 db => ?_⟩
      rw [hfl] at a1
      have s3 := s2.drawn db
      have k3 : Keep st H2 (upd H2 st (StO a ib mb cb)) := (Keep.refl st H2).atSt
      generalize upd H2 st (StO a ib mb cb) = H3 at s3 k3
      have l3 := k3 _ _ nls hl2
      obtain ⟨n, rfl⟩ := Int.eq_ofNat_of_zero_le a0
      have hn : n < fs.length := by omega
      refine ⟨_, rfl, _, rfl, _, rfl, _, _, rfl, SqL.of l3, fun p1 hp1 => ?_⟩
      rw [cutV_to]
      have s4 := s3.new (o := .lst ((fs.take n).map V.int)) hp1
      have k4 := k3.new (o := .lst ((fs.take n).map V.int)) hp1
      have n1 := s3.ne_of hp1
      have q1 : upd H3 p1 (.lst ((fs.take n).map V.int)) p1 = some (.lst ((fs.take n).map V.int)) := upd_same
      generalize upd H3 p1 (.lst ((fs.take n).map V.int)) = H4 at s4 k4 q1
      refine ⟨_, rfl, st, a, ns, 0, 1, rfl, s4, fun v H5 hv k5 s5 => ⟨(by show 1 ≤ sizeLine; decide), fun p2 hp2 => ?_⟩⟩
      have k5' := k4.trans k5
      have q1b := k5 _ _ n1 q1
      have s6 := s5.new (o := .lst [.int v]) hp2
      have k6 := k5'.new (o := .lst [.int v]) hp2
      have q1c : upd H5 p2 (.lst [.int v]) p1 = _ := (upd_ne (ne_of_none q1b hp2)).trans q1b
      have q2 : upd H5 p2 (.lst [.int v]) p2 = some (.lst [.int v]) := upd_same
      generalize upd H5 p2 (.lst [.int v]) = H6 at s6 k6 q1c q2
      refine ⟨_, _, _, _, rfl, rfl, q1c, q2, small_le (m := 100000) (by simp; omega), fun p3 hp3 => ?_⟩
      have e3v : (fs.take n).map V.int ++ [V.int v] = (fs.take n ++ [v]).map V.int := by rw [List.map_append]; rfl
      rw [e3v]
      have s7 := s6.new (o := .lst ((fs.take n ++ [v]).map V.int)) hp3
      have k7 := k6.new (o := .lst ((fs.take n ++ [v]).map V.int)) hp3
      have q3 : upd H6 p3 (.lst ((fs.take n ++ [v]).map V.int)) p3 = some (.lst ((fs.take n ++ [v]).map V.int)) := upd_same
      generalize upd H6 p3 (.lst ((fs.take n ++ [v]).map V.int)) = H7 at s7 k7 q3
      have l7 := k7 _ _ nls hl2
      refine ⟨_, rfl, _, rfl, _, _, rfl, rfl, _, rfl, _, _, rfl, SqL.of l7, fun p4 hp4 => ?_⟩
      have e4v : cutV (fs.map V.int) (some ((n : Int) + 1)) none = (fs.drop (n + 1)).map V.int := by
        rw [show ((n : Int) + 1) = ((n + 1 : Nat) : Int) by omega, cut_from (by omega)]
      rw [e4v]
      have s8 := s7.new (o := .lst ((fs.drop (n + 1)).map V.int)) hp4
      have k8 := k7.new (o := .lst ((fs.drop (n + 1)).map V.int)) hp4
      have q3b : upd H7 p4 (.lst ((fs.drop (n + 1)).map V.int)) p3 = _ := (upd_ne (ne_of_none q3 hp4)).trans q3
      have q4 : upd H7 p4 (.lst ((fs.drop (n + 1)).map V.int)) p4 = some (.lst ((fs.drop (n + 1)).map V.int)) := upd_same
      generalize upd H7 p4 (.lst ((fs.drop (n + 1)).map V.int)) = H8 at s8 k8 q3b q4
      refine ⟨_, _, _, _, rfl, rfl, q3b, q4, small_le (m := 100000) (by simp; omega), fun p5 hp5 => ?_⟩
      rw [← List.map_append]
      have badA : ¬ Frm (fs.take n ++ [v] ++ fs.drop (n + 1)) := fun z => by
        have := z.bit v (by simp)
        omega
      have lenA : (fs.take n ++ [v] ++ fs.drop (n + 1)).length ≤ 10000 := by simp; omega
      generalize fs.take n ++ [v] ++ fs.drop (n + 1) = xA at badA lenA
      have s9 := s8.new (o := .lst (xA.map V.int)) hp5
      have k9 := k8.new (o := .lst (xA.map V.int)) hp5
      have q5 : upd H8 p5 (.lst (xA.map V.int)) p5 = some (.lst (xA.map V.int)) := upd_same
      generalize upd H8 p5 (.lst (xA.map V.int)) = H9 at s9 k9 q5
      refine ⟨(by show 0 ≤ sizeLine; decide), fun p6 hp6 => ?_⟩
      have s10 := s9.new (o := .lst []) hp6
      have k10 := k9.new (o := .lst []) hp6
      have q5b : upd H9 p6 (.lst []) p5 = _ := (upd_ne (ne_of_none q5 hp6)).trans q5
      have q6 : upd H9 p6 (.lst []) p6 = some (.lst (([] : List Int).map V.int)) := upd_same
      generalize upd H9 p6 (.lst []) = H10 at s10 k10 q5b q6
      have l10 := k10 _ _ nls hl2
      refine ⟨_, rfl, _, _, _, rfl, rfl, l10, by decide, by decide, small_le (m := 100000) (by rw [hfl]; show fs.length * 65 ≤ 100000; omega), fun p7 hp7 => ?_⟩
      have e7v : (List.replicate (65 : Int).toNat (fs.map V.int)).flatten = ((List.replicate 65 fs).flatten).map V.int := rep_map 65 fs
      rw [e7v]
      have s11 := s10.new (o := .lst (((List.replicate 65 fs).flatten).map V.int)) hp7
      have k11 := k10.new (o := .lst (((List.replicate 65 fs).flatten).map V.int)) hp7
      have q5c : upd H10 p7 (.lst (((List.replicate 65 fs).flatten).map V.int)) p5 = _ := (upd_ne (ne_of_none q5b hp7)).trans q5b
      have q6b : upd H10 p7 (.lst (((List.replicate 65 fs).flatten).map V.int)) p6 = _ := (upd_ne (ne_of_none q6 hp7)).trans q6
      have q7 : upd H10 p7 (.lst (((List.replicate 65 fs).flatten).map V.int)) p7 = some (.lst (((List.replicate 65 fs).flatten).map V.int)) := upd_same
      generalize upd H10 p7 (.lst (((List.replicate 65 fs).flatten).map V.int)) = H11 at s11 k11 q5c q6b q7
      have n5 : p5 ≠ st := s8.ne_of hp5
      have n6 : p6 ≠ st := s9.ne_of hp6
      have n7 : p7 ≠ st := s10.ne_of hp7
      refine ⟨_, rfl, st, a, ns, 4, rfl, s11, by decide, by decide, fun u ic mc cc u0 u1 dc => ?_⟩
      have s12 := s11.drawn dc
      have k12 := k11.atSt (o := StO a ic mc cc)
      have q5d : upd H11 st (StO a ic mc cc) p5 = _ := (upd_ne n5).trans q5c
      have q6c : upd H11 st (StO a ic mc cc) p6 = _ := (upd_ne n6).trans q6b
      have q7b : upd H11 st (StO a ic mc cc) p7 = _ := (upd_ne n7).trans q7
      generalize upd H11 st (StO a ic mc cc) = H12 at s12 k12 q5d q6c q7b
      obtain ⟨un, rfl⟩ := Int.eq_ofNat_of_zero_le u0
      refine ⟨_, _, rfl, rfl, _, rfl, _, _, rfl, SqL.of q7b, fun p8 hp8 => ?_⟩
      have e8v : cutV (((List.replicate 65 fs).flatten).map V.int) none (some (65 + (un : Int))) = (((List.replicate 65 fs).flatten).take (65 + un)).map V.int := by
        rw [show (65 + (un : Int)) = ((65 + un : Nat) : Int) by omega, cutV_to]
      rw [e8v]
      have lenC : 65 ≤ (((List.replicate 65 fs).flatten).take (65 + un)).length := by
        rw [List.length_take, rep_len]; omega
      have lenC2 : (((List.replicate 65 fs).flatten).take (65 + un)).length ≤ 10000 := by
        rw [List.length_take, rep_len]; omega
      have badC : ¬ Frm (((List.replicate 65 fs).flatten).take (65 + un)) := fun z => by have := z.le; omega
      generalize ((List.replicate 65 fs).flatten).take (65 + un) = xC at badC lenC lenC2
      have s13 := s12.new (o := .lst (xC.map V.int)) hp8
      have k13 := k12.new (o := .lst (xC.map V.int)) hp8
      have q5e : upd H12 p8 (.lst (xC.map V.int)) p5 = _ := (upd_ne (ne_of_none q5d hp8)).trans q5d
      have q6d : upd H12 p8 (.lst (xC.map V.int)) p6 = _ := (upd_ne (ne_of_none q6c hp8)).trans q6c
      have q8 : upd H12 p8 (.lst (xC.map V.int)) p8 = some (.lst (xC.map V.int)) := upd_same
      have n8 : p8 ≠ st := s12.ne_of hp8
      generalize upd H12 p8 (.lst (xC.map V.int)) = H13 at s13 k13 q5e q6d q8
      refine ⟨(by show 3 ≤ sizeLine; decide), fun p9 hp9 => ?_⟩
      have s14 := s13.new (o := .lst [.ref p5, .ref p6, .ref p8]) hp9
      have k14 := k13.new (o := .lst [.ref p5, .ref p6, .ref p8]) hp9
      have q5f : upd H13 p9 (.lst [.ref p5, .ref p6, .ref p8]) p5 = _ := (upd_ne (ne_of_none q5e hp9)).trans q5e
      have q6e : upd H13 p9 (.lst [.ref p5, .ref p6, .ref p8]) p6 = _ := (upd_ne (ne_of_none q6d hp9)).trans q6d
      have q8b : upd H13 p9 (.lst [.ref p5, .ref p6, .ref p8]) p8 = _ := (upd_ne (ne_of_none q8 hp9)).trans q8
      have q9 : upd H13 p9 (.lst [.ref p5, .ref p6, .ref p8]) p9 = some (.lst [.ref p5, .ref p6, .ref p8]) := upd_same
      have n9 : p9 ≠ st := s13.ne_of hp9
      generalize upd H13 p9 (.lst [.ref p5, .ref p6, .ref p8]) = H14 at s14 k14 q5f q6e q8b q9
      refine ⟨_, rfl, _, rfl, st, a, ns, 3, rfl, s14, by decide, by decide, fun r id md cd r0 r1 dd => ?_⟩
      have s15 := s14.drawn dd
      have k15 := k14.atSt (o := StO a id md cd)
      have q9b : upd H14 st (StO a id md cd) p9 = _ := (upd_ne n9).trans q9
      have pick : ∃ (q : Addr) (xs : List Int), atI [V.ref p5, V.ref p6, V.ref p8] r = some (.ref q) ∧ upd H14 st (StO a id md cd) q = some (.lst (xs.map V.int)) ∧ ¬ Frm xs ∧ xs.length ≤ 10000 := by
        rcases pick3 r0 r1 with z | z | z <;> subst z
        · exact ⟨p5, xA, rfl, (upd_ne n5).trans q5f, badA, lenA⟩
        · exact ⟨p6, [], rfl, (upd_ne n6).trans q6e, fun z => absurd z.pos (by simp), by simp⟩
        · exact ⟨p8, xC, rfl, (upd_ne n8).trans q8b, badC, lenC2⟩
      generalize upd H14 st (StO a id md cd) = H15 at s15 k15 q9b pick
      obtain ⟨q, xs, hat, hq, bad, lenX⟩ := pick
      refine ⟨_, _, _, _, rfl, rfl, SqL.of q9b, hat, ?_⟩
      have e15 : Same (noTab H) H15 := e2.keepAll hstm k15
      have t15 := s2.tabs t2 k15
      have l15 := k15 _ _ nls hl2
      have hxl : (xs.map V.int).length = xs.length := List.length_map _
      clear q5f q6e q8b q9 q9b q5e q6d q8 q7b q5d q6c q7 q5c q6b q5b q6 q5 q4 q3b q3 q2 q1c q1b q1 k4 k5 k5' k6 k7 k8 k9 k10 k11 k12 k13 k14 s4 s5 s6 s7 s8 s9 s10 s11 s12 s13 s14 l10 l7 l3 hat
      apply jn (S := fun Hx => Same H15 Hx)
      · intro R
        refine ⟨_, rfl, _, _, rfl, .inl (SqL.of hq), _, _, rfl, rfl, _, rfl, ?_⟩
        by_cases c1 : (64 : Int) < ((xs.map V.int).length : Int)
        · exact iteTe (decide_eq_true c1) (iteT (R H15 (Same.refl H15)))
        refine iteFe (decide_eq_false c1) ⟨_, rfl, (by show 0 ≤ sizeLine; decide), fun x1 hx1 => ⟨_, _, dp_ints (SqL.of (by rw [upd_ne (ne_of_none hq hx1)]; exact hq)), dp_nil (SqL.of upd_same), dI_shaped _, dI_shaped _, _, rfl, ?_⟩⟩
        rw [dI_eqv]
        have ex1 : Same H15 (upd H15 x1 (.lst [])) := Same.upd hx1
        generalize upd H15 x1 (.lst []) = Hy at ex1
        by_cases c2 : xs = []
        · exact iteTe (decide_eq_true c2) (iteT (R Hy ex1))
        refine iteFe (decide_eq_false c2) ⟨_, rfl, _, rfl, ⟨_, SqL.of (ex1 _ _ hq)⟩, fun D hD => lc_list (K := K) (a := q) (xs := xs.map V.int) (fun i H' => Same H15 H' ∧ H' D = some (.lst (((xs.take i).filter fun z => !in01 z).map V.int))) ⟨ex1.new hD, upd_same⟩ (fun i H' _ h => h.1.seq (SqL.of hq)) ?_ ?_⟩
        · rintro j x H' hj ⟨ej, hd⟩
          obtain ⟨z, hz, rfl⟩ := getV hj
          have hDn : H15 D = none := ex1.free hD
          have tk : (xs.take (j + 1)).filter (fun z => !in01 z) = (xs.take j).filter (fun z => !in01 z) ++ [z].filter (fun z => !in01 z) := by
            rw [List.take_succ, hz, List.filter_append]; rfl
          refine ⟨rfl, _, rfl, _, _, rfl, rfl, _, rfl, ?_⟩
          have keepIt : in01 z = true → Same H15 H' ∧ H' D = some (.lst (((xs.take (j + 1)).filter fun z => !in01 z).map V.int)) := fun c => ⟨ej, by rw [hd, tk]; simp [c]⟩
          have len : (((xs.take j).filter fun z => !in01 z).map V.int).length < sizeLine := small_of (m := 10000) (by
            rw [List.length_map]
            exact Nat.le_trans (List.length_filter_le _ _) (by rw [List.length_take]; omega))
          have addIt : in01 z = false → Same H15 (upd H' D (.lst ((((xs.take j).filter fun z => !in01 z).map V.int) ++ [V.int z]))) ∧ (upd H' D (.lst ((((xs.take j).filter fun z => !in01 z).map V.int) ++ [V.int z]))) D = some (.lst (((xs.take (j + 1)).filter fun z => !in01 z).map V.int)) := fun c => ⟨ej.mut hDn, by rw [upd_same, tk]; simp [c]⟩
          by_cases z0 : 0 ≤ z
          · refine iteTe (decide_eq_true z0) ⟨_, _, rfl, rfl, _, rfl, ?_⟩
            by_cases z1 : z ≤ 1
            · exact iteFe (c := !decide (z ≤ 1)) (by rw [decide_eq_true z1]; rfl) (keepIt (by unfold in01; rw [decide_eq_true z0, decide_eq_true z1]; rfl))
            · exact iteTe (c := !decide (z ≤ 1)) (by rw [decide_eq_false z1]; rfl) ⟨_, rfl, _, hd, len, addIt (by unfold in01; rw [decide_eq_false z1, Bool.and_false])⟩
          · exact iteFe (decide_eq_false z0) ⟨_, rfl, iteT ⟨_, rfl, _, hd, len, addIt (by unfold in01; rw [decide_eq_false z0, Bool.false_and])⟩⟩
        · rintro H' ⟨ej, hd⟩
          rw [hxl, List.take_length] at hd
          refine ⟨Nat.zero_le _, fun x2 hx2 => ⟨_, _, dp_ints (SqL.of (by rw [upd_ne (ne_of_none hd hx2)]; exact hd)), dp_nil (SqL.of upd_same), dI_shaped _, dI_shaped _, _, rfl, ?_⟩⟩
          rw [dI_eqv]
          have nb : xs.filter (fun z => !in01 z) ≠ [] := bad01 bad (by cases xs with
            | nil => exact absurd rfl c2
            | cons => simp) (by omega)
          exact iteTe (by rw [decide_eq_false nb]; rfl) (R _ (ej.new hx2))
      · intro Hx ex
        have sx := s15.same ex
        have tx := tabs_same t15 ex
        have lx := ex _ _ l15
        have qx := ex _ _ hq
        have exx := e15.trans ex
        clear s15 t15 l15 hq e15 hxl k15
        refine ⟨_, rfl, q, rfl, tx, fun p fL Hw eN tw hpn hpw hfl6 hW => ?_⟩
        have qw : Hw q = some (.lst (xs.map V.int)) := eN _ _ qx fun _ z => nomatch z
        have lw : Hw l = some (.lst (fs.map V.int)) := eN _ _ lx fun _ z => nomatch z
        have sw := sx.extN hSm hstm exx eN
        have ew := extN_same exx eN
        have hfL : (fL.map fun y => V.ref y.1).length = 6 := by rw [List.length_map]; exact hfl6
        refine ⟨_, rfl, ⟨_, SqL.of hpw⟩, fun D hD => lc_list (K := K) (a := p) (xs := fL.map fun y => V.ref y.1) (fun i H' => Same Hw H' ∧ H' D = some (.lst [])) ⟨Same.upd hD, upd_same⟩ (fun i H' _ h => h.1.seq (SqL.of hpw)) ?_ ?_⟩
        · rintro j x H' hj ⟨ej, hd⟩
          obtain ⟨y, hy, rfl⟩ := refs_at hj
          have wk := (hW j y hy).same ej
          refine ⟨rfl, y.1, y.2, _, rfl, wk, ?_⟩
          have qj := sq_hide wk (SqL.of (ej _ _ qw))
          refine tkind_of (tlw_bad ⟨xs, qj, lenX, bad, fun H2 e2' => ⟨"BadFrame", 0, rfl, rfl, eBF, fun H3 e3' => ?_⟩⟩)
          have es := show_same (e2'.trans e3')
          exact ⟨rfl, _, rfl, iteFe (neqF rfl) ⟨ej.trans es, es _ _ hd⟩⟩
        rintro Hv ⟨ev, hd⟩
        refine ⟨Nat.zero_le _, fun x3 hx3 => ⟨_, _, dp_nil (SqL.of (by rw [upd_ne (ne_of_none hd hx3)]; exact hd)), dp_nil (SqL.of upd_same), dI_shaped _, dI_shaped _, _, rfl, ?_⟩⟩
        rw [dI_eqv]
        refine iteFe (by rw [decide_eq_true rfl]; rfl) ?_
        have eA := ev.new (o := .lst []) hx3
        have sA := sw.same eA
        have tA := tabs_same tw eA
        have exA := ew.trans eA
        have lA := eA _ _ lw
        generalize upd Hv x3 (.lst []) = HA at eA sA tA exA lA
        clear sw tw ew lw qw hW hpw eN qx lx exx
        refine ⟨_, rfl, st, a, ns, rfl, sA, fun bb pp tp HB b0 b1 p0 p1 htp kB sB hB => ⟨_, _, rfl, SqT.of hB, rfl, ?_⟩⟩
        refine ⟨_, _, rfl, _, _, rfl, rfl, ?_⟩
        have exB := exA.keepAll hstm kB
        have tB := sA.tabs tA kB
        have lB := kB _ _ nls lA
        -- the shares that are none
        refine ⟨(by show 2 ≤ sizeLine; decide), fun g1 hg1 => ?_⟩
        have sC := sB.new (o := .tup [.int 0, .int 0]) hg1
        have kC : Keep st HB (upd HB g1 (.tup [.int 0, .int 0])) := (Keep.refl st HB).new hg1
        have m1 := sB.ne_of hg1
        have w1 : upd HB g1 (.tup [.int 0, .int 0]) g1 = some (.tup [.int 0, .int 0]) := upd_same
        generalize upd HB g1 (.tup [.int 0, .int 0]) = HC at sC kC w1
        refine ⟨_, rfl, (by show 2 ≤ sizeLine; decide), fun g2 hg2 => ?_⟩
        have sD := sC.new (o := .tup [.int 65, .int pp]) hg2
        have kD := kC.new (o := .tup [.int 65, .int pp]) hg2
        have m2 := sC.ne_of hg2
        have w1b : upd HC g2 (.tup [.int 65, .int pp]) g1 = _ := (upd_ne (ne_of_none w1 hg2)).trans w1
        have w2 : upd HC g2 (.tup [.int 65, .int pp]) g2 = some (.tup [.int 65, .int pp]) := upd_same
        generalize upd HC g2 (.tup [.int 65, .int pp]) = HD at sD kD w1b w2
        refine ⟨_, rfl, st, a, ns, 1, 64, rfl, sD, fun v1 HE hv1 kE sE => ⟨(by show 2 ≤ sizeLine; decide), fun g3 hg3 => ?_⟩⟩
        have kE' := kD.trans kE
        have w1c := kE _ _ m1 w1b
        have w2b := kE _ _ m2 w2
        have sF := sE.new (o := .tup [.int v1, .int 0]) hg3
        have kF := kE'.new (o := .tup [.int v1, .int 0]) hg3
        have m3 := sE.ne_of hg3
        have w1d : upd HE g3 (.tup [.int v1, .int 0]) g1 = _ := (upd_ne (ne_of_none w1c hg3)).trans w1c
        have w2c : upd HE g3 (.tup [.int v1, .int 0]) g2 = _ := (upd_ne (ne_of_none w2b hg3)).trans w2b
        have w3 : upd HE g3 (.tup [.int v1, .int 0]) g3 = some (.tup [.int v1, .int 0]) := upd_same
        generalize upd HE g3 (.tup [.int v1, .int 0]) = HF at sF kF w1d w2c w3
        refine ⟨_, rfl, _, rfl, _, rfl, st, a, ns, 0, bb, rfl, sF, fun v2' HG hv2 kG sG => ⟨(by show 2 ≤ sizeLine; decide), fun g4 hg4 => ?_⟩⟩
        have kG' := kF.trans kG
        have w1e := kG _ _ m1 w1d
        have w2d := kG _ _ m2 w2c
        have w3b := kG _ _ m3 w3
        have sH := sG.new (o := .tup [.int bb, .int v2']) hg4
        have kH := kG'.new (o := .tup [.int bb, .int v2']) hg4
        have m4 := sG.ne_of hg4
        have w1f : upd HG g4 (.tup [.int bb, .int v2']) g1 = _ := (upd_ne (ne_of_none w1e hg4)).trans w1e
        have w2e : upd HG g4 (.tup [.int bb, .int v2']) g2 = _ := (upd_ne (ne_of_none w2d hg4)).trans w2d
        have w3c : upd HG g4 (.tup [.int bb, .int v2']) g3 = _ := (upd_ne (ne_of_none w3b hg4)).trans w3b
        have w4 : upd HG g4 (.tup [.int bb, .int v2']) g4 = some (.tup [.int bb, .int v2']) := upd_same
        generalize upd HG g4 (.tup [.int bb, .int v2']) = HH at sH kH w1f w2e w3c w4
        refine ⟨(by show 4 ≤ sizeLine; decide), fun g5 hg5 => ?_⟩
        have sI := sH.new (o := .lst [.ref g1, .ref g2, .ref g3, .ref g4]) hg5
        have kI := kH.new (o := .lst [.ref g1, .ref g2, .ref g3, .ref g4]) hg5
        have up5 : ∀ b u, HH b = some u → upd HH g5 (.lst [.ref g1, .ref g2, .ref g3, .ref g4]) b = some u := fun b u z => (upd_ne (ne_of_none z hg5)).trans z
        have w1g := up5 _ _ w1f
        have w2f := up5 _ _ w2e
        have w3d := up5 _ _ w3c
        have w4b := up5 _ _ w4
        have w5 : upd HH g5 (.lst [.ref g1, .ref g2, .ref g3, .ref g4]) g5 = some (.lst [.ref g1, .ref g2, .ref g3, .ref g4]) := upd_same
        generalize upd HH g5 (.lst [.ref g1, .ref g2, .ref g3, .ref g4]) = HI at sI kI w1g w2f w3d w4b w5
        refine ⟨_, rfl, _, rfl, _, rfl, _, _, rfl, rfl, (by show 2 ≤ sizeLine; decide), fun g6 hg6 => ?_⟩
        have sJ := sI.new (o := .tup [.int bb, .int (bb + 1)]) hg6
        have kJ := kI.new (o := .tup [.int bb, .int (bb + 1)]) hg6
        have up6 : ∀ b u, HI b = some u → upd HI g6 (.tup [.int bb, .int (bb + 1)]) b = some u := fun b u z => (upd_ne (ne_of_none z hg6)).trans z
        have w1h := up6 _ _ w1g
        have w2g := up6 _ _ w2f
        have w3e := up6 _ _ w3d
        have w4c := up6 _ _ w4b
        have w5b := up6 _ _ w5
        have m6 := sI.ne_of hg6
        have w6 : upd HI g6 (.tup [.int bb, .int (bb + 1)]) g6 = some (.tup [.int bb, .int (bb + 1)]) := upd_same
        generalize upd HI g6 (.tup [.int bb, .int (bb + 1)]) = HJ at sJ kJ w1h w2g w3e w4c w5b w6
        refine ⟨(by show 1 ≤ sizeLine; decide), fun g7 hg7 => ?_⟩
        have sK := sJ.new (o := .lst [.ref g6]) hg7
        have kK := kJ.new (o := .lst [.ref g6]) hg7
        have up7 : ∀ b u, HJ b = some u → upd HJ g7 (.lst [.ref g6]) b = some u := fun b u z => (upd_ne (ne_of_none z hg7)).trans z
        have w1i := up7 _ _ w1h
        have w2h := up7 _ _ w2g
        have w3f := up7 _ _ w3e
        have w4d := up7 _ _ w4c
        have w5c := up7 _ _ w5b
        have w6b := up7 _ _ w6
        have w7 : upd HJ g7 (.lst [.ref g6]) g7 = some (.lst [.ref g6]) := upd_same
        generalize upd HJ g7 (.lst [.ref g6]) = HK at sK kK w1i w2h w3f w4d w5c w6b w7
        refine ⟨_, _, _, _, rfl, rfl, w5c, w7, (by show 5 ≤ sizeLine; decide), fun g8 hg8 => ?_⟩
        have sL := sK.new (o := .lst ([.ref g1, .ref g2, .ref g3, .ref g4] ++ [.ref g6])) hg8
        have kL := kK.new (o := .lst ([.ref g1, .ref g2, .ref g3, .ref g4] ++ [.ref g6])) hg8
        have up8 : ∀ b u, HK b = some u → upd HK g8 (.lst ([.ref g1, .ref g2, .ref g3, .ref g4] ++ [.ref g6])) b = some u := fun b u z => (upd_ne (ne_of_none z hg8)).trans z
        have w1j := up8 _ _ w1i
        have w2i := up8 _ _ w2h
        have w3g := up8 _ _ w3f
        have w4e := up8 _ _ w4d
        have w6c := up8 _ _ w6b
        have m8 := sK.ne_of hg8
        have w8 : upd HK g8 (.lst ([.ref g1, .ref g2, .ref g3, .ref g4] ++ [.ref g6])) g8 = some (.lst [.ref g1, .ref g2, .ref g3, .ref g4, .ref g6]) := upd_same
        generalize upd HK g8 (.lst ([.ref g1, .ref g2, .ref g3, .ref g4] ++ [.ref g6])) = HL at sL kL w1j w2i w3g w4e w6c w8
        refine ⟨_, rfl, st, a, ns, 5, rfl, sL, by decide, by decide, fun r5 ie me ce r50 r51 de => ?_⟩
        have sM := sL.drawn de
        have kM := kL.atSt (o := StO a ie me ce)
        have w8b : upd HL st (StO a ie me ce) g8 = _ := (upd_ne m8).trans w8
        have pick2 : ∃ (tq : Addr) (bx px : Int), atI [V.ref g1, V.ref g2, V.ref g3, V.ref g4, V.ref g6] r5 = some (.ref tq) ∧ upd HL st (StO a ie me ce) tq = some (.tup [.int bx, .int px]) ∧ BadSh bx px := by
          rcases pick5 r50 r51 with z | z | z | z | z <;> subst z
          · exact ⟨g1, 0, 0, rfl, (upd_ne m1).trans w1j, fun z => by omega⟩
          · exact ⟨g2, 65, pp, rfl, (upd_ne m2).trans w2i, fun z => by omega⟩
          · exact ⟨g3, v1, 0, rfl, (upd_ne m3).trans w3g, fun z => by omega⟩
          · exact ⟨g4, bb, v2', rfl, (upd_ne m4).trans w4e, fun z => by omega⟩
          · exact ⟨g6, bb, bb + 1, rfl, (upd_ne m6).trans w6c, fun z => by omega⟩
        generalize upd HL st (StO a ie me ce) = HM at sM kM w8b pick2
        obtain ⟨tq, bx, px, hat2, htq, badS⟩ := pick2
        refine ⟨_, _, _, _, rfl, rfl, SqL.of w8b, hat2, ?_⟩
        have exM := exB.keepAll hstm kM
        have tM := sB.tabs tB kM
        have lM := kM _ _ nls lB
        clear w1j w2i w3g w4e w6c w8 w8b sL sK sJ sI sH sG sF sE sD sC kL kK kJ kI kH kG' kG kF kE kE' kD kC
        refine ⟨_, rfl, _, _, _, _, rfl, rfl, SqT.of htq, (by rfl), _, rfl, _, _, _, _, rfl, rfl, SqT.of htq, (by rfl), bx, px, rfl, tM, fun p fL Hw eN tw hpn hpw hfl3 hW => ?_⟩
        have lw : Hw l = some (.lst (fs.map V.int)) := eN _ _ lM fun _ z => nomatch z
        have sw := sM.extN hSm hstm exM eN
        have ew := extN_same exM eN
        refine ⟨_, rfl, ⟨_, SqL.of hpw⟩, fun D hD => lc_list (K := K) (a := p) (xs := fL.map fun y => V.ref y.1) (fun i H' => Same Hw H' ∧ H' D = some (.lst [])) ⟨Same.upd hD, upd_same⟩ (fun i H' _ h => h.1.seq (SqL.of hpw)) ?_ ?_⟩
        · rintro j x H' hj ⟨ej, hd⟩
          obtain ⟨y, hy, rfl⟩ := refs_at hj
          have wk := (hW j y hy).same ej
          refine ⟨rfl, y.1, y.2, _, rfl, wk, ?_⟩
          refine tkind_of (tlo_bad ⟨badS, "BadShare", 1, rfl, rfl, eBS, fun H3 e3' => ?_⟩)
          have es := show_same e3'
          exact ⟨rfl, _, rfl, iteFe (neqF rfl) ⟨ej.trans es, es _ _ hd⟩⟩
        rintro Hv ⟨ev, hd⟩
        refine ⟨Nat.zero_le _, fun x3 hx3 => ⟨_, _, dp_nil (SqL.of (by rw [upd_ne (ne_of_none hd hx3)]; exact hd)), dp_nil (SqL.of upd_same), dI_shaped _, dI_shaped _, _, rfl, ?_⟩⟩
        rw [dI_eqv]
        refine iteFe (by rw [decide_eq_true rfl]; rfl) ?_
        have eA := ev.new (o := .lst []) hx3
        have sA := sw.same eA
        have tA := tabs_same tw eA
        have exA := ew.trans eA
        have lA := eA _ _ lw
        generalize upd Hv x3 (.lst []) = HA at eA sA tA exA lA
        clear sw tw ew lw hW hpw eN
        -- a long one
        refine ⟨_, rfl, _, _, _, rfl, rfl, lA, by decide, by decide, small_le (m := 100000) (by rw [hfl]; show fs.length * 64 ≤ 100000; omega), fun y1 hy1 => ?_⟩
        have e7v : (List.replicate (64 : Int).toNat (fs.map V.int)).flatten = ((List.replicate 64 fs).flatten).map V.int := rep_map 64 fs
        rw [e7v]
        have hy1' : upd HA y1 (.lst (((List.replicate 64 fs).flatten).map V.int)) y1 = some (.lst (((List.replicate 64 fs).flatten).map V.int)) := upd_same
        have eB1 : Same HA (upd HA y1 (.lst (((List.replicate 64 fs).flatten).map V.int))) := Same.upd hy1
        generalize upd HA y1 (.lst (((List.replicate 64 fs).flatten).map V.int)) = HN at hy1' eB1
        refine ⟨_, rfl, _, _, rfl, SqL.of hy1', fun y2 hy2 => ?_⟩
        rw [show (64 : Int) = ((64 : Nat) : Int) by rfl, cutV_to]
        have flong : Frm (((List.replicate 64 fs).flatten).take 64) := by
          have hl : (((List.replicate 64 fs).flatten).take 64).length = 64 := by rw [List.length_take, rep_len]; omega
          refine ⟨by omega, by omega, fun x hx => ?_⟩
          exact hf.bit x (rep_mem (List.mem_of_mem_take hx))
        generalize ((List.replicate 64 fs).flatten).take 64 = gs at flong
        have eC1 := eB1.new (o := .lst (gs.map V.int)) hy2
        have hy2' : upd HN y2 (.lst (gs.map V.int)) y2 = some (.lst (gs.map V.int)) := upd_same
        generalize upd HN y2 (.lst (gs.map V.int)) = HO at eC1 hy2'
        have sO := sA.same eC1
        have tO := tabs_same tA eC1
        have exO := exA.trans eC1
        refine ⟨_, rfl, y2, rfl, tO, fun p fL Hw eN tw hpn hpw hfl6b hW => ?_⟩
        have gw : Hw y2 = some (.lst (gs.map V.int)) := eN _ _ hy2' fun _ z => nomatch z
        have sw := sO.extN hSm hstm exO eN
        have ew := extN_same exO eN
        refine ⟨_, rfl, _, _, rfl, SqL.of hpw, fun y3 hy3 => ?_⟩
        have ecut : cutV (fL.map fun y => V.ref y.1) (some 1) none = (fL.drop 1).map fun y => V.ref y.1 := by
          rw [show (some (1 : Int)) = some ((1 : Nat) : Int) from rfl, cutV_from (by rw [List.length_map]; omega), List.map_drop]
        rw [ecut]
        have eD1 : Same Hw (upd Hw y3 (.lst ((fL.drop 1).map fun y => V.ref y.1))) := Same.upd hy3
        have hy3' : upd Hw y3 (.lst ((fL.drop 1).map fun y => V.ref y.1)) y3 = some (.lst ((fL.drop 1).map fun y => V.ref y.1)) := upd_same
        generalize upd Hw y3 (.lst ((fL.drop 1).map fun y => V.ref y.1)) = HP at eD1 hy3'
        refine ⟨_, rfl, ⟨_, SqL.of hy3'⟩, fun D hD => lc_list (K := K) (a := y3) (xs := (fL.drop 1).map fun y => V.ref y.1) (fun i H' => Same HP H' ∧ H' D = some (.lst [])) ⟨Same.upd hD, upd_same⟩ (fun i H' _ h => h.1.seq (SqL.of hy3')) ?_ ?_⟩
        · rintro j x H' hj ⟨ej, hd⟩
          obtain ⟨y, hy, rfl⟩ := refs_at hj
          rw [List.getElem?_drop] at hy
          have wk := (hW (1 + j) y hy).same (eD1.trans ej)
          refine ⟨rfl, y.1, y.2, _, rfl, wk, ?_⟩
          have qj := sq_hide wk (SqL.of (ej _ _ (eD1 _ _ gw)))
          refine tkind_of (tlw_good (by omega) ⟨gs, qj, flong, fun v' H2 nv e2' => ?_⟩)
          have es := show_same e2'
          exact ⟨nv.1, _, rfl, iteFe (decide_eq_false nv.2) ⟨ej.trans es, es _ _ hd⟩⟩
        rintro Hq ⟨eq, hd⟩
        refine ⟨Nat.zero_le _, fun x3 hx3 => ⟨_, _, dp_nil (SqL.of (by rw [upd_ne (ne_of_none hd hx3)]; exact hd)), dp_nil (SqL.of upd_same), dI_shaped _, dI_shaped _, _, rfl, ?_⟩⟩
        rw [dI_eqv]
        refine iteFe (by rw [decide_eq_true rfl]; rfl) ?_
        have eE := (eD1.trans eq).new (o := .lst []) hx3
        have sR := sw.same eE
        have tR := tabs_same tw eE
        have exR := ew.trans eE
        generalize upd Hq x3 (.lst []) = HR at eE sR tR exR
        refine Or.inl ⟨64, 64, 0, rfl, by decide, by decide, by decide, by decide, by decide, fun z1 hz1 => ⟨_, _, rfl, .inl (SqL.of upd_same), rfl, _, rfl, iteFe (neqF (by rw [List.length_map, evL_len]; rfl)) (Or.inl ⟨64, 0, rfl, by decide, by decide, by decide, by decide, ⟨rfl, _, rfl, iteFe (neqF (by decide)) (Or.inl ⟨1, 1, 5, rfl, by decide, by decide, by decide, by decide, by decide, fun z2 hz2 => ⟨(by show 1 ≤ sizeLine; decide), fun z3 hz3 => ?_⟩⟩)⟩⟩)⟩⟩
        have w1 : upd (upd HR z1 (.lst ((evL 64 64 0).map V.int))) z2 (.lst ((evL 1 1 5).map V.int)) z2 = some (.lst (([1] : List Int).map V.int)) := upd_same
        have eS := ((Same.upd hz1 : Same HR (upd HR z1 (.lst ((evL 64 64 0).map V.int)))).new (o := .lst ((evL 1 1 5).map V.int)) hz2).new (o := .lst [.int 1]) hz3
        refine ⟨_, _, dp_ints (ns := [1]) (SqL.of (by rw [upd_ne (ne_of_none w1 hz3)]; exact w1)), dp_ints (ns := [1]) (SqL.of upd_same), dI_shaped _, dI_shaped _, _, rfl, ?_⟩
        rw [dI_eqv]
        refine iteFe (by rw [decide_eq_true rfl]; rfl) ?_
        exact ⟨⟨_, _, _, _, _, _, _, _, _, _, rfl⟩, sR.same eS, exR.trans eS, tabs_same tR eS⟩
    · rintro σ H1 ⟨_, s1, e1, t1⟩
      exact k _
end
end My

namespace My
open PySem PySem.Spec PyProof.Rows LamX L2
def dd_law_start : He.DefD := ⟨("_law_start", none), "_law_start", "_law_start", defArgs s_law_start, defBody s_law_start, defScope s_law_start, [], []⟩
def dd_law_drawn : He.DefD := ⟨("_law_drawn", none), "_law_drawn", "_law_drawn", defArgs s_law_drawn, defBody s_law_drawn, defScope s_law_drawn, [], []⟩
def dd_law_share : He.DefD := ⟨("_law_share", none), "_law_share", "_law_share", defArgs s_law_share, defBody s_law_share, defScope s_law_share, [], []⟩
def dd_law_even : He.DefD := ⟨("_law_even", none), "_law_even", "_law_even", defArgs s_law_even, defBody s_law_even, defScope s_law_even, [], []⟩
def dd_law_kind : He.DefD := ⟨("_law_kind", none), "_law_kind", "_law_kind", defArgs s_law_kind, defBody s_law_kind, defScope s_law_kind, [], []⟩
def dd_law_frame : He.DefD := ⟨("_law_frame", none), "_law_frame", "_law_frame", defArgs s_law_frame, defBody s_law_frame, defScope s_law_frame, [], []⟩
def dd_need_frame : He.DefD := ⟨("need_frame", none), "need_frame", "need_frame", defArgs s_need_frame, defBody s_need_frame, defScope s_need_frame, [], []⟩
def dd_need_beats : He.DefD := ⟨("need_beats", none), "need_beats", "need_beats", defArgs s_need_beats, defBody s_need_beats, defScope s_need_beats, [], []⟩
def dd_need_share : He.DefD := ⟨("need_share", none), "need_share", "need_share", defArgs s_need_share, defBody s_need_share, defScope s_need_share, [], []⟩
def dd_law_far : He.DefD := ⟨("_law_far", none), "_law_far", "_law_far", defArgs s_law_far, defBody s_law_far, defScope s_law_far, [], []⟩
def dd_sums_of : He.DefD := ⟨("sums_of", none), "sums_of", "sums_of", defArgs s_sums_of, defBody s_sums_of, defScope s_sums_of, [], []⟩
def dd_spans_of : He.DefD := ⟨("spans_of", none), "spans_of", "spans_of", defArgs s_spans_of, defBody s_spans_of, defScope s_spans_of, [], []⟩
def dd_spans : He.DefD := ⟨("spans", none), "spans", "spans", defArgs s_spans, defBody s_spans, defScope s_spans, [], []⟩
def dd_is_spread : He.DefD := ⟨("is_spread", none), "is_spread", "is_spread", defArgs s_is_spread, defBody s_is_spread, defScope s_is_spread, [], []⟩
def dd_is_even : He.DefD := ⟨("is_even", none), "is_even", "is_even", defArgs s_is_even, defBody s_is_even, defScope s_is_even, [], []⟩
def dd_even_frame : He.DefD := ⟨("even_frame", none), "even_frame", "even_frame", defArgs s_even_frame, defBody s_even_frame, defScope s_even_frame, [], []⟩
def dd_turn_of : He.DefD := ⟨("turn_of", none), "turn_of", "turn_of", defArgs s_turn_of, defBody s_turn_of, defScope s_turn_of, [], []⟩
def dd_changes_of : He.DefD := ⟨("changes_of", none), "changes_of", "changes_of", defArgs s_changes_of, defBody s_changes_of, defScope s_changes_of, [], []⟩
def dd_runs : He.DefD := ⟨("runs", none), "runs", "runs", defArgs s_runs, defBody s_runs, defScope s_runs, [], []⟩
def dd_changes : He.DefD := ⟨("changes", none), "changes", "changes", defArgs s_changes, defBody s_changes, defScope s_changes, [], []⟩
def dd_written : He.DefD := ⟨("written", none), "written", "written", defArgs s_written, defBody s_written, defScope s_written, [], []⟩
def dd_even : He.DefD := ⟨("even", none), "even", "even", defArgs s_even, defBody s_even, defScope s_even, [], []⟩
def dd_divisor : He.DefD := ⟨("divisor", none), "divisor", "divisor", defArgs s_divisor, defBody s_divisor, defScope s_divisor, [], []⟩
def dd_exact : He.DefD := ⟨("exact", none), "exact", "exact", defArgs s_exact, defBody s_exact, defScope s_exact, [], []⟩
def dd_parted : He.DefD := ⟨("parted", none), "parted", "parted", defArgs s_parted, defBody s_parted, defScope s_parted, [], []⟩
def dd_is_room : He.DefD := ⟨("is_room", none), "is_room", "is_room", defArgs s_is_room, defBody s_is_room, defScope s_is_room, [], []⟩
def dd_with_runs : He.DefD := ⟨("with_runs", none), "with_runs", "with_runs", defArgs s_with_runs, defBody s_with_runs, defScope s_with_runs, [], []⟩
def dd_law_works : He.DefD := ⟨("_law_works", none), "_law_works", "_law_works", defArgs s_law_works, defBody s_law_works, defScope s_law_works, [], []⟩
def dd_law_others : He.DefD := ⟨("_law_others", none), "_law_others", "_law_others", defArgs s_law_others, defBody s_law_others, defScope s_law_others, [], []⟩
def dd_law : He.DefD := ⟨("law", none), "law", "law", defArgs s_law, defBody s_law, defScope s_law, [], []⟩
def hfn : List He.DefD := [dd_law_start, dd_law_drawn, dd_law_share, dd_law_even, dd_law_kind, dd_law_frame, dd_need_frame, dd_need_beats, dd_need_share, dd_law_far, dd_sums_of, dd_spans_of, dd_spans, dd_is_spread, dd_is_even, dd_even_frame, dd_turn_of, dd_changes_of, dd_runs, dd_changes, dd_written, dd_even, dd_divisor, dd_exact, dd_parted, dd_is_room, dd_with_runs, dd_law_works, dd_law_others, dd_law]
def hfa : List He.Fa := [.glo "_law_start", .glo "_law_drawn", .glo "_law_share", .glo "_law_even", .glo "_law_kind", .glo "_law_frame", .glo "need_frame", .glo "need_beats", .glo "need_share", .glo "_law_far", .glo "sums_of", .glo "spans_of", .glo "spans", .glo "is_spread", .glo "is_even", .glo "even_frame", .glo "turn_of", .glo "changes_of", .glo "runs", .glo "changes", .glo "written", .glo "even", .glo "divisor", .glo "exact", .glo "parted", .glo "is_room", .glo "with_runs", .glo "_law_works", .glo "_law_others", .glo "law", .glo "BadBegins", .glo "BadFrame", .glo "BadRuns", .glo "BadShare", .glo "BadText", .glo "BadWidth", .glo "NoRoom", .glo "PulseError", .exc "BadFrame", .exc "BadRuns", .exc "BadShare", .exc "BadWidth", .exc "NoRoom", .exm "BadFrame" "PulseError" true, .exm "BadShare" "PulseError" true, .int "MOST_BEATS" 64, .int "MOST_WIDTH" 10000, .str "SIGNS" ".#", .free "ValueError", .free "divmod", .free "int", .free "isinstance", .free "len", .free "list", .free "max", .free "min", .free "range", .free "sum", .free "zip"]
def exL (K : PySem.W.Frag) : List Bool := [decide (PySem.W.specialIn K (.builtin "object.__class__") "__get__" = some (some (.builtin "getset_descriptor.__get__"))),
  decide (PySem.W.takesIn K (.builtin "object.__class__") = some true),
  decide (PySem.W.findIn K (.ref (He.ga K "BadFrame")) "__getattribute__" = some (some (.builtin "BaseException.__getattribute__"))),
  decide (PySem.W.findIn K (.ref (He.ga K "BadFrame")) "__getattr__" = some none),
  decide (PySem.W.subIn K (.ref (He.ga K "BadFrame")) (.type "BaseException") = some true),
  PySem.W.hasDictIn K (He.ga K "BadFrame"),
  decide (PySem.W.findIn K (.ref (He.ga K "BadFrame")) "__class__" = some (some (.builtin "object.__class__"))),
  decide (PySem.W.mroIn K (He.ga K "BadFrame") (.type "object") = some true),
  decide (PySem.W.kitOne K (.ref (He.ga K "BadFrame")) (.ref (He.ga K "BadFrame")) = some (decide (0 = 0))),
  decide (PySem.W.kitOne K (.ref (He.ga K "BadFrame")) (.ref (He.ga K "BadShare")) = some (decide (0 = 1))),
  decide (PySem.W.kitOne K (.ref (He.ga K "BadFrame")) (.ref (He.ga K "BadWidth")) = some (decide (0 = 2))),
  decide (PySem.W.kitOne K (.ref (He.ga K "BadFrame")) (.ref (He.ga K "BadBegins")) = some (decide (0 = 3))),
  decide (PySem.W.kitOne K (.ref (He.ga K "BadFrame")) (.ref (He.ga K "BadRuns")) = some (decide (0 = 4))),
  decide (PySem.W.kitOne K (.ref (He.ga K "BadFrame")) (.ref (He.ga K "NoRoom")) = some (decide (0 = 5))),
  decide (PySem.W.kitOne K (.ref (He.ga K "BadFrame")) (.ref (He.ga K "BadText")) = some (decide (0 = 6))),
  decide (PySem.W.kitOne K (.ref (He.ga K "BadFrame")) (.type "ValueError") = some true),
  decide (PySem.W.findIn K (.ref (He.ga K "BadShare")) "__getattribute__" = some (some (.builtin "BaseException.__getattribute__"))),
  decide (PySem.W.findIn K (.ref (He.ga K "BadShare")) "__getattr__" = some none),
  decide (PySem.W.subIn K (.ref (He.ga K "BadShare")) (.type "BaseException") = some true),
  PySem.W.hasDictIn K (He.ga K "BadShare"),
  decide (PySem.W.findIn K (.ref (He.ga K "BadShare")) "__class__" = some (some (.builtin "object.__class__"))),
  decide (PySem.W.mroIn K (He.ga K "BadShare") (.type "object") = some true),
  decide (PySem.W.kitOne K (.ref (He.ga K "BadShare")) (.ref (He.ga K "BadFrame")) = some (decide (1 = 0))),
  decide (PySem.W.kitOne K (.ref (He.ga K "BadShare")) (.ref (He.ga K "BadShare")) = some (decide (1 = 1))),
  decide (PySem.W.kitOne K (.ref (He.ga K "BadShare")) (.ref (He.ga K "BadWidth")) = some (decide (1 = 2))),
  decide (PySem.W.kitOne K (.ref (He.ga K "BadShare")) (.ref (He.ga K "BadBegins")) = some (decide (1 = 3))),
  decide (PySem.W.kitOne K (.ref (He.ga K "BadShare")) (.ref (He.ga K "BadRuns")) = some (decide (1 = 4))),
  decide (PySem.W.kitOne K (.ref (He.ga K "BadShare")) (.ref (He.ga K "NoRoom")) = some (decide (1 = 5))),
  decide (PySem.W.kitOne K (.ref (He.ga K "BadShare")) (.ref (He.ga K "BadText")) = some (decide (1 = 6))),
  decide (PySem.W.kitOne K (.ref (He.ga K "BadShare")) (.type "ValueError") = some true),
  decide ((He.cT K ("_law_works", none)).2 ≠ (He.cT K ("_law_others", none)).2)]
def hex (K : PySem.W.Frag) : Bool := (exL K).all id
theorem hex_at {K : PySem.W.Frag} (h : hex K = true) (i : Nat) {b : Bool} (e : (exL K)[i]? = some b := by rfl) : b = true := List.all_eq_true.mp h b (List.mem_of_getElem? e)
abbrev hR : PySem.W.OpenRow := PySem.W.OpenLaw.row PySem.Challenge.rw_pulseshare_k01_frames_and_shares_refused
abbrev hkk : PySem.W.Hook := He.hookX 4 hfa hfn [] [("_law_works", none), ("_law_others", none)] hex
def hob (s : PySem.W.SharedT) : He.AlX := He.obsX 4 hfa hfn [] [("_law_works", none), ("_law_others", none)] hex (HandSHeadRun.getT s)
theorem hob_eq (s : PySem.W.SharedT) : hob s = hkk.obs s.abs := He.obsX_eq (HandSHeadRun.getT_eq s)
theorem hrun (w : World) : HandSHeadRun.RunEq hR (PySem.W.view hR.prog [45]) hkk hob 4000 [("PulseError" : Str), ("BadFrame" : Str), ("BadShare" : Str), ("BadWidth" : Str), ("BadBegins" : Str), ("BadRuns" : Str), ("NoRoom" : Str), ("BadText" : Str), ("MOST_BEATS" : Str), ("MOST_WIDTH" : Str), ("need_frame" : Str), ("need_beats" : Str), ("need_share" : Str), ("even_frame" : Str), ("even" : Str), ("sums_of" : Str), ("spans_of" : Str), ("spans" : Str), ("is_spread" : Str), ("is_even" : Str), ("turn_of" : Str), ("divisor" : Str), ("exact" : Str), ("SIGNS" : Str), ("written" : Str), ("changes_of" : Str), ("changes" : Str), ("runs" : Str), ("parted" : Str), ("is_room" : Str), ("with_runs" : Str), ("_law_start" : Str), ("_law_drawn" : Str), ("_law_kind" : Str), ("_law_far" : Str), ("_law_share" : Str), ("_law_frame" : Str), ("_law_even" : Str), ("_law_works" : Str), ("_law_others" : Str)] w := by
  intro os
  kernel_rfl
theorem fun_of_D {K : PySem.W.Frag} {x q : Str} {st : Stmt} {f : Addr} {fd : FuncData} (F : FunD K x q (defArgs st) (defBody st) (defScope st) [] [] f fd) : Fun K x q st f fd := by
  obtain ⟨oc, od, dV, kV, doc, pm, an, cdv, ct, osl, e, lk, hcd, hD, hK⟩ := F.ex
  rcases hD with ⟨_, e2⟩ | ⟨e2, _⟩
  · subst e2
    exact ⟨⟨oc, od, kV, doc, pm, an, cdv, ct, osl, e, lk, hcd⟩, F.kp⟩
  · exact absurd rfl e2
theorem facts {l : PySem.W.OpenLaw} {w : World} {K : PySem.W.Frag} {h : Heap} {mg : Str → Option Value} {fa : Addr} (KX : K.In h) (G : h.Ns mainGlobals mg) (hmg : mg ("law" : Str) = some (.ref fa)) (c : He.SaysX hfa hfn [] [("_law_works", none), ("_law_others", none)] hex w h K) : LawAtS l w K CX0 8 63 "_law_script" mg fa h := by
  obtain ⟨fd_law_start, FD_law_start⟩ := c.t.d.def_ 0 (d := dd_law_start) rfl
  have G_law_start : FunG K mg "_law_start" s_law_start (He.ga K "_law_start") fd_law_start ["_law_script"] := ⟨fun_of_D FD_law_start, He.glo_ok KX G (c.t.d.fact 0 (f := .glo "_law_start") rfl), FunD.bindsN (ps := ["_law_script"]) FD_law_start fun _ _ _ _ _ _ us hl => match us, hl with | [_], _ => rfl⟩
  obtain ⟨fd_law_drawn, FD_law_drawn⟩ := c.t.d.def_ 1 (d := dd_law_drawn) rfl
  have G_law_drawn : FunG K mg "_law_drawn" s_law_drawn (He.ga K "_law_drawn") fd_law_drawn ["_law_state", "_law_many"] := ⟨fun_of_D FD_law_drawn, He.glo_ok KX G (c.t.d.fact 1 (f := .glo "_law_drawn") rfl), FunD.bindsN (ps := ["_law_state", "_law_many"]) FD_law_drawn fun _ _ _ _ _ _ us hl => match us, hl with | [_, _], _ => rfl⟩
  obtain ⟨fd_law_share, FD_law_share⟩ := c.t.d.def_ 2 (d := dd_law_share) rfl
  have G_law_share : FunG K mg "_law_share" s_law_share (He.ga K "_law_share") fd_law_share ["_law_state"] := ⟨fun_of_D FD_law_share, He.glo_ok KX G (c.t.d.fact 2 (f := .glo "_law_share") rfl), FunD.bindsN (ps := ["_law_state"]) FD_law_share fun _ _ _ _ _ _ us hl => match us, hl with | [_], _ => rfl⟩
  obtain ⟨fd_law_even, FD_law_even⟩ := c.t.d.def_ 3 (d := dd_law_even) rfl
  have G_law_even : FunG K mg "_law_even" s_law_even (He.ga K "_law_even") fd_law_even ["_law_beats", "_law_pulses", "_law_turn"] := ⟨fun_of_D FD_law_even, He.glo_ok KX G (c.t.d.fact 3 (f := .glo "_law_even") rfl), FunD.bindsN (ps := ["_law_beats", "_law_pulses", "_law_turn"]) FD_law_even fun _ _ _ _ _ _ us hl => match us, hl with | [_, _, _], _ => rfl⟩
  obtain ⟨fd_law_kind, FD_law_kind⟩ := c.t.d.def_ 4 (d := dd_law_kind) rfl
  have G_law_kind : FunG K mg "_law_kind" s_law_kind (He.ga K "_law_kind") fd_law_kind ["_law_work"] := ⟨fun_of_D FD_law_kind, He.glo_ok KX G (c.t.d.fact 4 (f := .glo "_law_kind") rfl), FunD.bindsN (ps := ["_law_work"]) FD_law_kind fun _ _ _ _ _ _ us hl => match us, hl with | [_], _ => rfl⟩
  obtain ⟨fd_law_frame, FD_law_frame⟩ := c.t.d.def_ 5 (d := dd_law_frame) rfl
  have G_law_frame : FunG K mg "_law_frame" s_law_frame (He.ga K "_law_frame") fd_law_frame ["_law_state"] := ⟨fun_of_D FD_law_frame, He.glo_ok KX G (c.t.d.fact 5 (f := .glo "_law_frame") rfl), FunD.bindsN (ps := ["_law_state"]) FD_law_frame fun _ _ _ _ _ _ us hl => match us, hl with | [_], _ => rfl⟩
  obtain ⟨fd_need_frame, FD_need_frame⟩ := c.t.d.def_ 6 (d := dd_need_frame) rfl
  have G_need_frame : FunG K mg "need_frame" s_need_frame (He.ga K "need_frame") fd_need_frame ["frame"] := ⟨fun_of_D FD_need_frame, He.glo_ok KX G (c.t.d.fact 6 (f := .glo "need_frame") rfl), FunD.bindsN (ps := ["frame"]) FD_need_frame fun _ _ _ _ _ _ us hl => match us, hl with | [_], _ => rfl⟩
  obtain ⟨fd_need_beats, FD_need_beats⟩ := c.t.d.def_ 7 (d := dd_need_beats) rfl
  have G_need_beats : FunG K mg "need_beats" s_need_beats (He.ga K "need_beats") fd_need_beats ["beats"] := ⟨fun_of_D FD_need_beats, He.glo_ok KX G (c.t.d.fact 7 (f := .glo "need_beats") rfl), FunD.bindsN (ps := ["beats"]) FD_need_beats fun _ _ _ _ _ _ us hl => match us, hl with | [_], _ => rfl⟩
  obtain ⟨fd_need_share, FD_need_share⟩ := c.t.d.def_ 8 (d := dd_need_share) rfl
  have G_need_share : FunG K mg "need_share" s_need_share (He.ga K "need_share") fd_need_share ["beats", "pulses"] := ⟨fun_of_D FD_need_share, He.glo_ok KX G (c.t.d.fact 8 (f := .glo "need_share") rfl), FunD.bindsN (ps := ["beats", "pulses"]) FD_need_share fun _ _ _ _ _ _ us hl => match us, hl with | [_, _], _ => rfl⟩
  obtain ⟨fd_law_far, FD_law_far⟩ := c.t.d.def_ 9 (d := dd_law_far) rfl
  have G_law_far : FunG K mg "_law_far" s_law_far (He.ga K "_law_far") fd_law_far ["_law_state", "_law_least", "_law_most"] := ⟨fun_of_D FD_law_far, He.glo_ok KX G (c.t.d.fact 9 (f := .glo "_law_far") rfl), FunD.bindsN (ps := ["_law_state", "_law_least", "_law_most"]) FD_law_far fun _ _ _ _ _ _ us hl => match us, hl with | [_, _, _], _ => rfl⟩
  obtain ⟨fd_sums_of, FD_sums_of⟩ := c.t.d.def_ 10 (d := dd_sums_of) rfl
  have G_sums_of : FunG K mg "sums_of" s_sums_of (He.ga K "sums_of") fd_sums_of ["frame", "width"] := ⟨fun_of_D FD_sums_of, He.glo_ok KX G (c.t.d.fact 10 (f := .glo "sums_of") rfl), FunD.bindsN (ps := ["frame", "width"]) FD_sums_of fun _ _ _ _ _ _ us hl => match us, hl with | [_, _], _ => rfl⟩
  obtain ⟨fd_spans_of, FD_spans_of⟩ := c.t.d.def_ 11 (d := dd_spans_of) rfl
  have G_spans_of : FunG K mg "spans_of" s_spans_of (He.ga K "spans_of") fd_spans_of ["frame", "width"] := ⟨fun_of_D FD_spans_of, He.glo_ok KX G (c.t.d.fact 11 (f := .glo "spans_of") rfl), FunD.bindsN (ps := ["frame", "width"]) FD_spans_of fun _ _ _ _ _ _ us hl => match us, hl with | [_, _], _ => rfl⟩
  obtain ⟨fd_spans, FD_spans⟩ := c.t.d.def_ 12 (d := dd_spans) rfl
  have G_spans : FunG K mg "spans" s_spans (He.ga K "spans") fd_spans ["frame", "width"] := ⟨fun_of_D FD_spans, He.glo_ok KX G (c.t.d.fact 12 (f := .glo "spans") rfl), FunD.bindsN (ps := ["frame", "width"]) FD_spans fun _ _ _ _ _ _ us hl => match us, hl with | [_, _], _ => rfl⟩
  obtain ⟨fd_is_spread, FD_is_spread⟩ := c.t.d.def_ 13 (d := dd_is_spread) rfl
  have G_is_spread : FunG K mg "is_spread" s_is_spread (He.ga K "is_spread") fd_is_spread ["frame"] := ⟨fun_of_D FD_is_spread, He.glo_ok KX G (c.t.d.fact 13 (f := .glo "is_spread") rfl), FunD.bindsN (ps := ["frame"]) FD_is_spread fun _ _ _ _ _ _ us hl => match us, hl with | [_], _ => rfl⟩
  obtain ⟨fd_is_even, FD_is_even⟩ := c.t.d.def_ 14 (d := dd_is_even) rfl
  have G_is_even : FunG K mg "is_even" s_is_even (He.ga K "is_even") fd_is_even ["frame"] := ⟨fun_of_D FD_is_even, He.glo_ok KX G (c.t.d.fact 14 (f := .glo "is_even") rfl), FunD.bindsN (ps := ["frame"]) FD_is_even fun _ _ _ _ _ _ us hl => match us, hl with | [_], _ => rfl⟩
  obtain ⟨fd_even_frame, FD_even_frame⟩ := c.t.d.def_ 15 (d := dd_even_frame) rfl
  have G_even_frame : FunG K mg "even_frame" s_even_frame (He.ga K "even_frame") fd_even_frame ["beats", "pulses", "turn"] := ⟨fun_of_D FD_even_frame, He.glo_ok KX G (c.t.d.fact 15 (f := .glo "even_frame") rfl), FunD.bindsN (ps := ["beats", "pulses", "turn"]) FD_even_frame fun _ _ _ _ _ _ us hl => match us, hl with | [_, _, _], _ => rfl⟩
  obtain ⟨fd_turn_of, FD_turn_of⟩ := c.t.d.def_ 16 (d := dd_turn_of) rfl
  have G_turn_of : FunG K mg "turn_of" s_turn_of (He.ga K "turn_of") fd_turn_of ["frame"] := ⟨fun_of_D FD_turn_of, He.glo_ok KX G (c.t.d.fact 16 (f := .glo "turn_of") rfl), FunD.bindsN (ps := ["frame"]) FD_turn_of fun _ _ _ _ _ _ us hl => match us, hl with | [_], _ => rfl⟩
  obtain ⟨fd_changes_of, FD_changes_of⟩ := c.t.d.def_ 17 (d := dd_changes_of) rfl
  have G_changes_of : FunG K mg "changes_of" s_changes_of (He.ga K "changes_of") fd_changes_of ["frame"] := ⟨fun_of_D FD_changes_of, He.glo_ok KX G (c.t.d.fact 17 (f := .glo "changes_of") rfl), FunD.bindsN (ps := ["frame"]) FD_changes_of fun _ _ _ _ _ _ us hl => match us, hl with | [_], _ => rfl⟩
  obtain ⟨fd_runs, FD_runs⟩ := c.t.d.def_ 18 (d := dd_runs) rfl
  have G_runs : FunG K mg "runs" s_runs (He.ga K "runs") fd_runs ["frame"] := ⟨fun_of_D FD_runs, He.glo_ok KX G (c.t.d.fact 18 (f := .glo "runs") rfl), FunD.bindsN (ps := ["frame"]) FD_runs fun _ _ _ _ _ _ us hl => match us, hl with | [_], _ => rfl⟩
  obtain ⟨fd_changes, FD_changes⟩ := c.t.d.def_ 19 (d := dd_changes) rfl
  have G_changes : FunG K mg "changes" s_changes (He.ga K "changes") fd_changes ["frame"] := ⟨fun_of_D FD_changes, He.glo_ok KX G (c.t.d.fact 19 (f := .glo "changes") rfl), FunD.bindsN (ps := ["frame"]) FD_changes fun _ _ _ _ _ _ us hl => match us, hl with | [_], _ => rfl⟩
  obtain ⟨fd_written, FD_written⟩ := c.t.d.def_ 20 (d := dd_written) rfl
  have G_written : FunG K mg "written" s_written (He.ga K "written") fd_written ["frame"] := ⟨fun_of_D FD_written, He.glo_ok KX G (c.t.d.fact 20 (f := .glo "written") rfl), FunD.bindsN (ps := ["frame"]) FD_written fun _ _ _ _ _ _ us hl => match us, hl with | [_], _ => rfl⟩
  obtain ⟨fd_even, FD_even⟩ := c.t.d.def_ 21 (d := dd_even) rfl
  have G_even : FunG K mg "even" s_even (He.ga K "even") fd_even ["beats", "pulses", "turn"] := ⟨fun_of_D FD_even, He.glo_ok KX G (c.t.d.fact 21 (f := .glo "even") rfl), FunD.bindsN (ps := ["beats", "pulses", "turn"]) FD_even fun _ _ _ _ _ _ us hl => match us, hl with | [_, _, _], _ => rfl⟩
  obtain ⟨fd_divisor, FD_divisor⟩ := c.t.d.def_ 22 (d := dd_divisor) rfl
  have G_divisor : FunG K mg "divisor" s_divisor (He.ga K "divisor") fd_divisor ["one", "other"] := ⟨fun_of_D FD_divisor, He.glo_ok KX G (c.t.d.fact 22 (f := .glo "divisor") rfl), FunD.bindsN (ps := ["one", "other"]) FD_divisor fun _ _ _ _ _ _ us hl => match us, hl with | [_, _], _ => rfl⟩
  obtain ⟨fd_exact, FD_exact⟩ := c.t.d.def_ 23 (d := dd_exact) rfl
  have G_exact : FunG K mg "exact" s_exact (He.ga K "exact") fd_exact ["beats", "pulses"] := ⟨fun_of_D FD_exact, He.glo_ok KX G (c.t.d.fact 23 (f := .glo "exact") rfl), FunD.bindsN (ps := ["beats", "pulses"]) FD_exact fun _ _ _ _ _ _ us hl => match us, hl with | [_, _], _ => rfl⟩
  obtain ⟨fd_parted, FD_parted⟩ := c.t.d.def_ 24 (d := dd_parted) rfl
  have G_parted : FunG K mg "parted" s_parted (He.ga K "parted") fd_parted ["many", "parts"] := ⟨fun_of_D FD_parted, He.glo_ok KX G (c.t.d.fact 24 (f := .glo "parted") rfl), FunD.bindsN (ps := ["many", "parts"]) FD_parted fun _ _ _ _ _ _ us hl => match us, hl with | [_, _], _ => rfl⟩
  obtain ⟨fd_is_room, FD_is_room⟩ := c.t.d.def_ 25 (d := dd_is_room) rfl
  have G_is_room : FunG K mg "is_room" s_is_room (He.ga K "is_room") fd_is_room ["beats", "pulses", "many"] := ⟨fun_of_D FD_is_room, He.glo_ok KX G (c.t.d.fact 25 (f := .glo "is_room") rfl), FunD.bindsN (ps := ["beats", "pulses", "many"]) FD_is_room fun _ _ _ _ _ _ us hl => match us, hl with | [_, _, _], _ => rfl⟩
  obtain ⟨fd_with_runs, FD_with_runs⟩ := c.t.d.def_ 26 (d := dd_with_runs) rfl
  have G_with_runs : FunG K mg "with_runs" s_with_runs (He.ga K "with_runs") fd_with_runs ["beats", "pulses", "many"] := ⟨fun_of_D FD_with_runs, He.glo_ok KX G (c.t.d.fact 26 (f := .glo "with_runs") rfl), FunD.bindsN (ps := ["beats", "pulses", "many"]) FD_with_runs fun _ _ _ _ _ _ us hl => match us, hl with | [_, _, _], _ => rfl⟩
  obtain ⟨fd_law_works, FD_law_works⟩ := c.t.d.def_ 27 (d := dd_law_works) rfl
  have G_law_works : FunG K mg "_law_works" s_law_works (He.ga K "_law_works") fd_law_works ["_law_frame_here"] := ⟨fun_of_D FD_law_works, He.glo_ok KX G (c.t.d.fact 27 (f := .glo "_law_works") rfl), FunD.bindsN (ps := ["_law_frame_here"]) FD_law_works fun _ _ _ _ _ _ us hl => match us, hl with | [_], _ => rfl⟩
  obtain ⟨fd_law_others, FD_law_others⟩ := c.t.d.def_ 28 (d := dd_law_others) rfl
  have G_law_others : FunG K mg "_law_others" s_law_others (He.ga K "_law_others") fd_law_others ["_law_beats", "_law_pulses"] := ⟨fun_of_D FD_law_others, He.glo_ok KX G (c.t.d.fact 28 (f := .glo "_law_others") rfl), FunD.bindsN (ps := ["_law_beats", "_law_pulses"]) FD_law_others fun _ _ _ _ _ _ us hl => match us, hl with | [_, _], _ => rfl⟩
  obtain ⟨fd_law, FD_law⟩ := c.t.d.def_ 29 (d := dd_law) rfl
  have e := hmg.symm.trans (He.glo_ok KX G (c.t.d.fact 29 (f := .glo "law") rfl))
  cases e
  have bA := FunD.bindsA (ps := ["_law_script"]) FD_law fun _ _ _ _ _ _ us hl => match us, hl with | [_], _ => rfl
  obtain ⟨oc, od, kV, doc, pm, an, cdv, ct, osl, rfl, lk, hcd⟩ := (fun_of_D (st := s_law) FD_law).ex
  obtain ⟨c0, rfl⟩ := He.codeIn_ref hcd
  obtain ⟨oc_law_works, od_law_works, kV_law_works, doc_law_works, pm_law_works, an_law_works, cdv_law_works, ct_law_works, osl_law_works, rfl, lk_law_works, hcd_law_works⟩ := G_law_works.fn.ex
  obtain ⟨c_law_works_, rfl⟩ := He.codeIn_ref hcd_law_works
  obtain ⟨oc_law_others, od_law_others, kV_law_others, doc_law_others, pm_law_others, an_law_others, cdv_law_others, ct_law_others, osl_law_others, rfl, lk_law_others, hcd_law_others⟩ := G_law_others.fn.ex
  obtain ⟨c_law_others_, rfl⟩ := He.codeIn_ref hcd_law_others
  have ec0 : He.codeOf K ("_law_works", none) = c_law_works_ := He.codeOf_eq lk_law_works rfl
  have x1_0 := c.hd ("_law_works", none) (by simp)
  have x2_0 := c.out ("_law_works", none) (by simp)
  have x3_0 := c.empty ("_law_works", none) (by simp)
  have ec1 : He.codeOf K ("_law_others", none) = c_law_others_ := He.codeOf_eq lk_law_others rfl
  have x1_1 := c.hd ("_law_others", none) (by simp)
  have x2_1 := c.out ("_law_others", none) (by simp)
  have x3_1 := c.empty ("_law_others", none) (by simp)
  have ne_0_1 := of_decide_eq_true (hex_at c.more 30)
  unfold He.cT at x1_0 x2_0 x3_0 x1_1 x2_1 x3_1 ne_0_1
  rw [ec0] at x1_0 x2_0 x3_0 ne_0_1
  rw [ec1] at x1_1 x2_1 x3_1 ne_0_1
  dsimp only at x1_0 x2_0 x3_0 x1_1 x2_1 x3_1 ne_0_1
  generalize He.tabOf K c_law_works_ = P_law_works at x1_0 x2_0 x3_0 ne_0_1
  generalize He.tabOf K c_law_others_ = P_law_others at x1_1 x2_1 x3_1 ne_0_1
  have e_BadFrame : ErrK K "BadFrame" 0 := ⟨⟨of_decide_eq_true (hex_at c.more 2), of_decide_eq_true (hex_at c.more 3), of_decide_eq_true (hex_at c.more 4), hex_at c.more 5, of_decide_eq_true (hex_at c.more 6), of_decide_eq_true (hex_at c.more 0), of_decide_eq_true (hex_at c.more 1), of_decide_eq_true (hex_at c.more 7)⟩, He.exm_ok (c.t.d.fact 43 (f := .exm "BadFrame" "PulseError" true) rfl), of_decide_eq_true (hex_at c.more 8), of_decide_eq_true (hex_at c.more 9), of_decide_eq_true (hex_at c.more 10), of_decide_eq_true (hex_at c.more 11), of_decide_eq_true (hex_at c.more 12), of_decide_eq_true (hex_at c.more 13), of_decide_eq_true (hex_at c.more 14), of_decide_eq_true (hex_at c.more 15), by decide, rfl⟩
  have e_BadShare : ErrK K "BadShare" 1 := ⟨⟨of_decide_eq_true (hex_at c.more 16), of_decide_eq_true (hex_at c.more 17), of_decide_eq_true (hex_at c.more 18), hex_at c.more 19, of_decide_eq_true (hex_at c.more 20), of_decide_eq_true (hex_at c.more 0), of_decide_eq_true (hex_at c.more 1), of_decide_eq_true (hex_at c.more 21)⟩, He.exm_ok (c.t.d.fact 44 (f := .exm "BadShare" "PulseError" true) rfl), of_decide_eq_true (hex_at c.more 22), of_decide_eq_true (hex_at c.more 23), of_decide_eq_true (hex_at c.more 24), of_decide_eq_true (hex_at c.more 25), of_decide_eq_true (hex_at c.more 26), of_decide_eq_true (hex_at c.more 27), of_decide_eq_true (hex_at c.more 28), of_decide_eq_true (hex_at c.more 29), by decide, rfl⟩
  have T : Txt K mg := ⟨He.glo_ok KX G (c.t.d.fact 30 (f := .glo "BadBegins") rfl),
    He.glo_ok KX G (c.t.d.fact 31 (f := .glo "BadFrame") rfl),
    ⟨He.glo_ok KX G (c.t.d.fact 31 (f := .glo "BadFrame") rfl), (He.exc_ok (c.t.d.fact 38 (f := .exc "BadFrame") rfl)).1, (He.exc_ok (c.t.d.fact 38 (f := .exc "BadFrame") rfl)).2.1, (He.exc_ok (c.t.d.fact 38 (f := .exc "BadFrame") rfl)).2.2.1, (He.exc_ok (c.t.d.fact 38 (f := .exc "BadFrame") rfl)).2.2.2⟩,
    He.glo_ok KX G (c.t.d.fact 32 (f := .glo "BadRuns") rfl),
    ⟨He.glo_ok KX G (c.t.d.fact 32 (f := .glo "BadRuns") rfl), (He.exc_ok (c.t.d.fact 39 (f := .exc "BadRuns") rfl)).1, (He.exc_ok (c.t.d.fact 39 (f := .exc "BadRuns") rfl)).2.1, (He.exc_ok (c.t.d.fact 39 (f := .exc "BadRuns") rfl)).2.2.1, (He.exc_ok (c.t.d.fact 39 (f := .exc "BadRuns") rfl)).2.2.2⟩,
    He.glo_ok KX G (c.t.d.fact 33 (f := .glo "BadShare") rfl),
    ⟨He.glo_ok KX G (c.t.d.fact 33 (f := .glo "BadShare") rfl), (He.exc_ok (c.t.d.fact 40 (f := .exc "BadShare") rfl)).1, (He.exc_ok (c.t.d.fact 40 (f := .exc "BadShare") rfl)).2.1, (He.exc_ok (c.t.d.fact 40 (f := .exc "BadShare") rfl)).2.2.1, (He.exc_ok (c.t.d.fact 40 (f := .exc "BadShare") rfl)).2.2.2⟩,
    He.glo_ok KX G (c.t.d.fact 34 (f := .glo "BadText") rfl),
    He.glo_ok KX G (c.t.d.fact 35 (f := .glo "BadWidth") rfl),
    ⟨He.glo_ok KX G (c.t.d.fact 35 (f := .glo "BadWidth") rfl), (He.exc_ok (c.t.d.fact 41 (f := .exc "BadWidth") rfl)).1, (He.exc_ok (c.t.d.fact 41 (f := .exc "BadWidth") rfl)).2.1, (He.exc_ok (c.t.d.fact 41 (f := .exc "BadWidth") rfl)).2.2.1, (He.exc_ok (c.t.d.fact 41 (f := .exc "BadWidth") rfl)).2.2.2⟩,
    (by obtain ⟨t, e⟩ := He.int_ok KX G (c.t.d.fact 45 (f := .int "MOST_BEATS" 64) rfl); exact ⟨_, e, t, rfl⟩),
    (by obtain ⟨t, e⟩ := He.int_ok KX G (c.t.d.fact 46 (f := .int "MOST_WIDTH" 10000) rfl); exact ⟨_, e, t, rfl⟩),
    He.glo_ok KX G (c.t.d.fact 36 (f := .glo "NoRoom") rfl),
    ⟨He.glo_ok KX G (c.t.d.fact 36 (f := .glo "NoRoom") rfl), (He.exc_ok (c.t.d.fact 42 (f := .exc "NoRoom") rfl)).1, (He.exc_ok (c.t.d.fact 42 (f := .exc "NoRoom") rfl)).2.1, (He.exc_ok (c.t.d.fact 42 (f := .exc "NoRoom") rfl)).2.2.1, (He.exc_ok (c.t.d.fact 42 (f := .exc "NoRoom") rfl)).2.2.2⟩,
    He.glo_ok KX G (c.t.d.fact 37 (f := .glo "PulseError") rfl),
    (by obtain ⟨t, e⟩ := He.str_ok KX G (c.t.d.fact 47 (f := .str "SIGNS" ".#") rfl); exact ⟨_, e, t, rfl⟩),
    He.free_ok KX G (c.t.d.fact 48 (f := .free "ValueError") rfl),
    He.free_ok KX G (c.t.d.fact 49 (f := .free "divmod") rfl),
    He.free_ok KX G (c.t.d.fact 50 (f := .free "int") rfl),
    He.free_ok KX G (c.t.d.fact 51 (f := .free "isinstance") rfl),
    He.free_ok KX G (c.t.d.fact 52 (f := .free "len") rfl),
    He.free_ok KX G (c.t.d.fact 53 (f := .free "list") rfl),
    He.free_ok KX G (c.t.d.fact 54 (f := .free "max") rfl),
    He.free_ok KX G (c.t.d.fact 55 (f := .free "min") rfl),
    He.free_ok KX G (c.t.d.fact 56 (f := .free "range") rfl),
    He.free_ok KX G (c.t.d.fact 57 (f := .free "sum") rfl),
    He.free_ok KX G (c.t.d.fact 58 (f := .free "zip") rfl)⟩
  refine ⟨_, [(c_law_works_, P_law_works), (c_law_others_, P_law_others)], spLaw K P_law_works P_law_others, fun p hp => ?_, fun p hp => ?_, fun p hp => ?_, fun s v => bA s [v] rfl, fun H a ns hl _ hT hS => ⟨a, ns, rfl, hS, hl, hT (c_law_works_, P_law_works) (by simp), hT (c_law_others_, P_law_others) (by simp), fun _ => rfl⟩, fun base KB GB TBs => ?_⟩
  · simp only [List.mem_cons, List.not_mem_nil, or_false] at hp
    rcases hp with rfl | rfl
    · exact x3_0
    · exact x3_1
  · simp only [List.mem_cons, List.not_mem_nil, or_false] at hp
    rcases hp with rfl | rfl
    · exact x2_0
    · exact x2_1
  · simp only [List.mem_cons, List.not_mem_nil, or_false] at hp
    rcases hp with rfl | rfl
    · exact PySem.W.codeHd_of_K KX x1_0
    · exact PySem.W.codeHd_of_K KX x1_1
  · have TB_0 := TBs (c_law_works_, P_law_works) (by simp)
    have TB_1 := TBs (c_law_others_, P_law_others) (by simp)
    have c_law_start := G_law_start.clX (ok_law_start (P := l.prog) (w := w) (base := base) G_law_start )
    have c_law_drawn := G_law_drawn.clX (ok_law_drawn (P := l.prog) (w := w) (base := base) G_law_drawn T)
    have c_law_share := G_law_share.clX (ok_law_share (P := l.prog) (w := w) (base := base) G_law_share c_law_drawn)
    have c_law_even := G_law_even.clX (ok_law_even (P := l.prog) (w := w) (base := base) G_law_even T)
    have c_law_frame := G_law_frame.clX (ok_law_frame (P := l.prog) (w := w) (base := base) G_law_frame T c_law_drawn c_law_share c_law_even)
    have c_need_frame := G_need_frame.clX (ok_need_frame (P := l.prog) (w := w) (base := base) G_need_frame T)
    have c_need_beats := G_need_beats.clX (ok_need_beats (P := l.prog) (w := w) (base := base) G_need_beats T)
    have c_need_share := G_need_share.clX (ok_need_share (P := l.prog) (w := w) (base := base) G_need_share T c_need_beats)
    have c_law_far := G_law_far.clX (ok_law_far (P := l.prog) (w := w) (base := base) G_law_far c_law_drawn)
    have c_sums_of := G_sums_of.clX (ok_sums_of (P := l.prog) (w := w) (base := base) G_sums_of T)
    have c_spans_of := G_spans_of.clX (ok_spans_of (P := l.prog) (w := w) (base := base) G_spans_of T c_sums_of)
    have c_spans := G_spans.clX (ok_spans (P := l.prog) (w := w) (base := base) G_spans T c_need_frame c_spans_of)
    have c_is_spread := G_is_spread.clX (ok_is_spread (P := l.prog) (w := w) (base := base) G_is_spread T c_spans_of)
    have c_is_even := G_is_even.clX (ok_is_even (P := l.prog) (w := w) (base := base) G_is_even c_need_frame c_is_spread)
    have c_even_frame := G_even_frame.clX (ok_even_frame (P := l.prog) (w := w) (base := base) G_even_frame T)
    have c_turn_of := G_turn_of.clX (ok_turn_of (P := l.prog) (w := w) (base := base) G_turn_of T c_need_frame c_even_frame)
    have c_changes_of := G_changes_of.clX (ok_changes_of (P := l.prog) (w := w) (base := base) G_changes_of T)
    have c_runs := G_runs.clX (ok_runs (P := l.prog) (w := w) (base := base) G_runs c_need_frame c_changes_of)
    have c_changes := G_changes.clX (ok_changes (P := l.prog) (w := w) (base := base) G_changes c_need_frame c_changes_of)
    have c_written := G_written.clX (ok_written (P := l.prog) (w := w) (base := base) G_written T c_need_frame)
    have c_even := G_even.clX (ok_even (P := l.prog) (w := w) (base := base) G_even c_need_share c_even_frame)
    have c_divisor := G_divisor.clX (ok_divisor (P := l.prog) (w := w) (base := base) G_divisor )
    have c_exact := G_exact.clX (ok_exact (P := l.prog) (w := w) (base := base) G_exact c_need_share c_divisor)
    have c_parted := G_parted.clX (ok_parted (P := l.prog) (w := w) (base := base) G_parted T)
    have c_is_room := G_is_room.clX (ok_is_room (P := l.prog) (w := w) (base := base) G_is_room )
    have c_with_runs := G_with_runs.clX (ok_with_runs (P := l.prog) (w := w) (base := base) G_with_runs T c_need_share c_is_room c_parted)
    have c_law_works := G_law_works.clX (ok_law_works (P := l.prog) (w := w) (base := base) lk_law_works hcd_law_works (TL := [(P_law_works, lamQn "_law_works"), (P_law_others, lamQn "_law_others")]) (by simp) (fun p hp e => by simp only [List.mem_cons, List.not_mem_nil, or_false] at hp; rcases hp with rfl | rfl <;> first | exact absurd e ne_0_1.symm | exact rfl) TB_0 T c_spans c_is_even c_turn_of c_runs c_changes c_written)
    have c_law_others := G_law_others.clX (ok_law_others (P := l.prog) (w := w) (base := base) lk_law_others hcd_law_others (TL := [(P_law_works, lamQn "_law_works"), (P_law_others, lamQn "_law_others")]) (by simp) (fun p hp e => by simp only [List.mem_cons, List.not_mem_nil, or_false] at hp; rcases hp with rfl | rfl <;> first | exact absurd e ne_0_1 | exact rfl) TB_1 T c_even c_exact c_with_runs)
    exact ok_law (P := l.prog) (w := w) (base := base) lk hcd T G_law_kind (TL := [(P_law_works, lamQn "_law_works"), (P_law_others, lamQn "_law_others")]) rfl c_law_start c_law_drawn c_law_frame c_law_share c_law_far c_even c_exact c_law_works c_law_others e_BadFrame e_BadShare
end My
open PySem PySem.W PySem.Calls PyProof.Rows
theorem PySem.Challenge.cw_pulseshare_k01_frames_and_shares_refused_holds : PySem.Challenge.rw_pulseshare_k01_frames_and_shares_refused.Holds := by
  w_on; o_law
  refine HandSHeadRun.head_any (r := OpenLaw.row PySem.Challenge.rw_pulseshare_k01_frames_and_shares_refused) (q := view (OpenLaw.row PySem.Challenge.rw_pulseshare_k01_frames_and_shares_refused).prog [45]) (H := My.hkk) (ob := My.hob) (M := 4000) (loose := [("PulseError" : Str), ("BadFrame" : Str), ("BadShare" : Str), ("BadWidth" : Str), ("BadBegins" : Str), ("BadRuns" : Str), ("NoRoom" : Str), ("BadText" : Str), ("MOST_BEATS" : Str), ("MOST_WIDTH" : Str), ("need_frame" : Str), ("need_beats" : Str), ("need_share" : Str), ("even_frame" : Str), ("even" : Str), ("sums_of" : Str), ("spans_of" : Str), ("spans" : Str), ("is_spread" : Str), ("is_even" : Str), ("turn_of" : Str), ("divisor" : Str), ("exact" : Str), ("SIGNS" : Str), ("written" : Str), ("changes_of" : Str), ("changes" : Str), ("runs" : Str), ("parted" : Str), ("is_room" : Str), ("with_runs" : Str), ("_law_start" : Str), ("_law_drawn" : Str), ("_law_kind" : Str), ("_law_far" : Str), ("_law_share" : Str), ("_law_frame" : Str), ("_law_even" : Str), ("_law_works" : Str), ("_law_others" : Str)]) (d := HandSHeadRun.topDef (OpenLaw.row PySem.Challenge.rw_pulseshare_k01_frames_and_shares_refused).prog 45) (kwd := []) My.hob_eq
    (by kernel_rfl) (fun s => by kernel_rfl) My.hrun (by kernel_rfl) (by kernel_rfl) (by kernel_rfl) (by rfl) (by first | assumption | decide +kernel) (by decide +kernel) ⟨rfl, rfl, rfl, rfl, rfl, by decide +kernel⟩ ?hw ?hc
  case hw => w_witness2
  case hc =>
    refine LamX.walk_ofTsE (l := PySem.Challenge.rw_pulseshare_k01_frames_and_shares_refused) (n := 63) (k := 8) (x := "_law_script") (CX := fun _ => L2.CX0) rfl (by decide) (by kernel_rfl) ⟨rfl, by decide, by decide⟩ ?F (fun _ _ _ _ _ z => z)
    intro w mg fa h Y G hmg0
    obtain ⟨K, KX, c⟩ := Y
    have hmg : mg ("law" : PySem.Str) = some (.ref fa) := by
      have e : (HandSHeadRun.topDef (OpenLaw.row PySem.Challenge.rw_pulseshare_k01_frames_and_shares_refused).prog 45).name = ("law" : PySem.Str) := by kernel_rfl
      rw [← e]
      exact hmg0
    exact ⟨K, KX, My.facts KX G hmg c⟩
