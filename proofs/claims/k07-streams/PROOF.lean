import PyProof.Rows.All
import Wide.All
import OpenK.AllK
import Wide.FinOn
import HandS.ForMost
import HandS.Wide
import HandS.WideBits
import HandS.IsInst
import HandS.Codes
import KE.KStateDown
import HandS.ExcIs
import HandS.WordsExc
import HandS.Defaults
import HandS.Head0
import HandS.Head1
import HandS.Head2
import HandS.HeadEnd
import HandS.HeadHook1
import HandS.HeadHook2
import HandS.HeadHook3
import HandS.HeadHook4
import HandS.HeadWalk
import HandS.EndTab
import HandS.Lambda
import KE.KDflt
import KE.GoesRaise
import HandS.NoneIn
import PySem.Challenge.RW_pulseshare_k07_streams
set_option Elab.async false
set_option linter.all false
set_option maxRecDepth 100000
set_option maxHeartbeats 4000000
namespace My
open PySem PySem.Spec PyProof.Rows LamX L2
def top (i : Nat) : Stmt := PySem.Challenge.pw_pulseshare_k07_streams.main.body.getD i (.Pass ⟨0, 0, 0, 0⟩)
/-! ### calls in short -/
/-- a def of the text, where it stands, and how its arguments bind -/
structure FunG (K : PySem.W.Frag) (mg : Str → Option Value) (x : Str) (st : Stmt) (f : Addr) (fd : FuncData) (ps : List Str) : Prop where
  fn : Fun K x x st f fd
  mgf : mg x = some (.ref f)
  b : Binds K fd ps []
/-- a def that may be called by its name -/
structure Cl (P : Program) (w : World) (K : PySem.W.Frag) (mg : Str → Option Value) (base : Heap) (CX : CXT) (k : Nat) (x : Str) (sp : Sp) : Prop where
  ex : ∃ (f : Addr) (fd : FuncData) (ps : List Str), FnOk P w K mg base CX k f fd ps sp ∧ mg x = some (.ref f) ∧ PySem.W.keepIn K (.ref f) = true ∧ Binds K fd ps []
theorem FunG.cl {P : Program} {w : World} {K : PySem.W.Frag} {mg : Str → Option Value} {base : Heap} {CX : CXT} {k : Nat} {x : Str} {st : Stmt} {f : Addr} {fd : FuncData} {ps : List Str} {sp : Sp} (F : FunG K mg x st f fd ps) (h : FnOk P w K mg base CX k f fd ps sp) :
    Cl P w K mg base CX k x sp := ⟨f, fd, ps, h, F.mgf, F.fn.kp, F.b⟩
section
variable {X : Cx} {k j : Nat} {x : Str} {p pos : Pos} {e : Expr} {es : List Expr} {t : TA} {sp : Sp}
theorem pe_cl (c : Cl X.prog X.w X.K X.mg X.base CX0 k x sp) (hr : Room j X.A) (hk : k ≤ j) (hg : Gl X x) (ha : PA X (e :: es) t)
    (hdb : (x == ("__debug__" : Str)) = false := by decide) (he : starEach (e :: es) X.env = (false, eval e X.env) :: starEach es X.env := by rfl) (hpl : (backTo pos (starEach es X.env)).any (·.1) = false := by rfl) :
    PE X (.Call (.Name x p) (e :: es) [] pos) (tCall sp [] E0 t) := by
  obtain ⟨f, fd, ps, F, hm, kp, b⟩ := c.ex
  exact pe_call F (hr.mono hk) hg hm kp b .nil pass0 ha hdb he hpl
end
/-! ### words -/
theorem iteFe {c : Bool} {A B : Prop} (h : c = false) (k : B) : if c = true then A else B := by
  subst h; exact iteF k
theorem iteTe {c : Bool} {A B : Prop} (h : c = true) (k : A) : if c = true then A else B := by
  subst h; exact iteT k
theorem iteJoin {c : Bool} {A B R : Prop} (hA : c = true → R → A) (hB : c = false → R → B) (r : R) : if c = true then A else B := by
  cases c with
  | true => exact iteT (hA rfl r)
  | false => exact iteF (hB rfl r)
theorem neqF {x y : V} (h : x = y) : (!decide (x = y)) = false := by rw [decide_eq_true h]; rfl
/-! ### rules with the written part said (within a comprehension's block it can't be found by unification) -/
section
variable (K : PySem.W.Frag) {X : Cx}
theorem ixL (h : X.K = K := by rfl) : IxR X (rIxL K) := h ▸ ix_list
theorem ixT (h : X.K = K := by rfl) : IxR X (rIxT K) := h ▸ ix_tup
theorem ixQ (h : X.K = K := by rfl) : IxR X (rIx K) := h ▸ ix_seq
theorem slL (h : X.K = K := by rfl) : SlR X (rSlL K) := h ▸ sl_list
theorem opEqD (hu : X.A.units + 64 < cLine) (h : X.K = K := by rfl) : OpR X (compareOp .Eq) (rEqD K) := h ▸ op_eqD hu
theorem opNeD (hu : X.A.units + 64 < cLine) (h : X.K = K := by rfl) : OpR X (compareOp .NotEq) (rNeD K) := h ▸ op_neD hu
theorem opInQ (h : X.K = K := by rfl) : OpR X (compareOp .In) (rIn K false) := h ▸ op_in_seq
theorem opNotInQ (h : X.K = K := by rfl) : OpR X (compareOp .NotIn) (rIn K true) := h ▸ op_notIn_seq
theorem piListK {tg l : Expr} {tl : TE} (hl : PE X l tl) (h : X.K = K := by rfl) : PI X tg l (iList K tl) := h ▸ pi_list hl
theorem clLen (h : X.K = K := by rfl) : CallR X (.builtin "len") (fun xs H Q => ∃ p ys, xs = [.ref p] ∧ (SqL K H p ys ∨ SqT K H p ys) ∧ Q (.int ys.length) H) := h ▸ call_len_seq
theorem clList (h : X.K = K := by rfl) : CallR X (.type "list") (fun xs H Q => ∃ p ys, xs = [.ref p] ∧ (SqL K H p ys ∨ SqT K H p ys) ∧ ∀ l, H l = none → Q (.ref l) (upd H l (.lst ys))) := h ▸ call_list_of
theorem clSum (hc : X.calm = true) (h : X.K = K := by rfl) : CallR X (.builtin "sum") (rSum K) := h ▸ cr_sum hc
theorem clMax (hc : X.calm = true) (h : X.K = K := by rfl) : CallR X (.builtin "max") (rMax K) := h ▸ cr_max hc
theorem clMin (hc : X.calm = true) (h : X.K = K := by rfl) : CallR X (.builtin "min") (rMin K) := h ▸ cr_min hc
end
theorem units1 {n : Nat} (h : n + 64 < cLine) : n + 1 < cLine := by omega
/-! ### the drawing state -/
/-- [script, cells begun, mixed, left of a cell] -/
def StO (a : Addr) (i m c : Int) : HO := .lst [.ref a, .int i, .int m, .int c]
structure Drw (i m c : Int) : Prop where
  i0 : 0 ≤ i
  m0 : 0 ≤ m
  m1 : m < 2147483647
  c0 : 0 ≤ c
/-- all but the state is kept -/
def Keep (st : Addr) (H H' : Hp) : Prop := ∀ b o, b ≠ st → H b = some o → H' b = some o
/-- the state at st is good: its script is the list at a of the ints ns -/
structure SOk (K : PySem.W.Frag) (a : Addr) (ns : List Int) (st : Addr) (H : Hp) : Prop where
  len : ns.length ≤ 63
  sq : ∀ H', Keep st H H' → SqL K H' a (ns.map V.int)
  at_ : ∃ i m c, Drw i m c ∧ H st = some (StO a i m c)
section
variable {K : PySem.W.Frag} {a st p : Addr} {ns : List Int} {H H1 H2 : Hp} {o u : HO} {xs : List V}
theorem Keep.refl (st : Addr) (H : Hp) : Keep st H H := fun _ _ _ h => h
theorem Keep.trans (h : Keep st H H1) (h' : Keep st H1 H2) : Keep st H H2 := fun b o hb e => h' b o hb (h b o hb e)
theorem Keep.new (h : Keep st H H1) (hp : H1 p = none) : Keep st H (upd H1 p o) := fun b u hb e => by
  rw [upd_ne (ne_of_none (h b u hb e) hp)]; exact h b u hb e
theorem Keep.mut (h : Keep st H H1) (hp : H p = none) : Keep st H (upd H1 p o) := fun b u hb e => by
  rw [upd_ne (ne_of_none e hp)]; exact h b u hb e
theorem Keep.atSt (h : Keep st H H1) : Keep st H (upd H1 st o) := fun b u hb e => by
  rw [upd_ne hb]; exact h b u hb e
theorem Keep.free (h : Keep st H H1) (hp : p ≠ st) (e : H1 p = none) : H p = none := by
  cases q : H p with
  | none => rfl
  | some o => rw [h p o hp q] at e; cases e
theorem _root_.L2.Same.keep (h : Same H H1) : Keep st H H1 := fun b u _ e => h b u e
theorem _root_.L2.Same.new (h : Same H H1) (hp : H1 p = none) : Same H (upd H1 p o) := fun b u e => by
  rw [upd_ne (ne_of_none (h b u e) hp)]; exact h b u e
theorem _root_.L2.Same.mut (h : Same H H1) (hp : H p = none) : Same H (upd H1 p o) := fun b u e => by
  rw [upd_ne (ne_of_none e hp)]; exact h b u e
theorem _root_.L2.Same.upd (hp : H p = none) : Same H (upd H p o) := (Same.refl H).new hp
/-- the base heap, in which the state does not stand, is kept -/
theorem _root_.L2.Same.keepAll (h : Same H H1) (hst : H st = none) (k : Keep st H1 H2) : Same H H2 := fun b u e => k b u (ne_of_none e hst) (h b u e)
theorem SOk.now (s : SOk K a ns st H) : SqL K H a (ns.map V.int) := s.sq H (Keep.refl st H)
/-- a script that stood in H stands where all but the state is kept -/
theorem SOk.keep (s : SOk K a ns st H) (k : Keep st H H1) {i m c : Int} (d : Drw i m c) (h : H1 st = some (StO a i m c)) : SOk K a ns st H1 := ⟨s.len, fun H' k' => s.sq H' (k.trans k'), i, m, c, d, h⟩
theorem SOk.same (s : SOk K a ns st H) (k : Same H H1) : SOk K a ns st H1 := by
  obtain ⟨i, m, c, d, h⟩ := s.at_
  exact s.keep k.keep d (k _ _ h)
theorem SOk.new (s : SOk K a ns st H) (hp : H p = none) : SOk K a ns st (L2.upd H p o) := s.same (Same.upd hp)
/-- the state's making -/
theorem SOk.make (hl : ns.length ≤ 63) (hq : SqL K H a (ns.map V.int)) (hst : H st = none) {i m c : Int} (d : Drw i m c) : SOk K a ns st (L2.upd H st (StO a i m c)) :=
  ⟨hl, fun _ k' => ((Same.upd hst).keepAll hst k').seq hq, i, m, c, d, upd_same⟩
/-- a list that did not stand in the base heap H0 is changed -/
theorem SOk.mut {H0 : Hp} (s : SOk K a ns st H) (hq : SqL K H0 a (ns.map V.int)) (hst : H0 st = none) (k : Same H0 H) (hp : H0 p = none) (hps : p ≠ st) : SOk K a ns st (L2.upd H p o) := by
  obtain ⟨i, m, c, d, h⟩ := s.at_
  exact ⟨s.len, fun _ k' => ((k.mut hp).keepAll hst k').seq hq, i, m, c, d, by rw [upd_ne hps.symm]; exact h⟩
theorem SOk.ne_of (s : SOk K a ns st H) (hp : H p = none) : p ≠ st := by
  obtain ⟨i, m, c, d, h⟩ := s.at_
  exact (ne_of_none h hp).symm
/-- .. that did not stand in a heap with a good state -/
theorem SOk.mutK {H0 : Hp} (s : SOk K a ns st H) (s0 : SOk K a ns st H0) (k : Keep st H0 H) (hp : H0 p = none) : SOk K a ns st (L2.upd H p o) := by
  obtain ⟨i, m, c, d, h⟩ := s.at_
  have hps : p ≠ st := s0.ne_of hp
  exact ⟨s.len, fun H' k' => s0.sq H' ((k.mut hp).trans k'), i, m, c, d, by rw [upd_ne hps.symm]; exact h⟩
end
/-! ### lists of ints -/
theorem getV {ns : List Int} {i : Nat} {y : V} (h : (ns.map V.int)[i]? = some y) : ∃ z, ns[i]? = some z ∧ y = V.int z := by
  rw [List.getElem?_map] at h
  cases e : ns[i]? with
  | none => rw [e] at h; cases h
  | some z => rw [e] at h; exact ⟨z, rfl, (Option.some.inj h).symm⟩
theorem atV {ns : List Int} {z : Int} {j : Nat} (e : z = (j : Int)) (h : j < ns.length) : atI (ns.map V.int) z = some (V.int (ns.getD j 0)) := by
  refine at_of e ?_
  rw [List.getElem?_map, List.getElem?_eq_getElem h]
  simp [List.getD, List.getElem?_eq_getElem h]
theorem small_of {n m : Nat} (h : n ≤ m) (hm : m < 16000000 := by decide) : n < sizeLine := by rw [sizeLine_eq]; omega
theorem small_le {n m : Nat} (h : n ≤ m) (hm : m < 16000000 := by decide) : n ≤ sizeLine := by rw [sizeLine_eq]; omega
theorem nat_pow {z : Int} {n : Nat} (h0 : 0 ≤ z) (h1 : z < 2 ^ n) : z.natAbs < 2 ^ n := by
  have e : ((2 ^ n : Nat) : Int) = (2 : Int) ^ n := by simp
  omega
theorem pick3 {r : Int} (h0 : 0 ≤ r) (h1 : r < 3) : r = 0 ∨ r = 1 ∨ r = 2 := by omega
theorem pick4 {r : Int} (h0 : 0 ≤ r) (h1 : r < 4) : r = 0 ∨ r = 1 ∨ r = 2 ∨ r = 3 := by omega
theorem pick5 {r : Int} (h0 : 0 ≤ r) (h1 : r < 5) : r = 0 ∨ r = 1 ∨ r = 2 ∨ r = 3 ∨ r = 4 := by omega
/-! ### even frames -/
/-- beat k of the even frame of a share by a turn -/
def evB (b p t : Int) (k : Nat) : Int := ((k : Int) + 1 + t) * p / b - ((k : Int) + t) * p / b
def evL (b p t : Int) : List Int := (List.range b.toNat).map (evB b p t)
theorem evL_len (b p t : Int) : (evL b p t).length = b.toNat := by simp [evL]
/-- what is left beside wholes ahead of beat k -/
def evR (b p t : Int) (k : Nat) : Int := ((k : Int) + t) * p % b
theorem evR_range {b : Int} (hb : 0 < b) (p t : Int) (k : Nat) : 0 ≤ evR b p t k ∧ evR b p t k < b := ⟨Int.emod_nonneg _ (by omega), Int.emod_lt_of_pos _ hb⟩
theorem ev_step (b p t : Int) (k : Nat) : ((k : Int) + 1 + t) * p = ((k : Int) + t) * p + p := by
  rw [show (k : Int) + 1 + t = ((k : Int) + t) + 1 by omega, Int.add_mul, Int.one_mul]
/-- the beat by what is left -/
theorem evB_eq {b p : Int} (hb : 0 < b) (h0 : 0 ≤ p) (h1 : p ≤ b) (t : Int) (k : Nat) : evB b p t k = if b ≤ evR b p t k + p then 1 else 0 := by
  unfold evB evR
  rw [ev_step b]
  generalize ((k : Int) + t) * p = z
  have e := Int.mul_ediv_add_emod z b
  have r0 := Int.emod_nonneg z (show b ≠ 0 by omega)
  have r1 := Int.emod_lt_of_pos z hb
  have q : z + p = (z % b + p) + z / b * b := by rw [Int.mul_comm]; omega
  rw [q, Int.add_mul_ediv_right _ _ (show b ≠ 0 by omega)]
  by_cases c : b ≤ z % b + p
  · rw [if_pos c]
    have : (z % b + p) / b = 1 := by
      have e1 : z % b + p = (z % b + p - b) + 1 * b := by omega
      rw [e1, Int.add_mul_ediv_right _ _ (show b ≠ 0 by omega), Int.ediv_eq_zero_of_lt (by omega) (by omega)]
      omega
    omega
  · rw [if_neg c, Int.ediv_eq_zero_of_lt (by omega) (by omega)]
    omega
theorem evR_next {b p : Int} (hb : 0 < b) (h0 : 0 ≤ p) (h1 : p ≤ b) (t : Int) (k : Nat) : evR b p t (k + 1) = evR b p t k + p - b * evB b p t k := by
  rw [evB_eq hb h0 h1]
  unfold evR
  have e0 : (((k + 1 : Nat) : Int) + t) * p = ((k : Int) + t) * p + p := by
    have e1 : (((k + 1 : Nat) : Int) + t) = (k : Int) + 1 + t := by omega
    rw [e1, ev_step b]
  rw [e0]
  generalize ((k : Int) + t) * p = z
  have e := Int.mul_ediv_add_emod z b
  have r0 := Int.emod_nonneg z (show b ≠ 0 by omega)
  have r1 := Int.emod_lt_of_pos z hb
  have q : z + p = (z % b + p) + z / b * b := by rw [Int.mul_comm]; omega
  rw [q, Int.add_mul_emod_self_right]
  by_cases c : b ≤ z % b + p
  · rw [if_pos c]
    have e1 : z % b + p = (z % b + p - b) + 1 * b := by omega
    rw [e1, Int.add_mul_emod_self_right]
    by_cases c2 : z % b + p - b < b
    · rw [Int.emod_eq_of_lt (by omega) c2]; omega
    · omega
  · rw [if_neg c, Int.emod_eq_of_lt (by omega) (by omega)]; omega
theorem evB_01 {b p : Int} (hb : 0 < b) (h0 : 0 ≤ p) (h1 : p ≤ b) (t : Int) (k : Nat) : evB b p t k = 0 ∨ evB b p t k = 1 := by
  rw [evB_eq hb h0 h1]; split <;> simp
theorem evL_get {b p t : Int} {k : Nat} (h : k < b.toNat) : (evL b p t)[k]? = some (evB b p t k) := by
  unfold evL; simp [h]
theorem evL_take_sum (b p t : Int) : ∀ n : Nat, (((List.range n).map (evB b p t)).sum : Int) = ((n : Int) + t) * p / b - t * p / b
  | 0 => by simp
  | n + 1 => by
    rw [List.range_succ, List.map_append, List.sum_append, evL_take_sum b p t n]
    simp only [List.map_cons, List.map_nil, List.sum_cons, List.sum_nil, evB]
    have : (((n + 1 : Nat) : Int) + t) = (n : Int) + 1 + t := by omega
    rw [this]; omega
theorem evL_sum {b : Int} (hb : 0 < b) (p t : Int) : (evL b p t).sum = p := by
  unfold evL
  rw [evL_take_sum, Int.toNat_of_nonneg (by omega), Int.add_mul, Int.add_comm, Int.mul_comm b p, Int.add_mul_ediv_right _ _ (show b ≠ 0 by omega)]
  omega
/-! ### windows of frames -/
/-- beat k of a frame that goes round -/
def cyc (fs : List Int) (k : Nat) : Int := fs.getD (k % fs.length) 0
/-- the first k beats together, going round -/
def psum (fs : List Int) : Nat → Int
  | 0 => 0
  | k + 1 => psum fs k + cyc fs k
/-- how many are on in the window of w beats from k on -/
def win (fs : List Int) (w k : Nat) : Int := psum fs (k + w) - psum fs k
theorem cyc_add (fs : List Int) (k : Nat) : cyc fs (k + fs.length) = cyc fs k := by simp [cyc]
theorem cyc_lt {fs : List Int} {k : Nat} (h : k < fs.length) : cyc fs k = fs.getD k 0 := by simp [cyc, Nat.mod_eq_of_lt h]
theorem psum_take (fs : List Int) : ∀ k, k ≤ fs.length → psum fs k = (fs.take k).sum
  | 0, _ => by simp [psum]
  | k + 1, h => by
    have hk : k < fs.length := by omega
    rw [psum, psum_take fs k (by omega), cyc_lt hk, List.take_succ_eq_append_getElem hk, List.sum_append]
    simp [List.getD, List.getElem?_eq_getElem hk]
theorem psum_len (fs : List Int) : psum fs fs.length = fs.sum := by rw [psum_take fs _ (Nat.le_refl _), List.take_length]
theorem psum_add_len (fs : List Int) : ∀ k, psum fs (k + fs.length) = psum fs k + fs.sum
  | 0 => by rw [Nat.zero_add, psum_len]; simp [psum]
  | k + 1 => by
    rw [show k + 1 + fs.length = (k + fs.length) + 1 by omega, psum, psum_add_len fs k, cyc_add, psum]; omega
theorem psum_mul (fs : List Int) (r : Nat) : ∀ q : Nat, psum fs (q * fs.length + r) = fs.sum * q + psum fs r
  | 0 => by simp
  | q + 1 => by
    rw [show (q + 1) * fs.length + r = (q * fs.length + r) + fs.length by rw [Nat.add_mul]; omega, psum_add_len, psum_mul fs r q, Int.natCast_add, Int.mul_add]; simp; omega
theorem win_zero (fs : List Int) (w : Nat) : win fs w 0 = psum fs w := by simp [win, psum]
theorem win_next (fs : List Int) (w k : Nat) : win fs w (k + 1) = win fs w k - cyc fs k + cyc fs (k + w) := by
  unfold win
  rw [show k + 1 + w = (k + w) + 1 by omega, psum, psum]; omega
theorem win_first {fs : List Int} (w : Nat) : fs.sum * ((w / fs.length : Nat) : Int) + (fs.take (w % fs.length)).sum = win fs w 0 := by
  rw [win_zero]
  by_cases hn : fs.length = 0
  · have : fs = [] := List.eq_nil_of_length_eq_zero hn
    subst this
    have z : ∀ k, psum [] k = 0 := fun k => by
      induction k with
      | zero => rfl
      | succ k ih => rw [psum, ih]; simp [cyc]
    simp [z]
  · have e : w = (w / fs.length) * fs.length + w % fs.length := by rw [Nat.mul_comm]; exact (Nat.div_add_mod w fs.length).symm
    have hr : w % fs.length ≤ fs.length := Nat.le_of_lt (Nat.mod_lt _ (by omega))
    have h1 := psum_mul fs (w % fs.length) (w / fs.length)
    rw [← e] at h1
    rw [h1, psum_take fs _ hr]
theorem win_round (fs : List Int) (w k : Nat) : win fs w (k + fs.length) = win fs w k := by
  unfold win
  rw [show k + fs.length + w = (k + w) + fs.length by omega, psum_add_len, psum_add_len]; omega
theorem win_mod {fs : List Int} (w : Nat) : ∀ k, win fs w k = win fs w (k % fs.length) := by
  intro k
  have e := Nat.div_add_mod k fs.length
  have h : ∀ q r, win fs w (q * fs.length + r) = win fs w r := fun q r => by
    induction q with
    | zero => simp
    | succ q ih => rw [show (q + 1) * fs.length + r = (q * fs.length + r) + fs.length by rw [Nat.add_mul]; omega, win_round, ih]
  conv => lhs; rw [← e, Nat.mul_comm]
  exact h _ _
/-- all windows of a width -/
def wins (fs : List Int) (w : Nat) : List Int := (List.range fs.length).map (win fs w)
theorem wins_len (fs : List Int) (w : Nat) : (wins fs w).length = fs.length := by simp [wins]
theorem mem_wins {fs : List Int} {w : Nat} {x : Int} : x ∈ wins fs w ↔ ∃ k, k < fs.length ∧ win fs w k = x := by simp [wins]
theorem win_mem {fs : List Int} (h : 0 < fs.length) (w k : Nat) : win fs w k ∈ wins fs w := by
  rw [win_mod]
  exact mem_wins.mpr ⟨_, Nat.mod_lt _ h, rfl⟩
/-! sums over a round -/
def tsum (f : Nat → Int) (n : Nat) : Int := ((List.range n).map f).sum
theorem tsum_zero (f : Nat → Int) : tsum f 0 = 0 := rfl
theorem tsum_succ (f : Nat → Int) (n : Nat) : tsum f (n + 1) = tsum f n + f n := by
  unfold tsum; rw [List.range_succ, List.map_append, List.sum_append]; simp
theorem tsum_add (f g : Nat → Int) : ∀ n, tsum (fun k => f k + g k) n = tsum f n + tsum g n
  | 0 => rfl
  | n + 1 => by rw [tsum_succ, tsum_succ, tsum_succ, tsum_add f g n]; omega
theorem tsum_le {f g : Nat → Int} : ∀ n, (∀ k, k < n → f k ≤ g k) → tsum f n ≤ tsum g n
  | 0, _ => Int.le_refl _
  | n + 1, h => by
    rw [tsum_succ, tsum_succ]
    have := tsum_le n fun k hk => h k (by omega)
    have := h n (by omega)
    omega
theorem tsum_lt {f g : Nat → Int} : ∀ n, (∀ k, k < n → f k ≤ g k) → (∃ k, k < n ∧ f k < g k) → tsum f n < tsum g n
  | 0, _, ⟨k, hk, _⟩ => by omega
  | n + 1, h, ⟨k, hk, hl⟩ => by
    rw [tsum_succ, tsum_succ]
    have h1 := h n (by omega)
    by_cases e : k = n
    · subst e
      have := tsum_le k fun j hj => h j (by omega)
      omega
    · have := tsum_lt n (fun j hj => h j (by omega)) ⟨k, by omega, hl⟩
      omega
theorem tsum_const (c : Int) : ∀ n : Nat, tsum (fun _ => c) n = n * c
  | 0 => by simp [tsum_zero]
  | n + 1 => by rw [tsum_succ, tsum_const c n, Int.natCast_add, Int.add_mul]; simp
theorem tsum_congr {f g : Nat → Int} (n : Nat) (h : ∀ k, k < n → f k = g k) : tsum f n = tsum g n := by
  have h1 := tsum_le n fun k hk => Int.le_of_eq (h k hk)
  have h2 := tsum_le n fun k hk => Int.le_of_eq (h k hk).symm
  omega
theorem psum_tsum (fs : List Int) : ∀ k, psum fs k = tsum (cyc fs) k
  | 0 => rfl
  | k + 1 => by rw [psum, tsum_succ, psum_tsum fs k]
theorem tsum_shift (fs : List Int) : ∀ d, tsum (fun k => cyc fs (k + d)) fs.length = fs.sum := by
  intro d
  have h : ∀ n, tsum (fun k => cyc fs (k + d)) n = psum fs (n + d) - psum fs d := fun n => by
    induction n with
    | zero => simp [tsum_zero]
    | succ n ih => rw [tsum_succ, ih, show n + 1 + d = (n + d) + 1 by omega, psum]; omega
  rw [h, Nat.add_comm, psum_add_len]; omega
/-- all windows of a width together -/
theorem wins_sum (fs : List Int) : ∀ w : Nat, tsum (win fs w) fs.length = w * fs.sum
  | 0 => by
    have h : tsum (win fs 0) fs.length = tsum (fun _ => (0 : Int)) fs.length := tsum_congr _ fun k _ => by simp [win]
    rw [h, tsum_const]; simp
  | w + 1 => by
    have h : tsum (win fs (w + 1)) fs.length = tsum (fun k => win fs w k + cyc fs (k + w)) fs.length := tsum_congr _ fun k _ => by
      unfold win
      rw [show k + (w + 1) = (k + w) + 1 by omega, psum]; omega
    rw [h, tsum_add, wins_sum fs w, tsum_shift, Int.natCast_add, Int.add_mul]; simp
/-! ### spread -/
/-- windows of each width up to the beats are at most one apart -/
def Spread (fs : List Int) : Prop := ∀ w, 1 ≤ w → w ≤ fs.length → ∀ i j, i < fs.length → j < fs.length → win fs w i - win fs w j ≤ 1
theorem Spread.near {fs : List Int} (h : Spread fs) (h0 : 0 < fs.length) (w i : Nat) (hw : w ≤ fs.length) : (fs.length : Int) * win fs w i - w * fs.sum < fs.length ∧ -(fs.length : Int) < (fs.length : Int) * win fs w i - w * fs.sum := by
  rcases Nat.eq_zero_or_pos w with e | hw0
  · subst e
    have : win fs 0 i = 0 := by simp [win]
    rw [this]; simp; omega
  rw [win_mod]
  have hi : i % fs.length < fs.length := Nat.mod_lt _ h0
  generalize i % fs.length = k at hi
  have s := wins_sum fs w
  have up : tsum (win fs w) fs.length < tsum (fun _ => win fs w k + 1) fs.length := tsum_lt _ (fun j hj => by have := h w hw0 hw j k hj hi; omega) ⟨k, hi, by omega⟩
  have dn : tsum (fun _ => win fs w k - 1) fs.length < tsum (win fs w) fs.length := tsum_lt _ (fun j hj => by have := h w hw0 hw k j hi hj; omega) ⟨k, hi, by omega⟩
  rw [tsum_const] at up dn
  rw [s] at up dn
  rw [Int.mul_add] at up
  rw [Int.mul_sub] at dn
  constructor <;> omega
/-- the least, the greatest of finitely many -/
theorem exists_max (f : Nat → Int) : ∀ n, 0 < n → ∃ k, k < n ∧ ∀ j, j < n → f j ≤ f k
  | 1, _ => ⟨0, by omega, fun j hj => by have : j = 0 := by omega
                                         subst this; exact Int.le_refl _⟩
  | n + 2, _ => by
    obtain ⟨k, hk, h⟩ := exists_max f (n + 1) (by omega)
    by_cases c : f k ≤ f (n + 1)
    · refine ⟨n + 1, by omega, fun j hj => ?_⟩
      by_cases e : j = n + 1
      · subst e; exact Int.le_refl _
      · exact Int.le_trans (h j (by omega)) c
    · refine ⟨k, by omega, fun j hj => ?_⟩
      by_cases e : j = n + 1
      · subst e; omega
      · exact h j (by omega)
/-- a spread frame is an even one -/
theorem Spread.even {fs : List Int} (h : Spread fs) (h0 : 0 < fs.length) : ∃ t : Nat, t < fs.length ∧ evL (fs.length : Int) fs.sum (t : Int) = fs := by
  obtain ⟨k0, hk0, hmax⟩ := exists_max (fun k => (fs.length : Int) * psum fs k - k * fs.sum) fs.length h0
  -- the greatest lies less than the beats above any
  have key : ∀ k, (fs.length : Int) * psum fs k - k * fs.sum ≤ (fs.length : Int) * psum fs k0 - k0 * fs.sum ∧ (fs.length : Int) * psum fs k0 - k0 * fs.sum < (fs.length : Int) * psum fs k - k * fs.sum + fs.length := by
    have base : ∀ k, k < fs.length → (fs.length : Int) * psum fs k - k * fs.sum ≤ (fs.length : Int) * psum fs k0 - k0 * fs.sum ∧ (fs.length : Int) * psum fs k0 - k0 * fs.sum < (fs.length : Int) * psum fs k - k * fs.sum + fs.length := by
      intro k hk
      refine ⟨hmax k hk, ?_⟩
      by_cases c : k ≤ k0
      · obtain ⟨d, rfl⟩ : ∃ d, k0 = k + d := ⟨k0 - k, by omega⟩
        have n := (h.near h0 d k (by omega)).1
        unfold win at n
        rw [Int.mul_sub] at n
        rw [Int.natCast_add, Int.add_mul]
        omega
      · obtain ⟨d, rfl⟩ : ∃ d, k = k0 + d := ⟨k - k0, by omega⟩
        have n := (h.near h0 d k0 (by omega)).2
        unfold win at n
        rw [Int.mul_sub] at n
        rw [Int.natCast_add, Int.add_mul]
        omega
    intro k
    have e := Nat.div_add_mod k fs.length
    have hk := base (k % fs.length) (Nat.mod_lt _ h0)
    have h1 := psum_mul fs (k % fs.length) (k / fs.length)
    rw [Nat.mul_comm, ] at e
    rw [e] at h1
    have e2 : (k : Int) = (k / fs.length : Nat) * (fs.length : Int) + (k % fs.length : Nat) := by
      have := congrArg (fun z : Nat => (z : Int)) e
      simp only [Int.natCast_add, Int.natCast_mul] at this
      omega
    have e3 : (fs.length : Int) * psum fs k - k * fs.sum = (fs.length : Int) * psum fs (k % fs.length) - (k % fs.length : Nat) * fs.sum := by
      rw [h1]
      have : (k : Int) * fs.sum = (k / fs.length : Nat) * (fs.length : Int) * fs.sum + (k % fs.length : Nat) * fs.sum := by
        rw [← Int.add_mul]; congr 1
      rw [this, Int.mul_add, show (fs.length : Int) * (fs.sum * ((k / fs.length : Nat) : Int)) = ((k / fs.length : Nat) : Int) * (fs.length : Int) * fs.sum by
        rw [Int.mul_comm fs.sum, ← Int.mul_assoc, Int.mul_comm (fs.length : Int)]]
      omega
    rw [e3]; exact hk
  -- so the sums are floors
  have floor : ∀ k : Nat, psum fs k = ((k : Int) - k0) * fs.sum / fs.length + psum fs k0 := by
    intro k
    obtain ⟨a, b⟩ := key k
    have hn : (0 : Int) < fs.length := by omega
    have e : ((k : Int) - k0) * fs.sum = (fs.length : Int) * (psum fs k - psum fs k0) + (((fs.length : Int) * psum fs k0 - k0 * fs.sum) - ((fs.length : Int) * psum fs k - k * fs.sum)) := by
      rw [Int.sub_mul, Int.mul_sub]; omega
    rw [e, Int.add_comm ((fs.length : Int) * _), Int.add_mul_ediv_left _ _ (by omega), Int.ediv_eq_zero_of_lt (by omega) (by omega)]
    omega
  refine ⟨(fs.length - k0) % fs.length, Nat.mod_lt _ h0, ?_⟩
  -- the turn: less k0, going round
  have turn : ∀ k : Nat, evB (fs.length : Int) fs.sum (((fs.length - k0) % fs.length : Nat) : Int) k = evB (fs.length : Int) fs.sum (-(k0 : Int)) k := by
    intro k
    by_cases c : k0 = 0
    · subst c; simp
    · rw [Nat.mod_eq_of_lt (by omega)]
      have hn : (fs.length : Int) ≠ 0 := by omega
      unfold evB
      have e1 : ((k : Int) + 1 + ((fs.length - k0 : Nat) : Int)) * fs.sum = ((k : Int) + 1 + -(k0 : Int)) * fs.sum + fs.length * fs.sum := by
        rw [← Int.add_mul]; congr 1; omega
      have e2 : ((k : Int) + ((fs.length - k0 : Nat) : Int)) * fs.sum = ((k : Int) + -(k0 : Int)) * fs.sum + fs.length * fs.sum := by
        rw [← Int.add_mul]; congr 1; omega
      rw [e1, e2, Int.add_mul_ediv_left _ _ hn, Int.add_mul_ediv_left _ _ hn]
      omega
  apply List.ext_getElem
  · rw [evL_len]; simp
  · intro k h1 h2
    have hk : k < ((fs.length : Nat) : Int).toNat := by simpa [evL_len] using h1
    have g : (evL (fs.length : Int) fs.sum (((fs.length - k0) % fs.length : Nat) : Int))[k]? = some (evB (fs.length : Int) fs.sum (((fs.length - k0) % fs.length : Nat) : Int) k) := evL_get hk
    rw [List.getElem?_eq_getElem h1] at g
    rw [Option.some.inj g, turn]
    unfold evB
    have f1 := floor (k + 1)
    have f0 := floor k
    rw [psum, cyc_lt h2] at f1
    have e1 : ((k + 1 : Nat) : Int) - k0 = (k : Int) + 1 + -(k0 : Int) := by omega
    have e0 : (k : Int) - k0 = (k : Int) + -(k0 : Int) := by omega
    rw [e1] at f1
    rw [e0] at f0
    have : fs.getD k 0 = fs[k] := by simp [List.getD, List.getElem?_eq_getElem h2]
    omega
/-! ### windows of even frames -/
theorem evL_cyc {b p t : Int} (hb : 0 < b) (k : Nat) : cyc (evL b p t) k = evB b p t k := by
  have hl : (evL b p t).length = b.toNat := evL_len b p t
  have h0 : 0 < (evL b p t).length := by omega
  unfold cyc
  have g := evL_get (b := b) (p := p) (t := t) (k := k % (evL b p t).length) (by have := Nat.mod_lt k h0; omega)
  rw [List.getD, g, Option.getD_some]
  have e := Nat.div_add_mod k (evL b p t).length
  generalize k % (evL b p t).length = r at e
  generalize k / (evL b p t).length = q at e
  subst e
  unfold evB
  have e1 : (((evL b p t).length * q + r : Nat) : Int) = b * (q : Int) + (r : Int) := by rw [hl]; simp [Int.toNat_of_nonneg (Int.le_of_lt hb)]
  have e2 : ((b * (q : Int) + (r : Int)) + 1 + t) * p = ((r : Int) + 1 + t) * p + b * ((q : Int) * p) := by
    rw [show (b * (q : Int) + (r : Int)) + 1 + t = ((r : Int) + 1 + t) + b * (q : Int) by omega, Int.add_mul, Int.mul_assoc]
  have e3 : ((b * (q : Int) + (r : Int)) + t) * p = ((r : Int) + t) * p + b * ((q : Int) * p) := by
    rw [show (b * (q : Int) + (r : Int)) + t = ((r : Int) + t) + b * (q : Int) by omega, Int.add_mul, Int.mul_assoc]
  rw [e1, e2, e3, Int.add_mul_ediv_left _ _ (show b ≠ 0 by omega), Int.add_mul_ediv_left _ _ (show b ≠ 0 by omega)]
  omega
theorem evL_psum {b p t : Int} (hb : 0 < b) : ∀ k : Nat, psum (evL b p t) k = ((k : Int) + t) * p / b - t * p / b
  | 0 => by simp [psum]
  | k + 1 => by
    rw [psum, evL_psum hb k, evL_cyc hb, evB]
    have e1 : (((k + 1 : Nat) : Int) + t) = (k : Int) + 1 + t := by omega
    rw [e1]; omega
theorem evL_win {b p t : Int} (hb : 0 < b) (w k : Nat) : win (evL b p t) w k = (((k : Int) + t) * p + (w : Int) * p) / b - ((k : Int) + t) * p / b := by
  unfold win
  rw [evL_psum hb, evL_psum hb]
  have e : (((k + w : Nat) : Int) + t) * p = ((k : Int) + t) * p + (w : Int) * p := by
    rw [← Int.add_mul]; congr 1; omega
  rw [e]; omega
theorem div_part {x y b : Int} (hb : 0 < b) : y / b ≤ (x + y) / b - x / b ∧ (x + y) / b - x / b ≤ y / b + 1 := by
  have ex := Int.mul_ediv_add_emod x b
  have ey := Int.mul_ediv_add_emod y b
  have rx0 := Int.emod_nonneg x (show b ≠ 0 by omega)
  have rx1 := Int.emod_lt_of_pos x hb
  have ry0 := Int.emod_nonneg y (show b ≠ 0 by omega)
  have ry1 := Int.emod_lt_of_pos y hb
  have q : x + y = (x % b + y % b) + b * (x / b + y / b) := by rw [Int.mul_add]; omega
  rw [q, Int.add_mul_ediv_left _ _ (show b ≠ 0 by omega)]
  by_cases c : x % b + y % b < b
  · rw [Int.ediv_eq_zero_of_lt (by omega) c]; omega
  · have : (x % b + y % b) / b = 1 := by
      have e1 : x % b + y % b = (x % b + y % b - b) + b * 1 := by omega
      rw [e1, Int.add_mul_ediv_left _ _ (show b ≠ 0 by omega), Int.ediv_eq_zero_of_lt (by omega) (by omega)]; omega
    omega
/-- the windows of an even frame have the width's part, down to a whole one, or one more -/
theorem evL_part {b p t : Int} (hb : 0 < b) (w k : Nat) : (w : Int) * p / b ≤ win (evL b p t) w k ∧ win (evL b p t) w k ≤ (w : Int) * p / b + 1 := by
  rw [evL_win hb]; exact div_part hb
theorem evL_spread {b p t : Int} (hb : 0 < b) : Spread (evL b p t) := fun w _ _ i j _ _ => by
  have h1 := evL_part (p := p) (t := t) hb w i
  have h2 := evL_part (p := p) (t := t) hb w j
  omega
/-- all as many just where beats go into the width times the pulses -/
theorem evL_exact {b p t : Int} (hb : 0 < b) (w : Nat) : (∀ i j, i < b.toNat → j < b.toNat → win (evL b p t) w i = win (evL b p t) w j) ↔ (w : Int) * p % b = 0 := by
  have hl := evL_len b p t
  constructor
  · intro h
    have s := wins_sum (evL b p t) w
    rw [evL_sum hb, hl] at s
    have c : tsum (win (evL b p t) w) b.toNat = tsum (fun _ => win (evL b p t) w 0) b.toNat := tsum_congr _ fun k hk => h k 0 hk (by omega)
    rw [c, tsum_const, Int.toNat_of_nonneg (by omega)] at s
    rw [← s]
    exact Int.mul_emod_right b _
  · intro h i j _ _
    have e := Int.mul_ediv_add_emod ((w : Int) * p) b
    rw [h] at e
    rw [evL_win hb, evL_win hb]
    have e2 : (w : Int) * p = b * ((w : Int) * p / b) := by omega
    rw [e2, Int.add_mul_ediv_left _ _ (show b ≠ 0 by omega), Int.add_mul_ediv_left _ _ (show b ≠ 0 by omega)]
    omega
/-! ### windows cut out of a frame laid several times -/
def around (fs : List Int) (m : Nat) : List Int := (List.replicate m fs).flatten
theorem around_len (fs : List Int) (m : Nat) : (around fs m).length = m * fs.length := by simp [around]
theorem around_succ (fs : List Int) (m : Nat) : around fs (m + 1) = fs ++ around fs m := by simp [around, List.replicate_succ]
theorem around_take (fs : List Int) : ∀ (m k : Nat), k ≤ m * fs.length → ((around fs m).take k).sum = psum fs k
  | 0, k, h => by
    have : k = 0 := by omega
    subst this; simp [psum]
  | m + 1, k, h => by
    rw [around_succ]
    by_cases c : k ≤ fs.length
    · rw [List.take_append_of_le_length c, psum_take fs k c]
    · obtain ⟨d, rfl⟩ : ∃ d, k = fs.length + d := ⟨k - fs.length, by omega⟩
      rw [List.take_append, List.sum_append, List.take_of_length_le (by omega), show fs.length + d - fs.length = d by omega, around_take fs m d (by rw [Nat.add_mul] at h; omega), Nat.add_comm fs.length d, psum_add_len]
      omega
theorem drop_take_sum (l : List Int) (k w : Nat) : ((l.drop k).take w).sum = (l.take (k + w)).sum - (l.take k).sum := by
  rw [List.take_add, List.sum_append]; omega
theorem around_win {fs : List Int} {m k w : Nat} (h : k + w ≤ m * fs.length) : (((around fs m).drop k).take w).sum = win fs w k := by
  rw [drop_take_sum, around_take fs m _ h, around_take fs m k (by omega)]; rfl
/-! ### turns of a frame -/
def TS (fs : List Int) (n : Nat) : List Nat := (List.range n).filter fun j => decide (evL (fs.length : Int) fs.sum (j : Int) = fs)
theorem TS_succ (fs : List Int) (n : Nat) : TS fs (n + 1) = if evL (fs.length : Int) fs.sum (n : Int) = fs then TS fs n ++ [n] else TS fs n := by
  unfold TS
  rw [List.range_succ, List.filter_append]
  by_cases c : evL (fs.length : Int) fs.sum (n : Int) = fs
  · rw [if_pos c]; simp [c]
  · rw [if_neg c]; simp [c]
theorem TS_none {fs : List Int} : ∀ {n : Nat}, (∀ j, j < n → evL (fs.length : Int) fs.sum (j : Int) ≠ fs) → TS fs n = []
  | 0, _ => rfl
  | n + 1, h => by rw [TS_succ, if_neg (h n (by omega)), TS_none fun j hj => h j (by omega)]
theorem TS_first {fs : List Int} {t : Nat} (ht : evL (fs.length : Int) fs.sum (t : Int) = fs) (hn : ∀ j, j < t → evL (fs.length : Int) fs.sum (j : Int) ≠ fs) : ∀ n, t < n → ∃ r, TS fs n = t :: r
  | 0, h => absurd h (Nat.not_lt_zero _)
  | n + 1, h => by
    rw [TS_succ]
    by_cases e : t = n
    · subst e
      rw [if_pos ht, TS_none hn]
      exact ⟨[], rfl⟩
    · obtain ⟨r, hr⟩ := TS_first ht hn n (by omega)
      rw [hr]
      split
      · exact ⟨_, rfl⟩
      · exact ⟨_, rfl⟩
theorem TS_len (fs : List Int) (n : Nat) : (TS fs n).length ≤ n := by
  unfold TS
  have := List.length_filter_le (fun j : Nat => decide (evL (fs.length : Int) fs.sum (j : Int) = fs)) (List.range n)
  rw [List.length_range] at this
  exact this
theorem TS_ne {fs : List Int} {n : Nat} : TS fs n ≠ [] ↔ ∃ t, t < n ∧ evL (fs.length : Int) fs.sum (t : Int) = fs := by
  constructor
  · intro h
    obtain ⟨t, ht⟩ := List.exists_mem_of_ne_nil _ h
    unfold TS at ht
    obtain ⟨h1, h2⟩ := List.mem_filter.mp ht
    exact ⟨t, List.mem_range.mp h1, of_decide_eq_true h2⟩
  · rintro ⟨t, ht, e⟩ h
    have : t ∈ TS fs n := List.mem_filter.mpr ⟨List.mem_range.mpr ht, decide_eq_true e⟩
    rw [h] at this
    cases this
/-- a frame is spread just where some turn tells it -/
theorem spread_iff {fs : List Int} (h0 : 0 < fs.length) : Spread fs ↔ TS fs fs.length ≠ [] := by
  rw [TS_ne]
  constructor
  · exact fun h => h.even h0
  · rintro ⟨t, _, e⟩
    rw [← e]
    exact evL_spread (by omega)
def SpreadTo (fs : List Int) (n : Nat) : Prop := ∀ w, 1 ≤ w → w ≤ n → ∀ i j, i < fs.length → j < fs.length → win fs w i - win fs w j ≤ 1
theorem SpreadTo.zero (fs : List Int) : SpreadTo fs 0 := fun w h1 h2 => by omega
theorem spreadTo_succ {fs : List Int} {n : Nat} {lo hi : Int} (l1 : lo ∈ wins fs (n + 1)) (l2 : ∀ y, y ∈ wins fs (n + 1) → lo ≤ y) (h1 : hi ∈ wins fs (n + 1)) (h2 : ∀ y, y ∈ wins fs (n + 1) → y ≤ hi) : SpreadTo fs (n + 1) ↔ SpreadTo fs n ∧ hi - lo < 2 := by
  constructor
  · intro h
    refine ⟨fun w a b => h w a (by omega), ?_⟩
    obtain ⟨i, hi', rfl⟩ := mem_wins.mp l1
    obtain ⟨j, hj, rfl⟩ := mem_wins.mp h1
    have := h (n + 1) (by omega) (Nat.le_refl _) j i hj hi'
    omega
  · rintro ⟨h, d⟩ w a b i j hi' hj
    by_cases e : w = n + 1
    · subst e
      have := l2 _ (mem_wins.mpr ⟨j, hj, rfl⟩)
      have := h2 _ (mem_wins.mpr ⟨i, hi', rfl⟩)
      omega
    · exact h w a (by omega) i j hi' hj
/-! ### data of ints -/
def dI (ns : List Int) : PyData := .list (ns.map PyData.int)
theorem dI_layA : ∀ ns : List Int, PyData.canLayAll0 (ns.map PyData.int) = true
  | [] => by simp [PyData.canLayAll0]
  | z :: zs => by simp [PyData.canLayAll0, PyData.canLay0, dI_layA zs]
theorem dI_depthA : ∀ ns : List Int, PyData.depthAll (ns.map PyData.int) ≤ 1
  | [] => by simp [PyData.depthAll]
  | z :: zs => by
    have h1 := dI_depthA zs
    simp only [List.map_cons, PyData.depthAll, PyData.depth]
    omega
theorem dI_shaped (ns : List Int) : SeqAt.shaped (dI ns) = true := by
  have h1 := dI_depthA ns
  have h2 : PyData.depth (dI ns) ≤ 64 := by
    unfold dI
    simp only [PyData.depth]
    omega
  show (PyData.canLay0 (dI ns) && decide (PyData.depth (dI ns) ≤ 64)) = true
  rw [Bool.and_eq_true]
  exact ⟨by unfold dI; simp only [PyData.canLay0]; exact dI_layA ns, decide_eq_true h2⟩
theorem dI_eqvA : ∀ ns ms : List Int, PyData.eqvAll (ns.map PyData.int) (ms.map PyData.int) = decide (ns = ms)
  | [], [] => by simp [PyData.eqvAll]
  | [], _ :: _ => by simp [PyData.eqvAll]
  | _ :: _, [] => by simp [PyData.eqvAll]
  | n :: ns, m :: ms => by
    rw [List.map_cons, List.map_cons, PyData.eqvAll, dI_eqvA ns ms]
    by_cases e : n = m
    · subst e; simp [PyData.eqv]
    · simp [PyData.eqv, e]
theorem dI_eqv (ns ms : List Int) : PyData.eqv (dI ns) (dI ms) = decide (ns = ms) := by
  unfold dI
  simp only [PyData.eqv]
  exact dI_eqvA ns ms
theorem dpA_ints {K : PySem.W.Frag} {H : Hp} : ∀ ns : List Int, DpAll K H (ns.map V.int) (ns.map PyData.int)
  | [] => .nil
  | n :: ns => .cons (.int n) (dpA_ints ns)
theorem dp_ints {K : PySem.W.Frag} {H : Hp} {a : Addr} {ns : List Int} (h : SqL K H a (ns.map V.int)) : Dp K H (.ref a) (dI ns) := .lst h (dpA_ints ns)
theorem dp_nil {K : PySem.W.Frag} {H : Hp} {a : Addr} (h : SqL K H a []) : Dp K H (.ref a) (dI []) := dp_ints (ns := []) h
/-! ### cuts of lists of ints -/
theorem cut_to {ns : List Int} {k : Nat} (hk : k ≤ ns.length) : cutV (ns.map V.int) none (some (k : Int)) = (ns.take k).map V.int := by
  unfold cutV
  rw [HT.sIx_none, HT.sIx_nat, List.length_map, Nat.min_eq_left hk, List.drop_zero, Nat.sub_zero, List.map_take]
theorem cut_from {ns : List Int} {k : Nat} (hk : k ≤ ns.length) : cutV (ns.map V.int) (some (k : Int)) none = (ns.drop k).map V.int := by
  unfold cutV
  rw [HT.sIx_none, HT.sIx_nat, List.length_map, Nat.min_eq_left hk, List.map_drop]
  exact List.take_of_length_le (by rw [List.length_drop, List.length_map]; exact Nat.le_refl _)
theorem cut_mid {ns : List Int} {i j : Nat} (hi : i ≤ j) (hj : j ≤ ns.length) : cutV (ns.map V.int) (some (i : Int)) (some (j : Int)) = ((ns.drop i).take (j - i)).map V.int := by
  unfold cutV
  rw [HT.sIx_nat, HT.sIx_nat, List.length_map, Nat.min_eq_left (show i ≤ ns.length by omega), Nat.min_eq_left hj, List.map_take, List.map_drop]
/-! ### frames -/
structure Frm (fs : List Int) : Prop where
  pos : 0 < fs.length
  le : fs.length ≤ 64
  bit : ∀ f ∈ fs, f = 0 ∨ f = 1
theorem bits_sum : ∀ {fs : List Int}, (∀ f ∈ fs, f = 0 ∨ f = 1) → 0 ≤ fs.sum ∧ fs.sum ≤ fs.length
  | [], _ => by simp
  | f :: fs, h => by
    have h1 := bits_sum (fs := fs) fun g hg => h g (List.mem_cons_of_mem _ hg)
    have h2 := h f List.mem_cons_self
    rw [List.sum_cons, List.length_cons]
    omega
theorem Frm.sum {fs : List Int} (h : Frm fs) : 0 ≤ fs.sum ∧ fs.sum ≤ fs.length := bits_sum h.bit
theorem Frm.getD {fs : List Int} (h : Frm fs) (k : Nat) : fs.getD k 0 = 0 ∨ fs.getD k 0 = 1 := by
  by_cases c : k < fs.length
  · have e : fs.getD k 0 = fs[k] := by simp [List.getD, List.getElem?_eq_getElem c]
    rw [e]
    exact h.bit _ (List.getElem_mem c)
  · left
    simp [List.getD, List.getElem?_eq_none (Nat.le_of_not_lt c)]
theorem evL_frm {b p : Int} (b0 : 1 ≤ b) (b1 : b ≤ 64) (p0 : 0 ≤ p) (p1 : p ≤ b) (t : Int) : Frm (evL b p t) := by
  refine ⟨by rw [evL_len]; omega, by rw [evL_len]; omega, fun f hf => ?_⟩
  unfold evL at hf
  obtain ⟨k, _, rfl⟩ := List.mem_map.mp hf
  exact evB_01 (by omega) p0 p1 t k
def Lo (ws : List Int) (m : Int) : Prop := m ∈ ws ∧ ∀ y, y ∈ ws → m ≤ y
def Hi (ws : List Int) (m : Int) : Prop := m ∈ ws ∧ ∀ y, y ∈ ws → y ≤ m
theorem divP {i j : Int} {b : Nat} (h : 0 < j) (hb : j.natAbs < 2 ^ b) (h0 : 0 < b) (h9 : b ≤ 9000) : CDivP i j := ⟨h, PyProof.noPylong_of_log2 (Nat.lt_of_lt_of_le (PySem.Flt.log2_lt_of h0 hb) h9)⟩
/-! ### classes of the text -/
structure FunM (K : PySem.W.Frag) (m qual : Str) (st : Stmt) (f : Addr) (fd : FuncData) (ps : List Str) : Prop where
  fn : Fun K m qual st f fd
  b : Binds K fd ps []
/-- a class that may be made by its name; sp: its __init__ -/
structure ClI (P : Program) (w : World) (K : PySem.W.Frag) (mg : Str → Option Value) (base : Heap) (CX : CXT) (k : Nat) (x : Str) (C : Addr) (sp : Sp) : Prop where
  ex : ∃ (f : Addr) (fd : FuncData) (ps : List Str), Mk K C f ∧ FnOk P w K mg base CX k f fd ps sp ∧ mg x = some (.ref C) ∧ Binds K fd ps []
/-- a method of the class at C, at f -/
structure MtAt (P : Program) (w : World) (K : PySem.W.Frag) (mg : Str → Option Value) (base : Heap) (CX : CXT) (k : Nat) (C : Addr) (m : Str) (sp : Sp) (f : Addr) (fd : FuncData) (ps : List Str) : Prop where
  cl : Cls K C
  me : Meth K C m f
  ok : FnOk P w K mg base CX k f fd ps sp
  b : Binds K fd ps []
structure ClMt (P : Program) (w : World) (K : PySem.W.Frag) (mg : Str → Option Value) (base : Heap) (CX : CXT) (k : Nat) (C : Addr) (m : Str) (sp : Sp) : Prop where
  ex : ∃ (f : Addr) (fd : FuncData) (ps : List Str), MtAt P w K mg base CX k C m sp f fd ps
section
variable {X : Cx} {k j : Nat} {x m : Str} {p pos apos : Pos} {e o : Expr} {es : List Expr} {t : TA} {ta : TE} {sp : Sp} {C : Addr}
theorem pe_mkl (c : ClI X.prog X.w X.K X.mg X.base CX0 k x C sp) (hr : Room j X.A) (hk : k + 1 ≤ j) (hg : Gl X x) (ha : PA X (e :: es) t)
    (hdb : (x == ("__debug__" : Str)) = false := by decide) (he : starEach (e :: es) X.env = (false, eval e X.env) :: starEach es X.env := by rfl) (hpl : (backTo pos (starEach es X.env)).any (·.1) = false := by rfl) :
    PE X (.Call (.Name x p) (e :: es) [] pos) (tMake C sp [] E0 t) := by
  obtain ⟨f, fd, ps, M, F, hm, b⟩ := c.ex
  exact pe_make M F (hr.mono hk) hg hm b .nil pass0 ha hdb he hpl
/-- o.f = .. as a target -/
def gFld (K : PySem.W.Frag) (to : TE) (f : Str) : TG := fun v σ H Q => to σ H fun x H1 => ∃ a C dx fs, x = .ref a ∧ H1 a = some (.ins C dx fs) ∧ Cls K C ∧ NoAttr K C f ∧ fs.length < 1000 ∧ Q σ (upd H1 a (.ins C dx (putF f v fs)))
theorem pg_fld {f : Str} {to : TE} (ho : PE X o to) : PG X (.Attribute o f pos) (gFld X.K to f) := by
  refine ⟨fun pins s σ H v u Q I r h => ?_⟩
  rw [assign_Attribute]
  refine wpAny_bind (wpAny_holding (thn (ho.run pins s σ H _ I h) fun ov s1 ⟨x, H1, I1, r1, a, C, dx, fs, ex, ea, c, n, l, q⟩ => ?_))
  subst ex
  obtain rfl : ov = Value.ref a := r1
  refine wpAny_bind (wpAny_standAt (wpAny_bind (wpAny_holding (setattr_ok I1 ea c n l r fun s3 I3 => ?_))))
  exact wpAny_release ⟨σ, _, I3, q⟩
end
/-! ### rules for an except suite -/
def rIsK (K : PySem.W.Frag) (cls : Value) (d : Option Addr) (a : Addr) : List V → Hp → VK → Prop := fun xs H Q => ∃ (D : Addr) (c : V) (cv : Value) (b : Bool), cls = .ref D ∧ d = none ∧ ExcC K D ∧ xs = [.ref a, c] ∧ (∀ u, RelV c u → u = cv) ∧ PySem.W.kitOne K (.ref D) cv = some b ∧ Q (.bl b) H
theorem call_isK {X : Cx} {a : Addr} {cls : Value} {d : Option Addr} {oe : Obj} {pn : List (Addr × Obj)} (hz : Zc cls d oe) (hf : ∃ vs, oe.data = .fields vs) : CallR (X.suite a ((a, oe) :: pn)) (.builtin "isinstance") (rIsK X.K cls d a) := by
  intro pins s σ H xs us Q I r h
  obtain ⟨D, c, cv, b, rfl, rfl, C, e1, e2, e3, q⟩ := h
  exact call_isE C hz hf pins s σ H xs us Q I r ⟨c, cv, b, e1, e2, e3, q⟩
theorem pe_nev {X : Cx} {e : Expr} : PE X e (fun _ _ _ => False) := ⟨fun _ _ _ _ _ _ h => h.elim⟩
theorem eqU_count {y : V} {vs : List V} {us : List Value} (r : Vals vs us) (hf : vs.all flatV = true) : us.countP (eqU y) = vs.countP fun z => eqV z y := by
  induction vs generalizing us with
  | nil => cases r; rfl
  | cons v vs ih =>
    cases r with
    | cons h t =>
      rw [List.all_cons, Bool.and_eq_true] at hf
      rw [List.countP_cons, List.countP_cons, ih t hf.2, eqU_of h hf.1]
def rCntV (K : PySem.W.Frag) : V → List V → Hp → VK → Prop := fun x xs H Q => ∃ (a : Addr) (ys : List V) (y : V), x = .ref a ∧ xs = [y] ∧ SqL K H a ys ∧ flatV y = true ∧ ys.all flatV = true ∧ Q (.int ((ys.countP fun z => eqV z y : Nat) : Int)) H
theorem mt_cntV {X : Cx} : MtR X "list.count" (rCntV X.K) := by
  intro pins s σ H x xs v us Q I rx rxs h
  obtain ⟨a, ys, y, rfl, rfl, hs, fy, fys, q⟩ := h
  cases rx
  cases rxs with
  | cons ry rt =>
    rename_i uy ut
    cases rt
    obtain ⟨its, rv, ⟨⟨cls, dd, data, sl⟩, n, ho, hc, hdn, hd⟩, hlen⟩ := I.list hs
    simp only at hc hd
    subst hc hd
    refine call_meets PySem.F.slot_list_count ⟨_, ho, rfl⟩ PySem.F.entry_list_count (PySem.F.args_list_count_2 _ _)
      (SeqAt.list_countAt a its.toArray n dd sl uy (eqU y)) ⟨ho, fun u' hu' => mem_eqAt ry fy rv fys u' (by simpa using hu'), ?_⟩
    have ec : its.toArray.toList.countP (eqU y) = ys.countP fun z => eqV z y := eqU_count rv fys
    refine ⟨.int ((ys.countP fun z => eqV z y : Nat) : Int), H, I.tok _, ⟨s.toks, ?_⟩, q⟩
    show Value.int ((its.toArray.toList.countP (eqU y) : Nat) : Int) s.toks = Value.int ((ys.countP fun z => eqV z y : Nat) : Int) s.toks
    rw [ec]
section
variable (K : PySem.W.Frag) {X : Cx}
theorem mtCntK (h : X.K = K := by rfl) : MtR X "list.count" (rCntV K) := h ▸ mt_cntV
theorem mtIndexK (h : X.K = K := by rfl) : MtR X "list.index" (rIndex K) := h ▸ mt_index
theorem pe_bmK {T id : String} {nm : Str} {r : V → List V → Hp → VK → Prop} {o e : Expr} {es : List Expr} {to : TE} {t : TA} {apos cpos : Pos} (pa : PlainAttrs T) (slot : Slot T nm id) (hty : typeOf (.builtin id) = pure (.type "method_descriptor")) (hm : MtR X id r) (ho : PE X o to) (ha : PA X (e :: es) t)
    (hbase : attributeBase o nm X.env (eval o X.env) = eval o X.env := by rfl)
    (hfew : ((backTo cpos (starEach (e :: es) X.env)).all (fun x => !x.1) && (backToKw cpos (keywordEach [] X.env)).all (fun x => x.1.isSome)
      && decide ((e :: es).length + ([] : List Keyword).length + (if ([] : List Keyword).isEmpty then 0 else 1) < 30)) = true := by rfl)
    (hline : (apos.endLine == cpos.line) = true := by rfl) (hs : starEach (e :: es) X.env = (false, eval e X.env) :: starEach es X.env := by rfl) (hplain : (backTo cpos (starEach es X.env)).any (·.1) = false := by rfl) (h : X.K = K := by rfl) :
    PE X (.Call (.Attribute o nm apos) (e :: es) [] cpos) (tBM K T r to t) := h ▸ pe_bm pa slot hty hm ho ha hbase hfew hline hs hplain
end
/-- an own error's class, that may be raised -/
structure ExF (K : PySem.W.Frag) (mg : Str → Option Value) (n : Str) : Prop where
  g : mg n = some (.ref (He.ga K n))
  x : PySem.W.excIn K (He.ga K n) He.veBase "ValueError.__new__" = true
  k : PySem.W.keepIn K (.ref (He.ga K n)) = true
  b : PySem.W.subIn K (.ref (He.ga K n)) (.type "BaseException") = some true
  t : PySem.W.typeIn K (.ref (He.ga K n)) = some (.type "type")
/-- the slots' number is known -/
theorem pss_len {X : Cx} {b : List Stmt} {t : L2.TS} (n : Nat) (h : PSs X b t) (hn : X.N.length = n := by rfl) : PSs X b (fun D σ H => σ.length = n → t D σ H) := ⟨fun pins s σ H D I hw => h.run pins s σ H D I (hw (I.len.trans hn))⟩
theorem five {σ : L2.St} (h : σ.length = 5) : ∃ a b c d e, σ = [a, b, c, d, e] := by
  match σ, h with
  | [a, b, c, d, e], _ => exact ⟨a, b, c, d, e, rfl⟩
theorem noAhead (bs : List Bool) (j : Nat) (h : ((List.range j).all fun m => bs[m]? != some true) = true) : ∀ (m : Nat) (z' : V), m < j → (bs.map V.bl)[m]? = some z' → eqV z' (.bl true) = false := fun m z' hm hz => by
  rw [List.all_eq_true] at h
  have h1 := h m (List.mem_range.mpr hm)
  rw [List.getElem?_map] at hz
  cases e : bs[m]? with
  | none => rw [e] at hz; cases hz
  | some b =>
    rw [e] at hz h1
    cases hz
    cases b with
    | false => rfl
    | true => simp at h1
/-! ### calls of defs that may raise -/
section
variable {X : Cx} {k j : Nat} {x : Str} {p pos : Pos} {e : Expr} {es : List Expr} {t : TA} {sp : Sp} {E : XK}
theorem pe_clT (c : Cl X.prog X.w X.K X.mg X.base (L2.CX X.prog X.w) k x sp) (hr : Room j X.A) (hk : k ≤ j) (hx : Passes (L2.CX X.prog X.w) X E) (hg : Gl X x) (ha : PA X (e :: es) t)
    (hdb : (x == ("__debug__" : Str)) = false := by decide) (he : starEach (e :: es) X.env = (false, eval e X.env) :: starEach es X.env := by rfl) (hpl : (backTo pos (starEach es X.env)).any (·.1) = false := by rfl) :
    PE X (.Call (.Name x p) (e :: es) [] pos) (tCall sp [] E t) := by
  obtain ⟨f, fd, ps, F, hm, kp, b⟩ := c.ex
  exact pe_call F (hr.mono hk) hg hm kp b .nil hx ha hdb he hpl
theorem pe_clG (c : Cl X.prog X.w X.K X.mg X.base (L2.CX X.prog X.w) k x sp) (hr : Room j X.A) (hk : k ≤ j) (hg : Gl X x) (ha : PA X (e :: es) t)
    (hdb : (x == ("__debug__" : Str)) = false := by decide) (he : starEach (e :: es) X.env = (false, eval e X.env) :: starEach es X.env := by rfl) (hpl : (backTo pos (starEach es X.env)).any (·.1) = false := by rfl) :
    PE X (.Call (.Name x p) (e :: es) [] pos) (tCall sp [] E0 t) := pe_clT c hr hk passL hg ha hdb he hpl
end
theorem FunG.clX {P : Program} {w : World} {K : PySem.W.Frag} {mg : Str → Option Value} {base : Heap} {CX : CXT} {k : Nat} {x : Str} {st : Stmt} {f : Addr} {fd : FuncData} {ps : List Str} {sp : Sp} (F : FunG K mg x st f fd ps) (h : FnOk P w K mg base CX k f fd ps sp) :
    Cl P w K mg base CX k x sp := ⟨f, fd, ps, h, F.mgf, F.fn.kp, F.b⟩
/-! ### heaps with a table of code objects -/
def lamQ : Str := ("law" : Str) ++ ".<locals>." ++ "<lambda>"
def noTab (H : Hp) : Hp := fun b => match H b with
  | some (.tbl _) => none
  | o => o
section
variable {K : PySem.W.Frag} {a st : Addr} {ns : List Int} {H H0 H1 H2 : Hp} {T : List (Addr × Str)}
theorem noTab_some {b : Addr} {o : HO} (h : noTab H b = some o) : H b = some o ∧ ∀ ps, o ≠ .tbl ps := by
  unfold noTab at h
  split at h
  · cases h
  · rename_i hn
    exact ⟨h, fun ps e => hn ps (by rw [h, e])⟩
theorem noTab_same (H : Hp) : Same (noTab H) H := fun _ _ h => (noTab_some h).1
theorem noTab_none {b : Addr} (h : H b = none) : noTab H b = none := by
  unfold noTab; rw [h]
theorem noTab_at {b : Addr} {o : HO} (h : H b = some o) (hn : ∀ ps, o ≠ .tbl ps) : noTab H b = some o := by
  unfold noTab
  rw [h]
  cases o <;> first | rfl | exact absurd rfl (hn _)
theorem noTab_sq {xs : List V} (h : SqL K H a xs) : SqL K (noTab H) a xs := by
  rcases h with (h | ⟨o, h⟩) | h
  · exact .inl (.inl (noTab_at h fun _ z => nomatch z))
  · exact .inl (.inr ⟨o, noTab_at h fun _ z => nomatch z⟩)
  · exact .inr h
theorem extN_same (h : Same (noTab H) H1) (e : ExtN H1 H2) : Same (noTab H) H2 := fun b o hb => e b o (h b o hb) (noTab_some hb).2
theorem SOk.extN (s : SOk K a ns st H1) (hq : SqL K (noTab H0) a (ns.map V.int)) (hst : noTab H0 st = none) (k : Same (noTab H0) H1) (e : ExtN H1 H2) : SOk K a ns st H2 := by
  obtain ⟨i, m, c, d, h⟩ := s.at_
  exact ⟨s.len, fun H' k' => ((extN_same k e).keepAll hst k').seq hq, i, m, c, d, e _ _ h fun _ z => nomatch z⟩
theorem tabs_same (t : Tabs T H) (e : Same H H1) : Tabs T H1 := t.ext e
theorem tabs_keep {xs : List V} (t : Tabs T H) (hs : H st = some (.lst xs)) (e : Keep st H H1) : Tabs T H1 := fun p hp => by
  obtain ⟨ps, h1, h2, h3⟩ := t p hp
  refine ⟨ps, e _ _ (fun z => by rw [z, hs] at h1; cases h1) h1, h2, fun pos cv hc => ?_⟩
  obtain ⟨c, e1, e2⟩ := h3 pos cv hc
  exact ⟨c, e1, e _ _ (fun z => by rw [z, hs] at e2; unfold CodeO at e2; cases e2) e2⟩
theorem SOk.tabs (s : SOk K a ns st H) (t : Tabs T H) (e : Keep st H H1) : Tabs T H1 := by
  obtain ⟨i, m, c, d, h⟩ := s.at_
  exact tabs_keep t h e
end
theorem tabs_keepL {T : List (Addr × Str)} {H : Hp} {l : Addr} {xs : List V} {o : HO} (t : Tabs T H) (hs : H l = some (.lst xs)) : Tabs T (upd H l o) := fun p hp => by
  obtain ⟨ps, h1, h2, h3⟩ := t p hp
  refine ⟨ps, by rw [upd_ne (fun z => by rw [z, hs] at h1; cases h1)]; exact h1, h2, fun pos cv hc => ?_⟩
  obtain ⟨c, e1, e2⟩ := h3 pos cv hc
  exact ⟨c, e1, by rw [upd_ne (fun z => by rw [z, hs] at e2; unfold CodeO at e2; cases e2)]; exact e2⟩
/-! ### a lambda with a default: its one parameter is never read -/
structure LamP (N : List Str) (sc scope : Scope) (z : Str) : Prop where
  kind : scope.kind = .function
  co : scope.isCoroutine = false
  gen : scope.isGenerator = false
  own : ∀ y ∈ scope.names, y.2 ≠ .cell ∧ (y.2 = .local → y.1 = z)
  par : scope.names.lookup z = some .local
  out : z ∉ N
  free : ∀ y ∈ scope.names, y.2 = .free → sc.names.lookup y.1 = some .cell ∨ sc.names.lookup y.1 = some .free
def lamPB (N : List Str) (sc scope : Scope) (z : Str) : Bool :=
  decide (scope.kind = .function) && (!scope.isCoroutine && (!scope.isGenerator && (decide (scope.names.lookup z = some .local) && (decide (z ∉ N) && scope.names.all fun y => !decide (y.2 = .cell) && ((!decide (y.2 = .local) || decide (y.1 = z)) && (!decide (y.2 = .free) || (decide (sc.names.lookup y.1 = some .cell) || decide (sc.names.lookup y.1 = some .free))))))))
theorem lamP_by {N : List Str} {sc scope : Scope} {z : Str} (h : lamPB N sc scope z = true) : LamP N sc scope z := by
  unfold lamPB at h
  rw [Bool.and_eq_true, Bool.and_eq_true, Bool.and_eq_true, Bool.and_eq_true, Bool.and_eq_true, List.all_eq_true] at h
  obtain ⟨h1, h2, h3, h4, h5, h6⟩ := h
  have at_ : ∀ y ∈ scope.names, y.2 ≠ .cell ∧ (y.2 = .local → y.1 = z) ∧ (y.2 = .free → sc.names.lookup y.1 = some .cell ∨ sc.names.lookup y.1 = some .free) := fun y hy => by
    have q := h6 y hy
    simp only [Bool.and_eq_true, Bool.or_eq_true, Bool.not_eq_true', decide_eq_true_eq, decide_eq_false_iff_not] at q
    obtain ⟨a, b, d⟩ := q
    exact ⟨a, fun e => b.elim (fun x => absurd e x) id, fun e => d.elim (fun x => absurd e x) id⟩
  exact ⟨of_decide_eq_true h1, by simpa using h2, by simpa using h3, fun y hy => ⟨(at_ y hy).1, (at_ y hy).2.1⟩, of_decide_eq_true h4, of_decide_eq_true h5, fun y hy => (at_ y hy).2.2⟩
section
variable {X : Cx} {pins : List (Addr × Obj)} {σ : L2.St} {H HZ : Hp} {s s1 : Shared}
theorem LamP.has {scope : Scope} {z : Str} (L : LamP X.N X.env.scope scope z) (ok : X.Ok) : ∀ y ∈ scope.names, y.2 = .free → ∃ c, X.env.cells.lookup y.1 = some c := fun y hy e => ok.has _ (L.free y hy e)
theorem mkD {T : List (Addr × Str)} {c P : Addr} {params : Arguments} {body d : Expr} {scope : Scope} {pos : Pos} {Q : Value → Shared → Prop} (I : Inv X pins σ H s) (TB : TabB X.base X.mg c P) (hcode : X.env.code = .ref c)
    (hm : (P, X.env.qual ++ "<lambda>") ∈ T) (hu : ∀ p ∈ T, p.1 = P → p.2 = X.env.qual ++ "<lambda>") (hT : Tabs T H) (hd1 : params.defaults = [d]) (hk0 : params.kw_defaults = []) (hd : PE X d (tC (.int 0)))
    (hfree : ∀ y ∈ scope.names, y.2 = .free → ∃ c, X.env.cells.lookup y.1 = some c)
    (h : ∀ (T0 f c' : Addr) (doc pm ctv : Value) (H1 : Hp) (s' : Shared), H T0 = none → Inv X pins σ H1 s' → ExtN (upd H T0 (.tup [.int 0])) H1 → Tabs T H1 →
      s'.heap.get? f = some (PySem.W.kdv_obj "<lambda>" (X.env.qual ++ "<lambda>") params (.expr body) scope (cloFrom X.env.cells scope.names []) (.ref T0) doc pm c' ctv) → H1 f = none → f ∉ frs X.stack → H1 c' = some (CodeO c' (X.env.qual ++ "<lambda>")) → Q (.ref f) s') :
    wpAny (model X.prog X.w) X.A (eval (.Lambda params body scope pos) X.env) Q X.xe s := by
  refine PySem.W.kdv_lam (by rw [hd1]; rfl) hk0 ?_
  rw [hd1]
  refine PySem.W.kdv_all1 (thn (hd.run pins s σ H (fun v H' => v = .int 0 ∧ H' = H) I ⟨rfl, rfl⟩) fun u s2 ⟨v, H2, I2, r2, q1, q2⟩ => PySem.W.kdv_all0 ?_)
  subst q1
  rw [q2] at I2
  clear q2 H2
  obtain ⟨t, rfl⟩ : ∃ t, u = .int 0 t := r2
  have I := I2
  rw [makeFunction_eq]
  simp only [List.zip_nil_right, List.filterMap_nil, List.isEmpty_nil, if_true, pure_bind, List.isEmpty_cons, Bool.false_eq_true, if_false]
  refine wpAny_bind (wpAny_newTextTuple ?_)
  obtain ⟨T0, hT0⟩ : ∃ a, a = s2.heap.objs.size := ⟨_, rfl⟩
  have nT : H T0 = none := I.hok.fresh (Nat.le_of_eq hT0.symm)
  rw [← hT0]
  obtain ⟨s0, hs0⟩ : ∃ x : Shared, x = { s2 with heap := s2.heap.push { cls := .type "tuple", data := .seq [Value.int 0 t].toArray } } := ⟨_, rfl⟩
  have I0 : Inv X pins σ (upd H T0 (.tup [.int 0])) s0 := by
    rw [hs0]
    refine I.laid (t' := s2.toks) (fun b u e => Heap.get?_push_of_some _ e) (Nat.le_of_eq hT0.symm) ⟨(by show 1 ≤ sizeLine; decide), [Value.int 0 t], .cons ⟨t, rfl⟩ .nil, ⟨_, by rw [hT0]; exact Heap.get?_push_size _ rfl, rfl, _, rfl⟩⟩
  have t0 : Tabs T (upd H T0 (.tup [.int 0])) := hT.ext fun b o e => by rw [upd_ne (ne_of_none e nT)]; exact e
  show wpAny _ _ (makeTail "<lambda>" (X.env.qual ++ "<lambda>") params (.expr body) scope X.env (.ref T0) .none none pos pos.line) Q X.xe { s2 with heap := s2.heap.push { cls := .type "tuple", data := .seq [Value.int 0 t].toArray } }
  rw [← hs0]
  have h := h T0
  generalize upd H T0 (.tup [.int 0]) = H0 at I0 t0 h
  obtain ⟨ps, hP, trip, among⟩ := t0 _ hm
  have blt : s0.heap.BuiltinsAt X.mg P := TB.bm.keeps I0.bk
  have atP : s0.heap.get? P = some { cls := .none, data := .fields ps } := I0.hok P _ hP
  have away : ∀ b, s0.heap.objs.size ≤ b → b ∉ frs X.stack := fun b hb z => by
    rcases List.mem_cons.mp (I0.stkSub _ z) with e | e
    · have := I0.lt
      rw [← e] at this
      exact Nat.lt_irrefl _ (Nat.lt_of_lt_of_le this hb)
    · exact I0.nofs hb e
  cases found : codeAmong pos ps.toList with
  | some cv =>
    obtain ⟨c', rfl, co⟩ := among pos cv found
    refine PySem.W.kdv_makeTailHit (mg := X.mg) (c := c) (P := P) (ps := ps) (closure_ok hfree) I0.ok.glob (I0.mod.glob.keeps I0.bk) hcode (TB.code.keeps I0.bk) atP trip found blt fun ctv doc h' tk kp le => ?_
    exact h h'.objs.size c' doc ((X.mg "__name__").getD .none) ctv H0 _ nT (I0.kept fun b o e => Heap.get?_push_of_some _ (kp b o e)) (ExtN.refl _) t0 (Heap.get?_push_size _ rfl) (I0.hok.fresh le) (away _ le) co
  | none =>
    refine PySem.W.kdv_makeTail (mg := X.mg) (c := c) (P := P) (ps := ps) (closure_ok hfree) I0.ok.glob (I0.mod.glob.keeps I0.bk) hcode (TB.code.keeps I0.bk) atP trip found TB.gP blt fun c' ctv doc h' tk ext ge lt rec_ tab => ?_
    obtain ⟨c2, oc, fs, tk2, ec, ho, hdt, hv⟩ := rec_
    cases ec
    have freeC : H0 c' = none := I0.hok.fresh ge
    have freeF : s0.heap.objs.size ≤ h'.objs.size := Nat.le_trans ge (Nat.le_of_lt lt)
    have I1 := inv_table (t' := tk) (more := #[rawInt pos.line, rawInt pos.col, .ref c']) (h' := h'.push (PySem.W.kdv_obj "<lambda>" (X.env.qual ++ "<lambda>") params (.expr body) scope (cloFrom X.env.cells scope.names []) (.ref T0) doc ((X.mg "__name__").getD .none) c' ctv)) I0 hP
      (fun b o nb e => Heap.get?_push_of_some _ (ext b o nb e)) (Heap.get?_push_of_some _ tab) ge ⟨oc, fs, tk2, Heap.get?_push_of_some _ ho, hdt, hv⟩
    have grow : ExtN H0 (upd (upd H0 P (.tbl (ps ++ #[rawInt pos.line, rawInt pos.col, .ref c']))) c' (CodeO c' (X.env.qual ++ "<lambda>"))) := fun b o e n => by
      have nb : b ≠ P := fun z => by rw [z, hP] at e; exact n ps (Option.some.inj e).symm
      rw [upd_ne (ne_of_none e freeC), upd_ne nb]
      exact e
    have asList : (ps ++ #[rawInt pos.line, rawInt pos.col, .ref c']).toList = ps.toList ++ [rawInt pos.line, rawInt pos.col, .ref c'] := by simp
    refine h h'.objs.size c' doc ((X.mg "__name__").getD .none) ctv _ _ nT I1 grow (fun p hp => ?_) (Heap.get?_push_size _ rfl) ?_ (away _ freeF) upd_same
    · by_cases e : p.1 = P
      · rw [hu p hp e, e]
        refine ⟨_, by rw [upd_ne (ne_of_none hP freeC), upd_same], by rw [asList]; exact PySem.TriplesOk_snoc _ _ _ _ trip, fun q cv hq => ?_⟩
        rw [asList] at hq
        rcases among_app _ trip hq with z | z
        · obtain ⟨c0, a1, a2⟩ := among q cv z
          exact ⟨c0, a1, grow _ _ a2 codeO_ne⟩
        · exact ⟨c', z, upd_same⟩
      · obtain ⟨qs, a1, a2, a3⟩ := t0 p hp
        refine ⟨qs, by rw [upd_ne (ne_of_none a1 freeC), upd_ne e]; exact a1, a2, fun q cv hq => ?_⟩
        obtain ⟨c0, b1, b2⟩ := a3 q cv hq
        exact ⟨c0, b1, grow _ _ b2 codeO_ne⟩
    · have n1 : h'.objs.size ≠ c' := by omega
      have n2 : h'.objs.size ≠ P := (Nat.ne_of_lt (Nat.lt_of_lt_of_le (Heap.lt_size atP) freeF)).symm
      rw [upd_ne n1, upd_ne n2]
      exact I0.hok.fresh freeF
theorem startD {A : Around} {outer : List Env} {E : XK} {scope : Scope} {f c' : Addr} {z : Str} {u : Value} {h₁ : Heap} {tk : Nat} (I : Inv X pins σ H s) (L : LamP X.N X.env.scope scope z) (e0 : Env0 X.prog X.w X.K X.mg X.base A outer s1 HZ) (hd : A.handled = none)
    (un : Un (frs X.stack) [] H HZ s.heap s1.heap) (hns : h₁.Ns s1.heap.objs.size fun y => ([(z, u)] : List (Str × Value)).reverse.lookup y) (kp : ∀ b o, s1.heap.get? b = some o → h₁.get? b = some o) :
    Inv (lamCx X A outer s1 HZ E scope f c') [] σ HZ { s1 with heap := h₁, toks := tk } := by
  have hfree := L.has I.ok
  have ofX : ∀ {y c}, (cloFrom X.env.cells scope.names []).lookup y = some c → X.env.cells.lookup y = some c := fun {y c} e => by
    rcases cloFrom_mem (PySem.mem_of_lookup e) with q | ⟨q1, q2⟩
    · cases q
    · obtain ⟨d, hc⟩ := hfree _ q1 rfl
      have hc : X.env.cells.lookup y = some d := hc
      rw [hc] at q2
      rw [q2]
      exact hc
  have toX : ∀ {y}, scope.names.lookup y = some .free → ∃ c, (cloFrom X.env.cells scope.names []).lookup y = some c := fun {y} q => mem_lookup (cloFrom_has (cells := X.env.cells) (acc := []) (show (y, NameKind.free) ∈ scope.names from PySem.mem_of_lookup q))
  have stays : ∀ {c : Addr} {v : Option Value}, H c = none → s.heap.IsCell c v → h₁.IsCell c v := fun {c v} n ⟨o, ho, q⟩ => by
    obtain ⟨sl, e⟩ := un.any ho n (by simp)
    exact ⟨_, kp _ _ e, q⟩
  have none_ : ∀ b : Addr, b ∉ (lamCx X A outer s1 HZ E scope f c').ex := fun b q => by cases (show b ∈ ([] : List Addr) from q)
  refine ⟨⟨e0.mod, L.kind, rfl, rfl, Nat.le_refl _, fun y y' c q1 q2 => I.ok.inj y y' c (ofX q1) (ofX q2), fun y q => ?_, fun y c q _ => absurd (show false = true from q) (by decide), fun _ => hd, Around.frames_deeper e0.frames, .inr ⟨rfl, rfl⟩, fun b q => absurd q (none_ b), e0.bs, e0.bsz, fun b _ _ => none_ b,
      fun b q => absurd q (none_ b), e0.funs, e0.frf⟩,
    rfl, e0.bare, Un.kept kp, ⟨_, hns, fun i y v q1 q2 q3 => ?_⟩, fun y c e => ?_, e0.hok.fresh (Nat.le_refl _), fun y c e => ?_, fun q hq => absurd (show q ∈ ([] : List (Addr × Obj)) ++ [] from hq) (by simp), e0.hok.kept kp, I.len⟩
  · rcases (show scope.names.lookup y = some .cell ∨ scope.names.lookup y = some .free from q) with w | w
    · exact absurd rfl (L.own _ (PySem.mem_of_lookup w)).1
    · exact toX w
  · rcases (show Vis scope y from q3) with w | w | w
    · have e := (L.own _ (PySem.mem_of_lookup w)).2 rfl
      have e : y = z := e
      rw [e] at q1
      exact absurd (List.mem_of_getElem? q1) L.out
    · exact absurd rfl (L.own _ (PySem.mem_of_lookup w)).1
    · obtain ⟨m, hn, at_⟩ := I.loc
      have inX := L.free _ (PySem.mem_of_lookup w) rfl
      obtain ⟨v', r, q⟩ := at_ i y v q1 q2 (inX.elim (fun k => .inr (.inl k)) (fun k => .inr (.inr k)))
      obtain ⟨d, hd2⟩ := toX w
      refine ⟨v', r, .inr ⟨.inr w, d, hd2, ?_⟩⟩
      have hx := ofX hd2
      rcases q with ⟨k', _⟩ | ⟨_, d', e', hc⟩
      · have k' : X.env.scope.names.lookup y = some .local := k'
        rcases inX with q | q
        · rw [show X.env.scope.names.lookup y = some .cell from q] at k'; cases k'
        · rw [show X.env.scope.names.lookup y = some .free from q] at k'; cases k'
      · rw [hx] at e'
        cases e'
        exact stays (I.freeC y _ hx) hc
  · obtain ⟨v, hv⟩ := I.cell y c (ofX e)
    exact ⟨v, stays (I.freeC y c (ofX e)) hv⟩
  · obtain ⟨v, o, ho, _⟩ := I.cell y c (ofX e)
    exact un.free c o ho (I.freeC y c (ofX e)) (by simp)
/-- the lambda is called -/
theorem actD {CXg : CXT} {Eg : XK} {Ng : List Str} {qg : Str} {sg : Scope} {g f c' T0 : Addr} {cdg pm ctv doc : Value} {params : Arguments} {body : Expr} {scope : Scope} {z : Str} {k i : Nat} {a : Str} {pn : List (Addr × Obj)} {xe : Value → Shared → Prop} {W : WX} {E : XK} {tb : TE} {p1 p2 : Pos}
    (I : Inv X pins σ H s) (L : LamP X.N X.env.scope scope z) (hf : s.heap.get? f = some (PySem.W.kdv_obj "<lambda>" (X.env.qual ++ "<lambda>") params (.expr body) scope (cloFrom X.env.cells scope.names []) (.ref T0) doc pm c' ctv)) (hfn : H f = none) (hfr : f ∉ frs X.stack)
    (hbind : ∃ kb, bindArgs (PySem.W.kdv_fn "<lambda>" (X.env.qual ++ "<lambda>") params (.expr body) scope (cloFrom X.env.cells scope.names []) (.ref T0) doc pm (.ref c') ctv) ⟨[], []⟩ = (seqItems? (.ref T0) >>= kb) ∧ ∀ u : Value, kb (some #[u]) = pure [(z, u)])
    (tk : Takes ((cxOf CXg X.prog X.w X.K X.mg X.base Ng qg sg g cdg X.A X.stack s H Eg).tr pn xe) W) (hW : ∀ cls d σ' H', E cls d H' → W cls d σ' H') (hr : Room (k + 1) (X.A.deeper (envOfC qg sg s.heap.objs.size g cdg)))
    (hbody : ∀ (A : Around) (outer : List Env) (s : Shared) (H : Hp), Room k (A.deeper (lamEnv X scope s.heap.objs.size f c')) → PE (lamCx X A outer s H E scope f c') body tb)
    (hN : Ng[i]? = some a) (hv : Vis sg a) (hd : (a == ("__debug__" : Str)) = false := by decide) (hcd : (a == ("__classdict__" : Str)) = false := by decide) :
    PE ((cxOf CXg X.prog X.w X.K X.mg X.base Ng qg sg g cdg X.A X.stack s H Eg).tr pn xe) (.Call (.Name a p1) [] [] p2)
      (fun σZ HZ Q => σZ[i]? = some (some (.ref f)) ∧ HZ c' = some (CodeO c' (X.env.qual ++ "<lambda>")) ∧ HZ T0 = some (.tup [.int 0]) ∧ tb σ HZ Q) := by
  refine ⟨fun pinsZ sZ σZ HZ Q IZ h => ?_⟩
  obtain ⟨atF, isC, isT, ht⟩ := h
  refine wpAny_Call_Name_kw (thn ((pe_var (pos := p1) (i := i) hN hv hd hcd).run pinsZ sZ σZ HZ (fun v H1 => v = .ref f ∧ H1 = HZ) IZ ⟨.ref f, atF, rfl, rfl⟩) fun u s1 ⟨v, H1, I1, r1, e1, e2⟩ => ?_)
  subst e1 e2
  obtain rfl : u = Value.ref f := r1
  have hf1 := I1.base.keep f _ hf hfn hfr fun q => nomatch (show f ∈ ([] : List Addr) from q)
  refine PySem.W.callWith_F0 ⟨_, _, _, _, hf1⟩ ?_
  have un : Un (frs X.stack) [] H H1 s.heap s1.heap := I1.base
  obtain ⟨⟨oc, fs, t, hoc, hdc, hvc⟩, _, _⟩ := I1.hok c' _ isC
  obtain ⟨_, us, hus, oT, hoT, _, n, hsT⟩ := I1.hok T0 _ isT
  have go : codeAny (model X.prog X.w) (X.A.deeper (envOfC qg sg s.heap.objs.size g cdg)) (.call (.ref f) ⟨[], []⟩) (CR (L2.CX X.prog X.w) (envOfC qg sg s.heap.objs.size g cdg :: X.stack) X.prog X.w H1 s1 Q E) s1 := by
    refine PySem.W.kla_callFunE hr.depth hf1 rfl L.co L.gen rfl ⟨c', oc, fs, t, rfl, hoc, hdc, hvc⟩ ?_
    obtain ⟨kb, b1, b2⟩ := hbind
    have hu1 : ∃ u0, us = [u0] := by
      cases hus with
      | cons _ r => cases r; exact ⟨_, rfl⟩
    obtain ⟨u0, rfl⟩ := hu1
    refine BindsTo.of_defaults (s := s1) (T := T0) rfl hoT hsT b1 (b2 u0) _ _ _ _ ?_
    refine wpAny_newFunctionEnv (fun y hy => (L.own y hy).1) (fun y hy => ?_) (fun h₁ hns hsb => ⟨I1.nolimit.fresh _ hsb, ?_⟩) L.kind
    · rw [List.mem_singleton] at hy
      rw [hy]
      exact L.par
    · show codeAny _ _ (.expr body (lamEnv X scope s1.heap.objs.size f c')) _ _
      have kp : ∀ b o, s1.heap.get? b = some o → h₁.get? b = some o := fun b o e => hsb.extBut b o (Nat.ne_of_lt (Heap.lt_size e)) (Heap.get?_push_of_some _ e)
      have J : Inv (lamCx X (X.A.deeper (envOfC qg sg s.heap.objs.size g cdg)) (envOfC qg sg s.heap.objs.size g cdg :: X.stack) s1 H1 E scope f c') [] σ H1 { s1 with heap := h₁, toks := s1.toks + ([(z, u0)] : List (Str × Value)).length } :=
        startD I L I1.env0 hr.hd un hns kp
      refine PySem.W.kla_codeExpr (wpAny_mono ((hbody _ _ s1 H1 (hr.deeper _)).run [] _ _ H1 Q J ht) (fun v s' ⟨w', H', J', rv, q⟩ => ?_) fun e s' hq => hq)
      exact ⟨w', H', J'.os, J'.bare, J'.base, J'.hok, rv, q⟩
  have pass : Passes (L2.CX X.prog X.w) ((cxOf CXg X.prog X.w X.K X.mg X.base Ng qg sg g cdg X.A X.stack s H Eg).tr pn xe) E := passes_call tk hW
  refine wpAny_call (codeAny_mono go fun r s' hq => ?_)
  match r, hq with
  | .error e, hq => exact pass pinsZ σZ H1 s1 e s' I1 hq
  | .ok (.ret _), hq => exact I1.after hq
  | .ok .next, hq => exact False.elim hq
  | .ok .brk, hq => exact False.elim hq
  | .ok .cont, hq => exact False.elim hq
end
def tLamD (T : List (Addr × Str)) (TT : (XK → Hp → VK → Prop) → Hp → VK → Prop) (t : XK → TE) : TE := fun σ H Q => Tabs T H ∧ ∀ T0, H T0 = none → ∀ H1, ExtN (upd H T0 (.tup [.int 0])) H1 → Tabs T H1 → TT (fun E H' Q' => H' T0 = some (.tup [.int 0]) ∧ t E σ H' Q') H1 Q
section
variable {X : Cx}
/-- x(lambda z=0: body) -/
theorem pe_lamD {T : List (Addr × Str)} {TT : (XK → Hp → VK → Prop) → Hp → VK → Prop} {x a z : Str} {g c P : Addr} {k : Nat} {pg : Arguments} {bg : List Stmt} {sg : Scope} {dV kV doc pm cdv ct oc : Value} {an od : Option Addr} {osl : Array (Option Value)} {Ng : List Str}
    {params : Arguments} {body d : Expr} {scope : Scope} {t : XK → TE} {p lpos pos : Pos} (hg : Gl X x) (hm : X.mg x = some (.ref g)) (hk : PySem.W.keepIn X.K (.ref g) = true)
    (lk : X.K.lookup g = some ⟨oc, od, .func (PySem.W.fnOf x x pg bg sg dV kV doc pm an cdv ct), osl⟩) (hcg : PySem.W.codeIn X.K cdv x = true) (hb : L2.Binds X.K (PySem.W.fnOf x x pg bg sg dV kV doc pm an cdv ct) [a] []) (Sg : FnScope Ng [a] sg) (hNg : Ng[0]? = some a) (hva : Vis sg a)
    (hG : GivesTo X Ng x sg g cdv bg a (X.env.qual ++ "<lambda>") TT) (TB : TabB X.base X.mg c P) (hcode : X.env.code = .ref c) (hmT : (P, X.env.qual ++ "<lambda>") ∈ T) (hu : ∀ p ∈ T, p.1 = P → p.2 = X.env.qual ++ "<lambda>") (hr : Room (k + 2) X.A)
    (L : LamP X.N X.env.scope scope z) (hd1 : params.defaults = [d]) (hk0 : params.kw_defaults = []) (hd : PE X d (tC (.int 0)))
    (hbind : ∀ (q : Str) (cl : List (Str × Addr)) (T0 : Addr) (doc pm cv ctv : Value), ∃ kb, bindArgs (PySem.W.kdv_fn "<lambda>" q params (.expr body) scope cl (.ref T0) doc pm cv ctv) ⟨[], []⟩ = (seqItems? (.ref T0) >>= kb) ∧ ∀ u : Value, kb (some #[u]) = pure [(z, u)])
    (hbody : ∀ (A : Around) (outer : List Env) (s : Shared) (H : Hp) (E : XK) (f c' : Addr), Room k (A.deeper (lamEnv X scope s.heap.objs.size f c')) → PE (lamCx X A outer s H E scope f c') body (t E))
    (hdb : (x == ("__debug__" : Str)) = false := by decide) (hda : (a == ("__debug__" : Str)) = false := by decide) (hcd : (a == ("__classdict__" : Str)) = false := by decide) :
    PE X (.Call (.Name x p) [.Lambda params body scope lpos] [] pos) (tLamD T TT t) := by
  refine ⟨fun pins s σ H Q I h => ?_⟩
  obtain ⟨tabs, h⟩ := h
  refine wpAny_Call_Name_kw (ld_glob I hg hm ?_ hdb)
  refine PySem.W.callWith_K (h₀ := X.base) I.ok.mod.kin hk ?_ (by rfl) (by rfl)
  show wpAny _ _ (spliced ((false, eval (.Lambda params body scope lpos) X.env) :: backTo pos (starEach [] X.env))) _ _ s
  refine Calls.spliced_cons (mkD I TB hcode hmT hu tabs hd1 hk0 hd (L.has I.ok) fun T0 f c' doc' pm' ctv H1 s' n0 I1 grow T1 hf hfn hfr co => ?_)
  refine Calls.spliced_nil ⟨I1.kIn, ?_⟩
  have go : codeAny (model X.prog X.w) X.A (.call (.ref g) ⟨[.ref f], []⟩) (CR C8.CX0 X.stack X.prog X.w H1 s' Q C8.E0) s' := by
    refine run_ofS (N := Ng) (ps := [a]) (us := [.ref f]) (vs := [.ref f]) lk hcg Sg hr I1.env0 (hb s' [.ref f] I1.kIn rfl) (.cons rfl .nil) rfl fun room => ?_
    obtain ⟨td, r1, r2⟩ := hG f c' s' H1 Q (fun E H' Q' => H' T0 = some (.tup [.int 0]) ∧ t E σ H' Q') (fun W pn xe E q1 q2 tk hW => actD (i := 0) I1 L hf hfn hfr (hbind _ _ _ _ _ _ _) tk hW room (fun A outer s H room2 => hbody A outer s H E f c' room2) hNg hva hda hcd) co (h T0 n0 H1 grow T1)
    exact ⟨td, r1.nox, r2⟩
  refine wpAny_call (codeAny_mono go fun r s2 hq => ?_)
  match r, hq with
  | .error e, hq => exact (show False from hq).elim
  | .ok (.ret _), hq => exact I1.after hq
  | .ok .next, hq => exact False.elim hq
  | .ok .brk, hq => exact False.elim hq
  | .ok .cont, hq => exact False.elim hq
end
/-! ### a comprehension whose element may raise -/
section
variable {X : Cx} {pins : List (Addr × Obj)} {σ : L2.St} {H : Hp} {s s' : Shared} {E : XK}
/-- what a call let out: the ground, the state without the exception -/
theorem flown (I : Inv X pins σ H s) {u : Value} (c : L2.CX X.prog X.w X.stack H s E u s') : ∃ (a : Addr) (B : Heap) (sI : Shared) (H' : Hp) (cls : Value) (d : Option Addr), u = .ref a ∧ HandSPX.FlyingZ B X.stack a (Zc cls d) s'.heap ∧ Inv X pins σ H' sI ∧
    (∀ b o, sI.heap.get? b = some o → b ∉ frs X.stack → B.get? b = some o) ∧ sI.heap.UpToSlots s'.heap ∧ H' a = none ∧ s'.os = sI.os ∧ AllBare s'.gens ∧ E cls d H' := by
  obtain ⟨a, B, H', cls, d, eu, fl, hok, ub, na, os, ag, hE⟩ := c
  obtain ⟨G, on, off⟩ := restrict s'.heap fun b => (B.get? b).isSome || decide (b ∈ frs X.stack)
  have grd : ∀ b o, B.get? b = some o → G.get? b = some o := fun b o e => (on b (by simp [e])).trans (fl.1 b o e)
  have frm : ∀ b, b ∈ frs X.stack → G.get? b = s'.heap.get? b := fun b hb => on b (by simp [hb])
  have from_ : ∀ b o, G.get? b = some o → s'.heap.get? b = some o ∧ ((B.get? b).isSome = true ∨ b ∈ frs X.stack) := fun b o e => by
    by_cases q : ((B.get? b).isSome || decide (b ∈ frs X.stack)) = true
    · rw [on b q] at e
      exact ⟨e, by simpa [Bool.or_eq_true] using q⟩
    · rw [off b (by simpa using q)] at e; cases e
  refine ⟨a, B, { s with heap := G, gens := s'.gens, drawn := s'.drawn, toks := s'.toks }, H', cls, d, eu, fl, ?_, fun b o e hb => ?_, Heap.UpToSlots.of_keeps fun b o e => (from_ b o e).1, na, os, ag, hE⟩
  · refine I.call (ch := []) ⟨fun b o e n hb _ => grd b o (ub.keep b o e n hb), fun b o e n hb _ => ?_, fun b o e n _ => ub.free b o e n, fun b o e _ => ?_, ub.tups, ub.frzs, ub.tbls⟩ (hok.kept grd) ag (fun _ z => nomatch z)
    · obtain ⟨sl, z⟩ := ub.slot b o e hb
      exact ⟨sl, (frm b hb).trans z⟩
    · by_cases hb : b ∈ frs X.stack
      · obtain ⟨sl, z⟩ := ub.slot b o e hb
        exact ⟨_, (frm b hb).trans z⟩
      · obtain ⟨o', z⟩ := ub.there b o e hb
        exact ⟨o', grd b o' z⟩
  · obtain ⟨e', z⟩ := from_ b o e
    rcases z with z | z
    · obtain ⟨o', q⟩ := Option.isSome_iff_exists.mp z
      have y := fl.1 b o' q
      rw [e'] at y
      cases y
      exact q
    · exact absurd z hb
/-- the block's context, its exceptions told by xe -/
abbrev blkX (X : Cx) (s : Shared) (H : Hp) (scope : Scope) (cenv : Env) (fp : List Addr) (xe : Value → Shared → Prop) : Cx := (X.blk s H scope cenv fp).tr [] xe
/-- out of a call in the element, past the block's end -/
theorem leaves_block {W : WX} {scope : Scope} {ce : Env} {fp : List Addr} {s3 : Shared} {H3 : Hp} {xe : Value → Shared → Prop} {pins2 : List (Addr × Obj)} {σ2 : L2.St} {H2 : Hp} {s2 : Shared} (tk : Takes X W) (hW : ∀ cls d H, E cls d H → W cls d σ H) (hs : X.stack = X.env :: X.outer) (hf : X.env.frame = some X.env.locals)
    (hcf : ce.frame = X.env.frame) (cL : ce.locals = s3.heap.objs.size) (I3 : Inv X pins σ H3 s3) (f3 : ∀ b ∈ fp, FpOk X pins H3 b) (Ib : Inv (blkX X s3 H3 scope ce fp xe) pins2 σ2 H2 s2) {u : Value} (c : L2.CX X.prog X.w X.stack H2 s2 E u s') :
    notedBy (model X.prog X.w) X.A ce (CompFails (model X.prog X.w) X.A X.xe ce) u s' := by
  obtain ⟨a, B, sI, Hh, cls, d, rfl, fl, Ii, nb, up, na, os, ag, hE⟩ := flown Ib c
  have nC : Hh s3.heap.objs.size = none := by
    have z : Hh ce.locals = none := Ii.free
    rw [cL] at z
    exact z
  have Id : Inv X pins σ Hh sI := I3.call' (ch := fp) Ii.os Ii.base Ii.hok Ii.bare fun b hb => ⟨(f3 b hb).2.2.2.1, (f3 b hb).2.1, (f3 b hb).2.2.2.2.1, (f3 b hb).2.2.2.2.2⟩
  obtain ⟨f0, f1, f2, f3', f4, f5⟩ := I3.fpOk (H' := Hh) (Nat.le_refl _) nC
  obtain ⟨m, hn, _⟩ := Ii.loc
  have hn : sI.heap.Ns s3.heap.objs.size m := by
    have z : sI.heap.Ns ce.locals m := hn
    rw [cL] at z
    exact z
  generalize hC : s3.heap.objs.size = C at *
  have hid : ∀ (h : Heap) b o, b ≠ C → h.get? b = some o → (PySem.W.hideAll h [C]).get? b = some o := fun h b o hb e => PySem.W.hideAll_get _ e (by simpa using hb)
  have noC : ∀ (h : Heap), (PySem.W.hideAll h [C]).get? C = none := fun h => PySem.W.hideAll_none _ (by simp)
  have unh : ∀ (h : Heap) b o, (PySem.W.hideAll h [C]).get? b = some o → b ≠ C ∧ h.get? b = some o := fun h b o e => ⟨fun z => absurd (z ▸ e) (by rw [noC]; exact fun y => nomatch y), PySem.W.of_hideAll _ e⟩
  have I8 : Inv X pins σ Hh { sI with heap := PySem.W.hideAll sI.heap [C] } := Id.turned (t' := sI.toks) (it := C) (fun b o hb e => hid _ b o hb e) f0 f1 f3' f4 f5
  show wpAny _ _ (noteFrame (.ref a) ce) _ _ _
  rw [noteFrame_env _ hcf]
  rw [hs] at fl
  refine HandSPX.looks_onZ Zc.steady (by rw [Id.ok.frames, hs]) hf fl fun h1 held1 up1 => ?_
  have hn1 : h1.Ns C m := Heap.Ns.upToSlots hn fun b o e nf => by
    obtain ⟨sl, z⟩ := up b o e nf
    obtain ⟨sl2, z2⟩ := up1 b _ z nf
    exact ⟨sl2, z2⟩
  refine ⟨m, by rw [cL]; exact hn1, fun h2 m2 hn2 sb => ?_⟩
  rw [cL] at hn2 sb
  obtain ⟨g1, g2, g3, oe, vs, T, oT, ts, he, hz, hd, hv1, hBT, hTa, hT, hdT, hv3⟩ := held1
  have dC : ∀ b o vs', h1.get? b = some o → o.data = .fields vs' → b ≠ C := fun b o vs' e1 e2 z => by
    obtain ⟨oC, es, ep, y1, y2, _⟩ := hn1
    rw [z, y1] at e1
    cases e1
    rw [y2] at e2
    cases e2
  have naC := dC a oe vs he hd
  have nTC := dC T oT ts hT hdT
  have ff : h2.FunFrames (PySem.W.hideAll B [C]) (X.env :: X.outer) := funFrames_none (Heap.FunFrames.sameBut sb hn2 g3) fun L hL => by
    obtain ⟨z, _⟩ := g3.mem hL
    cases q : (PySem.W.hideAll B [C]).get? L with
    | none => rfl
    | some o => rw [(unh _ _ _ q).2] at z; cases z
  have held2 : HandSPX.HeldZ (PySem.W.hideAll B [C]) (X.env :: X.outer) a (Zc cls d) X.env.locals h2 := by
    refine ⟨fun b o e => ?_, ?_, ff, oe, vs, T, oT, ts, (sb.2 a naC).trans he, hz, hd, hv1, ?_, hTa, (sb.2 T nTC).trans hT, hdT, hv3⟩
    · obtain ⟨z1, z2⟩ := unh _ _ _ e
      exact (sb.2 b z1).trans (g1 b o z2)
    · cases q : (PySem.W.hideAll B [C]).get? a with
      | none => rfl
      | some o => rw [(unh _ _ _ q).2] at g2; cases g2
    · cases q : (PySem.W.hideAll B [C]).get? T with
      | none => rfl
      | some o => rw [(unh _ _ _ q).2] at hBT; cases hBT
  unfold PySem.passOn
  refine wpAny_bind (wpAny_field ((sb.2 a naC).trans he) hd hv1 ?_)
  rw [if_neg (show ¬ ((Value.ref T == Value.none) = true) from by simp), hcf, hf]
  refine wpAny_bind (HandSPX.setFlight_onZ (s := { s' with heap := h2 }) held2 fun h4 held4 up4 => wpAny_throw ?_)
  refine tk _ _ ⟨a, PySem.W.hideAll B [C], _, pins, σ, Hh, cls, d, rfl, I8, fun b o e hb => ?_, fun b o e nf => ?_, ?_, na, os, ag, hW _ _ _ hE⟩
  · obtain ⟨z1, z2⟩ := unh _ _ _ e
    exact hid _ b o z1 (nb b o z2 hb)
  · obtain ⟨z1, z2⟩ := unh _ _ _ e
    obtain ⟨sl, y1⟩ := up b o z2 nf
    obtain ⟨sl2, y2⟩ := up1 b _ y1 nf
    obtain ⟨sl3, y3⟩ := up4 b _ ((sb.2 b z1).trans y2) nf
    exact ⟨sl3, y3⟩
  · rw [hs]
    exact .inr (.inr held4)
end
section
variable {X : Cx}
/-- [elt for target in iter]: what the element lets out goes on -/
theorem pe_lcX {elt tg src : Expr} {sc : Scope} {own : List (Str × Nat)} {pos : Pos} {wi : TI} {g : TG} {te : TE} {E : XK} {W : WX} (hc : X.calm = true) (hN : X.N.Nodup) (hs : X.stack = X.env :: X.outer) (hf : X.env.frame = some X.env.locals) (tk : Takes X W) (hW : ∀ cls d σ H, E cls d H → W cls d σ H)
    (hi : PI X tg src wi) (ok : BlkOk X.N X.env.scope sc own) (hg : ∀ (s : Shared) (H : Hp) (C : Addr) (cl : List (Str × Addr)) (fp : List Addr), PG (X.blk s H sc (compEnvC sc cl C X.env) fp) tg g)
    (he : ∀ (s : Shared) (H : Hp) (C : Addr) (cl : List (Str × Addr)) (fp : List Addr) (xe : Value → Shared → Prop), Passes (L2.CX X.prog X.w) (blkX X s H sc (compEnvC sc cl C X.env) fp xe) E → PE (blkX X s H sc (compEnvC sc cl C X.env) fp xe) elt te)
    (hfold : ∀ x, foldedSetIterable src X.env x = pure x := by intro _; rfl) :
    PE X (.ListComp elt [⟨tg, src, [], 0⟩] sc pos) (tLc wi g tYes te (own.map (·.2))) := by
  refine ⟨fun pins s σ H Q I h => ?_⟩
  rw [eval_ListComp]
  have hcl : ∀ y ∈ sc.names, y.2 = .free → ∃ c, X.env.cells.lookup y.1 = some c := fun y hy q => I.ok.has _ (ok.free y hy q)
  refine comprehension_at (use := none) rfl hfold (closure_ok hcl) ok.kind (fun y hy q => by rw [ok.uniq y hy, q]) (thn (hi.run pins s σ H _ I h) fun uv sA hA => thn hA fun ui sB hB => ?_)
  obtain ⟨it, fp, tn, J, HB, q, IB, TT, stB, fB, go_⟩ := hB
  subst q
  refine wpAny_newObj_type (newEnv_comp ?_) (by show 0 ≤ sizeLine; decide)
  generalize hD : sB.heap.objs.size = D
  have hDn : HB D = none := IB.hok.fresh (Nat.le_of_eq hD)
  obtain ⟨Wn, ⟨n0, w0⟩, turn⟩ := go_ D hDn
  generalize hsC : ({ sB with heap := sB.heap.push { cls := .type "list", data := .seq ([] : List Value).toArray } } : Shared) = sC
  have heapC : sC.heap = sB.heap.push { cls := .type "list", data := .seq ([] : List Value).toArray } := by rw [← hsC]
  have IC : Inv X pins σ (upd HB D (.lst [])) sC := by
    rw [← hsC]
    exact IB.laid (t' := sB.toks) (fun b o z => Heap.get?_push_of_some _ z) (Nat.le_of_eq hD) ⟨Nat.zero_le _, [], 0, .nil, by rw [← hD]; exact Heap.get?_push_size _ rfl⟩
  have below : ∀ b ∈ fp, b < sB.heap.objs.size := fun b hb => Heap.lt_size (TT.obj _ _ stB b hb).choose_spec.1
  have fC : ∀ b ∈ fp, FpOk X pins (upd HB D (.lst [])) b ∧ b < sC.heap.objs.size := fun b hb =>
    ⟨⟨(upd_ne (hD ▸ Nat.ne_of_lt (below b hb))).trans (fB b hb).1, (fB b hb).2⟩, by rw [heapC, Heap.size_push]; exact Nat.lt_succ_of_lt (below b hb)⟩
  have stC : tn 0 sC.heap := TT.keep _ _ _ stB fun b _ o z => by rw [heapC]; exact Heap.get?_push_of_some _ z
  have ID := block_start IC ok hN fC
  have hgC := hg sC (upd HB D (.lst [])) sC.heap.objs.size (cellsFrom (sC.heap.objs.size + 1) sc.names (cloFrom X.env.cells sc.names [])) fp
  have heC := he sC (upd HB D (.lst [])) sC.heap.objs.size (cellsFrom (sC.heap.objs.size + 1) sc.names (cloFrom X.env.cells sc.names [])) fp
  have freeC : ∀ b ∈ fp, (upd HB D (.lst [])) b = none := fun b hb => (fC b hb).1.1
  show codeAny _ _ (.compStart (.ListComp elt [⟨tg, src, [], 0⟩] sc pos) 0 (.ref it) (.ref D) (compEnvC sc (cellsFrom (sC.heap.objs.size + 1) sc.names (cloFrom X.env.cells sc.names [])) sC.heap.objs.size X.env)) (compEnds (model X.prog X.w) X.A X.xe none _ (.ref D) (compEnvC sc (cellsFrom (sC.heap.objs.size + 1) sc.names (cloFrom X.env.cells sc.names [])) sC.heap.objs.size X.env)) { sC with heap := pushCells (sC.heap.push { cls := .type "dict", data := .dict #[] }) sc.names }
  generalize hce : compEnvC sc (cellsFrom (sC.heap.objs.size + 1) sc.names (cloFrom X.env.cells sc.names [])) sC.heap.objs.size X.env = ce at ID hgC heC ⊢
  have cL : ce.locals = sC.heap.objs.size := by subst hce; rfl
  have cF : ce.frame = X.env.frame := by subst hce; rfl
  generalize upd HB D (.lst []) = HC at IC ID hgC heC w0 freeC fC
  generalize hsD : ({ sC with heap := pushCells (sC.heap.push { cls := .type "dict", data := .dict #[] }) sc.names } : Shared) = sD at ID ⊢
  have stD : tn 0 sD.heap := TT.keep _ _ _ stC fun b _ o z => by rw [← hsD]; exact pushCells_keeps _ _ _ _ (Heap.get?_push_of_some _ z)
  -- the element in its own context
  have peC := heC (notedBy (model X.prog X.w) X.A ce (CompFails (model X.prog X.w) X.A X.xe ce)) fun pins2 σ2 H2 s2 u s' Ib cc =>
    leaves_block tk (fun cls d Hq z => hW cls d σ Hq z) hs hf cF cL IC (fun b hb => (fC b hb).1) Ib cc
  have onIt : ∀ {σq : L2.St} {Hq : Hp} {sq : Shared}, Inv (X.blk sC HC sc ce fp) [] σq Hq sq → (∀ b ∈ fp, Hq b = none) → ∀ b ∈ fp, FpOk (X.blk sC HC sc ce fp) [] Hq b := fun {σq Hq sq} Iq nq b hb =>
    ⟨nq b hb, (Iq.ok.exf b hb).1, Iq.ok.exfs b hb, .inl hb, fun x c z => (Iq.ok.exf b hb).2 x c z, fun p hp => by cases hp⟩
  have loop : codeAny (model X.prog X.w) X.A (.compLoop (.ListComp elt [⟨tg, src, [], 0⟩] sc pos) 0 (.ref it) (.ref D) ce) (compEnds (model X.prog X.w) X.A X.xe none (fun v s' => ∃ x Hq, Inv X pins σ Hq s' ∧ RelV x v ∧ Q x Hq) (.ref D) ce) sD := by
    refine compLoop_any (fun n sq => ∃ i Hq, Inv (X.blk sC HC sc ce fp) [] (wipe σ (own.map (·.2))) Hq sq ∧ tn i sq.heap ∧ (∀ b ∈ fp, Hq b = none) ∧ Wn i n Hq) ?_ n0 ⟨0, HC, ID, stD, freeC, w0⟩
    rintro n s5 ⟨i, H5, I5, st5, f5, w5⟩
    rcases turn i n H5 w5 with ⟨atEnd, qq⟩ | ⟨atTurn, Nx, hNx, step⟩
    · refine thnF (TT.done (X.blk sC HC sc ce fp) rfl rfl rfl hc i [] s5 _ H5 (fun _ _ => False) I5 (onIt I5 f5) st5 atEnd) fun o s6 ⟨ho, I6⟩ => ?_
      subst ho
      have I7 : Inv X pins σ H5 s6 := IC.call' (ch := fp) I6.os I6.base I6.hok I6.bare fun b hb => by
        obtain ⟨z, _⟩ := fC b hb
        exact ⟨z.2.2.2.1, z.2.1, z.2.2.2.2.1, z.2.2.2.2.2⟩
      have nC : H5 sC.heap.objs.size = none := by have z : H5 ce.locals = none := I6.free; rwa [cL] at z
      obtain ⟨m, hm, _⟩ := I6.loc
      have hm : s6.heap.Ns ce.locals m := hm
      refine ⟨m, hm, fun h' sb => ?_⟩
      rw [cL] at sb
      obtain ⟨g0, g1, g2, g3, g4, g5⟩ := IC.fpOk (H' := H5) (Nat.le_refl _) nC
      exact ⟨.ref D, H5, I7.turned (t' := s6.toks) (fun b o hb z => (sb.2 b hb).trans z) g0 g1 g3 g4 g5, rfl, qq⟩
    · refine thnF (TT.item (X.blk sC HC sc ce fp) rfl rfl rfl hc i [] s5 _ H5 (fun _ _ => False) I5 (onIt I5 f5) st5 atTurn) fun o s6 ⟨u, ho, h6⟩ => ?_
      subst ho
      refine thnF h6 fun _ s7 ⟨x, H7, I7, r7, y7, st7, n7⟩ => ?_
      have Ip := I7.pinned (onIt I7 n7) (TT.obj _ _ st7)
      refine thnF (hgC.run _ s7 _ H7 x u _ Ip r7 (step x H7 y7)) fun _ s8 ⟨σ8, H8, I8, e8, q8⟩ => ?_
      refine wpAny_tests_nil ?_
      have q8 : te σ8 H8 fun y H4 => ∃ acc, H4 D = some (.lst acc) ∧ acc.length < sizeLine ∧ Nx (upd H4 D (.lst (acc ++ [y]))) := q8
      have Ix : Inv (blkX X sC HC sc ce fp (notedBy (model X.prog X.w) X.A ce (CompFails (model X.prog X.w) X.A X.xe ce))) ([] ++ pinsAt fp s7.heap) σ8 H8 s8 :=
        ⟨I8.ok.toTry _ _, I8.os, I8.bare, I8.base, I8.loc, I8.cell, I8.free, I8.freeC, I8.pin, I8.hok, I8.len⟩
      refine wpAny_mono (peC.run _ s8 σ8 H8 _ Ix q8) (fun z s10 ⟨yv, HE, IE, rE, acc, hDE, hzE, nx⟩ => ?_) fun _ _ z => z
      have IE' : Inv (X.blk sC HC sc ce fp) ([] ++ pinsAt fp s7.heap) σ8 HE s10 := ⟨I8.ok, IE.os, IE.bare, IE.base, IE.loc, IE.cell, IE.free, IE.freeC, IE.pin, IE.hok, IE.len⟩
      refine app_ok (X := X.blk sC HC sc ce fp) IE' hDE hzE rE fun s11 I11 => ?_
      obtain ⟨n', hn', w'⟩ := hNx _ nx
      have held : ∀ b ∈ fp, ∀ o, s7.heap.get? b = some o → s11.heap.get? b = some o ∧ (upd HE D (.lst (acc ++ [yv]))) b = none := fun b hb o z => by
        have y := I11.pin (b, o) (List.mem_append_right _ (List.mem_append_right _ (mem_pinsAt hb z)))
        exact ⟨y.1, y.2.1⟩
      refine ⟨n', hn', i + 1, _, (I11.unpinned (pins := [])).weak (by rw [← e8, wipe_length]) (fun j v z => ?_), TT.keep _ _ _ st7 fun b hb o z => (held b hb o z).1, fun b hb => ?_, w'⟩
      · rw [← e8] at z
        exact (wipe_some z).1
      · obtain ⟨o, z, _⟩ := TT.obj _ _ st7 b hb
        exact (held b hb o z).2
  exact codeAny_compStart_list loop (TT.self X.A 0 _ _ _ stD loop)
end
/-! ### streams -/
structure StreamF (K : PySem.W.Frag) (C : Addr) : Prop where
  cl : Cls K C
  nW : NoAttr K C "whole"
  nL : NoAttr K C "left"
  nT : NoAttr K C "told"
def sFs (wh l t : Int) : List (Str × V) := [(("whole" : Str), V.int wh), (("left" : Str), V.int l), (("told" : Str), V.int t)]
/-- a stream: whole, what is left, how many were told -/
def StrmO (C dx : Addr) (wh l t : Int) : HO := .ins C dx (sFs wh l t)
theorem k_wl : ¬ (("whole" : Str) = "left") := by decide +kernel
theorem k_wt : ¬ (("whole" : Str) = "told") := by decide +kernel
theorem k_lt : ¬ (("left" : Str) = "told") := by decide +kernel
theorem sFs_make (wh l t : Int) : putF "told" (.int t) (putF "left" (.int l) (putF "whole" (.int wh) [])) = sFs wh l t := by
  show (if ("whole" : Str) = "told" then _ else (("whole" : Str), V.int wh) :: putF "told" (.int t) [(("left" : Str), V.int l)]) = _
  rw [if_neg k_wt]
  show (("whole" : Str), V.int wh) :: (if ("left" : Str) = "told" then _ else (("left" : Str), V.int l) :: [(("told" : Str), V.int t)]) = _
  rw [if_neg k_lt]
  rfl
theorem sFs_make2 (wh l : Int) : putF "left" (.int l) (putF "whole" (.int wh) []) = [(("whole" : Str), V.int wh), (("left" : Str), V.int l)] := by
  show (if ("whole" : Str) = "left" then _ else (("whole" : Str), V.int wh) :: [(("left" : Str), V.int l)]) = _
  rw [if_neg k_wl]
theorem sFs_left (wh l t z : Int) : putF "left" (.int z) (sFs wh l t) = sFs wh z t := by
  show (if ("whole" : Str) = "left" then _ else (("whole" : Str), V.int wh) :: (if ("left" : Str) = "left" then (("left" : Str), V.int z) :: [(("told" : Str), V.int t)] else _)) = _
  rw [if_neg k_wl, if_pos rfl]
  rfl
theorem sFs_told (wh l t z : Int) : putF "told" (.int z) (sFs wh l t) = sFs wh l z := by
  show (if ("whole" : Str) = "told" then _ else (("whole" : Str), V.int wh) :: (if ("left" : Str) = "told" then _ else (("left" : Str), V.int l) :: (if ("told" : Str) = "told" then (("told" : Str), V.int z) :: [] else _))) = _
  rw [if_neg k_wt, if_neg k_lt, if_pos rfl]
  rfl
theorem sFs_no {wh l t : Int} {m : Str} (h1 : ¬ m = "whole") (h2 : ¬ m = "left") (h3 : ¬ m = "told") : (sFs wh l t).lookup m = none := by
  rw [← sFs_make, lookup_putF, if_neg h3, lookup_putF, if_neg h2, lookup_putF, if_neg h1]
  rfl
theorem sFs_gw {wh l t : Int} : (sFs wh l t).lookup ("whole" : Str) = some (.int wh) := by
  rw [← sFs_make, lookup_putF, if_neg k_wt, lookup_putF, if_neg k_wl, lookup_putF, if_pos rfl]
theorem sFs_gl {wh l t : Int} : (sFs wh l t).lookup ("left" : Str) = some (.int l) := by
  rw [← sFs_make, lookup_putF, if_neg k_lt, lookup_putF, if_pos rfl]
theorem sFs_gt {wh l t : Int} : (sFs wh l t).lookup ("told" : Str) = some (.int t) := by
  rw [← sFs_make, lookup_putF, if_pos rfl]
/-- pulses of a list of shares -/
def plB (wh : Int) (ss : List Int) (k : Nat) : Int := (ss.take (k + 1)).sum / wh - (ss.take k).sum / wh
def plL (wh : Int) (ss : List Int) : List Int := (List.range ss.length).map (plB wh ss)
theorem plL_len (wh : Int) (ss : List Int) : (plL wh ss).length = ss.length := by simp [plL]
theorem plB_next {wh : Int} (hw : 0 < wh) {ss : List Int} {k : Nat} {z : Int} (h : ss[k]? = some z) : plB wh ss k = ((ss.take k).sum % wh + z) / wh ∧ ((ss.take k).sum % wh + z) % wh = (ss.take (k + 1)).sum % wh := by
  unfold plB
  rw [sum_take h]
  generalize (ss.take k).sum = S
  have e := Int.mul_ediv_add_emod S wh
  have q : S + z = (S % wh + z) + wh * (S / wh) := by omega
  rw [q, Int.add_mul_ediv_left _ _ (show wh ≠ 0 by omega), Int.add_mul_emod_self_left]
  exact ⟨by omega, rfl⟩
def lamQn (x : Str) : Str := x ++ ".<locals>." ++ "<lambda>"
/-! ### classes whose methods refuse -/
section
variable {X : Cx} {k j : Nat} {x : Str} {p pos : Pos} {e : Expr} {es : List Expr} {t : TA} {sp : Sp} {C : Addr} {E : XK}
theorem pe_mkT (c : ClI X.prog X.w X.K X.mg X.base (L2.CX X.prog X.w) k x C sp) (hr : Room j X.A) (hk : k + 1 ≤ j) (hx : Passes (L2.CX X.prog X.w) X E) (hg : Gl X x) (ha : PA X (e :: es) t)
    (hdb : (x == ("__debug__" : Str)) = false := by decide) (he : starEach (e :: es) X.env = (false, eval e X.env) :: starEach es X.env := by rfl) (hpl : (backTo pos (starEach es X.env)).any (·.1) = false := by rfl) :
    PE X (.Call (.Name x p) (e :: es) [] pos) (tMake C sp [] E t) := by
  obtain ⟨f, fd, ps, M, F, hm, b⟩ := c.ex
  exact pe_make M F (hr.mono hk) hg hm b .nil hx ha hdb he hpl
theorem pe_mkG (c : ClI X.prog X.w X.K X.mg X.base (L2.CX X.prog X.w) k x C sp) (hr : Room j X.A) (hk : k + 1 ≤ j) (hg : Gl X x) (ha : PA X (e :: es) t)
    (hdb : (x == ("__debug__" : Str)) = false := by decide) (he : starEach (e :: es) X.env = (false, eval e X.env) :: starEach es X.env := by rfl) (hpl : (backTo pos (starEach es X.env)).any (·.1) = false := by rfl) :
    PE X (.Call (.Name x p) (e :: es) [] pos) (tMake C sp [] E0 t) := pe_mkT c hr hk passL hg ha hdb he hpl
end
/-! ### what stays: all but tables and S -/
def KT (S : List Addr) (H H' : Hp) : Prop := ∀ b o, b ∉ S → (∀ ps, o ≠ .tbl ps) → H b = some o → H' b = some o
section
variable {S S' : List Addr} {H H1 H2 : Hp} {st p : Addr} {o : HO}
theorem KT.refl (S : List Addr) (H : Hp) : KT S H H := fun _ _ _ _ e => e
theorem KT.trans (a : KT S H H1) (b : KT S H1 H2) : KT S H H2 := fun c o n t e => b c o n t (a c o n t e)
theorem KT.same (a : KT S H H1) (e : Same H1 H2) : KT S H H2 := fun c o n t q => e _ _ (a c o n t q)
theorem KT.keep (a : KT S H H1) (hs : st ∈ S) (k : Keep st H1 H2) : KT S H H2 := fun c o n t q => k c o (fun z => n (by rw [z]; exact hs)) (a c o n t q)
theorem KT.extN (a : KT S H H1) (e : ExtN H1 H2) : KT S H H2 := fun c o n t q => e c o (a c o n t q) t
theorem KT.at_ (a : KT S H H1) (hp : p ∈ S) : KT S H (upd H1 p o) := fun c u n t q => (upd_ne (fun z => n (by rw [z]; exact hp))).trans (a c u n t q)
theorem KT.mut (a : KT S H H1) (hp : H p = none) : KT S H (upd H1 p o) := fun c u n t q => (upd_ne (ne_of_none q hp)).trans (a c u n t q)
theorem KT.sub (a : KT S H H1) (h : ∀ b ∈ S, b ∈ S') : KT S' H H1 := fun c o n t q => a c o (fun z => n (h c z)) t q
theorem ne_by {a b : Addr} {u v : HO} (ha : H a = some u) (hb : H b = some v) (h : u ≠ v) : a ≠ b := fun z => h (by rw [z, hb] at ha; exact (Option.some.inj ha).symm)
theorem tabs_ins {T : List (Addr × Str)} {x C dx : Addr} {fs : List (Str × V)} (t : Tabs T H) (hs : H x = some (.ins C dx fs)) (e : Keep x H H1) : Tabs T H1 := fun p hp => by
  obtain ⟨ps, h1, h2, h3⟩ := t p hp
  refine ⟨ps, e _ _ (fun z => by rw [z, hs] at h1; cases h1) h1, h2, fun pos cv hc => ?_⟩
  obtain ⟨c, e1, e2⟩ := h3 pos cv hc
  exact ⟨c, e1, e _ _ (fun z => by rw [z, hs] at e2; unfold CodeO at e2; cases e2) e2⟩
end
/-- a side: the stream, its whole, the sum of shares, all shares -/
structure SD where
  p : Addr
  x : Addr
  dx : Addr
  l : Addr
  wh : Int
  ss : List Int
structure Side (C : Addr) (H : Hp) (d : SD) : Prop where
  p : H d.p = some (.lst [.ref d.x, .int d.wh, .int d.ss.sum, .ref d.l])
  x : H d.x = some (StrmO C d.dx d.wh (d.ss.sum % d.wh) (d.ss.sum / d.wh))
  l : H d.l = some (.lst (d.ss.map V.int))
  w0 : 1 ≤ d.wh
  w1 : d.wh ≤ 1000000000000
  ok : ∀ s ∈ d.ss, 0 ≤ s ∧ s ≤ d.wh
theorem strm_tbl {C dx : Addr} {w l t : Int} (ps : Array Value) : StrmO C dx w l t ≠ .tbl ps := fun z => by unfold StrmO at z; cases z
theorem strm_lst {C dx : Addr} {w l t : Int} (xs : List V) : StrmO C dx w l t ≠ .lst xs := fun z => by unfold StrmO at z; cases z
theorem side_ints {x l : Addr} {w s : Int} (ns : List Int) : HO.lst [.ref x, .int w, .int s, .ref l] ≠ .lst (ns.map V.int) := fun z => by
  have z := HO.lst.inj z
  cases ns with
  | nil => cases z
  | cons n ns => cases z
theorem side_st {x l a : Addr} {w s i m c : Int} : HO.lst [.ref x, .int w, .int s, .ref l] ≠ StO a i m c := fun z => by unfold StO at z; cases z
theorem ints_st {a : Addr} {i m c : Int} (ns : List Int) : HO.lst (ns.map V.int) ≠ StO a i m c := fun z => by
  unfold StO at z
  have z := HO.lst.inj z
  cases ns with
  | nil => cases z
  | cons n ns => cases z
theorem strm_st {C dx a : Addr} {w l t i m c : Int} : StrmO C dx w l t ≠ StO a i m c := fun z => by unfold StrmO StO at z; cases z
theorem Side.kt {C : Addr} {S : List Addr} {H H' : Hp} {d : SD} (h : Side C H d) (k : KT S H H') (hp : d.p ∉ S) (hx : d.x ∉ S) (hl : d.l ∉ S) : Side C H' d :=
  ⟨k _ _ hp (fun _ z => nomatch z) h.p, k _ _ hx strm_tbl h.x, k _ _ hl (fun _ z => nomatch z) h.l, h.w0, h.w1, h.ok⟩
theorem Side.same {C : Addr} {H H' : Hp} {d : SD} (h : Side C H d) (e : Same H H') : Side C H' d := h.kt (S := []) ((KT.refl [] H).same e) (by simp) (by simp) (by simp)
theorem Side.px {C : Addr} {H : Hp} {d : SD} (h : Side C H d) : d.p ≠ d.x := (ne_by h.x h.p (strm_lst _)).symm
theorem Side.pl {C : Addr} {H : Hp} {d : SD} (h : Side C H d) : d.p ≠ d.l := ne_by h.p h.l (side_ints _)
theorem Side.xl {C : Addr} {H : Hp} {d : SD} (h : Side C H d) : d.x ≠ d.l := ne_by h.x h.l (strm_lst _)
section
variable {K : PySem.W.Frag} {C a st : Addr} {ns : List Int} {H G H1 H2 : Hp} {d : SD}
theorem Side.nst (h : Side C H d) (s : SOk K a ns st H) : d.p ≠ st ∧ d.x ≠ st ∧ d.l ≠ st := by
  obtain ⟨i, m, c, _, hs⟩ := s.at_
  exact ⟨ne_by h.p hs side_st, ne_by h.x hs strm_st, ne_by h.l hs (ints_st _)⟩
theorem SOk.into (s : SOk K a ns st H1) (hq : SqL K (noTab G) a (ns.map V.int)) (hst : noTab G st = none) (e : Same (noTab G) H2) (h : ∀ o, H1 st = some o → H2 st = some o) : SOk K a ns st H2 := by
  obtain ⟨i, m, c, d, hs⟩ := s.at_
  exact ⟨s.len, fun H' k' => (e.keepAll hst k').seq hq, i, m, c, d, h _ hs⟩
end
theorem div_step {w S z : Int} (h : 1 ≤ w) : (S % w + z) / w = (S + z) / w - S / w ∧ (S % w + z) % w = (S + z) % w := by
  have e := Int.mul_ediv_add_emod S w
  have q : S + z = (S % w + z) + w * (S / w) := by omega
  rw [q, Int.add_mul_ediv_left _ _ (show w ≠ 0 by omega), Int.add_mul_emod_self_left]
  exact ⟨by omega, rfl⟩
theorem cutV_to {ns : List Int} {k : Nat} : cutV (ns.map V.int) none (some (k : Int)) = (ns.take k).map V.int := by
  unfold cutV
  rw [HT.sIx_none, HT.sIx_nat, List.length_map, List.drop_zero, Nat.sub_zero, ← List.map_take]
  congr 1
  by_cases h : k ≤ ns.length
  · rw [Nat.min_eq_left h]
  · rw [Nat.min_eq_right (by omega), List.take_of_length_le (Nat.le_refl _), List.take_of_length_le (by omega)]
theorem cutN_from (ns : List Int) {k : Nat} : cutV (ns.map V.int) (some (k : Int)) none = (ns.drop k).map V.int := by
  unfold cutV
  rw [HT.sIx_none, HT.sIx_nat, List.map_drop]
  by_cases h : k ≤ ns.length
  · rw [Nat.min_eq_left (by rw [List.length_map]; exact h)]
    exact List.take_of_length_le (by rw [List.length_drop]; exact Nat.le_refl _)
  · rw [List.length_map, Nat.min_eq_right (by omega), Nat.sub_self, List.take_zero, List.drop_eq_nil_of_le (by rw [List.length_map]; omega)]
/-- all sides -/
structure Sds (C : Addr) (G : Hp) (Z : Addr) (sd : List SD) (n : Nat) (H : Hp) : Prop where
  z : H Z = some (.lst (sd.map fun d => V.ref d.p))
  each : ∀ d ∈ sd, Side C H d ∧ noTab G d.p = none ∧ noTab G d.x = none ∧ noTab G d.l = none ∧ d.ss.length ≤ n
  apart : sd.Pairwise fun d e => d.p ≠ e.p ∧ d.x ≠ e.x ∧ d.l ≠ e.l
theorem refs_st {sd : List SD} {a : Addr} {i m c : Int} : HO.lst (sd.map fun d => V.ref d.p) ≠ StO a i m c := fun z => by
  unfold StO at z
  have z := HO.lst.inj z
  match sd, z with
  | [], z => cases z
  | [_], z => cases z
  | _ :: _ :: _, z => cases z
theorem refs_side {sd : List SD} {x l : Addr} {w s : Int} : HO.lst (sd.map fun d => V.ref d.p) ≠ .lst [.ref x, .int w, .int s, .ref l] := fun z => by
  have z := HO.lst.inj z
  match sd, z with
  | [], z => cases z
  | [_], z => cases z
  | _ :: _ :: _, z => cases z
theorem refs_ints {d : SD} {sd : List SD} (ns : List Int) : HO.lst ((d :: sd).map fun d => V.ref d.p) ≠ .lst (ns.map V.int) := fun z => by
  have z := HO.lst.inj z
  cases ns with
  | nil => cases z
  | cons n ns => cases z
section
variable {K : PySem.W.Frag} {C Z a st : Addr} {ns : List Int} {H G H1 H2 : Hp} {sd : List SD} {d d0 d1 : SD} {n m : Nat}
theorem Sds.kt {S : List Addr} (h : Sds C G Z sd n H) (k : KT S H H1) (hZ : Z ∉ S) (hS : ∀ d ∈ sd, d.p ∉ S ∧ d.x ∉ S ∧ d.l ∉ S) : Sds C G Z sd n H1 :=
  ⟨k _ _ hZ (fun _ z => nomatch z) h.z, fun d hd => by
    obtain ⟨h1, h2⟩ := h.each d hd
    obtain ⟨a1, a2, a3⟩ := hS d hd
    exact ⟨h1.kt k a1 a2 a3, h2⟩, h.apart⟩
theorem Sds.same (h : Sds C G Z sd n H) (e : Same H H1) : Sds C G Z sd n H1 := h.kt (S := []) ((KT.refl [] H).same e) (by simp) (fun _ _ => by simp)
theorem Sds.nZ (h : Sds C G Z sd n H) (s : SOk K a ns st H) : Z ≠ st := by
  obtain ⟨i, m, c, _, hs⟩ := s.at_
  exact ne_by h.z hs refs_st
theorem Sds.kst (h : Sds C G Z sd n H) (s : SOk K a ns st H) (k : KT [st] H H1) : Sds C G Z sd n H1 := h.kt k (by simpa using h.nZ s) fun d hd => by
  obtain ⟨a1, a2, a3⟩ := (h.each d hd).1.nst s
  exact ⟨by simpa using a1, by simpa using a2, by simpa using a3⟩
theorem Sds.mono (h : Sds C G Z sd n H) (hm : n ≤ m) : Sds C G Z sd m H := ⟨h.z, fun d hd => by
  obtain ⟨h1, h2, h3, h4, h5⟩ := h.each d hd
  exact ⟨h1, h2, h3, h4, Nat.le_trans h5 hm⟩, h.apart⟩
/-- one more side, and the list of sides written -/
theorem Sds.push (h : Sds C G Z sd n H) (e : Same H H1) (hd : Side C H1 d) (g1 : noTab G d.p = none) (g2 : noTab G d.x = none) (g3 : noTab G d.l = none) (hl : d.ss.length ≤ n) (f1 : H d.p = none) (f2 : H d.x = none) (f3 : H d.l = none) :
    Sds C G Z (sd ++ [d]) n (upd H1 Z (.lst ((sd.map fun d => V.ref d.p) ++ [.ref d.p]))) := by
  have nZ : ∀ {b : Addr}, H b = none → b ≠ Z := fun {b} hb => (ne_of_none h.z hb).symm
  have up : ∀ {x : SD}, Side C H1 x → x.p ≠ Z → x.x ≠ Z → x.l ≠ Z → Side C (upd H1 Z (.lst ((sd.map fun d => V.ref d.p) ++ [.ref d.p]))) x := fun {x} hx q1 q2 q3 => hx.kt (S := [Z]) ((KT.refl [Z] H1).at_ (by simp)) (by simpa using q1) (by simpa using q2) (by simpa using q3)
  refine ⟨by rw [upd_same, List.map_append]; rfl, fun x hx => ?_, ?_⟩
  · rcases List.mem_append.mp hx with q | q
    · obtain ⟨h1, h2⟩ := h.each x q
      refine ⟨up (h1.same e) (ne_by h.z h1.p refs_side).symm (ne_by h1.x h.z (strm_lst _)) (fun z => ?_), h2⟩
      cases sd with
      | nil => cases q
      | cons y ys => exact ne_by h.z h1.l (refs_ints _) z.symm
    · rw [List.mem_singleton] at q
      subst q
      exact ⟨up hd (nZ f1) (nZ f2) (nZ f3), g1, g2, g3, hl⟩
  · rw [List.pairwise_append]
    refine ⟨h.apart, List.pairwise_singleton _ _, fun x hx y hy => ?_⟩
    rw [List.mem_singleton] at hy
    subst hy
    have h1 := (h.each x hx).1
    exact ⟨ne_of_none h1.p f1, ne_of_none h1.x f2, ne_of_none h1.l f3⟩
/-- two sides, one of them a beat on -/
theorem Sds.two (h : Sds C G Z [d0, d1] n H) (s : SOk K a ns st H) (hd : d = d0 ∨ d = d1) {z : Int} (k : KT [st, d.p, d.x, d.l] H H1) (hs : Side C H1 { d with ss := d.ss ++ [z] }) : ∃ sd, Sds C G Z sd (n + 1) H1 ∧ sd.length = 2 := by
  have e0 := h.each d0 (by simp)
  have e1 := h.each d1 (by simp)
  obtain ⟨a1, a2, a3⟩ := (List.pairwise_cons.mp h.apart).1 d1 (by simp)
  have s0 := e0.1.nst s
  have s1 := e1.1.nst s
  have nZ := h.nZ s
  have zl : ∀ {x : SD}, Side C H x → Z ≠ x.p ∧ Z ≠ x.x ∧ Z ≠ x.l := fun {x} hx => ⟨ne_by h.z hx.p refs_side, (ne_by hx.x h.z (strm_lst _)).symm, ne_by h.z hx.l (refs_ints _)⟩
  have pl01 : d0.p ≠ d1.l := ne_by e0.1.p e1.1.l (side_ints _)
  have pl10 : d1.p ≠ d0.l := ne_by e1.1.p e0.1.l (side_ints _)
  have px01 : d0.p ≠ d1.x := (ne_by e1.1.x e0.1.p (strm_lst _)).symm
  have px10 : d1.p ≠ d0.x := (ne_by e0.1.x e1.1.p (strm_lst _)).symm
  have xl01 : d0.x ≠ d1.l := ne_by e0.1.x e1.1.l (strm_lst _)
  have xl10 : d1.x ≠ d0.l := ne_by e1.1.x e0.1.l (strm_lst _)
  rcases hd with rfl | rfl
  · obtain ⟨z1, z2, z3⟩ := zl e0.1
    refine ⟨[{ d with ss := d.ss ++ [z] }, d1], ⟨k _ _ (by simp [nZ, z1, z2, z3]) (fun _ z => nomatch z) h.z, fun x hx => ?_, ?_⟩, rfl⟩
    · simp only [List.mem_cons, List.not_mem_nil, or_false] at hx
      rcases hx with rfl | rfl
      · exact ⟨hs, e0.2.1, e0.2.2.1, e0.2.2.2.1, by show (d.ss ++ [z]).length ≤ n + 1; rw [List.length_append]; exact Nat.succ_le_succ e0.2.2.2.2⟩
      · exact ⟨e1.1.kt k (by simp [s1.1, a1.symm, px10, pl10]) (by simp [s1.2.1, px01.symm, a2.symm, xl10]) (by simp [s1.2.2, pl01.symm, xl01.symm, a3.symm]), e1.2.1, e1.2.2.1, e1.2.2.2.1, Nat.le_succ_of_le e1.2.2.2.2⟩
    · exact List.pairwise_cons.mpr ⟨fun x hx => by rw [List.mem_singleton] at hx; subst hx; exact ⟨a1, a2, a3⟩, List.pairwise_singleton _ _⟩
  · obtain ⟨z1, z2, z3⟩ := zl e1.1
    refine ⟨[d0, { d with ss := d.ss ++ [z] }], ⟨k _ _ (by simp [nZ, z1, z2, z3]) (fun _ z => nomatch z) h.z, fun x hx => ?_, ?_⟩, rfl⟩
    · simp only [List.mem_cons, List.not_mem_nil, or_false] at hx
      rcases hx with rfl | rfl
      · exact ⟨e0.1.kt k (by simp [s0.1, a1, px01, pl01]) (by simp [s0.2.1, px10.symm, a2, xl01]) (by simp [s0.2.2, pl10.symm, xl10.symm, a3]), e0.2.1, e0.2.2.1, e0.2.2.2.1, Nat.le_succ_of_le e0.2.2.2.2⟩
      · exact ⟨hs, e1.2.1, e1.2.2.1, e1.2.2.2.1, by show (d.ss ++ [z]).length ≤ n + 1; rw [List.length_append]; exact Nat.succ_le_succ e1.2.2.2.2⟩
    · exact List.pairwise_cons.mpr ⟨fun x hx => by rw [List.mem_singleton] at hx; subst hx; exact ⟨a1, a2, a3⟩, List.pairwise_singleton _ _⟩
theorem sd_at {i : Nat} {y : V} (h : (sd.map fun d => V.ref d.p)[i]? = some y) : ∃ d ∈ sd, y = .ref d.p := by
  rw [List.getElem?_map] at h
  obtain ⟨d, hd, e⟩ := Option.map_eq_some_iff.mp h
  exact ⟨d, List.mem_of_getElem? hd, e.symm⟩
end
structure Txt (K : PySem.W.Frag) (mg : Str → Option Value) : Prop where
  g_BadBegins : mg "BadBegins" = some (.ref (He.ga K "BadBegins"))
  g_BadFrame : mg "BadFrame" = some (.ref (He.ga K "BadFrame"))
  g_BadRuns : mg "BadRuns" = some (.ref (He.ga K "BadRuns"))
  g_BadShare : mg "BadShare" = some (.ref (He.ga K "BadShare"))
  x_BadShare : ExF K mg "BadShare"
  g_BadText : mg "BadText" = some (.ref (He.ga K "BadText"))
  g_BadWidth : mg "BadWidth" = some (.ref (He.ga K "BadWidth"))
  k_MOST_WHOLE : ∃ u, mg "MOST_WHOLE" = some u ∧ RelV (.int 1000000000000) u
  g_NoRoom : mg "NoRoom" = some (.ref (He.ga K "NoRoom"))
  g_PulseError : mg "PulseError" = some (.ref (He.ga K "PulseError"))
  b_ValueError : mg "ValueError" = none
  b_bool : mg "bool" = none
  b_divmod : mg "divmod" = none
  b_int : mg "int" = none
  b_isinstance : mg "isinstance" = none
  b_len : mg "len" = none
  b_list : mg "list" = none
  b_min : mg "min" = none
  b_range : mg "range" = none
  b_str : mg "str" = none
  b_sum : mg "sum" = none
  b_tuple : mg "tuple" = none
section
variable {P : Program} {w : World} {K : PySem.W.Frag} {mg : Str → Option Value} {base : Heap}
abbrev s_law_start : Stmt := top 14
theorem sc_law_start : FnScope ["_law_script", "_law_mixed", "_law_cell"] ["_law_script"] (defScope s_law_start) := ⟨rfl, rfl, rfl, by decide +kernel, rfl, by decide +kernel, by decide +kernel⟩
/-- _law_start(script): a new good state -/
def spStart (K : PySem.W.Frag) : Sp := fun vs H Q _ => ∃ (a : Addr) (ns : List Int), vs = [.ref a] ∧ SqL K H a (ns.map V.int) ∧ ∀ (st : Addr) (m : Int), H st = none → Drw 0 m 0 → Q (.ref st) (upd H st (StO a 0 m 0))
theorem ok_law_start {f : Addr} {fd : FuncData} (F : FunG K mg "_law_start" s_law_start f fd ["_law_script"]) : FnOk P w K mg base CX0 1 f fd ["_law_script"] (spStart K) := by
  refine F.fn.ok sc_law_start (fun vs H Q E h => ?_) (fun cdv A outer s H vs Q E hr h => ?_)
  · obtain ⟨a, ns, rfl, _⟩ := h
    rfl
  · obtain ⟨a, ns, rfl, hS, k⟩ := h
    refine ⟨_, (pss_cons (ps_set (i := 1) sc_law_start.nd rfl (.inl rfl) pe_int)
      (pss_cons (ps_for PassesOwn.never (by rfl) (pi_list (pv 0)) (pg_name (i := 2) sc_law_start.nd rfl (.inl rfl)) (pss_one (ps_set (i := 1) sc_law_start.nd rfl (.inl rfl) (pe_op op_mod (pe_op op_add (pe_op op_add (pe_op op_mulW (pv 1) pe_int) (pv 2)) pe_int) pe_int))))
      (pss_one (ps_ret (pe_lst (pa_cons (pv 0) (pa_cons pe_int (pa_cons (pv 1) (pa_cons pe_int pa_nil))))))))), ?_⟩
    refine ⟨_, rfl, a, rfl, ⟨_, hS⟩, for_list (K := K) (a := a) (xs := ns.map V.int) (fun i σ H' => ∃ (m : Int) (v : Option V), σ = [some (.ref a), some (.int m), v] ∧ H' = H ∧ 0 ≤ m ∧ m < 2147483647)
      ⟨1, none, rfl, rfl, by decide, by decide⟩ (fun i σ H' _ ⟨_, _, _, e, _⟩ => e ▸ hS) ?_ ?_⟩
    · rintro i y σ H' hi ⟨m, v, rfl, rfl, m0, m1⟩
      obtain ⟨z, hz, rfl⟩ := getV hi
      refine ⟨_, rfl, _, _, rfl, rfl, wide_mul (a := 31) (b := 17) (by omega) (by decide) (by decide) (by decide) (by decide), _, rfl, _, _, rfl, rfl, _, _, rfl, rfl, _, _, rfl, rfl, (by show (0 : Int) < 2147483647; decide), ?_⟩
      exact ⟨_, _, rfl, rfl, Int.emod_nonneg _ (by decide), Int.emod_lt_of_pos _ (by decide)⟩
    · rintro σ H' ⟨m, v, rfl, rfl, m0, m1⟩
      refine ⟨_, rfl, _, rfl, (by show 4 ≤ sizeLine; decide), fun p hp => ?_⟩
      exact k p m hp ⟨Int.le_refl _, m0, m1, Int.le_refl _⟩
abbrev s_law_drawn : Stmt := top 15
theorem sc_law_drawn : FnScope ["_law_state", "_law_many", "_law_found", "_law_cell"] ["_law_state", "_law_many"] (defScope s_law_drawn) := ⟨rfl, rfl, rfl, by decide +kernel, rfl, by decide +kernel, by decide +kernel⟩
/-- _law_drawn(state, many): some number from 0 on below many; the state is good behind it, all else as it was -/
def spDrawn (K : PySem.W.Frag) : Sp := fun vs H Q _ => ∃ (st a : Addr) (ns : List Int) (many : Int), vs = [.ref st, .int many] ∧ SOk K a ns st H ∧ 0 < many ∧ many < 2 ^ 200 ∧
  ∀ r i m c : Int, 0 ≤ r → r < many → Drw i m c → Q (.int r) (upd H st (StO a i m c))
theorem SOk.drawn {K : PySem.W.Frag} {a st : Addr} {ns : List Int} {H : Hp} (s : SOk K a ns st H) {i m c : Int} (d : Drw i m c) : SOk K a ns st (upd H st (StO a i m c)) := s.keep (Keep.refl st H).atSt d upd_same
theorem ok_law_drawn {f : Addr} {fd : FuncData} (F : FunG K mg "_law_drawn" s_law_drawn f fd ["_law_state", "_law_many"]) (T : Txt K mg) : FnOk P w K mg base CX0 1 f fd ["_law_state", "_law_many"] (spDrawn K) := by
  refine F.fn.ok sc_law_drawn (fun vs H Q E h => ?_) (fun cdv A outer s H vs Q E hr h => ?_)
  · obtain ⟨st, a, ns, many, rfl, _⟩ := h
    rfl
  · obtain ⟨st, a, ns, many, rfl, hs, m0, m1, k⟩ := h
    obtain ⟨i, m, c, d, hst⟩ := hs.at_
    have hdiv : ∀ x : Int, CDivW x many := fun x => wide_div (b := 200) m0 (by omega) (by decide) (by decide)
    have hl : H st = some (.lst [.ref a, .int i, .int m, .int c]) := hst
    refine ⟨_, (pss_cons (ps_if (pt_cmpR op_gt (pe_ix (ixL K) (pv 0) pe_int (fun _ _ => rfl)) pe_int (nomark _)) (pss_cons (ps_set (i := 2) sc_law_drawn.nd rfl (.inl rfl) (pe_op op_mod (pe_ix (ixL K) (pv 0) pe_int (fun _ _ => rfl)) (pv 1)))
      (pss_cons (ps_asg (pe_op op_fdivW (pe_ix (ixL K) (pv 0) pe_int (fun _ _ => rfl)) (pv 1)) (pg_sub (pv 0) pe_int set_list))
      (pss_one (ps_ret (pv 2))))) pss_nil)
      (pss_cons (ps_asg (pe_op op_add (pe_ix (ixL K) (pv 0) pe_int (fun _ _ => rfl)) pe_int) (pg_sub (pv 0) pe_int set_list))
      (pss_cons (ps_if (pt_cmpR op_le (pe_ix (ixL K) (pv 0) pe_int (fun _ _ => rfl)) (pe_callB (clLen K) (by rfl) T.b_len (by decide +kernel) (pa_cons (pe_ix (ixL K) (pv 0) pe_int (fun _ _ => rfl)) pa_nil)) (nomark _)) (pss_cons (ps_set (i := 3) sc_law_drawn.nd rfl (.inl rfl) (pe_ix (ixL K) (pe_ix (ixL K) (pv 0) pe_int (fun _ _ => rfl)) (pe_op op_sub (pe_ix (ixL K) (pv 0) pe_int (fun _ _ => rfl)) pe_int) (fun _ _ => rfl)))
      (pss_cons (ps_asg (pe_ifExp (pt_cmpR op_ge (pv 3) (pe_op op_pow pe_int pe_int) (nomark _)) (pe_op op_fdivW (pv 3) (pv 1)) pe_int) (pg_sub (pv 0) pe_int set_list))
      (pss_one (ps_ret (pe_op op_mod (pv 3) (pv 1)))))) pss_nil)
      (pss_cons (ps_asg (pe_op op_mod (pe_op op_add (pe_op op_mulW (pe_ix (ixL K) (pv 0) pe_int (fun _ _ => rfl)) pe_int) pe_int) pe_int) (pg_sub (pv 0) pe_int set_list))
      (pss_one (ps_ret (pe_op op_mod (pe_op op_fdivW (pe_ix (ixL K) (pv 0) pe_int (fun _ _ => rfl)) pe_int) (pv 1)))))))), ?_⟩
    refine ⟨_, rfl, _, _, _, _, rfl, rfl, SqL.of hl, rfl, _, _, rfl, rfl, _, rfl, ?_⟩
    refine ite2 (fun hc => ?_) (fun hc => ?_)
    · have hc : 0 < c := of_decide_eq_true hc
      refine ⟨_, rfl, _, _, _, _, rfl, rfl, SqL.of hl, rfl, _, rfl, _, _, rfl, rfl, m0, ?_⟩
      refine ⟨_, rfl, _, _, _, _, rfl, rfl, SqL.of hl, rfl, _, rfl, _, _, rfl, rfl, hdiv _, _, rfl, st, _, _, 3, rfl, rfl, hl, rfl, ?_⟩
      refine ⟨_, rfl, ?_⟩
      exact k (c % many) i m (c / many) (Int.emod_nonneg _ (by omega)) (Int.emod_lt_of_pos _ m0) ⟨d.i0, d.m0, d.m1, Int.ediv_nonneg d.c0 (by omega)⟩
    · refine ⟨_, rfl, _, _, _, _, rfl, rfl, SqL.of hl, rfl, _, _, rfl, rfl, _, rfl, st, _, _, 1, rfl, rfl, hl, rfl, ?_⟩
      have hl1 : (upd H st (.lst [.ref a, .int (i + 1), .int m, .int c])) st = some (.lst [.ref a, .int (i + 1), .int m, .int c]) := upd_same
      have hS1 : SqL K (upd H st (.lst [.ref a, .int (i + 1), .int m, .int c])) a (ns.map V.int) := hs.sq _ (Keep.refl st H).atSt
      refine ⟨_, rfl, _, _, _, _, rfl, rfl, SqL.of hl1, rfl, _, rfl, _, _, _, _, rfl, rfl, SqL.of hl1, rfl, _, _, rfl, .inl hS1, _, _, rfl, rfl, _, rfl, ?_⟩
      refine ite2 (fun hb => ?_) (fun hb => ?_)
      · have hb : i + 1 ≤ ((ns.map V.int).length : Int) := of_decide_eq_true hb
        rw [List.length_map] at hb
        have i0 := d.i0
        refine ⟨_, rfl, _, _, _, _, rfl, rfl, SqL.of hl1, rfl, _, rfl, _, _, _, _, rfl, rfl, SqL.of hl1, rfl, _, _, rfl, rfl, _, _, _, _, rfl, rfl, hS1, atV (j := i.toNat) (by omega) (by omega), ?_⟩
        refine ⟨_, rfl, _, _, rfl, rfl, ⟨by decide, by decide, by decide⟩, _, _, rfl, rfl, _, rfl, ?_⟩
        generalize ns.getD i.toNat 0 = z
        refine ite2 (fun hz => ?_) (fun hz => ?_)
        · have hz : (10 : Int) ^ (18 : Int).toNat ≤ z := of_decide_eq_true hz
          have z0 : 0 ≤ z := Int.le_trans (by decide) hz
          refine ⟨_, rfl, _, rfl, _, _, rfl, rfl, hdiv _, _, rfl, st, _, _, 3, rfl, rfl, hl1, rfl, ?_⟩
          refine ⟨_, rfl, _, rfl, _, _, rfl, rfl, m0, ?_⟩
          rw [upd_upd]
          exact k (z % many) (i + 1) m (z / many) (Int.emod_nonneg _ (by omega)) (Int.emod_lt_of_pos _ m0) ⟨by omega, d.m0, d.m1, Int.ediv_nonneg z0 (by omega)⟩
        · refine ⟨_, rfl, st, _, _, 3, rfl, rfl, hl1, rfl, ?_⟩
          refine ⟨_, rfl, _, rfl, _, _, rfl, rfl, m0, ?_⟩
          rw [upd_upd]
          exact k (z % many) (i + 1) m 0 (Int.emod_nonneg _ (by omega)) (Int.emod_lt_of_pos _ m0) ⟨by omega, d.m0, d.m1, Int.le_refl _⟩
      · refine ⟨_, rfl, _, _, _, _, rfl, rfl, SqL.of hl1, rfl, _, _, rfl, rfl, wide_mul (a := 31) (b := 17) (by have := d.m0; have := d.m1; omega) (by decide) (by decide) (by decide) (by decide), _, _, rfl, rfl, _, _, rfl, rfl, (by show (0 : Int) < 2147483647; decide), _, rfl, st, _, _, 2, rfl, rfl, hl1, rfl, ?_⟩
        rw [upd_upd]
        have n0 := Int.emod_nonneg (m * 48271 + 11) (show (2147483647 : Int) ≠ 0 by decide)
        have n1 := Int.emod_lt_of_pos (m * 48271 + 11) (show (0 : Int) < 2147483647 by decide)
        have hl2 : (upd H st (.lst [.ref a, .int (i + 1), .int ((m * 48271 + 11) % 2147483647), .int c])) st = some (.lst [.ref a, .int (i + 1), .int ((m * 48271 + 11) % 2147483647), .int c]) := upd_same
        refine ⟨_, rfl, _, _, _, _, rfl, rfl, SqL.of hl2, rfl, _, _, rfl, rfl, wide_div (b := 3) (by decide) (by decide) (by decide) (by decide), _, rfl, _, _, rfl, rfl, m0, ?_⟩
        have i0 := d.i0
        exact k ((m * 48271 + 11) % 2147483647 / 7 % many) (i + 1) ((m * 48271 + 11) % 2147483647) c (Int.emod_nonneg _ (by omega)) (Int.emod_lt_of_pos _ m0) ⟨by omega, n0, n1, d.c0⟩
end
end My

namespace My
open PySem PySem.Spec PyProof.Rows LamX L2
section
variable {P : Program} {w : World} {K : PySem.W.Frag} {mg : Str → Option Value} {base : Heap}
abbrev s_law_kind : Stmt := top 17
theorem sc_law_kind : FnScope ["_law_work", "e", "_law_kinds", "_law_words", "_law_word"] ["_law_work"] (defScope s_law_kind) := ⟨rfl, rfl, rfl, by decide +kernel, rfl, by decide +kernel, by decide +kernel⟩
/-- the errors' names -/
def kindW : List Str := ["BadFrame", "BadShare", "BadWidth", "BadBegins", "BadRuns", "NoRoom", "BadText"]
/-- the class of the name x is the j-th of these -/
structure ErrK (K : PySem.W.Frag) (x : Str) (j : Nat) : Prop where
  exc : ExcC K (He.ga K x)
  pe : PySem.W.exmOne K (.ref (He.ga K x)) (.ref (He.ga K "PulseError")) = some true
  k0 : PySem.W.kitOne K (.ref (He.ga K x)) (.ref (He.ga K "BadFrame")) = some (decide (j = 0))
  k1 : PySem.W.kitOne K (.ref (He.ga K x)) (.ref (He.ga K "BadShare")) = some (decide (j = 1))
  k2 : PySem.W.kitOne K (.ref (He.ga K x)) (.ref (He.ga K "BadWidth")) = some (decide (j = 2))
  k3 : PySem.W.kitOne K (.ref (He.ga K x)) (.ref (He.ga K "BadBegins")) = some (decide (j = 3))
  k4 : PySem.W.kitOne K (.ref (He.ga K x)) (.ref (He.ga K "BadRuns")) = some (decide (j = 4))
  k5 : PySem.W.kitOne K (.ref (He.ga K x)) (.ref (He.ga K "NoRoom")) = some (decide (j = 5))
  k6 : PySem.W.kitOne K (.ref (He.ga K x)) (.ref (He.ga K "BadText")) = some (decide (j = 6))
  ve : PySem.W.kitOne K (.ref (He.ga K x)) (.type "ValueError") = some true
  lt : j < 6
  nm : kindW[j]? = some x
/-- _law_kind's making of what it got: its answer, or the error's name -/
def TKind (K : PySem.W.Frag) : (XK → Hp → VK → Prop) → Hp → VK → Prop := fun tl H Q =>
  tl (fun cls d H' => ∃ (x : Str) (j : Nat), cls = .ref (He.ga K x) ∧ d = none ∧ ErrK K x j ∧ ∀ H'', Same H' H'' → Q (.str x) H'') H Q
theorem kind_gives {X : Cx} (T : Txt X.K X.mg) {g : Addr} {cdg : Value} {q : Str} : GivesTo X ["_law_work", "e", "_law_kinds", "_law_words", "_law_word"] "_law_kind" (defScope s_law_kind) g cdg (defBody s_law_kind) "_law_work" q (TKind X.K) := by
  intro f c' s H Q tl act hc h
  refine ⟨_, pss_one (ps_try_as (X := (cxOf C8.CX0 X.prog X.w X.K X.mg X.base ["_law_work", "e", "_law_kinds", "_law_words", "_law_word"] "_law_kind" (defScope s_law_kind) g cdg X.A X.stack s H C8.E0).nox) (i := 1) (c := .ref (He.ga X.K "PulseError"))
      (tb := fun W D σ H => ∃ Ech : XK, (∀ cls d σ' H', Ech cls d H' → W cls d σ' H') ∧ σ[0]? = some (some (.ref f)) ∧ H c' = some (CodeO c' q) ∧ tl Ech H D.rt)
      rfl rfl sc_law_kind.nd rfl (by rfl) ⟨rfl, by decide, .inl T.g_PulseError⟩ L2.takes0 (fun W pn xe tk _ => ?_) (fun a oe cls d pn hz hf => pss_len 5 (pss_cons (ps_set (i := 2) sc_law_kind.nd rfl (.inl rfl) (pe_lst (pa_cons (pe_callB (call_isK hz hf) (by rfl) T.b_isinstance (by decide +kernel) (pa_cons (pv 1) (pa_cons (pe_glob (v := .ref (He.ga X.K "BadFrame")) (by rfl) T.g_BadFrame rfl) pa_nil))) (pa_cons (pe_callB (call_isK hz hf) (by rfl) T.b_isinstance (by decide +kernel) (pa_cons (pv 1) (pa_cons (pe_glob (v := .ref (He.ga X.K "BadShare")) (by rfl) T.g_BadShare rfl) pa_nil))) (pa_cons (pe_callB (call_isK hz hf) (by rfl) T.b_isinstance (by decide +kernel) (pa_cons (pv 1) (pa_cons (pe_glob (v := .ref (He.ga X.K "BadWidth")) (by rfl) T.g_BadWidth rfl) pa_nil))) (pa_cons (pe_callB (call_isK hz hf) (by rfl) T.b_isinstance (by decide +kernel) (pa_cons (pv 1) (pa_cons (pe_glob (v := .ref (He.ga X.K "BadBegins")) (by rfl) T.g_BadBegins rfl) pa_nil))) pa_nil))))))
      (pss_cons (ps_set (i := 2) sc_law_kind.nd rfl (.inl rfl) (pe_op op_cat (pv 2) (pe_lst (pa_cons (pe_callB (call_isK hz hf) (by rfl) T.b_isinstance (by decide +kernel) (pa_cons (pv 1) (pa_cons (pe_glob (v := .ref (He.ga X.K "BadRuns")) (by rfl) T.g_BadRuns rfl) pa_nil))) (pa_cons (pe_callB (call_isK hz hf) (by rfl) T.b_isinstance (by decide +kernel) (pa_cons (pv 1) (pa_cons (pe_glob (v := .ref (He.ga X.K "NoRoom")) (by rfl) T.g_NoRoom rfl) pa_nil))) (pa_cons (pe_callB (call_isK hz hf) (by rfl) T.b_isinstance (by decide +kernel) (pa_cons (pv 1) (pa_cons (pe_glob (v := .ref (He.ga X.K "BadText")) (by rfl) T.g_BadText rfl) pa_nil))) pa_nil))))))
      (pss_cons (ps_set (i := 3) sc_law_kind.nd rfl (.inl rfl) (pe_lst (pa_cons pe_str (pa_cons pe_str (pa_cons pe_str (pa_cons pe_str (pa_cons pe_str (pa_cons pe_str (pa_cons pe_str pa_nil)))))))))
      (pss_cons (ps_if (PW.pt (pw_or (pt_cmpR op_ne (pe_bmK X.K PySem.F.plainAttrs_list PySem.F.slot_list_count PySem.F.type_list_count (mtCntK X.K) (pv 2) (pa_cons pe_bl pa_nil)) pe_int (nomark _)) (pw_or1 (pt_not (pt_val (pe_callB (call_isK hz hf) (by rfl) T.b_isinstance (by decide +kernel) (pa_cons (pv 1) (pa_cons (pe_bltn (v := .ty "ValueError") (u := .type "ValueError") (by rfl) T.b_ValueError (by decide +kernel) rfl) pa_nil)))))))) (pss_one (ps_ret pe_str)) pss_nil)
      (pss_cons (ps_set (i := 4) sc_law_kind.nd rfl (.inl rfl) (pe_ix (ixL X.K) (pv 3) (pe_bmK X.K PySem.F.plainAttrs_list PySem.F.slot_list_index PySem.F.type_list_index (mtIndexK X.K) (pv 2) (pa_cons pe_bl pa_nil)) (fun _ _ => rfl)))
      (pss_one (ps_ret (pe_ifExp (pt_cmpR op_eq (pv 4) pe_str (nomark _)) (pe_tup (pa_cons (pv 4) (pa_cons pe_nev pa_nil))) (pv 4))))))))))), ?_⟩
  · refine ⟨fun pins s' σ H' D I h' => ?_⟩
    obtain ⟨Ech, hW, h1, h2, h3⟩ := h'
    exact (pss_one (ps_ret (act W pn xe Ech _ _ tk hW))).run pins s' σ H' D I ⟨h1, h2, h3⟩
  · refine ⟨fun cls d H' => ∃ (x : Str) (j : Nat), cls = .ref (He.ga X.K x) ∧ d = none ∧ ErrK X.K x j ∧ ∀ H'', Same H' H'' → Q (.str x) H'', ?_, rfl, hc, h⟩
    rintro cls d σ' H' ⟨x, j, rfl, rfl, E, k⟩
    refine ⟨true, E.pe, fun _ a ha hlen => ?_, fun z => nomatch z⟩
    rw [List.length_set] at hlen
    obtain ⟨v0, v1, v2, v3, v4, rfl⟩ := five hlen
    have hj := E.lt
    refine ⟨_, rfl, _, _, _, _, rfl, rfl, E.exc, rfl, (fun _ h => h), E.k0, _, rfl, _, _, _, _, rfl, rfl, E.exc, rfl, (fun _ h => h), E.k1, _, rfl, _, _, _, _, rfl, rfl, E.exc, rfl, (fun _ h => h), E.k2, _, rfl, _, _, _, _, rfl, rfl, E.exc, rfl, (fun _ h => h), E.k3, (by show 4 ≤ sizeLine; decide), fun p1 hp1 => ?_⟩
    have e1 : Same H' (upd H' p1 (.lst [.bl (decide (j = 0)), .bl (decide (j = 1)), .bl (decide (j = 2)), .bl (decide (j = 3))])) := Same.upd hp1
    have h1 : upd H' p1 (.lst [.bl (decide (j = 0)), .bl (decide (j = 1)), .bl (decide (j = 2)), .bl (decide (j = 3))]) p1 = some (.lst [.bl (decide (j = 0)), .bl (decide (j = 1)), .bl (decide (j = 2)), .bl (decide (j = 3))]) := upd_same
    generalize upd H' p1 (.lst [.bl (decide (j = 0)), .bl (decide (j = 1)), .bl (decide (j = 2)), .bl (decide (j = 3))]) = H1 at e1 h1
    refine ⟨_, rfl, _, rfl, _, _, _, _, rfl, rfl, E.exc, rfl, (fun _ h => h), E.k4, _, rfl, _, _, _, _, rfl, rfl, E.exc, rfl, (fun _ h => h), E.k5, _, rfl, _, _, _, _, rfl, rfl, E.exc, rfl, (fun _ h => h), E.k6, (by show 3 ≤ sizeLine; decide), fun p2 hp2 => ?_⟩
    have e2 : Same H' (upd H1 p2 (.lst [.bl (decide (j = 4)), .bl (decide (j = 5)), .bl (decide (j = 6))])) := e1.new hp2
    have h12 : upd H1 p2 (.lst [.bl (decide (j = 4)), .bl (decide (j = 5)), .bl (decide (j = 6))]) p1 = _ := (upd_ne (ne_of_none h1 hp2)).trans h1
    have h2 : upd H1 p2 (.lst [.bl (decide (j = 4)), .bl (decide (j = 5)), .bl (decide (j = 6))]) p2 = some (.lst [.bl (decide (j = 4)), .bl (decide (j = 5)), .bl (decide (j = 6))]) := upd_same
    generalize upd H1 p2 (.lst [.bl (decide (j = 4)), .bl (decide (j = 5)), .bl (decide (j = 6))]) = H2 at e2 h12 h2
    refine ⟨_, _, _, _, rfl, rfl, h12, h2, (by show 7 ≤ sizeLine; decide), fun p3 hp3 => ?_⟩
    have e3 : Same H' (upd H2 p3 (.lst ([.bl (decide (j = 0)), .bl (decide (j = 1)), .bl (decide (j = 2)), .bl (decide (j = 3))] ++ [.bl (decide (j = 4)), .bl (decide (j = 5)), .bl (decide (j = 6))]))) := e2.new hp3
    have h3 : upd H2 p3 (.lst ([.bl (decide (j = 0)), .bl (decide (j = 1)), .bl (decide (j = 2)), .bl (decide (j = 3))] ++ [.bl (decide (j = 4)), .bl (decide (j = 5)), .bl (decide (j = 6))])) p3 = some (.lst [.bl (decide (j = 0)), .bl (decide (j = 1)), .bl (decide (j = 2)), .bl (decide (j = 3)), .bl (decide (j = 4)), .bl (decide (j = 5)), .bl (decide (j = 6))]) := upd_same
    generalize upd H2 p3 (.lst ([.bl (decide (j = 0)), .bl (decide (j = 1)), .bl (decide (j = 2)), .bl (decide (j = 3))] ++ [.bl (decide (j = 4)), .bl (decide (j = 5)), .bl (decide (j = 6))])) = H3 at e3 h3
    refine ⟨(by show 7 ≤ sizeLine; decide), fun p4 hp4 => ?_⟩
    have e4 : Same H' (upd H3 p4 (.lst [V.str "BadFrame", V.str "BadShare", V.str "BadWidth", V.str "BadBegins", V.str "BadRuns", V.str "NoRoom", V.str "BadText"])) := e3.new hp4
    have h34 : upd H3 p4 (.lst [V.str "BadFrame", V.str "BadShare", V.str "BadWidth", V.str "BadBegins", V.str "BadRuns", V.str "NoRoom", V.str "BadText"]) p3 = _ := (upd_ne (ne_of_none h3 hp4)).trans h3
    have h4 : upd H3 p4 (.lst [V.str "BadFrame", V.str "BadShare", V.str "BadWidth", V.str "BadBegins", V.str "BadRuns", V.str "NoRoom", V.str "BadText"]) p4 = some (.lst [V.str "BadFrame", V.str "BadShare", V.str "BadWidth", V.str "BadBegins", V.str "BadRuns", V.str "NoRoom", V.str "BadText"]) := upd_same
    have fin := k _ e4
    generalize upd H3 p4 (.lst [V.str "BadFrame", V.str "BadShare", V.str "BadWidth", V.str "BadBegins", V.str "BadRuns", V.str "NoRoom", V.str "BadText"]) = H4 at e4 h34 h4 fin
    have hnm := E.nm
    have six : j = 0 ∨ j = 1 ∨ j = 2 ∨ j = 3 ∨ j = 4 ∨ j = 5 := by omega
    rcases six with e | e | e | e | e | e <;> subst e <;> cases hnm
    · refine ⟨_, rfl, .inl ⟨rfl, _, SqL.of h34⟩, _, _, _, rfl, rfl, SqL.of h34, rfl, rfl, rfl, _, rfl, iteFe rfl ⟨_, rfl, _, _, _, _, rfl, rfl, E.exc, rfl, (fun _ h => h), E.ve, _, rfl, iteF ?_⟩⟩
      refine ⟨_, rfl, _, rfl, .inl ⟨rfl, _, SqL.of h34⟩, _, _, _, 0, _, rfl, rfl, SqL.of h34, rfl, rfl, rfl, rfl, noAhead [decide (0 = 0), decide (0 = 1), decide (0 = 2), decide (0 = 3), decide (0 = 4), decide (0 = 5), decide (0 = 6)] 0 (by decide), _, _, _, _, rfl, rfl, SqL.of h4, at_of (j := 0) rfl rfl, ?_⟩
      exact ⟨_, rfl, rfl, _, rfl, iteFe (by decide) ⟨_, rfl, fin⟩⟩
    · refine ⟨_, rfl, .inl ⟨rfl, _, SqL.of h34⟩, _, _, _, rfl, rfl, SqL.of h34, rfl, rfl, rfl, _, rfl, iteFe rfl ⟨_, rfl, _, _, _, _, rfl, rfl, E.exc, rfl, (fun _ h => h), E.ve, _, rfl, iteF ?_⟩⟩
      refine ⟨_, rfl, _, rfl, .inl ⟨rfl, _, SqL.of h34⟩, _, _, _, 1, _, rfl, rfl, SqL.of h34, rfl, rfl, rfl, rfl, noAhead [decide (1 = 0), decide (1 = 1), decide (1 = 2), decide (1 = 3), decide (1 = 4), decide (1 = 5), decide (1 = 6)] 1 (by decide), _, _, _, _, rfl, rfl, SqL.of h4, at_of (j := 1) rfl rfl, ?_⟩
      exact ⟨_, rfl, rfl, _, rfl, iteFe (by decide) ⟨_, rfl, fin⟩⟩
    · refine ⟨_, rfl, .inl ⟨rfl, _, SqL.of h34⟩, _, _, _, rfl, rfl, SqL.of h34, rfl, rfl, rfl, _, rfl, iteFe rfl ⟨_, rfl, _, _, _, _, rfl, rfl, E.exc, rfl, (fun _ h => h), E.ve, _, rfl, iteF ?_⟩⟩
      refine ⟨_, rfl, _, rfl, .inl ⟨rfl, _, SqL.of h34⟩, _, _, _, 2, _, rfl, rfl, SqL.of h34, rfl, rfl, rfl, rfl, noAhead [decide (2 = 0), decide (2 = 1), decide (2 = 2), decide (2 = 3), decide (2 = 4), decide (2 = 5), decide (2 = 6)] 2 (by decide), _, _, _, _, rfl, rfl, SqL.of h4, at_of (j := 2) rfl rfl, ?_⟩
      exact ⟨_, rfl, rfl, _, rfl, iteFe (by decide) ⟨_, rfl, fin⟩⟩
    · refine ⟨_, rfl, .inl ⟨rfl, _, SqL.of h34⟩, _, _, _, rfl, rfl, SqL.of h34, rfl, rfl, rfl, _, rfl, iteFe rfl ⟨_, rfl, _, _, _, _, rfl, rfl, E.exc, rfl, (fun _ h => h), E.ve, _, rfl, iteF ?_⟩⟩
      refine ⟨_, rfl, _, rfl, .inl ⟨rfl, _, SqL.of h34⟩, _, _, _, 3, _, rfl, rfl, SqL.of h34, rfl, rfl, rfl, rfl, noAhead [decide (3 = 0), decide (3 = 1), decide (3 = 2), decide (3 = 3), decide (3 = 4), decide (3 = 5), decide (3 = 6)] 3 (by decide), _, _, _, _, rfl, rfl, SqL.of h4, at_of (j := 3) rfl rfl, ?_⟩
      exact ⟨_, rfl, rfl, _, rfl, iteFe (by decide) ⟨_, rfl, fin⟩⟩
    · refine ⟨_, rfl, .inl ⟨rfl, _, SqL.of h34⟩, _, _, _, rfl, rfl, SqL.of h34, rfl, rfl, rfl, _, rfl, iteFe rfl ⟨_, rfl, _, _, _, _, rfl, rfl, E.exc, rfl, (fun _ h => h), E.ve, _, rfl, iteF ?_⟩⟩
      refine ⟨_, rfl, _, rfl, .inl ⟨rfl, _, SqL.of h34⟩, _, _, _, 4, _, rfl, rfl, SqL.of h34, rfl, rfl, rfl, rfl, noAhead [decide (4 = 0), decide (4 = 1), decide (4 = 2), decide (4 = 3), decide (4 = 4), decide (4 = 5), decide (4 = 6)] 4 (by decide), _, _, _, _, rfl, rfl, SqL.of h4, at_of (j := 4) rfl rfl, ?_⟩
      exact ⟨_, rfl, rfl, _, rfl, iteFe (by decide) ⟨_, rfl, fin⟩⟩
    · refine ⟨_, rfl, .inl ⟨rfl, _, SqL.of h34⟩, _, _, _, rfl, rfl, SqL.of h34, rfl, rfl, rfl, _, rfl, iteFe rfl ⟨_, rfl, _, _, _, _, rfl, rfl, E.exc, rfl, (fun _ h => h), E.ve, _, rfl, iteF ?_⟩⟩
      refine ⟨_, rfl, _, rfl, .inl ⟨rfl, _, SqL.of h34⟩, _, _, _, 5, _, rfl, rfl, SqL.of h34, rfl, rfl, rfl, rfl, noAhead [decide (5 = 0), decide (5 = 1), decide (5 = 2), decide (5 = 3), decide (5 = 4), decide (5 = 5), decide (5 = 6)] 5 (by decide), _, _, _, _, rfl, rfl, SqL.of h4, at_of (j := 5) rfl rfl, ?_⟩
      exact ⟨_, rfl, rfl, _, rfl, iteFe (by decide) ⟨_, rfl, fin⟩⟩
end
end My

namespace My
open PySem PySem.Spec PyProof.Rows LamX L2
section
variable {P : Program} {w : World} {K : PySem.W.Frag} {mg : Str → Option Value} {base : Heap}
abbrev s_Stream_init__ : Stmt := inClass (top 11) 0
theorem sc_Stream_init__ : FnScope ["self", "whole"] ["self", "whole"] (defScope s_Stream_init__) := ⟨rfl, rfl, rfl, by decide +kernel, rfl, by decide +kernel, by decide +kernel⟩
/-- Stream(whole), good or not -/
def spSInitX (K : PySem.W.Frag) (C : Addr) : Sp := fun vs H Q E => ∃ (p dx : Addr) (wh : Int), vs = [.ref p, .int wh] ∧ H p = some (.ins C dx []) ∧ ((1 ≤ wh ∧ wh ≤ 1000000000000 ∧ Q .non (upd H p (StrmO C dx wh 0 0))) ∨ (¬ (1 ≤ wh ∧ wh ≤ 1000000000000) ∧ E (.ref (He.ga K "BadShare")) none H))
theorem ok_Stream_init {C f : Addr} {fd : FuncData} (F : FunM K "__init__" "Stream.__init__" s_Stream_init__ f fd ["self", "whole"]) (T : Txt K mg) (S : StreamF K C) : FnOk P w K mg base (L2.CX P w) 1 f fd ["self", "whole"] (spSInitX K C) := by
  refine F.fn.okX sc_Stream_init__ (fun vs H Q E h => ?_) (fun cdv A outer s H vs Q E hr h => ?_)
  · obtain ⟨p, dx, wh, rfl, _⟩ := h
    rfl
  · obtain ⟨p, dx, wh, rfl, hp, k⟩ := h
    refine ⟨_, (pss_cons (ps_if (pt_not (pt_chain op_le op_le pe_int (pv 1) (C8.pe_gc (by rfl) T.k_MOST_WHOLE))) (pss_one (ps_raise (by rfl) (takes_of rfl rfl rfl rfl) (pmk_own PySem.F.excBase_ValueError T.x_BadShare.x T.x_BadShare.g T.x_BadShare.k (raises_own T.x_BadShare.b T.x_BadShare.t) (by rfl)))) pss_nil)
      (PSs.nox (pss_cons (ps_fld (pv 0) (pv 1) rfl)
      (pss_cons (ps_fld (pv 0) pe_int rfl)
      (pss_one (ps_fld (pv 0) pe_int rfl)))))), ?_⟩
    refine ⟨_, rfl, _, _, rfl, rfl, _, rfl, ?_⟩
    by_cases w0 : 1 ≤ wh
    · refine iteTe (decide_eq_true w0) ⟨_, _, rfl, rfl, _, rfl, ?_⟩
      by_cases w1 : wh ≤ 1000000000000
      · rcases k with ⟨_, _, k⟩ | ⟨z, _⟩
        · refine iteFe (c := !decide (wh ≤ 1000000000000)) (by rw [decide_eq_true w1]; rfl) ⟨_, rfl, _, rfl, p, C, dx, _, rfl, hp, S.cl, S.nW, (by show 0 < 1000; decide), ?_⟩
          refine ⟨_, rfl, p, C, dx, _, rfl, upd_same, S.cl, S.nL, (by show 1 < 1000; decide), ?_⟩
          rw [upd_upd]
          refine ⟨_, rfl, p, C, dx, _, rfl, upd_same, S.cl, S.nT, (by rw [sFs_make2]; show 2 < 1000; decide), ?_⟩
          rw [upd_upd, sFs_make]
          exact k
        · exact absurd ⟨w0, w1⟩ z
      · refine iteTe (c := !decide (wh ≤ 1000000000000)) (by rw [decide_eq_false w1]; rfl) ?_
        rcases k with ⟨_, z, _⟩ | ⟨_, k⟩
        · exact absurd z w1
        · exact k
    · refine iteFe (decide_eq_false w0) ⟨_, rfl, iteT ?_⟩
      rcases k with ⟨z, _⟩ | ⟨_, k⟩
      · exact absurd z w0
      · exact k
abbrev s_Stream_next : Stmt := inClass (top 11) 1
theorem sc_Stream_next : FnScope ["self", "share", "pulse"] ["self", "share"] (defScope s_Stream_next) := ⟨rfl, rfl, rfl, by decide +kernel, rfl, by decide +kernel, by decide +kernel⟩
/-- stream.next(share), good or not -/
def spSNextX (K : PySem.W.Frag) (C : Addr) : Sp := fun vs H Q E => ∃ (p dx : Addr) (wh l t sh : Int), vs = [.ref p, .int sh] ∧ H p = some (StrmO C dx wh l t) ∧ 1 ≤ wh ∧ wh ≤ 1000000000000 ∧
  ((0 ≤ sh ∧ sh ≤ wh ∧ ∀ H', Keep p H H' → H' p = some (StrmO C dx wh ((l + sh) % wh) (t + (l + sh) / wh)) → Q (.int ((l + sh) / wh)) H') ∨ (¬ (0 ≤ sh ∧ sh ≤ wh) ∧ E (.ref (He.ga K "BadShare")) none H))
theorem ok_Stream_next {C f : Addr} {fd : FuncData} (F : FunM K "next" "Stream.next" s_Stream_next f fd ["self", "share"]) (T : Txt K mg) (S : StreamF K C) : FnOk P w K mg base (L2.CX P w) 1 f fd ["self", "share"] (spSNextX K C) := by
  refine F.fn.okX sc_Stream_next (fun vs H Q E h => ?_) (fun cdv A outer s H vs Q E hr h => ?_)
  · obtain ⟨p, dx, wh, l, t, sh, rfl, _⟩ := h
    rfl
  · obtain ⟨p, dx, wh, l, t, sh, rfl, hp, w0, w1, k⟩ := h
    have hp : H p = some (.ins C dx (sFs wh l t)) := hp
    refine ⟨_, (pss_cons (ps_if (pt_not (pt_chain op_le op_le pe_int (pv 1) (pe_fld (pv 0) rfl))) (pss_one (ps_raise (by rfl) (takes_of rfl rfl rfl rfl) (pmk_own PySem.F.excBase_ValueError T.x_BadShare.x T.x_BadShare.g T.x_BadShare.k (raises_own T.x_BadShare.b T.x_BadShare.t) (by rfl)))) pss_nil)
      (PSs.nox (pss_cons (ps_asg (pe_callB call_divmodW (by rfl) T.b_divmod (by decide +kernel) (pa_cons (pe_op op_add (pe_fld (pv 0) rfl) (pv 1)) (pa_cons (pe_fld (pv 0) rfl) pa_nil))) (pg_tup (by rfl) (pgs_cons (pg_name (i := 2) sc_Stream_next.nd rfl (.inl rfl)) (pgs_cons (pg_fld (pv 0)) pgs_nil))))
      (pss_cons (ps_fld (pv 0) (pe_op op_add (pe_fld (pv 0) rfl) (pv 2)) rfl)
      (pss_one (ps_ret (pv 2))))))), ?_⟩
    refine ⟨_, rfl, _, _, rfl, rfl, _, rfl, ?_⟩
    by_cases s0 : 0 ≤ sh
    rotate_left 1
    · refine iteFe (decide_eq_false s0) ⟨_, rfl, iteT ?_⟩
      rcases k with ⟨z, _⟩ | ⟨_, k⟩
      · exact absurd z s0
      · exact k
    refine iteTe (decide_eq_true s0) ⟨_, rfl, p, C, dx, _, _, rfl, hp, S.cl, S.nW, sFs_gw, _, _, rfl, rfl, _, rfl, ?_⟩
    by_cases s1 : sh ≤ wh
    rotate_left 1
    · refine iteTe (c := !decide (sh ≤ wh)) (by rw [decide_eq_false s1]; rfl) ?_
      rcases k with ⟨_, z, _⟩ | ⟨_, k⟩
      · exact absurd z s1
      · exact k
    rcases k with ⟨_, _, k⟩ | ⟨z, _⟩
    rotate_left 1
    · exact absurd ⟨s0, s1⟩ z
    refine iteFe (c := !decide (sh ≤ wh)) (by rw [decide_eq_true s1]; rfl) ⟨_, rfl, p, C, dx, _, _, rfl, hp, S.cl, S.nL, sFs_gl, _, rfl, _, _, rfl, rfl, _, rfl, p, C, dx, _, _, rfl, hp, S.cl, S.nW, sFs_gw, _, _, rfl, divP (b := 41) (by omega) (by omega) (by decide) (by decide), fun q hq => ⟨_, _, rfl, SqT.of upd_same, rfl, ?_⟩⟩
    have npq : p ≠ q := ne_of_none hp hq
    have hp1 : upd H q (.tup [.int ((l + sh) / wh), .int ((l + sh) % wh)]) p = some (.ins C dx (sFs wh l t)) := by rw [upd_ne npq]; exact hp
    have k1 : Keep p H (upd H q (.tup [.int ((l + sh) / wh), .int ((l + sh) % wh)])) := (Keep.refl p H).new hq
    generalize upd H q (.tup [.int ((l + sh) / wh), .int ((l + sh) % wh)]) = H1 at hp1 k1
    refine ⟨_, _, rfl, _, _, rfl, _, rfl, p, C, dx, _, rfl, hp1, S.cl, S.nL, (by show 3 < 1000; decide), rfl, ?_⟩
    rw [sFs_left]
    have hp2 : upd H1 p (.ins C dx (sFs wh ((l + sh) % wh) t)) p = some (.ins C dx (sFs wh ((l + sh) % wh) t)) := upd_same
    refine ⟨_, rfl, p, C, dx, _, _, rfl, hp2, S.cl, S.nT, sFs_gt, _, rfl, _, _, rfl, rfl, _, rfl, p, C, dx, _, rfl, hp2, S.cl, S.nT, (by show 3 < 1000; decide), ?_⟩
    rw [sFs_told, upd_upd]
    exact ⟨_, rfl, k _ k1.atSt upd_same⟩
abbrev s_Stream_rest : Stmt := inClass (top 11) 2
theorem sc_Stream_rest : FnScope ["self"] ["self"] (defScope s_Stream_rest) := ⟨rfl, rfl, rfl, by decide +kernel, rfl, by decide +kernel, by decide +kernel⟩
/-- stream.rest() -/
def spSrest (C : Addr) : Sp := fun vs H Q _ => ∃ (p dx : Addr) (wh l t : Int), vs = [.ref p] ∧ H p = some (StrmO C dx wh l t) ∧ Q (.int l) H
theorem ok_Stream_rest {C f : Addr} {fd : FuncData} (F : FunM K "rest" "Stream.rest" s_Stream_rest f fd ["self"]) (S : StreamF K C) : FnOk P w K mg base CX0 1 f fd ["self"] (spSrest C) := by
  refine F.fn.ok sc_Stream_rest (fun vs H Q E h => ?_) (fun cdv A outer s H vs Q E hr h => ?_)
  · obtain ⟨p, dx, wh, l, t, rfl, _⟩ := h
    rfl
  · obtain ⟨p, dx, wh, l, t, rfl, hp, k⟩ := h
    have hp : H p = some (.ins C dx (sFs wh l t)) := hp
    refine ⟨_, (pss_one (ps_ret (pe_fld (pv 0) rfl))), ?_⟩
    exact ⟨_, rfl, p, C, dx, _, _, rfl, hp, S.cl, S.nL, sFs_gl, k⟩
abbrev s_Stream_pulses : Stmt := inClass (top 11) 3
theorem sc_Stream_pulses : FnScope ["self"] ["self"] (defScope s_Stream_pulses) := ⟨rfl, rfl, rfl, by decide +kernel, rfl, by decide +kernel, by decide +kernel⟩
/-- stream.pulses() -/
def spSpulses (C : Addr) : Sp := fun vs H Q _ => ∃ (p dx : Addr) (wh l t : Int), vs = [.ref p] ∧ H p = some (StrmO C dx wh l t) ∧ Q (.int t) H
theorem ok_Stream_pulses {C f : Addr} {fd : FuncData} (F : FunM K "pulses" "Stream.pulses" s_Stream_pulses f fd ["self"]) (S : StreamF K C) : FnOk P w K mg base CX0 1 f fd ["self"] (spSpulses C) := by
  refine F.fn.ok sc_Stream_pulses (fun vs H Q E h => ?_) (fun cdv A outer s H vs Q E hr h => ?_)
  · obtain ⟨p, dx, wh, l, t, rfl, _⟩ := h
    rfl
  · obtain ⟨p, dx, wh, l, t, rfl, hp, k⟩ := h
    have hp : H p = some (.ins C dx (sFs wh l t)) := hp
    refine ⟨_, (pss_one (ps_ret (pe_fld (pv 0) rfl))), ?_⟩
    exact ⟨_, rfl, p, C, dx, _, _, rfl, hp, S.cl, S.nT, sFs_gt, k⟩
abbrev s_law_far : Stmt := top 18
theorem sc_law_far : FnScope ["_law_state", "_law_least", "_law_most", "_law_far_here"] ["_law_state", "_law_least", "_law_most"] (defScope s_law_far) := ⟨rfl, rfl, rfl, by decide +kernel, rfl, by decide +kernel, by decide +kernel⟩
/-- _law_far(state, least, most): a number beyond -/
def spFar (K : PySem.W.Frag) : Sp := fun vs H Q _ => ∃ (st a : Addr) (ns : List Int) (lo hi : Int), vs = [.ref st, .int lo, .int hi] ∧ SOk K a ns st H ∧
  ∀ (v : Int) (H' : Hp), (v < lo ∨ hi < v) → Keep st H H' → SOk K a ns st H' → Q (.int v) H'
theorem ok_law_far {f : Addr} {fd : FuncData} (F : FunG K mg "_law_far" s_law_far f fd ["_law_state", "_law_least", "_law_most"]) (c_law_drawn : Cl P w K mg base CX0 1 "_law_drawn" (spDrawn K)) : FnOk P w K mg base CX0 2 f fd ["_law_state", "_law_least", "_law_most"] (spFar K) := by
  refine F.fn.ok sc_law_far (fun vs H Q E h => ?_) (fun cdv A outer s H vs Q E hr h => ?_)
  · obtain ⟨st, a, ns, lo, hi, rfl, _⟩ := h
    rfl
  · obtain ⟨st, a, ns, lo, hi, rfl, hs, k⟩ := h
    refine ⟨_, (pss_cons (ps_set (i := 3) sc_law_far.nd rfl (.inl rfl) (pe_ix (ixL K) (pe_lst (pa_cons pe_int (pa_cons pe_int (pa_cons (pe_op op_pow pe_int pe_int) pa_nil)))) (pe_cl c_law_drawn hr (by decide) (by rfl) (pa_cons (pv 0) (pa_cons pe_int pa_nil))) (fun _ _ => rfl)))
      (pss_one (ps_ret (pe_ix (ixL K) (pe_lst (pa_cons (pe_op op_sub (pe_op op_sub (pv 1) pe_int) (pe_cl c_law_drawn hr (by decide) (by rfl) (pa_cons (pv 0) (pa_cons (pv 3) pa_nil)))) (pa_cons (pe_op op_add (pe_op op_add (pv 2) pe_int) (pe_cl c_law_drawn hr (by decide) (by rfl) (pa_cons (pv 0) (pa_cons (pv 3) pa_nil)))) pa_nil))) (pe_cl c_law_drawn hr (by decide) (by rfl) (pa_cons (pv 0) (pa_cons pe_int pa_nil))) (fun _ _ => rfl))))), ?_⟩
    refine ⟨_, _, rfl, rfl, ⟨by decide, by decide, by decide⟩, (by show 3 ≤ sizeLine; decide), fun p3 hp3 => ?_⟩
    have s3 := hs.new (o := .lst [.int 1, .int 20, .int (10 ^ (29 : Int).toNat)]) hp3
    have n3 := hs.ne_of hp3
    refine ⟨_, rfl, st, a, ns, 3, rfl, s3, by decide, by decide, fun r i4 m4 c4 r0 r1 d4 => ?_⟩
    have s4 := s3.drawn d4
    have k4 : Keep st H (upd (upd H p3 (.lst [.int 1, .int 20, .int (10 ^ (29 : Int).toNat)])) st (StO a i4 m4 c4)) := ((Keep.refl st H).new hp3).atSt
    have hp4 : (upd (upd H p3 (.lst [.int 1, .int 20, .int (10 ^ (29 : Int).toNat)])) st (StO a i4 m4 c4)) p3 = some (.lst [.int 1, .int 20, .int (10 ^ (29 : Int).toNat)]) := by rw [upd_ne n3, upd_same]
    generalize upd (upd H p3 (.lst [.int 1, .int 20, .int (10 ^ (29 : Int).toNat)])) st (StO a i4 m4 c4) = H4 at s4 k4 hp4
    have hat : ∃ v : Int, atI [V.int 1, V.int 20, V.int (10 ^ (29 : Int).toNat)] r = some (.int v) ∧ 1 ≤ v ∧ v ≤ 10 ^ 29 := by
      rcases pick3 r0 r1 with e | e | e <;> subst e
      · exact ⟨_, rfl, by decide, by decide⟩
      · exact ⟨_, rfl, by decide, by decide⟩
      · exact ⟨_, rfl, by decide, by decide⟩
    obtain ⟨far, hfar, f0, f1⟩ := hat
    refine ⟨_, _, _, _, rfl, rfl, SqL.of hp4, hfar, ?_⟩
    refine ⟨_, rfl, _, _, rfl, rfl, _, rfl, _, rfl, st, a, ns, far, rfl, s4, by omega, Int.lt_of_le_of_lt f1 (by decide), fun r5 i5 m5 c5 r50 r51 d5 => ?_⟩
    have s5 := s4.drawn d5
    have k5 := k4.atSt (o := StO a i5 m5 c5)
    generalize upd H4 st (StO a i5 m5 c5) = H5 at s5 k5
    refine ⟨_, _, rfl, rfl, _, rfl, _, _, rfl, rfl, _, rfl, _, rfl, st, a, ns, far, rfl, s5, by omega, Int.lt_of_le_of_lt f1 (by decide), fun r6 i6 m6 c6 r60 r61 d6 => ?_⟩
    have s6 := s5.drawn d6
    have k6 := k5.atSt (o := StO a i6 m6 c6)
    generalize upd H5 st (StO a i6 m6 c6) = H6 at s6 k6
    refine ⟨_, _, rfl, rfl, (by show 2 ≤ sizeLine; decide), fun p7 hp7 => ?_⟩
    have s7 := s6.new (o := .lst [.int (lo - 1 - r5), .int (hi + 1 + r6)]) hp7
    have k7 := k6.new (o := .lst [.int (lo - 1 - r5), .int (hi + 1 + r6)]) hp7
    have n7 := s6.ne_of hp7
    refine ⟨_, rfl, st, a, ns, 2, rfl, s7, by decide, by decide, fun r8 i8 m8 c8 r80 r81 d8 => ?_⟩
    have s8 := s7.drawn d8
    have k8 := k7.atSt (o := StO a i8 m8 c8)
    have hp8 : (upd (upd H6 p7 (.lst [.int (lo - 1 - r5), .int (hi + 1 + r6)])) st (StO a i8 m8 c8)) p7 = some (.lst [.int (lo - 1 - r5), .int (hi + 1 + r6)]) := by rw [upd_ne n7, upd_same]
    generalize upd (upd H6 p7 (.lst [.int (lo - 1 - r5), .int (hi + 1 + r6)])) st (StO a i8 m8 c8) = H8 at s8 k8 hp8
    have hx : r8 = 0 ∨ r8 = 1 := by omega
    rcases hx with e | e <;> subst e
    · exact ⟨_, _, _, _, rfl, rfl, SqL.of hp8, at_of (j := 0) rfl rfl, k _ _ (.inl (by omega)) k8 s8⟩
    · exact ⟨_, _, _, _, rfl, rfl, SqL.of hp8, at_of (j := 1) rfl rfl, k _ _ (.inr (by omega)) k8 s8⟩
abbrev s_pulsed : Stmt := top 12
theorem sc_pulsed : FnScope ["whole", "shares", "stream", "share"] ["whole", "shares"] (defScope s_pulsed) := ⟨rfl, rfl, rfl, by decide +kernel, rfl, by decide +kernel, by decide +kernel⟩
/-- pulsed(whole, shares), good ones: a new list; others: BadShare -/
def spPulsedX (K : PySem.W.Frag) : Sp := fun vs H Q E => ∃ (wh : Int) (a : Addr) (ss : List Int), vs = [.int wh, .ref a] ∧ SqL K H a (ss.map V.int) ∧ ss.length ≤ 100000 ∧ 1 ≤ wh ∧ wh ≤ 1000000000000 ∧
  ((∀ s ∈ ss, 0 ≤ s ∧ s ≤ wh) → ∀ p H', Same H H' → H p = none → H' p = some (.lst ((plL wh ss).map V.int)) → Q (.ref p) H') ∧ ((¬ ∀ s ∈ ss, 0 ≤ s ∧ s ≤ wh) → ∀ H', Same H H' → E (.ref (He.ga K "BadShare")) none H')
theorem ok_pulsed {C f : Addr} {fd : FuncData} (F : FunG K mg "pulsed" s_pulsed f fd ["whole", "shares"]) (T : Txt K mg) (S : StreamF K C) (c_Stream : ClI P w K mg base (L2.CX P w) 1 "Stream" C (spSInitX K C)) (c_Stream_next : ClMt P w K mg base (L2.CX P w) 1 C "next" (spSNextX K C)) : FnOk P w K mg base (L2.CX P w) 3 f fd ["whole", "shares"] (spPulsedX K) := by
  obtain ⟨fn_, fdn, psn, M_Stream_next⟩ := c_Stream_next.ex
  refine F.fn.okX sc_pulsed (fun vs H Q E h => ?_) (fun cdv A outer s H vs Q E hr h => ?_)
  · obtain ⟨wh, a, ss, rfl, _⟩ := h
    rfl
  · obtain ⟨wh, a, ss, rfl, hS, hl, w0, w1, kg, kb⟩ := h
    refine ⟨_, (pss_cons (ps_set (i := 2) sc_pulsed.nd rfl (.inr rfl) (pe_mkT c_Stream hr (by decide) (passes_call (takes_of rfl rfl rfl rfl) (fun _ _ _ _ h => h)) (by rfl) (pa_cons (pv 0) pa_nil)))
      (pss_one (ps_ret (pe_lcX (own := [("share", 3)]) (g := gName 3) (by rfl) sc_pulsed.nd rfl rfl (takes_of rfl rfl rfl rfl) (fun _ _ _ _ h => h) (pi_list (pv 1)) (blkOk_by (own := [("share", 3)]) (N := ["whole", "shares", "stream", "share"]) (sc := defScope s_pulsed) (by decide +kernel)) (fun _ _ _ _ _ => (pg_name (i := 3) sc_pulsed.nd rfl (.inl rfl))) (fun _ _ _ _ _ _ hp => (pe_meth (pv 2) M_Stream_next.cl M_Stream_next.me M_Stream_next.ok (hr.mono (by decide)) M_Stream_next.b .nil hp (pa_cons (pv 3) pa_nil))))))), ?_⟩
    refine ⟨_, rfl, fun x dx nx ndx nex => ?_⟩
    refine ⟨x, dx, wh, rfl, upd_same, .inl ⟨w0, w1, rfl, ?_⟩⟩
    rw [upd_upd]
    have e1 : Same H (upd (upd H dx (.own x)) x (StrmO C dx wh 0 0)) := ((Same.refl H).mut ndx).mut nx
    have hx1 : upd (upd H dx (.own x)) x (StrmO C dx wh 0 0) x = some (StrmO C dx wh 0 0) := upd_same
    generalize upd (upd H dx (.own x)) x (StrmO C dx wh 0 0) = H1 at e1 hx1
    refine ⟨_, rfl, a, rfl, ⟨_, e1.seq hS⟩, fun D hD => ?_⟩
    have hDn : H D = none := e1.free hD
    have nxD : x ≠ D := ne_of_none hx1 hD
    refine lc_list (K := K) (a := a) (xs := ss.map V.int) (fun i H' => (∀ s ∈ ss.take i, 0 ≤ s ∧ s ≤ wh) ∧ Same H H' ∧ (∃ t, H' x = some (StrmO C dx wh ((ss.take i).sum % wh) t)) ∧ H' D = some (.lst (((List.range i).map (plB wh ss)).map V.int))) ⟨fun s hs => by simp at hs, e1.new hD, ⟨0, by rw [upd_ne nxD, hx1]; simp⟩, upd_same⟩ (fun i H' _ h => h.2.1.seq hS) ?_ ?_
    · rintro i y H' hi ⟨g2, e2, ⟨t, hx2⟩, hd2⟩
      obtain ⟨z, hz, rfl⟩ := getV hi
      have hi' : i < ss.length := (List.getElem?_eq_some_iff.mp hz).1
      obtain ⟨p1, p2⟩ := plB_next (wh := wh) (by omega) hz
      have hx2' : H' x = some (.ins C dx (sFs wh ((ss.take i).sum % wh) t)) := hx2
      refine ⟨rfl, _, rfl, x, dx, _, rfl, hx2', sFs_no (by decide +kernel) (by decide +kernel) (by decide +kernel), _, rfl, x, dx, wh, _, t, z, rfl, hx2, w0, w1, ?_⟩
      by_cases zz : 0 ≤ z ∧ z ≤ wh
      rotate_left 1
      · exact .inr ⟨zz, kb (fun q => zz (q z (List.mem_of_getElem? hz))) _ e2⟩
      refine .inl ⟨zz.1, zz.2, fun H3 k3 hx3 => ?_⟩
      have hd3 : H3 D = some (.lst (((List.range i).map (plB wh ss)).map V.int)) := k3 D _ nxD.symm hd2
      refine ⟨_, hd3, small_of (m := 100000) (by simp; omega), fun s hs => ?_, (e2.keepAll nx k3).mut hDn, ⟨_, by rw [upd_ne nxD, hx3, p2]⟩, ?_⟩
      · rw [List.take_succ, hz] at hs
        rcases List.mem_append.mp hs with q | q
        · exact g2 s q
        · have : s = z := by simpa using q
          subst this
          exact zz
      · rw [upd_same, List.range_succ, List.map_append, List.map_append, ← p1]
        rfl
    · rintro H' ⟨g2, e2, _, hd2⟩
      rw [List.length_map] at hd2 g2
      rw [List.take_length] at g2
      exact kg g2 D H' e2 hDn hd2
end
end My

namespace My
open PySem PySem.Spec PyProof.Rows LamX L2
section
variable {P : Program} {w : World} {K : PySem.W.Frag} {mg : Str → Option Value} {base : Heap}
abbrev s_law_same : Stmt := top 16
theorem sc_law_same : FnScope ["_law_found", "_law_due", "_law_k"] ["_law_found", "_law_due"] (defScope s_law_same) := ⟨rfl, rfl, rfl, by decide +kernel, rfl, by decide +kernel, by decide +kernel⟩
/-- the same data, at most so deep -/
inductive SameD (H : Hp) : Nat → V → V → Prop
  | non (n : Nat) : SameD H n .non .non
  | bl (n : Nat) (b : Bool) : SameD H n (.bl b) (.bl b)
  | int (n : Nat) (i : Int) : SameD H n (.int i) (.int i)
  | str (n : Nat) (x : Str) : SameD H n (.str x) (.str x)
  | lst (n : Nat) (a b : Addr) (xs ys : List V) : H a = some (.lst xs) → H b = some (.lst ys) → xs.length = ys.length → xs.length ≤ 1000 → (∀ (i : Nat) x y, xs[i]? = some x → ys[i]? = some y → SameD H n x y) → SameD H (n + 1) (.ref a) (.ref b)
  | tup (n : Nat) (a b : Addr) (xs ys : List V) : H a = some (.tup xs) → H b = some (.tup ys) → xs.length = ys.length → xs.length ≤ 1000 → (∀ (i : Nat) x y, xs[i]? = some x → ys[i]? = some y → SameD H n x y) → SameD H (n + 1) (.ref a) (.ref b)
theorem SameD.same {H H' : Hp} (e : Same H H') {n : Nat} {x y : V} (h : SameD H n x y) : SameD H' n x y := by
  induction h with
  | non n => exact .non n
  | bl n b => exact .bl n b
  | int n i => exact .int n i
  | str n x => exact .str n x
  | lst n a b xs ys ha hb hl hm hi ih => exact .lst n a b xs ys (e _ _ ha) (e _ _ hb) hl hm ih
  | tup n a b xs ys ha hb hl hm hi ih => exact .tup n a b xs ys (e _ _ ha) (e _ _ hb) hl hm ih
theorem SameD.ints {H : Hp} {a b : Addr} {ns : List Int} (ha : H a = some (.lst (ns.map V.int))) (hb : H b = some (.lst (ns.map V.int))) (hl : ns.length ≤ 1000) (n : Nat) : SameD H (n + 1) (.ref a) (.ref b) :=
  .lst n a b _ _ ha hb rfl (by rw [List.length_map]; exact hl) fun i x y h1 h2 => by
    rw [h1] at h2; cases h2
    obtain ⟨z, _, rfl⟩ := getV h1
    exact .int n z
/-- _law_same(found, due) of the same: True -/
def spSame (n : Nat) : Sp := fun vs H Q _ => ∃ x y : V, vs = [x, y] ∧ SameD H n x y ∧ ∀ H', Same H H' → Q (.bl true) H'
def spSameR : Nat → Sp
  | 0 => fun _ _ _ _ => False
  | n + 1 => spSame n
theorem cls_tl : Paired ClsV [V.ty "tuple", V.ty "list"] [Value.type "tuple", Value.type "list"] := .cons (.ty _) (.cons (.ty _) .nil)
theorem kitTL {K : PySem.W.Frag} {t : String} {b1 b2 : Bool} (h1 : kitB t "tuple" = some b1) (h2 : kitB t "list" = some b2) : PySem.W.kitAny K (.type t) [.type "tuple", .type "list"] = some (b1 || b2) := by
  refine kitAny_cons (kit_ty h1) (fun e => ?_) (fun e => by rw [e] <;> rfl)
  rw [e, Bool.false_or]
  refine kitAny_cons (kit_ty h2) (fun e => ?_) (fun e => by rw [e] <;> rfl)
  rw [e]
  exact kitAny_nil
theorem and_case {c : Prop} [Decidable c] {A B : Prop} (hc : ¬ c) (h : B) : if (decide c) = true then A else B := by
  rw [decide_eq_false hc]; exact iteF h
theorem same_mk {f : Addr} {fd : FuncData} (F : FunG K mg "_law_same" s_law_same f fd ["_law_found", "_law_due"]) (T : Txt K mg) (k n : Nat) (c_law_same : Cl P w K mg base CX0 k "_law_same" (spSameR n)) :
    FnOk P w K mg base CX0 (k + 1) f fd ["_law_found", "_law_due"] (spSame n) := by
  refine F.fn.ok sc_law_same (fun vs H Q E h => ?_) (fun cdv A outer s H vs Q E hr h => ?_)
  · obtain ⟨x, y, rfl, _⟩ := h
    rfl
  · obtain ⟨x, y, rfl, hs, q⟩ := h
    refine ⟨_, (pss_cons (ps_if (pt_val (pe_callB call_isiT (by rfl) T.b_isinstance (by decide +kernel) (pa_cons (pv 1) (pa_cons (pe_tup (pa_cons (pe_bltn (v := .ty "tuple") (u := .type "tuple") (by rfl) T.b_tuple (by decide +kernel) rfl) (pa_cons (pe_bltn (v := .ty "list") (u := .type "list") (by rfl) T.b_list (by decide +kernel) rfl) pa_nil))) pa_nil)))) (pss_cons (ps_if (PW.pt (pw_or (pt_not (pt_val (pe_callB call_isiT (by rfl) T.b_isinstance (by decide +kernel) (pa_cons (pv 0) (pa_cons (pe_tup (pa_cons (pe_bltn (v := .ty "tuple") (u := .type "tuple") (by rfl) T.b_tuple (by decide +kernel) rfl) (pa_cons (pe_bltn (v := .ty "list") (u := .type "list") (by rfl) T.b_list (by decide +kernel) rfl) pa_nil))) pa_nil))))) (pw_or1 (pt_cmpR op_ne (pe_callB call_isi (by rfl) T.b_isinstance (by decide +kernel) (pa_cons (pv 0) (pa_cons (pe_bltn (v := .ty "list") (u := .type "list") (by rfl) T.b_list (by decide +kernel) rfl) pa_nil))) (pe_callB call_isi (by rfl) T.b_isinstance (by decide +kernel) (pa_cons (pv 1) (pa_cons (pe_bltn (v := .ty "list") (u := .type "list") (by rfl) T.b_list (by decide +kernel) rfl) pa_nil))) (nomark _))))) (pss_one (ps_ret pe_bl)) pss_nil)
      (pss_cons (ps_if (pt_cmpR op_ne (pe_callB (clLen K) (by rfl) T.b_len (by decide +kernel) (pa_cons (pv 0) pa_nil)) (pe_callB (clLen K) (by rfl) T.b_len (by decide +kernel) (pa_cons (pv 1) pa_nil)) (nomark _)) (pss_one (ps_ret pe_bl)) pss_nil)
      (pss_one (ps_ret (pe_cmpR (opEqD K hr.units) (pe_lc (own := [("_law_k", 2)]) (g := gName 2) (by rfl) sc_law_same.nd (pi_range1 (by rfl) T.b_range (pa_cons (pe_callB (clLen K) (by rfl) T.b_len (by decide +kernel) (pa_cons (pv 1) pa_nil)) pa_nil)) (blkOk_by (own := [("_law_k", 2)]) (N := ["_law_found", "_law_due", "_law_k"]) (sc := defScope s_law_same) (by decide +kernel)) (fun _ _ _ _ _ => (pg_name (i := 2) sc_law_same.nd rfl (.inl rfl))) (fun _ _ _ _ _ => (pts_one (pt_not (pt_val (pe_cl c_law_same hr (Nat.le_refl _) (by rfl) (pa_cons (pe_ix (ixQ K) (pv 0) (pv 2) (fun _ _ => rfl)) (pa_cons (pe_ix (ixQ K) (pv 1) (pv 2) (fun _ _ => rfl)) pa_nil))))))) (fun _ _ _ _ _ => (pv 2))) (pe_lst pa_nil) (nomark _)))))) pss_nil)
      (pss_cons (ps_if (pt_cmpR op_isN (pv 1) pe_non (nomark _)) (pss_one (ps_ret (pe_cmpR op_isN (pv 0) pe_non (nomark _)))) pss_nil)
      (pss_cons (ps_if (pt_val (pe_callB call_isi (by rfl) T.b_isinstance (by decide +kernel) (pa_cons (pv 1) (pa_cons (pe_bltn (v := .ty "str") (u := .type "str") (by rfl) T.b_str (by decide +kernel) rfl) pa_nil)))) (pss_one (ps_ret (pe_and (pe_callB call_isi (by rfl) T.b_isinstance (by decide +kernel) (pa_cons (pv 0) (pa_cons (pe_bltn (v := .ty "str") (u := .type "str") (by rfl) T.b_str (by decide +kernel) rfl) pa_nil))) (pe_one (pe_cmpR op_eq (pv 0) (pv 1) (nomark _)))))) pss_nil)
      (pss_cons (ps_if (PW.pt (pw_or (pt_val (pe_callB call_isi (by rfl) T.b_isinstance (by decide +kernel) (pa_cons (pv 1) (pa_cons (pe_bltn (v := .ty "bool") (u := .type "bool") (by rfl) T.b_bool (by decide +kernel) rfl) pa_nil)))) (pw_or1 (pt_val (pe_callB call_isi (by rfl) T.b_isinstance (by decide +kernel) (pa_cons (pv 0) (pa_cons (pe_bltn (v := .ty "bool") (u := .type "bool") (by rfl) T.b_bool (by decide +kernel) rfl) pa_nil))))))) (pss_one (ps_ret (pe_and (pe_callB call_isi (by rfl) T.b_isinstance (by decide +kernel) (pa_cons (pv 1) (pa_cons (pe_bltn (v := .ty "bool") (u := .type "bool") (by rfl) T.b_bool (by decide +kernel) rfl) pa_nil))) (pe_and (pe_callB call_isi (by rfl) T.b_isinstance (by decide +kernel) (pa_cons (pv 0) (pa_cons (pe_bltn (v := .ty "bool") (u := .type "bool") (by rfl) T.b_bool (by decide +kernel) rfl) pa_nil))) (pe_one (pe_cmpR op_eq (pv 0) (pv 1) (nomark _))))))) pss_nil)
      (pss_one (ps_ret (pe_and (pe_callB call_isi (by rfl) T.b_isinstance (by decide +kernel) (pa_cons (pv 0) (pa_cons (pe_bltn (v := .ty "int") (u := .type "int") (by rfl) T.b_int (by decide +kernel) rfl) pa_nil))) (pe_one (pe_cmpR op_eq (pv 0) (pv 1) (nomark _)))))))))), ?_⟩
    have two : (2 : Nat) ≤ sizeLine := by decide
    cases hs with
    | non =>
      refine ⟨_, rfl, two, fun p hp => ⟨_, _, _, _, _, _, rfl, upd_same, cls_tl, (.base .non), kitTL (by decide +kernel : kitB "NoneType" "tuple" = some false) (by decide +kernel : kitB "NoneType" "list" = some false), _, rfl, iteF ?_⟩⟩
      refine ⟨_, rfl, rfl, _, rfl, iteT ?_⟩
      exact ⟨_, rfl, rfl, q _ (Same.upd hp)⟩
    | bl _ b =>
      refine ⟨_, rfl, two, fun p hp => ⟨_, _, _, _, _, _, rfl, upd_same, cls_tl, (.base (.bl b)), kitTL (by decide +kernel : kitB "bool" "tuple" = some false) (by decide +kernel : kitB "bool" "list" = some false), _, rfl, iteF ?_⟩⟩
      refine ⟨_, rfl, rfl, _, rfl, and_case (fun z => V.noConfusion z) ?_⟩
      refine ⟨_, rfl, _, _, _, _, _, rfl, .ty _, (.base (.bl b)), kit_ty (by decide +kernel : kitB "bool" "str" = some false), _, rfl, iteF ?_⟩
      refine ⟨_, rfl, _, _, _, _, _, rfl, .ty _, (.base (.bl b)), kit_ty (by decide +kernel : kitB "bool" "bool" = some true), _, rfl, iteT (iteT ?_)⟩
      refine ⟨_, rfl, _, _, _, _, _, rfl, .ty _, (.base (.bl b)), kit_ty (by decide +kernel : kitB "bool" "bool" = some true), _, rfl, iteT ?_⟩
      refine ⟨_, rfl, _, _, _, _, _, rfl, .ty _, (.base (.bl b)), kit_ty (by decide +kernel : kitB "bool" "bool" = some true), _, rfl, iteT ?_⟩
      refine ⟨_, rfl, _, rfl, rfl, ?_⟩
      rw [decide_eq_true rfl]
      exact q _ (Same.upd hp)
    | int _ i =>
      refine ⟨_, rfl, two, fun p hp => ⟨_, _, _, _, _, _, rfl, upd_same, cls_tl, (.base (.int i)), kitTL (by decide +kernel : kitB "int" "tuple" = some false) (by decide +kernel : kitB "int" "list" = some false), _, rfl, iteF ?_⟩⟩
      refine ⟨_, rfl, rfl, _, rfl, and_case (fun z => V.noConfusion z) ?_⟩
      refine ⟨_, rfl, _, _, _, _, _, rfl, .ty _, (.base (.int i)), kit_ty (by decide +kernel : kitB "int" "str" = some false), _, rfl, iteF ?_⟩
      refine ⟨_, rfl, _, _, _, _, _, rfl, .ty _, (.base (.int i)), kit_ty (by decide +kernel : kitB "int" "bool" = some false), _, rfl, iteF ?_⟩
      refine ⟨_, rfl, _, _, _, _, _, rfl, .ty _, (.base (.int i)), kit_ty (by decide +kernel : kitB "int" "bool" = some false), _, rfl, iteF ?_⟩
      refine ⟨_, rfl, _, _, _, _, _, rfl, .ty _, (.base (.int i)), kit_ty (by decide +kernel : kitB "int" "int" = some true), _, rfl, iteT ?_⟩
      refine ⟨_, rfl, _, rfl, rfl, ?_⟩
      rw [decide_eq_true rfl]
      exact q _ (Same.upd hp)
    | str _ x =>
      refine ⟨_, rfl, two, fun p hp => ⟨_, _, _, _, _, _, rfl, upd_same, cls_tl, (.base (.str x)), kitTL (by decide +kernel : kitB "str" "tuple" = some false) (by decide +kernel : kitB "str" "list" = some false), _, rfl, iteF ?_⟩⟩
      refine ⟨_, rfl, rfl, _, rfl, and_case (fun z => V.noConfusion z) ?_⟩
      refine ⟨_, rfl, _, _, _, _, _, rfl, .ty _, (.base (.str x)), kit_ty (by decide +kernel : kitB "str" "str" = some true), _, rfl, iteT ?_⟩
      refine ⟨_, rfl, _, _, _, _, _, rfl, .ty _, (.base (.str x)), kit_ty (by decide +kernel : kitB "str" "str" = some true), _, rfl, iteT ?_⟩
      refine ⟨_, rfl, _, rfl, rfl, ?_⟩
      rw [decide_eq_true rfl]
      exact q _ (Same.upd hp)
    | lst n a b xs ys ha hb hl hm hi =>
      refine ⟨_, rfl, two, fun p hp => ?_⟩
      have e1 : Same H (upd H p (.tup [.ty "tuple", .ty "list"])) := Same.upd hp
      have hT1 : upd H p (.tup [.ty "tuple", .ty "list"]) p = some (.tup [.ty "tuple", .ty "list"]) := upd_same
      generalize upd H p (.tup [.ty "tuple", .ty "list"]) = H1 at e1 hT1
      refine ⟨_, _, _, _, _, _, rfl, hT1, cls_tl, (.base (.lst (e1 _ _ hb))), kitTL (by decide +kernel : kitB "list" "tuple" = some false) (by decide +kernel : kitB "list" "list" = some true), _, rfl, iteT ?_⟩
      refine ⟨_, rfl, two, fun p2 hp2 => ?_⟩
      have e2 : Same H (upd H1 p2 (.tup [.ty "tuple", .ty "list"])) := e1.new hp2
      have hT2 : upd H1 p2 (.tup [.ty "tuple", .ty "list"]) p2 = some (.tup [.ty "tuple", .ty "list"]) := upd_same
      generalize upd H1 p2 (.tup [.ty "tuple", .ty "list"]) = H2 at e2 hT2
      refine ⟨_, _, _, _, _, _, rfl, hT2, cls_tl, (.base (.lst (e2 _ _ ha))), kitTL (by decide +kernel : kitB "list" "tuple" = some false) (by decide +kernel : kitB "list" "list" = some true), _, rfl, iteF ?_⟩
      refine ⟨_, rfl, _, _, _, _, _, rfl, .ty _, (.base (.lst (e2 _ _ ha))), kit_ty (by decide +kernel : kitB "list" "list" = some true), _, rfl, _, _, _, _, _, rfl, .ty _, (.base (.lst (e2 _ _ hb))), kit_ty (by decide +kernel : kitB "list" "list" = some true), rfl, _, rfl, iteNS rfl ?_⟩
      refine ⟨_, rfl, _, _, rfl, .inl (SqL.of (e2 _ _ ha)), _, rfl, _, _, rfl, .inl (SqL.of (e2 _ _ hb)), rfl, _, rfl, iteNS (by rw [hl]) ?_⟩
      refine ⟨_, rfl, _, _, rfl, .inl (SqL.of (e2 _ _ hb)), _, rfl, by omega, by omega, fun D hD => lc_range (lo := 0) (n := (ys.length : Int).toNat) (fun i H' => Same H2 H' ∧ H' D = some (.lst [])) ⟨Same.upd hD, upd_same⟩ ?_ ?_⟩
      · rintro i H' hi' ⟨e3, hD'⟩
        have hy : i < ys.length := by omega
        have hx : i < xs.length := by omega
        have hs := hi i _ _ (List.getElem?_eq_getElem hx) (List.getElem?_eq_getElem hy)
        refine ⟨rfl, _, rfl, _, rfl, .inl ⟨_, _, _, _, rfl, rfl, SqL.of (e3 _ _ (e2 _ _ ha)), at_of (by omega) (List.getElem?_eq_getElem hx), ?_⟩⟩
        refine ⟨_, rfl, _, rfl, .inl ⟨_, _, _, _, rfl, rfl, SqL.of (e3 _ _ (e2 _ _ hb)), at_of (by omega) (List.getElem?_eq_getElem hy), ?_⟩⟩
        exact ⟨_, _, rfl, hs.same (e2.trans e3), fun H4 e4 => ⟨_, rfl, iteF ⟨e3.trans e4, e4 _ _ hD'⟩⟩⟩
      · rintro H' ⟨e3, hD'⟩
        refine ⟨Nat.zero_le _, fun e he => ⟨_, _, .lst (SqL.of (by rw [upd_ne (ne_of_none hD' he)]; exact hD')) .nil, .lst (SqL.of upd_same) .nil, rfl, rfl, ?_⟩⟩
        exact q _ ((e2.trans e3).new he)
    | tup n a b xs ys ha hb hl hm hi =>
      refine ⟨_, rfl, two, fun p hp => ?_⟩
      have e1 : Same H (upd H p (.tup [.ty "tuple", .ty "list"])) := Same.upd hp
      have hT1 : upd H p (.tup [.ty "tuple", .ty "list"]) p = some (.tup [.ty "tuple", .ty "list"]) := upd_same
      generalize upd H p (.tup [.ty "tuple", .ty "list"]) = H1 at e1 hT1
      refine ⟨_, _, _, _, _, _, rfl, hT1, cls_tl, (.base (.tup (e1 _ _ hb))), kitTL (by decide +kernel : kitB "tuple" "tuple" = some true) (by decide +kernel : kitB "tuple" "list" = some false), _, rfl, iteT ?_⟩
      refine ⟨_, rfl, two, fun p2 hp2 => ?_⟩
      have e2 : Same H (upd H1 p2 (.tup [.ty "tuple", .ty "list"])) := e1.new hp2
      have hT2 : upd H1 p2 (.tup [.ty "tuple", .ty "list"]) p2 = some (.tup [.ty "tuple", .ty "list"]) := upd_same
      generalize upd H1 p2 (.tup [.ty "tuple", .ty "list"]) = H2 at e2 hT2
      refine ⟨_, _, _, _, _, _, rfl, hT2, cls_tl, (.base (.tup (e2 _ _ ha))), kitTL (by decide +kernel : kitB "tuple" "tuple" = some true) (by decide +kernel : kitB "tuple" "list" = some false), _, rfl, iteF ?_⟩
      refine ⟨_, rfl, _, _, _, _, _, rfl, .ty _, (.base (.tup (e2 _ _ ha))), kit_ty (by decide +kernel : kitB "tuple" "list" = some false), _, rfl, _, _, _, _, _, rfl, .ty _, (.base (.tup (e2 _ _ hb))), kit_ty (by decide +kernel : kitB "tuple" "list" = some false), rfl, _, rfl, iteNS rfl ?_⟩
      refine ⟨_, rfl, _, _, rfl, .inr (SqT.of (e2 _ _ ha)), _, rfl, _, _, rfl, .inr (SqT.of (e2 _ _ hb)), rfl, _, rfl, iteNS (by rw [hl]) ?_⟩
      refine ⟨_, rfl, _, _, rfl, .inr (SqT.of (e2 _ _ hb)), _, rfl, by omega, by omega, fun D hD => lc_range (lo := 0) (n := (ys.length : Int).toNat) (fun i H' => Same H2 H' ∧ H' D = some (.lst [])) ⟨Same.upd hD, upd_same⟩ ?_ ?_⟩
      · rintro i H' hi' ⟨e3, hD'⟩
        have hy : i < ys.length := by omega
        have hx : i < xs.length := by omega
        have hs := hi i _ _ (List.getElem?_eq_getElem hx) (List.getElem?_eq_getElem hy)
        refine ⟨rfl, _, rfl, _, rfl, .inr (.inl ⟨_, _, _, _, rfl, rfl, SqT.of (e3 _ _ (e2 _ _ ha)), at_of (by omega) (List.getElem?_eq_getElem hx), ?_⟩)⟩
        refine ⟨_, rfl, _, rfl, .inr (.inl ⟨_, _, _, _, rfl, rfl, SqT.of (e3 _ _ (e2 _ _ hb)), at_of (by omega) (List.getElem?_eq_getElem hy), ?_⟩)⟩
        exact ⟨_, _, rfl, hs.same (e2.trans e3), fun H4 e4 => ⟨_, rfl, iteF ⟨e3.trans e4, e4 _ _ hD'⟩⟩⟩
      · rintro H' ⟨e3, hD'⟩
        refine ⟨Nat.zero_le _, fun e he => ⟨_, _, .lst (SqL.of (by rw [upd_ne (ne_of_none hD' he)]; exact hD')) .nil, .lst (SqL.of upd_same) .nil, rfl, rfl, ?_⟩⟩
        exact q _ ((e2.trans e3).new he)
theorem ok_law_same {f : Addr} {fd : FuncData} (F : FunG K mg "_law_same" s_law_same f fd ["_law_found", "_law_due"]) (T : Txt K mg) : ∀ n : Nat, FnOk P w K mg base CX0 (n + 1) f fd ["_law_found", "_law_due"] (spSame n)
  | 0 => same_mk F T 0 0 (F.cl ⟨fun _ _ _ _ z => z.elim, fun _ _ _ _ _ _ _ _ _ _ _ _ _ z => z.elim⟩)
  | n + 1 => same_mk F T (n + 1) (n + 1) (F.cl (ok_law_same F T n))
end
end My

namespace My
open PySem PySem.Spec PyProof.Rows LamX L2
section
variable {P : Program} {w : World} {K : PySem.W.Frag} {mg : Str → Option Value} {base : Heap}
abbrev s_law_beat : Stmt := top 19
theorem sc_law_beat : FnScope ["_law_state", "_law_side", "_law_stream", "_law_whole", "_law_so_far", "_law_shares", "_law_odd", "_law_share"] ["_law_state", "_law_side"] (defScope s_law_beat) := ⟨rfl, rfl, rfl, by decide +kernel, rfl, by decide +kernel, by decide +kernel⟩
/-- _law_beat(state, side): one more share, told as is due -/
def spBeat (K : PySem.W.Frag) (C : Addr) (TL : List (Addr × Str)) : Sp := fun vs H Q _ => ∃ (G : Hp) (st a : Addr) (ns : List Int) (d : SD), vs = [.ref st, .ref d.p] ∧ SOk K a ns st H ∧ Same (noTab G) H ∧ SqL K (noTab G) a (ns.map V.int) ∧ noTab G st = none ∧ noTab G d.p = none ∧ noTab G d.x = none ∧ noTab G d.l = none ∧ Tabs TL H ∧ Side C H d ∧ d.ss.length ≤ 1000 ∧
  ∀ (z : Int) (H' : Hp), KT [st, d.p, d.x, d.l] H H' → Same (noTab G) H' → Tabs TL H' → SOk K a ns st H' → Side C H' { d with ss := d.ss ++ [z] } → Q (.bl true) H'
theorem ok_law_beat {f : Addr} {oc : Value} {od : Option Addr} {dV kV doc pm : Value} {an : Option Addr} {ct : Value} {osl : Array (Option Value)} {c Pt : Addr} (lk : K.lookup f = some ⟨oc, od, .func (PySem.W.fnOf "_law_beat" "_law_beat" (defArgs s_law_beat) (defBody s_law_beat) (defScope s_law_beat) dV kV doc pm an (.ref c) ct), osl⟩) (hcd : PySem.W.codeIn K (.ref c) "_law_beat" = true) {TL : List (Addr × Str)} (hmT : (Pt, lamQn "_law_beat") ∈ TL) (huT : ∀ p ∈ TL, p.1 = Pt → p.2 = lamQn "_law_beat") (TB : TabB base mg c Pt)
    (T : Txt K mg) {C : Addr} (S : StreamF K C) {g : Addr} {fdk : FuncData} (GK : FunG K mg "_law_kind" s_law_kind g fdk ["_law_work"]) (eBS : ErrK K "BadShare" 1) (c_law_drawn : Cl P w K mg base CX0 1 "_law_drawn" (spDrawn K)) (c_law_far : Cl P w K mg base CX0 2 "_law_far" (spFar K)) (c_Stream_next : ClMt P w K mg base (L2.CX P w) 1 C "next" (spSNextX K C)) (c_law_same : Cl P w K mg base CX0 2 "_law_same" (spSame 1)) :
    FnOk P w K mg base CX0 (5 + 1) f (PySem.W.fnOf "_law_beat" "_law_beat" (defArgs s_law_beat) (defBody s_law_beat) (defScope s_law_beat) dV kV doc pm an (.ref c) ct) ["_law_state", "_law_side"] (spBeat K C TL) := by
  obtain ⟨ock, odk, kVk, dock, pmk, ank, cdvk, ctk, oslk, rfl, lkK, hcK⟩ := GK.fn.ex
  obtain ⟨fn_, fdn, psn, M_Stream_next⟩ := c_Stream_next.ex
  refine fn_of lk hcd sc_law_beat (fun vs H Q E h => ?_) (fun A outer s_ H vs Q E hr h => ?_)
  · obtain ⟨G, st, a, ns, d, rfl, _⟩ := h
    rfl
  · obtain ⟨G, st, a, ns, d, rfl, s, e, hSm, hst, fp, fx, fl, t, sd, hlen, kk⟩ := h
    refine ⟨_, PSs.nox (pss_cons (ps_asg (pv 1) (pg_unl (by rfl) (pgs_cons (pg_name (i := 2) sc_law_beat.nd rfl (.inr rfl)) (pgs_cons (pg_name (i := 3) sc_law_beat.nd rfl (.inl rfl)) (pgs_cons (pg_name (i := 4) sc_law_beat.nd rfl (.inl rfl)) (pgs_cons (pg_name (i := 5) sc_law_beat.nd rfl (.inl rfl)) pgs_nil))))))
      (pss_cons (ps_set (i := 6) sc_law_beat.nd rfl (.inr rfl) (pe_cl c_law_far hr (by decide) (by rfl) (pa_cons (pv 0) (pa_cons pe_int (pa_cons (pv 3) pa_nil)))))
      (pss_cons (ps_if (pt_cmpR op_ne (pe_lamcall (T := TL) (k := 3) (P := Pt) (by rfl) GK.mgf GK.fn.kp lkK hcK GK.b sc_law_kind rfl (.inl rfl) (kind_gives T) TB rfl hmT huT (hr.mono (by decide)) (lamS_by (sc := defScope s_law_beat) (by decide +kernel)) rfl (fun _ _ _ _ _ => rfl) (fun A outer s H E f c2 hr => (pe_meth (pv 2) M_Stream_next.cl M_Stream_next.me M_Stream_next.ok (hr.mono (by decide)) M_Stream_next.b .nil (passes_call (takes_of rfl rfl rfl rfl) (fun _ _ _ _ h => h)) (pa_cons (pv 6) pa_nil)))) pe_str (nomark _)) (pss_one (ps_ret pe_bl)) pss_nil)
      (pss_cons (ps_set (i := 7) sc_law_beat.nd rfl (.inl rfl) (pe_ix (ixL K) (pe_lst (pa_cons pe_int (pa_cons (pv 3) (pa_cons (pe_cl c_law_drawn hr (by decide) (by rfl) (pa_cons (pv 0) (pa_cons (pe_op op_add (pv 3) pe_int) pa_nil))) (pa_cons (pe_op op_fdivW (pv 3) pe_int) (pa_cons (pe_callB (call_min2 rfl) (by rfl) T.b_min (by decide +kernel) (pa_cons (pv 3) (pa_cons pe_int pa_nil))) pa_nil)))))) (pe_cl c_law_drawn hr (by decide) (by rfl) (pa_cons (pv 0) (pa_cons pe_int pa_nil))) (fun _ _ => rfl)))
      (pss_cons (ps_asg (pe_op op_add (pv 4) (pv 7)) (pg_sub (pv 1) pe_int set_list))
      (pss_cons (ps_expr (pe_bm PySem.F.plainAttrs_list PySem.F.slot_list_append PySem.F.type_list_append mt_append (pv 5) (pa_cons (pv 7) pa_nil)))
      (pss_one (ps_ret (pe_cl c_law_same hr (by decide) (by rfl) (pa_cons (pe_meth (pv 2) M_Stream_next.cl M_Stream_next.me M_Stream_next.ok (hr.mono (by decide)) M_Stream_next.b .nil passL (pa_cons (pv 7) pa_nil)) (pa_cons (pe_op op_sub (pe_op op_fdivW (pe_ix (ixL K) (pv 1) pe_int (fun _ _ => rfl)) (pv 3)) (pe_op op_fdivW (pv 4) (pv 3))) pa_nil))))))))))), ?_⟩
    obtain ⟨P_, X_, DX_, L_, wh, ss⟩ := d
    obtain ⟨w_P_, w_X_, w_L_, w0, w1, hss⟩ := sd
    dsimp only at w_P_ w_X_ w_L_ w0 w1 hss hlen fp fx fl kk ⊢
    have sd0 : Side C H ⟨P_, X_, DX_, L_, wh, ss⟩ := ⟨w_P_, w_X_, w_L_, w0, w1, hss⟩
    obtain ⟨n_P_, n_X_, n_L_⟩ := sd0.nst s
    have pxN := sd0.px
    have plN := sd0.pl
    have xlN := sd0.xl
    dsimp only at n_P_ n_X_ n_L_ pxN plN xlN
    have q := KT.refl [st, P_, X_, L_] H
    refine ⟨_, rfl, _, _, rfl, SqL.of w_P_, rfl, _, _, rfl, _, _, rfl, _, _, rfl, _, _, rfl, rfl, ?_⟩
    refine ⟨_, rfl, _, rfl, st, a, ns, 0, wh, rfl, s, fun v H1 hv k1 s1 => ?_⟩
    have t := s.tabs t k1
    have e := e.keepAll hst k1
    have q := q.keep (st := st) (by simp) k1
    have w_P_ := k1 _ _ n_P_ w_P_
    have w_X_ := k1 _ _ n_X_ w_X_
    have w_L_ := k1 _ _ n_L_ w_L_
    have s := s1
    refine ⟨t, fun H2 eN tN => ?_⟩
    have s := s.extN hSm hst e eN
    have e := extN_same e eN
    have t := tN
    have q := q.extN eN
    have w_P_ := eN _ _ w_P_ (fun _ z => nomatch z)
    have w_X_ := eN _ _ w_X_ strm_tbl
    have w_L_ := eN _ _ w_L_ (fun _ z => nomatch z)
    have w_Y : H2 X_ = some (.ins C DX_ (sFs wh (ss.sum % wh) (ss.sum / wh))) := w_X_
    refine ⟨_, rfl, X_, DX_, _, rfl, w_Y, sFs_no (by decide +kernel) (by decide +kernel) (by decide +kernel), _, rfl, X_, DX_, wh, _, _, v, rfl, w_X_, w0, w1, .inr ⟨by omega, ⟨"BadShare", 1, rfl, rfl, eBS, fun H3 e3 => ?_⟩⟩⟩
    clear w_Y
    refine ⟨rfl, _, rfl, iteFe (neqF rfl) ?_⟩
    have s := s.same e3
    have e := e.trans e3
    have t := tabs_same t e3
    have q := q.same e3
    have w_P_ := e3 _ _ w_P_
    have w_X_ := e3 _ _ w_X_
    have w_L_ := e3 _ _ w_L_
    refine ⟨_, rfl, _, rfl, _, rfl, _, _, rfl, rfl, st, a, ns, wh + 1, rfl, s, by omega, Int.lt_of_le_of_lt (show wh + 1 ≤ 1000000000001 by omega) (by decide), fun r i1 m1 c1 r0 r1 d1 => ?_⟩
    have ku : Keep st H3 (upd H3 st (StO a i1 m1 c1)) := (Keep.refl st H3).atSt
    have t := s.tabs t ku
    have e := e.keepAll hst ku
    have q := q.keep (st := st) (by simp) ku
    have w_P_ := ku _ _ n_P_ w_P_
    have w_X_ := ku _ _ n_X_ w_X_
    have w_L_ := ku _ _ n_L_ w_L_
    have s := s.drawn d1
    clear ku
    generalize upd H3 st (StO a i1 m1 c1) = H4 at s e t q w_P_ w_X_ w_L_
    refine ⟨_, rfl, _, _, rfl, rfl, wide_div (b := 7) (by decide) (by decide) (by decide) (by decide), _, rfl, _, _, rfl, (by show 5 ≤ sizeLine; decide), fun y h_y => ?_⟩
    obtain ⟨mn, hmn⟩ : ∃ z : Int, z = if 1 < wh then 1 else wh := ⟨_, rfl⟩
    have n_y := s.ne_of h_y
    have eu : Same H4 (upd H4 y (.lst [.int 0, .int wh, .int r, .int (wh / 2), .int (if 1 < wh then 1 else wh)])) := Same.upd h_y
    have s := s.same eu
    have e := e.trans eu
    have t := tabs_same t eu
    have q := q.same eu
    have w_P_ := eu _ _ w_P_
    have w_X_ := eu _ _ w_X_
    have w_L_ := eu _ _ w_L_
    have w_y : upd H4 y (.lst [.int 0, .int wh, .int r, .int (wh / 2), .int (if 1 < wh then 1 else wh)]) y = some (.lst [.int 0, .int wh, .int r, .int (wh / 2), .int (if 1 < wh then 1 else wh)]) := upd_same
    clear eu
    generalize upd H4 y (.lst [.int 0, .int wh, .int r, .int (wh / 2), .int (if 1 < wh then 1 else wh)]) = H5 at s e t q w_P_ w_X_ w_L_ w_y
    refine ⟨_, rfl, st, a, ns, 5, rfl, s, by decide, by decide, fun u i2 m2 c2 u0 u1 d2 => ?_⟩
    have ku : Keep st H5 (upd H5 st (StO a i2 m2 c2)) := (Keep.refl st H5).atSt
    have t := s.tabs t ku
    have e := e.keepAll hst ku
    have q := q.keep (st := st) (by simp) ku
    have w_P_ := ku _ _ n_P_ w_P_
    have w_X_ := ku _ _ n_X_ w_X_
    have w_L_ := ku _ _ n_L_ w_L_
    have w_y := ku _ _ n_y w_y
    have s := s.drawn d2
    clear ku
    generalize upd H5 st (StO a i2 m2 c2) = H6 at s e t q w_P_ w_X_ w_L_ w_y
    have hat : ∃ z : Int, atI [V.int 0, V.int wh, V.int r, V.int (wh / 2), V.int (if 1 < wh then 1 else wh)] u = some (.int z) ∧ 0 ≤ z ∧ z ≤ wh := by
      rcases pick5 u0 u1 with z | z | z | z | z <;> subst z
      · exact ⟨0, rfl, by omega, by omega⟩
      · exact ⟨wh, rfl, by omega, by omega⟩
      · exact ⟨r, rfl, by omega, by omega⟩
      · exact ⟨wh / 2, rfl, by omega, by omega⟩
      · exact ⟨_, rfl, by split <;> omega, by split <;> omega⟩
    obtain ⟨z, hz, z0, z1⟩ := hat
    refine ⟨_, _, _, _, rfl, rfl, SqL.of w_y, hz, ?_⟩
    refine ⟨_, rfl, _, rfl, _, _, rfl, rfl, _, rfl, P_, _, _, 2, rfl, rfl, w_P_, rfl, ?_⟩
    have s := s.mut (o := .lst ([V.ref X_, .int wh, .int ss.sum, .ref L_].set 2 (V.int (ss.sum + z)))) hSm hst e fp n_P_
    have e := e.mut (o := .lst ([V.ref X_, .int wh, .int ss.sum, .ref L_].set 2 (V.int (ss.sum + z)))) fp
    have t := tabs_keepL (o := .lst ([V.ref X_, .int wh, .int ss.sum, .ref L_].set 2 (V.int (ss.sum + z)))) t w_P_
    have q := q.at_ (p := P_) (o := .lst ([V.ref X_, .int wh, .int ss.sum, .ref L_].set 2 (V.int (ss.sum + z)))) (by simp)
    have w_X_ : upd H6 P_ (.lst ([V.ref X_, .int wh, .int ss.sum, .ref L_].set 2 (V.int (ss.sum + z)))) _ = _ := (upd_ne pxN.symm).trans w_X_
    have w_L_ : upd H6 P_ (.lst ([V.ref X_, .int wh, .int ss.sum, .ref L_].set 2 (V.int (ss.sum + z)))) _ = _ := (upd_ne plN.symm).trans w_L_
    have w_P_ : upd H6 P_ (.lst ([V.ref X_, .int wh, .int ss.sum, .ref L_].set 2 (V.int (ss.sum + z)))) P_ = some (.lst ([V.ref X_, .int wh, .int ss.sum, .ref L_].set 2 (V.int (ss.sum + z)))) := upd_same
    generalize upd H6 P_ (.lst ([V.ref X_, .int wh, .int ss.sum, .ref L_].set 2 (V.int (ss.sum + z)))) = H7 at s e t q w_P_ w_X_ w_L_
    have w_P_ : H7 P_ = some (.lst [.ref X_, .int wh, .int (ss.sum + z), .ref L_]) := w_P_
    refine ⟨_, rfl, .inl ⟨rfl, _, SqL.of w_L_⟩, _, rfl, L_, _, _, rfl, rfl, w_L_, small_of (m := 1000) (by rw [List.length_map]; omega), ?_⟩
    have s := s.mut (o := .lst (ss.map V.int ++ [.int z])) hSm hst e fl n_L_
    have e := e.mut (o := .lst (ss.map V.int ++ [.int z])) fl
    have t := tabs_keepL (o := .lst (ss.map V.int ++ [.int z])) t w_L_
    have q := q.at_ (p := L_) (o := .lst (ss.map V.int ++ [.int z])) (by simp)
    have w_P_ : upd H7 L_ (.lst (ss.map V.int ++ [.int z])) _ = _ := (upd_ne plN).trans w_P_
    have w_X_ : upd H7 L_ (.lst (ss.map V.int ++ [.int z])) _ = _ := (upd_ne xlN).trans w_X_
    have w_L_ : upd H7 L_ (.lst (ss.map V.int ++ [.int z])) L_ = some (.lst (ss.map V.int ++ [.int z])) := upd_same
    generalize upd H7 L_ (.lst (ss.map V.int ++ [.int z])) = H8 at s e t q w_P_ w_X_ w_L_
    have w_Y : H8 X_ = some (.ins C DX_ (sFs wh (ss.sum % wh) (ss.sum / wh))) := w_X_
    refine ⟨_, rfl, X_, DX_, _, rfl, w_Y, sFs_no (by decide +kernel) (by decide +kernel) (by decide +kernel), _, rfl, X_, DX_, wh, _, _, z, rfl, w_X_, w0, w1, .inl ⟨z0, z1, fun H8 k8 x8 => ?_⟩⟩
    have t := tabs_ins t w_Y k8
    have e := e.keepAll fx k8
    have q := q.keep (st := X_) (by simp) k8
    have w_P_ := k8 _ _ pxN w_P_
    have w_L_ := k8 _ _ xlN.symm w_L_
    have s := s.into hSm hst e fun o z => k8 _ _ n_X_.symm z
    refine ⟨_, rfl, _, _, _, _, rfl, rfl, SqL.of w_P_, at_of (j := 2) rfl rfl, _, rfl, _, _, rfl, rfl, wide_div (b := 41) (by omega) (by omega) (by decide) (by decide), _, rfl, _, rfl, _, _, rfl, rfl, wide_div (b := 41) (by omega) (by omega) (by decide) (by decide), _, _, rfl, rfl, ?_⟩
    obtain ⟨dv1, dv2⟩ := div_step (w := wh) (S := ss.sum) (z := z) w0
    refine ⟨_, _, rfl, (by rw [dv1]; exact .int 1 _), fun H9 e9 => ?_⟩
    have hsum : (ss ++ [z]).sum = ss.sum + z := by rw [List.sum_append]; simp
    refine kk z H9 (q.same e9) (e.trans e9) (tabs_same t e9) (s.same e9) ⟨?_, ?_, ?_, w0, w1, fun y hy => ?_⟩
    · show H9 P_ = some (.lst [.ref X_, .int wh, .int (ss ++ [z]).sum, .ref L_])
      rw [hsum]
      exact e9 _ _ w_P_
    · show H9 X_ = some (StrmO C DX_ wh ((ss ++ [z]).sum % wh) ((ss ++ [z]).sum / wh))
      rw [hsum]
      refine (e9 _ _ x8).trans ?_
      rw [dv1, dv2]
      congr 2
      omega
    · show H9 L_ = some (.lst ((ss ++ [z]).map V.int))
      rw [List.map_append]
      exact e9 _ _ w_L_
    · have hy : y ∈ ss ++ [z] := hy
      rcases List.mem_append.mp hy with h | h
      · exact hss y h
      · have : y = z := by simpa using h
        subst this
        exact ⟨z0, z1⟩
end
end My

namespace My
open PySem PySem.Spec PyProof.Rows LamX L2
section
variable {P : Program} {w : World} {K : PySem.W.Frag} {mg : Str → Option Value} {base : Heap}
abbrev s_law : Stmt := top 20
theorem sc_law : FnScope ["_law_script", "_law_state", "_law_sides", "_law_k", "_law_whole", "_law_turn", "_law_stream", "_law_so_far", "_law_shares", "_law_due", "_law_handed", "_law_again", "_law_found", "_law_at", "_law_bad", "_law_none"] ["_law_script"] (defScope s_law) := ⟨rfl, rfl, rfl, by decide +kernel, rfl, by decide +kernel, by decide +kernel⟩
def spLaw (K : PySem.W.Frag) (Pw Pt : Addr) : Sp := fun vs H Q _ => ∃ (a : Addr) (ns : List Int), vs = [.ref a] ∧ SqL K H a (ns.map V.int) ∧ ns.length ≤ 63 ∧ H Pw = some (.tbl #[]) ∧ H Pt = some (.tbl #[]) ∧ ∀ H', Q (.bl true) H'
theorem ok_law {f : Addr} {oc : Value} {od : Option Addr} {dV kV doc pm : Value} {an : Option Addr} {ct : Value} {osl : Array (Option Value)} {c Pw Pt : Addr} (lk : K.lookup f = some ⟨oc, od, .func (PySem.W.fnOf "law" "law" (defArgs s_law) (defBody s_law) (defScope s_law) dV kV doc pm an (.ref c) ct), osl⟩) (hcd : PySem.W.codeIn K (.ref c) "law" = true) (T : Txt K mg) (TB : TabB base mg c Pt)
    {g : Addr} {fdk : FuncData} (GK : FunG K mg "_law_kind" s_law_kind g fdk ["_law_work"]) {TL : List (Addr × Str)} (hTL : TL = [(Pw, lamQn "_law_beat"), (Pt, lamQn "law")]) (hmT : (Pt, lamQn "law") ∈ TL) (huT : ∀ p ∈ TL, p.1 = Pt → p.2 = lamQn "law") {C : Addr} (SF : StreamF K C) (c_law_start : Cl P w K mg base CX0 1 "_law_start" (spStart K)) (c_law_drawn : Cl P w K mg base CX0 1 "_law_drawn" (spDrawn K)) (c_law_far : Cl P w K mg base CX0 2 "_law_far" (spFar K))
    (c_pulsed : Cl P w K mg base (L2.CX P w) 3 "pulsed" (spPulsedX K)) (c_Stream : ClI P w K mg base (L2.CX P w) 1 "Stream" C (spSInitX K C)) (c_Stream_rest : ClMt P w K mg base CX0 1 C "rest" (spSrest C)) (c_Stream_pulses : ClMt P w K mg base CX0 1 C "pulses" (spSpulses C)) (c_law_same : Cl P w K mg base CX0 2 "_law_same" (spSame 1)) (c_law_beat : Cl P w K mg base CX0 6 "_law_beat" (spBeat K C TL)) (eBS : ErrK K "BadShare" 1) :
    FnOk P w K mg base CX0 (7 + 1) f (PySem.W.fnOf "law" "law" (defArgs s_law) (defBody s_law) (defScope s_law) dV kV doc pm an (.ref c) ct) ["_law_script"] (spLaw K Pw Pt) := by
  obtain ⟨ock, odk, kVk, dock, pmk, ank, cdvk, ctk, oslk, rfl, lkK, hcK⟩ := GK.fn.ex
  obtain ⟨fr_, fdr, psr, M_Stream_rest⟩ := c_Stream_rest.ex
  obtain ⟨fp_, fdp, psp, M_Stream_pulses⟩ := c_Stream_pulses.ex
  refine fn_of lk hcd sc_law (fun vs H Q E h => ?_) (fun A outer s_ H vs Q E hr h => ?_)
  · obtain ⟨a, ns, rfl, _⟩ := h
    rfl
  · obtain ⟨a, ns, rfl, hS, hlen, hPw, hPt, kk⟩ := h
    refine ⟨_, PSs.nox (pss_cons (ps_set (i := 1) sc_law.nd rfl (.inl rfl) (pe_cl c_law_start hr (by decide) (by rfl) (pa_cons (pv 0) pa_nil)))
      (pss_cons (ps_set (i := 2) sc_law.nd rfl (.inl rfl) (pe_lst pa_nil))
      (pss_cons (ps_for PassesOwn.never (by rfl) (pi_range1 (by rfl) T.b_range (pa_cons pe_int pa_nil)) (pg_name (i := 3) sc_law.nd rfl (.inl rfl)) (pss_cons (ps_set (i := 4) sc_law.nd rfl (.inr rfl) (pe_op op_add pe_int (pe_cl c_law_drawn hr (by decide) (by rfl) (pa_cons (pv 1) (pa_cons (pe_ix (ixL K) (pe_lst (pa_cons pe_int (pa_cons pe_int (pa_cons (pe_op op_pow pe_int pe_int) pa_nil)))) (pe_cl c_law_drawn hr (by decide) (by rfl) (pa_cons (pv 1) (pa_cons pe_int pa_nil))) (fun _ _ => rfl)) pa_nil)))))
      (pss_one (ps_expr (pe_bm PySem.F.plainAttrs_list PySem.F.slot_list_append PySem.F.type_list_append mt_append (pv 2) (pa_cons (pe_lst (pa_cons (pe_mkG c_Stream hr (by decide) (by rfl) (pa_cons (pv 4) pa_nil)) (pa_cons (pv 4) (pa_cons pe_int (pa_cons (pe_lst pa_nil) pa_nil))))) pa_nil))))))
      (pss_cons (ps_for PassesOwn.never (by rfl) (pi_range1 (by rfl) T.b_range (pa_cons (pe_cl c_law_drawn hr (by decide) (by rfl) (pa_cons (pv 1) (pa_cons (pe_ix (ixL K) (pe_lst (pa_cons pe_int (pa_cons pe_int (pa_cons pe_int (pa_cons pe_int pa_nil))))) (pe_cl c_law_drawn hr (by decide) (by rfl) (pa_cons (pv 1) (pa_cons pe_int pa_nil))) (fun _ _ => rfl)) pa_nil))) pa_nil)) (pg_name (i := 5) sc_law.nd rfl (.inl rfl)) (pss_cons (ps_if (pt_not (pt_val (pe_cl c_law_beat hr (by decide) (by rfl) (pa_cons (pv 1) (pa_cons (pe_ix (ixL K) (pv 2) (pe_cl c_law_drawn hr (by decide) (by rfl) (pa_cons (pv 1) (pa_cons pe_int pa_nil))) (fun _ _ => rfl)) pa_nil))))) (pss_one (ps_ret pe_bl)) pss_nil)
      (pss_one (ps_for PassesOwn.never (by rfl) (pi_list (pv 2)) (pg_unl (by rfl) (pgs_cons (pg_name (i := 6) sc_law.nd rfl (.inl rfl)) (pgs_cons (pg_name (i := 4) sc_law.nd rfl (.inr rfl)) (pgs_cons (pg_name (i := 7) sc_law.nd rfl (.inl rfl)) (pgs_cons (pg_name (i := 8) sc_law.nd rfl (.inl rfl)) pgs_nil))))) (pss_one (ps_if (pt_not (pt_val (pe_cl c_law_same hr (by decide) (by rfl) (pa_cons (pe_lst (pa_cons (pe_meth0 (pv 6) M_Stream_rest.cl M_Stream_rest.me M_Stream_rest.ok (hr.mono (by decide)) M_Stream_rest.b .nil pass0) (pa_cons (pe_meth0 (pv 6) M_Stream_pulses.cl M_Stream_pulses.me M_Stream_pulses.ok (hr.mono (by decide)) M_Stream_pulses.b .nil pass0) pa_nil))) (pa_cons (pe_lst (pa_cons (pe_op op_mod (pv 7) (pv 4)) (pa_cons (pe_op op_fdivW (pv 7) (pv 4)) pa_nil))) pa_nil))))) (pss_one (ps_ret pe_bl)) pss_nil))))))
      (pss_cons (ps_for PassesOwn.never (by rfl) (pi_list (pv 2)) (pg_unl (by rfl) (pgs_cons (pg_name (i := 6) sc_law.nd rfl (.inl rfl)) (pgs_cons (pg_name (i := 4) sc_law.nd rfl (.inr rfl)) (pgs_cons (pg_name (i := 7) sc_law.nd rfl (.inl rfl)) (pgs_cons (pg_name (i := 8) sc_law.nd rfl (.inl rfl)) pgs_nil))))) (pss_cons (ps_set (i := 9) sc_law.nd rfl (.inl rfl) (pe_lst pa_nil))
      (pss_cons (ps_for PassesOwn.never (by rfl) (pi_range1 (by rfl) T.b_range (pa_cons (pe_callB (clLen K) (by rfl) T.b_len (by decide +kernel) (pa_cons (pv 8) pa_nil)) pa_nil)) (pg_name (i := 3) sc_law.nd rfl (.inl rfl)) (pss_one (ps_expr (pe_bm PySem.F.plainAttrs_list PySem.F.slot_list_append PySem.F.type_list_append mt_append (pv 9) (pa_cons (pe_op op_sub (pe_op op_fdivW (pe_callB (clSum K rfl) (by rfl) T.b_sum (by decide +kernel) (pa_cons (pe_slice (slL K) (pv 8) po_none (po_some (pe_op op_add (pv 3) pe_int))) pa_nil)) (pv 4)) (pe_op op_fdivW (pe_callB (clSum K rfl) (by rfl) T.b_sum (by decide +kernel) (pa_cons (pe_slice (slL K) (pv 8) po_none (po_some (pv 3))) pa_nil)) (pv 4))) pa_nil)))))
      (pss_cons (ps_set (i := 10) sc_law.nd rfl (.inl rfl) (pe_callTy (clList K) (by rfl) T.b_list (by decide +kernel) (pa_cons (pv 8) pa_nil)))
      (pss_cons (ps_for PassesOwn.never (by rfl) (pi_range1 (by rfl) T.b_range (pa_cons pe_int pa_nil)) (pg_name (i := 11) sc_law.nd rfl (.inl rfl)) (pss_cons (ps_set (i := 12) sc_law.nd rfl (.inl rfl) (pe_clG c_pulsed hr (by decide) (by rfl) (pa_cons (pv 4) (pa_cons (pv 10) pa_nil))))
      (pss_cons (ps_if (PW.pt (pw_or (pt_not (pt_val (pe_cl c_law_same hr (by decide) (by rfl) (pa_cons (pv 12) (pa_cons (pv 9) pa_nil))))) (pw_or1 (pt_cmpR (opNeD K hr.units) (pv 10) (pv 8) (nomark _))))) (pss_one (ps_ret pe_bl)) pss_nil)
      (pss_one (ps_expr (pe_bm PySem.F.plainAttrs_list PySem.F.slot_list_append PySem.F.type_list_append mt_append (pv 12) (pa_cons pe_int pa_nil)))))))
      (pss_cons (ps_set (i := 13) sc_law.nd rfl (.inl rfl) (pe_cl c_law_drawn hr (by decide) (by rfl) (pa_cons (pv 1) (pa_cons (pe_op op_add (pe_callB (clLen K) (by rfl) T.b_len (by decide +kernel) (pa_cons (pv 8) pa_nil)) pe_int) pa_nil))))
      (pss_cons (ps_set (i := 14) sc_law.nd rfl (.inr rfl) (pe_op op_cat (pe_op op_cat (pe_slice (slL K) (pv 8) po_none (po_some (pv 13))) (pe_lst (pa_cons (pe_cl c_law_far hr (by decide) (by rfl) (pa_cons (pv 1) (pa_cons pe_int (pa_cons (pv 4) pa_nil)))) pa_nil))) (pe_slice (slL K) (pv 8) (po_some (pv 13)) po_none)))
      (pss_cons (ps_set (i := 15) sc_law.nd rfl (.inr rfl) (pe_cl c_law_far hr (by decide) (by rfl) (pa_cons (pv 1) (pa_cons pe_int (pa_cons (pe_op op_pow pe_int pe_int) pa_nil)))))
      (pss_one (ps_if (PW.pt (pw_or (pt_cmpR op_ne (pe_lamcall (T := TL) (k := 3) (P := Pt) (by rfl) GK.mgf GK.fn.kp lkK hcK GK.b sc_law_kind rfl (.inl rfl) (kind_gives T) TB rfl hmT huT (hr.mono (by decide)) (lamS_by (sc := defScope s_law) (by decide +kernel)) rfl (fun _ _ _ _ _ => rfl) (fun A outer s H E f c2 hr => (pe_clT c_pulsed hr (by decide) (passes_call (takes_of rfl rfl rfl rfl) (fun _ _ _ _ h => h)) (by rfl) (pa_cons (pv 4) (pa_cons (pv 14) pa_nil))))) pe_str (nomark _)) (pw_or1 (pt_cmpR op_ne (pe_lamD (T := TL) (k := 3) (P := Pt) (z := "_law_a") (by rfl) GK.mgf GK.fn.kp lkK hcK GK.b sc_law_kind rfl (.inl rfl) (kind_gives T) TB rfl hmT huT (hr.mono (by decide)) (lamP_by (N := ["_law_script", "_law_state", "_law_sides", "_law_k", "_law_whole", "_law_turn", "_law_stream", "_law_so_far", "_law_shares", "_law_due", "_law_handed", "_law_again", "_law_found", "_law_at", "_law_bad", "_law_none"]) (sc := defScope s_law) (by decide +kernel)) rfl rfl pe_int (fun _ _ _ _ _ _ _ => ⟨_, rfl, fun _ => rfl⟩) (fun A outer s H E f c2 hr => (pe_mkT c_Stream hr (by decide) (passes_call (takes_of rfl rfl rfl rfl) (fun _ _ _ _ h => h)) (by rfl) (pa_cons (pv 15) pa_nil)))) pe_str (nomark _))))) (pss_one (ps_ret pe_bl)) pss_nil))))))))))
      (pss_one (ps_ret pe_bl))))))), ?_⟩
    have hSm := noTab_sq hS
    have tb0 : Tabs TL H := fun p hp => by
      rw [hTL] at hp
      rcases List.mem_cons.mp hp with rfl | hp
      · exact TabS.nil hPw
      · rw [List.mem_singleton] at hp; subst hp; exact TabS.nil hPt
    refine ⟨_, rfl, a, ns, rfl, hS, fun st m0 hst0 d0 => ?_⟩
    have hst := noTab_none hst0
    have s : SOk K a ns st (upd H st (StO a 0 m0 0)) := SOk.make hlen hS hst0 d0
    have e : Same (noTab H) (upd H st (StO a 0 m0 0)) := (noTab_same H).new hst0
    have t : Tabs TL (upd H st (StO a 0 m0 0)) := tabs_same tb0 (Same.upd hst0)
    generalize upd H st (StO a 0 m0 0) = H0 at s e t
    refine ⟨Nat.zero_le _, fun Z hZ => ?_⟩
    have fZ : noTab H Z = none := e.free hZ
    have s := s.new (o := .lst []) hZ
    have e := e.new (o := .lst []) hZ
    have t := tabs_same t (Same.upd (o := .lst []) hZ)
    have z0 : Sds C H Z [] 0 (upd H0 Z (.lst [])) := ⟨upd_same, fun d hd => by simp at hd, List.Pairwise.nil⟩
    generalize upd H0 Z (.lst []) = H1 at s e t z0
    have p12 : (10 : Int) ^ (12 : Int).toNat = 1000000000000 := by decide
    refine ⟨_, rfl, by decide, by decide, for_range (lo := 0) (n := 2) (fun i σ H' => (∃ v3 v4 v5 v6 v7 v8 v9 v10 v11 v12 v13 v14 v15 : Option V, σ = [some (.ref a), some (.ref st), some (.ref Z), v3, v4, v5, v6, v7, v8, v9, v10, v11, v12, v13, v14, v15]) ∧ SOk K a ns st H' ∧ Same (noTab H) H' ∧ Tabs TL H' ∧ ∃ sd, Sds C H Z sd 0 H' ∧ sd.length = i)
      ⟨⟨none, none, none, none, none, none, none, none, none, none, none, none, none, rfl⟩, s, e, t, [], z0, rfl⟩ ?_ ?_⟩
    · rintro i σ H2 hi ⟨⟨v3, v4, v5, v6, v7, v8, v9, v10, v11, v12, v13, v14, v15, rfl⟩, s, e, t, sd, hz, hzl⟩
      have q := KT.refl [st] H2
      have n_Z := hz.nZ s
      have w_Z := hz.z
      refine ⟨_, rfl, _, _, rfl, rfl, ⟨by decide, by decide, by decide⟩, (by show 3 ≤ sizeLine; decide), fun p1 h_p1 => ?_⟩
      have n_p1 := s.ne_of h_p1
      have eu : Same H2 (upd H2 p1 (.lst [.int 10, .int 1000, .int (10 ^ (12 : Int).toNat)])) := Same.upd h_p1
      have s := s.same eu
      have e := e.trans eu
      have t := tabs_same t eu
      have q := q.same eu
      have w_Z := eu _ _ w_Z
      have w_p1 : upd H2 p1 (.lst [.int 10, .int 1000, .int (10 ^ (12 : Int).toNat)]) p1 = some (.lst [.int 10, .int 1000, .int (10 ^ (12 : Int).toNat)]) := upd_same
      clear eu
      generalize upd H2 p1 (.lst [.int 10, .int 1000, .int (10 ^ (12 : Int).toNat)]) = H3 at s e t q w_Z w_p1
      refine ⟨_, rfl, st, a, ns, 3, rfl, s, by decide, by decide, fun y i1 m1 c1 y0 y1 d1 => ?_⟩
      have ku : Keep st H3 (upd H3 st (StO a i1 m1 c1)) := (Keep.refl st H3).atSt
      have t := s.tabs t ku
      have e := e.keepAll hst ku
      have q := q.keep (st := st) (by simp) ku
      have w_Z := ku _ _ n_Z w_Z
      have w_p1 := ku _ _ n_p1 w_p1
      have s := s.drawn d1
      clear ku
      generalize upd H3 st (StO a i1 m1 c1) = H4 at s e t q w_Z w_p1
      have hat : ∃ v : Int, atI [V.int 10, V.int 1000, V.int (10 ^ (12 : Int).toNat)] y = some (.int v) ∧ 1 ≤ v ∧ v ≤ 1000000000000 := by
        rcases pick3 y0 y1 with z | z | z <;> subst z
        · exact ⟨_, rfl, by decide, by decide⟩
        · exact ⟨_, rfl, by decide, by decide⟩
        · exact ⟨_, rfl, by decide, by decide⟩
      obtain ⟨far, hfar, f0, f1⟩ := hat
      refine ⟨_, _, _, _, rfl, rfl, SqL.of w_p1, hfar, st, a, ns, far, rfl, s, by omega, Int.lt_of_le_of_lt f1 (by decide), fun r i2 m2 c2 r0 r1 d2 => ⟨_, _, rfl, rfl, ?_⟩⟩
      have ku : Keep st H4 (upd H4 st (StO a i2 m2 c2)) := (Keep.refl st H4).atSt
      have t := s.tabs t ku
      have e := e.keepAll hst ku
      have q := q.keep (st := st) (by simp) ku
      have w_Z := ku _ _ n_Z w_Z
      have s := s.drawn d2
      clear ku
      generalize upd H4 st (StO a i2 m2 c2) = H5 at s e t q w_Z
      have hz3 := hz.kst ‹SOk K a ns st H2› q
      refine ⟨_, rfl, .inl ⟨rfl, _, SqL.of w_Z⟩, _, rfl, fun x dx nx ndx nex => ?_⟩
      refine ⟨x, dx, 1 + r, rfl, upd_same, .inl ⟨by omega, by omega, rfl, ?_⟩⟩
      rw [upd_upd]
      have ea : Same H5 (upd (upd H5 dx (.own x)) x (StrmO C dx (1 + r) 0 0)) := ((Same.refl H5).mut ndx).mut nx
      have w_x : upd (upd H5 dx (.own x)) x (StrmO C dx (1 + r) 0 0) x = some (StrmO C dx (1 + r) 0 0) := upd_same
      generalize upd (upd H5 dx (.own x)) x (StrmO C dx (1 + r) 0 0) = Ha at ea w_x
      refine ⟨_, rfl, Nat.zero_le _, fun l hl => ?_⟩
      have eb := ea.new (o := .lst []) hl
      have nl := ea.free hl
      have w_x : upd Ha l (.lst []) x = _ := (upd_ne (ne_of_none w_x hl)).trans w_x
      have w_l : upd Ha l (.lst []) l = some (.lst (([] : List Int).map V.int)) := upd_same
      generalize upd Ha l (.lst []) = Hb at eb w_x w_l
      refine ⟨(by show 4 ≤ sizeLine; decide), fun p hp => ?_⟩
      have ec := eb.new (o := .lst [.ref x, .int (1 + r), .int 0, .ref l]) hp
      have np := eb.free hp
      have w_x : upd Hb p (.lst [.ref x, .int (1 + r), .int 0, .ref l]) x = _ := (upd_ne (ne_of_none w_x hp)).trans w_x
      have w_l : upd Hb p (.lst [.ref x, .int (1 + r), .int 0, .ref l]) l = _ := (upd_ne (ne_of_none w_l hp)).trans w_l
      have w_p : upd Hb p (.lst [.ref x, .int (1 + r), .int 0, .ref l]) p = some (.lst [.ref x, .int (1 + r), .int 0, .ref l]) := upd_same
      generalize upd Hb p (.lst [.ref x, .int (1 + r), .int 0, .ref l]) = Hc at ec w_x w_l w_p
      have w_Z := ec _ _ w_Z
      refine ⟨Z, _, _, rfl, rfl, w_Z, small_of (m := 2) (by rw [List.length_map, hzl]; omega), ?_⟩
      have sc : SOk K a ns st (upd Hc Z (.lst ((sd.map fun d => V.ref d.p) ++ [.ref p]))) := (s.same ec).mut hSm hst (e.trans ec) fZ n_Z
      have side : Side C Hc ⟨p, x, dx, l, 1 + r, []⟩ := ⟨w_p, by show Hc x = some (StrmO C dx (1 + r) ((([] : List Int)).sum % (1 + r)) ((([] : List Int)).sum / (1 + r))); rw [w_x]; simp, w_l, by show 1 ≤ 1 + r; omega, by show 1 + r ≤ 1000000000000; omega, fun s hs => by simp at hs⟩
      refine ⟨⟨_, _, _, _, _, _, _, _, _, _, _, _, _, rfl⟩, sc, (e.trans ec).mut fZ, tabs_keepL (tabs_same t ec) w_Z, sd ++ [⟨p, x, dx, l, 1 + r, []⟩], ?_, by rw [List.length_append, hzl]; rfl⟩
      exact hz3.push ec side (e.free np) (e.free nx) (e.free nl) (Nat.le_refl _) np nx nl
    rintro σ H2 ⟨⟨v3, v4, v5, v6, v7, v8, v9, v10, v11, v12, v13, v14, v15, rfl⟩, s, e, t, sd, hz, hzl⟩
    clear z0 hZ
    have q := KT.refl [st] H2
    refine ⟨_, rfl, (by show 4 ≤ sizeLine; decide), fun p1 h_p1 => ?_⟩
    have n_p1 := s.ne_of h_p1
    have eu : Same H2 (upd H2 p1 (.lst [.int 101, .int 101, .int 101, .int 601])) := Same.upd h_p1
    have s := s.same eu
    have e := e.trans eu
    have t := tabs_same t eu
    have q := q.same eu
    have w_p1 : upd H2 p1 (.lst [.int 101, .int 101, .int 101, .int 601]) p1 = some (.lst [.int 101, .int 101, .int 101, .int 601]) := upd_same
    clear eu
    generalize upd H2 p1 (.lst [.int 101, .int 101, .int 101, .int 601]) = H3 at s e t q w_p1
    refine ⟨_, rfl, st, a, ns, 4, rfl, s, by decide, by decide, fun y i1 m1 c1 y0 y1 d1 => ?_⟩
    have ku : Keep st H3 (upd H3 st (StO a i1 m1 c1)) := (Keep.refl st H3).atSt
    have t := s.tabs t ku
    have e := e.keepAll hst ku
    have q := q.keep (st := st) (by simp) ku
    have w_p1 := ku _ _ n_p1 w_p1
    have s := s.drawn d1
    clear ku
    generalize upd H3 st (StO a i1 m1 c1) = H4 at s e t q w_p1
    have hat : ∃ v : Int, atI [V.int 101, V.int 101, V.int 101, V.int 601] y = some (.int v) ∧ 1 ≤ v ∧ v ≤ 601 := by
      have : y = 0 ∨ y = 1 ∨ y = 2 ∨ y = 3 := by omega
      rcases this with z | z | z | z <;> subst z <;> exact ⟨_, rfl, by decide, by decide⟩
    obtain ⟨far, hfar, f0, f1⟩ := hat
    refine ⟨_, _, _, _, rfl, rfl, SqL.of w_p1, hfar, st, a, ns, far, rfl, s, by omega, Int.lt_of_le_of_lt f1 (by decide), fun r i2 m2 c2 r0 r1 d2 => ?_⟩
    have ku : Keep st H4 (upd H4 st (StO a i2 m2 c2)) := (Keep.refl st H4).atSt
    have t := s.tabs t ku
    have e := e.keepAll hst ku
    have q := q.keep (st := st) (by simp) ku
    have s := s.drawn d2
    clear ku
    generalize upd H4 st (StO a i2 m2 c2) = H5 at s e t q
    have hz := hz.kst ‹SOk K a ns st H2› q
    refine ⟨_, rfl, by omega, by omega, for_range (lo := 0) (n := r.toNat) (fun j σ H' => (∃ v3 v4 v5 v6 v7 v8 v9 v10 v11 v12 v13 v14 v15 : Option V, σ = [some (.ref a), some (.ref st), some (.ref Z), v3, v4, v5, v6, v7, v8, v9, v10, v11, v12, v13, v14, v15]) ∧ SOk K a ns st H' ∧ Same (noTab H) H' ∧ Tabs TL H' ∧ ∃ sd, Sds C H Z sd j H' ∧ sd.length = 2)
      ⟨⟨_, _, _, _, _, _, _, _, _, _, _, _, _, rfl⟩, s, e, t, sd, hz, hzl⟩ ?_ ?_⟩
    · rintro j σ H3 hj ⟨⟨v3, v4, v5, v6, v7, v8, v9, v10, v11, v12, v13, v14, v15, rfl⟩, s, e, t, sd, hz, hzl⟩
      obtain ⟨d0, d1, rfl⟩ : ∃ d0 d1, sd = [d0, d1] := by
        match sd, hzl with
        | [d0, d1], _ => exact ⟨d0, d1, rfl⟩
      have q := KT.refl [st] H3
      refine ⟨_, rfl, _, rfl, _, rfl, st, a, ns, 2, rfl, s, by decide, by decide, fun u i1 m1 c1 u0 u1 d1_ => ?_⟩
      have s3 := s
      have d_1 := d1_
      have ku : Keep st H3 (upd H3 st (StO a i1 m1 c1)) := (Keep.refl st H3).atSt
      have t := s.tabs t ku
      have e := e.keepAll hst ku
      have q := q.keep (st := st) (by simp) ku
      have s := s.drawn d_1
      clear ku
      generalize upd H3 st (StO a i1 m1 c1) = H4 at s e t q
      have hz := hz.kst s3 q
      have hat : ∃ d : SD, atI (([d0, d1] : List SD).map fun d => V.ref d.p) u = some (.ref d.p) ∧ (d = d0 ∨ d = d1) := by
        have : u = 0 ∨ u = 1 := by omega
        rcases this with z | z <;> subst z
        · exact ⟨d0, rfl, .inl rfl⟩
        · exact ⟨d1, rfl, .inr rfl⟩
      obtain ⟨d, hd, hdo⟩ := hat
      have hdm : d ∈ [d0, d1] := by rcases hdo with rfl | rfl <;> simp
      obtain ⟨sdd, g1, g2, g3, g4⟩ := hz.each d hdm
      refine ⟨_, _, _, _, rfl, rfl, SqL.of hz.z, hd, H, st, a, ns, d, rfl, s, e, hSm, hst, g1, g2, g3, t, sdd, by omega, fun z H5 q5 e5 t5 s5 sd5 => ⟨_, rfl, iteF ?_⟩⟩
      obtain ⟨sd', hz5, hzl5⟩ := hz.two s hdo q5 sd5
      clear hz sdd sd5 q5 q
      refine ⟨_, rfl, Z, rfl, ⟨_, SqL.of hz5.z⟩, for_list (K := K) (a := Z) (xs := sd'.map fun d => V.ref d.p) (fun i σ H' => (∃ v3 v4 v5 v6 v7 v8 v9 v10 v11 v12 v13 v14 v15 : Option V, σ = [some (.ref a), some (.ref st), some (.ref Z), v3, v4, v5, v6, v7, v8, v9, v10, v11, v12, v13, v14, v15]) ∧ Same H5 H') ⟨⟨_, _, _, _, _, _, _, _, _, _, _, _, _, rfl⟩, Same.refl _⟩ (fun i σ H' _ h => SqL.of (h.2 _ _ hz5.z)) ?_ ?_⟩
      · rintro i y σ H6 hi ⟨⟨v3, v4, v5, v6, v7, v8, v9, v10, v11, v12, v13, v14, v15, rfl⟩, e6⟩
        obtain ⟨d', hd', rfl⟩ := sd_at hi
        obtain ⟨sdd, _⟩ := hz5.each d' hd'
        have sdd := sdd.same e6
        have w_Y : H6 d'.x = some (.ins C d'.dx (sFs d'.wh (d'.ss.sum % d'.wh) (d'.ss.sum / d'.wh))) := sdd.x
        have w0 := sdd.w0
        have w1 := sdd.w1
        refine ⟨_, _, rfl, SqL.of sdd.p, rfl, _, _, rfl, _, _, rfl, _, _, rfl, _, _, rfl, rfl, ?_⟩
        refine ⟨_, rfl, d'.x, d'.dx, _, rfl, w_Y, sFs_no (by decide +kernel) (by decide +kernel) (by decide +kernel), d'.x, d'.dx, d'.wh, _, _, rfl, sdd.x, ?_⟩
        refine ⟨_, rfl, d'.x, d'.dx, _, rfl, w_Y, sFs_no (by decide +kernel) (by decide +kernel) (by decide +kernel), d'.x, d'.dx, d'.wh, _, _, rfl, sdd.x, (by show 2 ≤ sizeLine; decide), fun y1 hy1 => ?_⟩
        have ea : Same H6 (upd H6 y1 (.lst [.int (d'.ss.sum % d'.wh), .int (d'.ss.sum / d'.wh)])) := Same.upd hy1
        have w_y1 : upd H6 y1 (.lst [.int (d'.ss.sum % d'.wh), .int (d'.ss.sum / d'.wh)]) y1 = some (.lst (([d'.ss.sum % d'.wh, d'.ss.sum / d'.wh] : List Int).map V.int)) := upd_same
        generalize upd H6 y1 (.lst [.int (d'.ss.sum % d'.wh), .int (d'.ss.sum / d'.wh)]) = Ha at ea w_y1
        refine ⟨_, rfl, _, rfl, _, _, rfl, rfl, (by show (0 : Int) < d'.wh; omega), _, rfl, _, rfl, _, _, rfl, rfl, wide_div (b := 41) (by omega) (by omega) (by decide) (by decide), (by show 2 ≤ sizeLine; decide), fun y2 hy2 => ?_⟩
        have eb : Same Ha (upd Ha y2 (.lst [.int (d'.ss.sum % d'.wh), .int (d'.ss.sum / d'.wh)])) := Same.upd hy2
        have w_y2 : upd Ha y2 (.lst [.int (d'.ss.sum % d'.wh), .int (d'.ss.sum / d'.wh)]) y2 = some (.lst (([d'.ss.sum % d'.wh, d'.ss.sum / d'.wh] : List Int).map V.int)) := upd_same
        generalize upd Ha y2 (.lst [.int (d'.ss.sum % d'.wh), .int (d'.ss.sum / d'.wh)]) = Hb at eb w_y2
        refine ⟨_, _, rfl, .ints (eb _ _ w_y1) w_y2 (by show 2 ≤ 1000; decide) 0, fun Hc ec => ⟨_, rfl, iteF ?_⟩⟩
        exact ⟨⟨_, _, _, _, _, _, _, _, _, _, _, _, _, rfl⟩, ((e6.trans ea).trans eb).trans ec⟩
      · rintro σ H6 ⟨⟨v3, v4, v5, v6, v7, v8, v9, v10, v11, v12, v13, v14, v15, rfl⟩, e6⟩
        exact ⟨⟨_, _, _, _, _, _, _, _, _, _, _, _, _, rfl⟩, s5.same e6, e5.trans e6, tabs_same t5 e6, sd', hz5.same e6, hzl5⟩
    rintro σ H3 ⟨⟨v3, v4, v5, v6, v7, v8, v9, v10, v11, v12, v13, v14, v15, rfl⟩, s, e, t, sd, hz, hzl⟩
    have hn : r.toNat ≤ 1000 := by omega
    have s3 := s
    refine ⟨_, rfl, Z, rfl, ⟨_, SqL.of hz.z⟩, for_list (K := K) (a := Z) (xs := sd.map fun d => V.ref d.p) (fun i σ H' => (∃ v3 v4 v5 v6 v7 v8 v9 v10 v11 v12 v13 v14 v15 : Option V, σ = [some (.ref a), some (.ref st), some (.ref Z), v3, v4, v5, v6, v7, v8, v9, v10, v11, v12, v13, v14, v15]) ∧ SOk K a ns st H' ∧ Same (noTab H) H' ∧ Tabs TL H' ∧ KT [st] H3 H') ⟨⟨_, _, _, _, _, _, _, _, _, _, _, _, _, rfl⟩, s, e, t, KT.refl _ _⟩ (fun i σ H' _ h => SqL.of (hz.kst s3 h.2.2.2.2).z) ?_ ?_⟩
    rotate_left 1
    · rintro σ H4 ⟨_, s4, e4, t4, q4⟩
      exact kk _
    rintro i y σ H4 hi ⟨⟨v3, v4, v5, v6, v7, v8, v9, v10, v11, v12, v13, v14, v15, rfl⟩, s, e, t, q⟩
    obtain ⟨d, hd, rfl⟩ := sd_at hi
    obtain ⟨sdd, g1, g2, g3, g4⟩ := (hz.kst s3 q).each d hd
    obtain ⟨P_, X_, DX_, L_, wh, ss⟩ := d
    obtain ⟨w_P_, w_X_, w_L_, w0, w1, hss⟩ := sdd
    dsimp only at w_P_ w_X_ w_L_ w0 w1 hss g1 g2 g3 g4
    obtain ⟨n_P_, n_X_, n_L_⟩ := Side.nst (C := C) (d := ⟨P_, X_, DX_, L_, wh, ss⟩) ⟨w_P_, w_X_, w_L_, w0, w1, hss⟩ s
    dsimp only at n_P_ n_X_ n_L_
    have sl : ss.length ≤ 1000 := by omega
    have hlen2 : (ss.map V.int).length = ss.length := List.length_map _
    have hpl := plL_len wh ss
    refine ⟨_, _, rfl, SqL.of w_P_, rfl, _, _, rfl, _, _, rfl, _, _, rfl, _, _, rfl, rfl, ?_⟩
    clear w_P_ w_X_
    refine ⟨Nat.zero_le _, fun D hD => ?_⟩
    refine ⟨_, rfl, _, _, rfl, .inl (SqL.of ((upd_ne (ne_of_none w_L_ hD)).trans w_L_)), _, rfl, by rw [hlen2]; omega, by rw [hlen2]; omega, ?_⟩
    rw [hlen2, Int.toNat_natCast]
    refine for_range (lo := 0) (n := ss.length) (fun j σ H' => (∃ v3 : Option V, σ = [some (.ref a), some (.ref st), some (.ref Z), v3, some (.int wh), v5, some (.ref X_), some (.int ss.sum), some (.ref L_), some (.ref D), v10, v11, v12, v13, v14, v15]) ∧ Same H4 H' ∧ H' D = some (.lst (((List.range j).map (plB wh ss)).map V.int))) ⟨⟨_, rfl⟩, Same.upd hD, upd_same⟩ ?_ ?_
    · rintro j σ H5 hj ⟨⟨v3, rfl⟩, e5, w_D⟩
      have w_L := e5 _ _ w_L_
      refine ⟨_, rfl, .inl ⟨rfl, _, SqL.of w_D⟩, _, rfl, _, rfl, _, _, rfl, rfl, _, rfl, _, _, rfl, SqL.of w_L, fun p1 hp1 => ?_⟩
      rw [show (0 + (j : Int) + 1) = ((j + 1 : Nat) : Int) by omega, cutV_to]
      have ea : Same H5 (upd H5 p1 (.lst ((ss.take (j + 1)).map V.int))) := Same.upd hp1
      have w_p1 : upd H5 p1 (.lst ((ss.take (j + 1)).map V.int)) p1 = some (.lst ((ss.take (j + 1)).map V.int)) := upd_same
      generalize upd H5 p1 (.lst ((ss.take (j + 1)).map V.int)) = Ha at ea w_p1
      refine ⟨_, _, rfl, SqL.of w_p1, _, rfl, _, _, rfl, rfl, wide_div (b := 41) (by omega) (by omega) (by decide) (by decide), _, rfl, _, rfl, _, rfl, _, _, rfl, SqL.of (ea _ _ w_L), fun p2 hp2 => ?_⟩
      rw [show (0 + (j : Int)) = (j : Int) by omega, cutV_to]
      have eb : Same Ha (upd Ha p2 (.lst ((ss.take j).map V.int))) := Same.upd hp2
      have w_p2 : upd Ha p2 (.lst ((ss.take j).map V.int)) p2 = some (.lst ((ss.take j).map V.int)) := upd_same
      generalize upd Ha p2 (.lst ((ss.take j).map V.int)) = Hb at eb w_p2
      refine ⟨_, _, rfl, SqL.of w_p2, _, rfl, _, _, rfl, rfl, wide_div (b := 41) (by omega) (by omega) (by decide) (by decide), _, _, rfl, rfl, D, _, _, rfl, rfl, eb _ _ (ea _ _ w_D), small_of (m := 1000) (by rw [List.length_map, List.length_map, List.length_range]; omega), ⟨_, rfl⟩, ((e5.trans ea).trans eb).mut hD, ?_⟩
      rw [upd_same, List.range_succ, List.map_append, List.map_append]
      rfl
    rintro σ H5 ⟨⟨v3, rfl⟩, e5, w_D⟩
    have w_D : H5 D = some (.lst ((plL wh ss).map V.int)) := w_D
    clear hD
    have s := s.same e5
    have e := e.trans e5
    have t := tabs_same t e5
    have q := q.same e5
    have w_L_ := e5 _ _ w_L_
    refine ⟨_, rfl, _, _, rfl, .inl (SqL.of w_L_), fun hn_ h_hn_ => ?_⟩
    have n_D : D ≠ st := by obtain ⟨i, m, c, _, hs⟩ := s.at_; exact ne_by w_D hs (ints_st _)
    have n_hn_ := s.ne_of h_hn_
    have eu : Same H5 (upd H5 hn_ (.lst (ss.map V.int))) := Same.upd h_hn_
    have s := s.same eu
    have e := e.trans eu
    have t := tabs_same t eu
    have q := q.same eu
    have w_L_ := eu _ _ w_L_
    have w_D := eu _ _ w_D
    have w_hn_ : upd H5 hn_ (.lst (ss.map V.int)) hn_ = some (.lst (ss.map V.int)) := upd_same
    clear eu
    generalize upd H5 hn_ (.lst (ss.map V.int)) = H6 at s e t q w_L_ w_D w_hn_
    refine ⟨_, rfl, by decide, by decide, for_range (lo := 0) (n := 2) (fun j σ H' => (∃ v11 v12 : Option V, σ = [some (.ref a), some (.ref st), some (.ref Z), v3, some (.int wh), v5, some (.ref X_), some (.int ss.sum), some (.ref L_), some (.ref D), some (.ref hn_), v11, v12, v13, v14, v15]) ∧ Same H6 H') ⟨⟨_, _, rfl⟩, Same.refl _⟩ ?_ ?_⟩
    · rintro j σ H7 hj ⟨⟨v11, v12, rfl⟩, e7⟩
      refine ⟨_, rfl, _, rfl, wh, hn_, ss, rfl, SqL.of (e7 _ _ w_hn_), by omega, w0, w1, fun _ fp H8 e8 h_fp w_fp => ?_, fun z => absurd hss z⟩
      have e78 := e7.trans e8
      refine ⟨_, rfl, _, rfl, _, _, rfl, .ints w_fp (e78 _ _ w_D) (by rw [hpl]; omega) 0, fun H9 e9 => ⟨_, rfl, iteF ?_⟩⟩
      have e79 := e78.trans e9
      refine ⟨_, rfl, _, rfl, _, _, dp_ints (SqL.of (e79 _ _ w_hn_)), dp_ints (SqL.of (e79 _ _ w_L_)), dI_shaped _, dI_shaped _, _, rfl, ?_⟩
      refine iteFe (by rw [dI_eqv, decide_eq_true rfl]; rfl) ?_
      exact ⟨_, rfl, .inl ⟨rfl, _, SqL.of (e9 _ _ w_fp)⟩, fp, _, _, rfl, rfl, e9 _ _ w_fp, small_of (m := 1000) (by rw [List.length_map, hpl]; omega), ⟨_, _, rfl⟩, e79.mut (e7.free h_fp)⟩
    rintro σ H7 ⟨⟨v11, v12, rfl⟩, eR⟩
    have s := s.same eR
    have e := e.trans eR
    have t := tabs_same t eR
    have q := q.same eR
    have w_L_ := eR _ _ w_L_
    refine ⟨_, rfl, _, rfl, _, _, rfl, .inl (SqL.of w_L_), _, _, rfl, rfl, st, a, ns, ((ss.map V.int).length : Int) + 1, rfl, s, by omega, Int.lt_of_le_of_lt (show ((ss.map V.int).length : Int) + 1 ≤ 1001 by omega) (by decide), fun rr i3 m3 c3 rr0 rr1 d3 => ?_⟩
    obtain ⟨b, rfl⟩ : ∃ b : Nat, rr = (b : Int) := ⟨rr.toNat, by omega⟩
    have ku : Keep st H7 (upd H7 st (StO a i3 m3 c3)) := (Keep.refl st H7).atSt
    have t := s.tabs t ku
    have e := e.keepAll hst ku
    have q := q.keep (st := st) (by simp) ku
    have w_L_ := ku _ _ n_L_ w_L_
    have s := s.drawn d3
    clear ku
    generalize upd H7 st (StO a i3 m3 c3) = H8 at s e t q w_L_
    refine ⟨_, rfl, _, rfl, _, rfl, _, _, rfl, SqL.of w_L_, fun a1 h_a1 => ?_⟩
    rw [cutV_to]
    have n_a1 := s.ne_of h_a1
    have eu : Same H8 (upd H8 a1 (.lst ((ss.take b).map V.int))) := Same.upd h_a1
    have s := s.same eu
    have e := e.trans eu
    have t := tabs_same t eu
    have q := q.same eu
    have w_L_ := eu _ _ w_L_
    have w_a1 : upd H8 a1 (.lst ((ss.take b).map V.int)) a1 = some (.lst ((ss.take b).map V.int)) := upd_same
    clear eu
    generalize upd H8 a1 (.lst ((ss.take b).map V.int)) = H9 at s e t q w_L_ w_a1
    refine ⟨_, rfl, _, rfl, st, a, ns, 0, wh, rfl, s, fun v H10 hv kE sE => ⟨(by show 1 ≤ sizeLine; decide), fun a2 h_a2 => ?_⟩⟩
    have t := s.tabs t kE
    have e := e.keepAll hst kE
    have q := q.keep (st := st) (by simp) kE
    have w_L_ := kE _ _ n_L_ w_L_
    have w_a1 := kE _ _ n_a1 w_a1
    have s := sE
    have n_a2 := s.ne_of h_a2
    have eu : Same H10 (upd H10 a2 (.lst [.int v])) := Same.upd h_a2
    have s := s.same eu
    have e := e.trans eu
    have t := tabs_same t eu
    have q := q.same eu
    have w_L_ := eu _ _ w_L_
    have w_a1 := eu _ _ w_a1
    have w_a2 : upd H10 a2 (.lst [.int v]) a2 = some (.lst [.int v]) := upd_same
    clear eu
    generalize upd H10 a2 (.lst [.int v]) = H11 at s e t q w_L_ w_a1 w_a2
    refine ⟨_, _, _, _, rfl, rfl, w_a1, w_a2, small_le (m := 2000) (by simp; omega), fun a3 h_a3 => ?_⟩
    have n_a3 := s.ne_of h_a3
    have eu : Same H11 (upd H11 a3 (.lst ((ss.take b).map V.int ++ [.int v]))) := Same.upd h_a3
    have s := s.same eu
    have e := e.trans eu
    have t := tabs_same t eu
    have q := q.same eu
    have w_L_ := eu _ _ w_L_
    have w_a1 := eu _ _ w_a1
    have w_a2 := eu _ _ w_a2
    have w_a3 : upd H11 a3 (.lst ((ss.take b).map V.int ++ [.int v])) a3 = some (.lst ((ss.take b).map V.int ++ [.int v])) := upd_same
    clear eu
    generalize upd H11 a3 (.lst ((ss.take b).map V.int ++ [.int v])) = H12 at s e t q w_L_ w_a1 w_a2 w_a3
    refine ⟨_, rfl, _, rfl, _, rfl, _, _, rfl, SqL.of w_L_, fun a4 h_a4 => ?_⟩
    rw [cutN_from]
    have n_a4 := s.ne_of h_a4
    have eu : Same H12 (upd H12 a4 (.lst ((ss.drop b).map V.int))) := Same.upd h_a4
    have s := s.same eu
    have e := e.trans eu
    have t := tabs_same t eu
    have q := q.same eu
    have w_L_ := eu _ _ w_L_
    have w_a3 := eu _ _ w_a3
    have w_a4 : upd H12 a4 (.lst ((ss.drop b).map V.int)) a4 = some (.lst ((ss.drop b).map V.int)) := upd_same
    clear eu
    generalize upd H12 a4 (.lst ((ss.drop b).map V.int)) = H13 at s e t q w_L_ w_a3 w_a4
    refine ⟨_, _, _, _, rfl, rfl, w_a3, w_a4, small_le (m := 2000) (by simp; omega), fun bl h_bl => ?_⟩
    have n_bl := s.ne_of h_bl
    have eu : Same H13 (upd H13 bl (.lst (((ss.take b).map V.int ++ [.int v]) ++ (ss.drop b).map V.int))) := Same.upd h_bl
    have s := s.same eu
    have e := e.trans eu
    have t := tabs_same t eu
    have q := q.same eu
    have w_L_ := eu _ _ w_L_
    have w_a3 := eu _ _ w_a3
    have w_a4 := eu _ _ w_a4
    have w_bl : upd H13 bl (.lst (((ss.take b).map V.int ++ [.int v]) ++ (ss.drop b).map V.int)) bl = some (.lst (((ss.take b).map V.int ++ [.int v]) ++ (ss.drop b).map V.int)) := upd_same
    clear eu
    generalize upd H13 bl (.lst (((ss.take b).map V.int ++ [.int v]) ++ (ss.drop b).map V.int)) = H14 at s e t q w_L_ w_a3 w_a4 w_bl
    have ev : ((ss.take b).map V.int ++ [.int v]) ++ (ss.drop b).map V.int = (ss.take b ++ [v] ++ ss.drop b).map V.int := by rw [List.map_append, List.map_append]; rfl
    rw [ev] at w_bl
    have bad1 : ¬ ∀ x ∈ ss.take b ++ [v] ++ ss.drop b, 0 ≤ x ∧ x ≤ wh := fun z => by have := z v (by simp); omega
    have bl1 : (ss.take b ++ [v] ++ ss.drop b).length ≤ 100000 := by simp; omega
    generalize ss.take b ++ [v] ++ ss.drop b = bs at w_bl bad1 bl1
    refine ⟨_, rfl, _, _, rfl, rfl, ⟨by decide, by decide, by decide⟩, st, a, ns, 1, (10 : Int) ^ (12 : Int).toNat, rfl, s, fun zz H15 hzz kE sE => ?_⟩
    have t := s.tabs t kE
    have e := e.keepAll hst kE
    have q := q.keep (st := st) (by simp) kE
    have w_bl := kE _ _ n_bl w_bl
    have s := sE
    refine ⟨t, fun H16 eN tN => ?_⟩
    have s := s.extN hSm hst e eN
    have e := extN_same e eN
    have t := tN
    have q := q.extN eN
    have w_bl := eN _ _ w_bl (fun _ z => nomatch z)
    refine ⟨_, rfl, _, rfl, wh, bl, bs, rfl, SqL.of w_bl, bl1, w0, w1, fun z => absurd z bad1, fun _ H17 e9 => ⟨"BadShare", 1, rfl, rfl, eBS, fun H18 e10 => ?_⟩⟩
    have s := s.same e9
    have e := e.trans e9
    have t := tabs_same t e9
    have q := q.same e9
    have w_bl := e9 _ _ w_bl
    have s := s.same e10
    have e := e.trans e10
    have t := tabs_same t e10
    have q := q.same e10
    have w_bl := e10 _ _ w_bl
    refine ⟨rfl, _, rfl, iteFe (neqF rfl) ?_⟩
    refine ⟨t, fun T0 n0 H19 eN2 tN2 => ?_⟩
    have ed : Same H18 (upd H18 T0 (.tup [.int 0])) := Same.upd n0
    have s := s.same ed
    have e := e.trans ed
    have q := q.same ed
    have wT : H19 T0 = some (.tup [.int 0]) := eN2 _ _ upd_same (fun _ z => nomatch z)
    have s := s.extN hSm hst e eN2
    have e := extN_same e eN2
    have q := q.extN eN2
    refine ⟨wT, _, rfl, fun x dx nx ndx nex => ⟨x, dx, zz, rfl, upd_same, .inr ⟨by omega, ⟨"BadShare", 1, rfl, rfl, eBS, fun Hy ey => ?_⟩⟩⟩⟩
    have ez := (((Same.refl H19).mut ndx).mut nx).trans ey
    exact ⟨rfl, _, rfl, iteFe (neqF rfl) ⟨⟨_, _, _, _, _, _, _, _, _, _, _, _, _, rfl⟩, s.same ez, e.trans ez, tabs_same tN2 ez, q.same ez⟩⟩
end
end My

namespace My
open PySem PySem.Spec PyProof.Rows LamX L2
def dd_law_start : He.DefD := ⟨("_law_start", none), "_law_start", "_law_start", defArgs s_law_start, defBody s_law_start, defScope s_law_start, [], []⟩
def dd_law_drawn : He.DefD := ⟨("_law_drawn", none), "_law_drawn", "_law_drawn", defArgs s_law_drawn, defBody s_law_drawn, defScope s_law_drawn, [], []⟩
def dd_law_kind : He.DefD := ⟨("_law_kind", none), "_law_kind", "_law_kind", defArgs s_law_kind, defBody s_law_kind, defScope s_law_kind, [], []⟩
def dd_Stream___init__ : He.DefD := ⟨("Stream", some "__init__"), "__init__", "Stream.__init__", defArgs s_Stream_init__, defBody s_Stream_init__, defScope s_Stream_init__, [], []⟩
def dd_Stream_next : He.DefD := ⟨("Stream", some "next"), "next", "Stream.next", defArgs s_Stream_next, defBody s_Stream_next, defScope s_Stream_next, [], []⟩
def dd_Stream_rest : He.DefD := ⟨("Stream", some "rest"), "rest", "Stream.rest", defArgs s_Stream_rest, defBody s_Stream_rest, defScope s_Stream_rest, [], []⟩
def dd_Stream_pulses : He.DefD := ⟨("Stream", some "pulses"), "pulses", "Stream.pulses", defArgs s_Stream_pulses, defBody s_Stream_pulses, defScope s_Stream_pulses, [], []⟩
def dd_law_far : He.DefD := ⟨("_law_far", none), "_law_far", "_law_far", defArgs s_law_far, defBody s_law_far, defScope s_law_far, [], []⟩
def dd_pulsed : He.DefD := ⟨("pulsed", none), "pulsed", "pulsed", defArgs s_pulsed, defBody s_pulsed, defScope s_pulsed, [], []⟩
def dd_law_same : He.DefD := ⟨("_law_same", none), "_law_same", "_law_same", defArgs s_law_same, defBody s_law_same, defScope s_law_same, [], []⟩
def dd_law_beat : He.DefD := ⟨("_law_beat", none), "_law_beat", "_law_beat", defArgs s_law_beat, defBody s_law_beat, defScope s_law_beat, [], []⟩
def dd_law : He.DefD := ⟨("law", none), "law", "law", defArgs s_law, defBody s_law, defScope s_law, [], []⟩
def hfn : List He.DefD := [dd_law_start, dd_law_drawn, dd_law_kind, dd_Stream___init__, dd_Stream_next, dd_Stream_rest, dd_Stream_pulses, dd_law_far, dd_pulsed, dd_law_same, dd_law_beat, dd_law]
def hfa : List He.Fa := [.glo "_law_start", .glo "_law_drawn", .glo "_law_kind", .glo "_law_far", .glo "pulsed", .glo "_law_same", .glo "_law_beat", .glo "law", .glo "BadBegins", .glo "BadFrame", .glo "BadRuns", .glo "BadShare", .glo "BadText", .glo "BadWidth", .glo "NoRoom", .glo "PulseError", .meth "Stream" "__init__", .meth "Stream" "next", .meth "Stream" "rest", .meth "Stream" "pulses", .glo "Stream", .cls "Stream", .mkr "Stream", .noat "Stream" "whole", .noat "Stream" "left", .noat "Stream" "told", .exc "BadShare", .exm "BadShare" "PulseError" true, .int "MOST_WHOLE" 1000000000000, .free "ValueError", .free "bool", .free "divmod", .free "int", .free "isinstance", .free "len", .free "list", .free "min", .free "range", .free "str", .free "sum", .free "tuple"]
def exL (K : PySem.W.Frag) : List Bool := [decide (PySem.W.specialIn K (.builtin "object.__class__") "__get__" = some (some (.builtin "getset_descriptor.__get__"))),
  decide (PySem.W.takesIn K (.builtin "object.__class__") = some true),
  decide (PySem.W.findIn K (.ref (He.ga K "BadShare")) "__getattribute__" = some (some (.builtin "BaseException.__getattribute__"))),
  decide (PySem.W.findIn K (.ref (He.ga K "BadShare")) "__getattr__" = some none),
  decide (PySem.W.subIn K (.ref (He.ga K "BadShare")) (.type "BaseException") = some true),
  PySem.W.hasDictIn K (He.ga K "BadShare"),
  decide (PySem.W.findIn K (.ref (He.ga K "BadShare")) "__class__" = some (some (.builtin "object.__class__"))),
  decide (PySem.W.mroIn K (He.ga K "BadShare") (.type "object") = some true),
  decide (PySem.W.kitOne K (.ref (He.ga K "BadShare")) (.ref (He.ga K "BadFrame")) = some (decide (1 = 0))),
  decide (PySem.W.kitOne K (.ref (He.ga K "BadShare")) (.ref (He.ga K "BadShare")) = some (decide (1 = 1))),
  decide (PySem.W.kitOne K (.ref (He.ga K "BadShare")) (.ref (He.ga K "BadWidth")) = some (decide (1 = 2))),
  decide (PySem.W.kitOne K (.ref (He.ga K "BadShare")) (.ref (He.ga K "BadBegins")) = some (decide (1 = 3))),
  decide (PySem.W.kitOne K (.ref (He.ga K "BadShare")) (.ref (He.ga K "BadRuns")) = some (decide (1 = 4))),
  decide (PySem.W.kitOne K (.ref (He.ga K "BadShare")) (.ref (He.ga K "NoRoom")) = some (decide (1 = 5))),
  decide (PySem.W.kitOne K (.ref (He.ga K "BadShare")) (.ref (He.ga K "BadText")) = some (decide (1 = 6))),
  decide (PySem.W.kitOne K (.ref (He.ga K "BadShare")) (.type "ValueError") = some true),
  decide ((He.cT K ("_law_beat", none)).2 ≠ (He.cT K ("law", none)).2)]
def hex (K : PySem.W.Frag) : Bool := (exL K).all id
theorem hex_at {K : PySem.W.Frag} (h : hex K = true) (i : Nat) {b : Bool} (e : (exL K)[i]? = some b := by rfl) : b = true := List.all_eq_true.mp h b (List.mem_of_getElem? e)
abbrev hR : PySem.W.OpenRow := PySem.W.OpenLaw.row PySem.Challenge.rw_pulseshare_k07_streams
abbrev hkk : PySem.W.Hook := He.hookX 4 hfa hfn [] [("_law_beat", none), ("law", none)] hex
def hob (s : PySem.W.SharedT) : He.AlX := He.obsX 4 hfa hfn [] [("_law_beat", none), ("law", none)] hex (HandSHeadRun.getT s)
theorem hob_eq (s : PySem.W.SharedT) : hob s = hkk.obs s.abs := He.obsX_eq (HandSHeadRun.getT_eq s)
theorem hrun (w : World) : HandSHeadRun.RunEq hR (PySem.W.view hR.prog [20]) hkk hob 4000 [("PulseError" : Str), ("BadFrame" : Str), ("BadShare" : Str), ("BadWidth" : Str), ("BadBegins" : Str), ("BadRuns" : Str), ("NoRoom" : Str), ("BadText" : Str), ("MOST_WHOLE" : Str), ("Stream" : Str), ("pulsed" : Str), ("_law_start" : Str), ("_law_drawn" : Str), ("_law_same" : Str), ("_law_kind" : Str), ("_law_far" : Str), ("_law_beat" : Str)] w := by
  intro os
  kernel_rfl
theorem fun_of_D {K : PySem.W.Frag} {x q : Str} {st : Stmt} {f : Addr} {fd : FuncData} (F : FunD K x q (defArgs st) (defBody st) (defScope st) [] [] f fd) : Fun K x q st f fd := by
  obtain ⟨oc, od, dV, kV, doc, pm, an, cdv, ct, osl, e, lk, hcd, hD, hK⟩ := F.ex
  rcases hD with ⟨_, e2⟩ | ⟨e2, _⟩
  · subst e2
    exact ⟨⟨oc, od, kV, doc, pm, an, cdv, ct, osl, e, lk, hcd⟩, F.kp⟩
  · exact absurd rfl e2
theorem facts {l : PySem.W.OpenLaw} {w : World} {K : PySem.W.Frag} {h : Heap} {mg : Str → Option Value} {fa : Addr} (KX : K.In h) (G : h.Ns mainGlobals mg) (hmg : mg ("law" : Str) = some (.ref fa)) (c : He.SaysX hfa hfn [] [("_law_beat", none), ("law", none)] hex w h K) : LawAtS l w K CX0 8 63 "_law_script" mg fa h := by
  obtain ⟨fd_law_start, FD_law_start⟩ := c.t.d.def_ 0 (d := dd_law_start) rfl
  have G_law_start : FunG K mg "_law_start" s_law_start (He.ga K "_law_start") fd_law_start ["_law_script"] := ⟨fun_of_D FD_law_start, He.glo_ok KX G (c.t.d.fact 0 (f := .glo "_law_start") rfl), FunD.bindsN (ps := ["_law_script"]) FD_law_start fun _ _ _ _ _ _ us hl => match us, hl with | [_], _ => rfl⟩
  obtain ⟨fd_law_drawn, FD_law_drawn⟩ := c.t.d.def_ 1 (d := dd_law_drawn) rfl
  have G_law_drawn : FunG K mg "_law_drawn" s_law_drawn (He.ga K "_law_drawn") fd_law_drawn ["_law_state", "_law_many"] := ⟨fun_of_D FD_law_drawn, He.glo_ok KX G (c.t.d.fact 1 (f := .glo "_law_drawn") rfl), FunD.bindsN (ps := ["_law_state", "_law_many"]) FD_law_drawn fun _ _ _ _ _ _ us hl => match us, hl with | [_, _], _ => rfl⟩
  obtain ⟨fd_law_kind, FD_law_kind⟩ := c.t.d.def_ 2 (d := dd_law_kind) rfl
  have G_law_kind : FunG K mg "_law_kind" s_law_kind (He.ga K "_law_kind") fd_law_kind ["_law_work"] := ⟨fun_of_D FD_law_kind, He.glo_ok KX G (c.t.d.fact 2 (f := .glo "_law_kind") rfl), FunD.bindsN (ps := ["_law_work"]) FD_law_kind fun _ _ _ _ _ _ us hl => match us, hl with | [_], _ => rfl⟩
  obtain ⟨fd_Stream___init__, FD_Stream___init__⟩ := c.t.d.def_ 3 (d := dd_Stream___init__) rfl
  have G_Stream___init__ : FunM K "__init__" "Stream.__init__" s_Stream_init__ (He.ma K (He.ga K "Stream") "__init__") fd_Stream___init__ ["self", "whole"] := ⟨fun_of_D FD_Stream___init__, FunD.bindsN (ps := ["self", "whole"]) FD_Stream___init__ fun _ _ _ _ _ _ us hl => match us, hl with | [_, _], _ => rfl⟩
  have M_Stream___init__ := He.meth_ok (c.t.d.fact 16 (f := .meth "Stream" "__init__") rfl)
  obtain ⟨fd_Stream_next, FD_Stream_next⟩ := c.t.d.def_ 4 (d := dd_Stream_next) rfl
  have G_Stream_next : FunM K "next" "Stream.next" s_Stream_next (He.ma K (He.ga K "Stream") "next") fd_Stream_next ["self", "share"] := ⟨fun_of_D FD_Stream_next, FunD.bindsN (ps := ["self", "share"]) FD_Stream_next fun _ _ _ _ _ _ us hl => match us, hl with | [_, _], _ => rfl⟩
  have M_Stream_next := He.meth_ok (c.t.d.fact 17 (f := .meth "Stream" "next") rfl)
  obtain ⟨fd_Stream_rest, FD_Stream_rest⟩ := c.t.d.def_ 5 (d := dd_Stream_rest) rfl
  have G_Stream_rest : FunM K "rest" "Stream.rest" s_Stream_rest (He.ma K (He.ga K "Stream") "rest") fd_Stream_rest ["self"] := ⟨fun_of_D FD_Stream_rest, FunD.bindsN (ps := ["self"]) FD_Stream_rest fun _ _ _ _ _ _ us hl => match us, hl with | [_], _ => rfl⟩
  have M_Stream_rest := He.meth_ok (c.t.d.fact 18 (f := .meth "Stream" "rest") rfl)
  obtain ⟨fd_Stream_pulses, FD_Stream_pulses⟩ := c.t.d.def_ 6 (d := dd_Stream_pulses) rfl
  have G_Stream_pulses : FunM K "pulses" "Stream.pulses" s_Stream_pulses (He.ma K (He.ga K "Stream") "pulses") fd_Stream_pulses ["self"] := ⟨fun_of_D FD_Stream_pulses, FunD.bindsN (ps := ["self"]) FD_Stream_pulses fun _ _ _ _ _ _ us hl => match us, hl with | [_], _ => rfl⟩
  have M_Stream_pulses := He.meth_ok (c.t.d.fact 19 (f := .meth "Stream" "pulses") rfl)
  obtain ⟨fd_law_far, FD_law_far⟩ := c.t.d.def_ 7 (d := dd_law_far) rfl
  have G_law_far : FunG K mg "_law_far" s_law_far (He.ga K "_law_far") fd_law_far ["_law_state", "_law_least", "_law_most"] := ⟨fun_of_D FD_law_far, He.glo_ok KX G (c.t.d.fact 3 (f := .glo "_law_far") rfl), FunD.bindsN (ps := ["_law_state", "_law_least", "_law_most"]) FD_law_far fun _ _ _ _ _ _ us hl => match us, hl with | [_, _, _], _ => rfl⟩
  obtain ⟨fd_pulsed, FD_pulsed⟩ := c.t.d.def_ 8 (d := dd_pulsed) rfl
  have G_pulsed : FunG K mg "pulsed" s_pulsed (He.ga K "pulsed") fd_pulsed ["whole", "shares"] := ⟨fun_of_D FD_pulsed, He.glo_ok KX G (c.t.d.fact 4 (f := .glo "pulsed") rfl), FunD.bindsN (ps := ["whole", "shares"]) FD_pulsed fun _ _ _ _ _ _ us hl => match us, hl with | [_, _], _ => rfl⟩
  obtain ⟨fd_law_same, FD_law_same⟩ := c.t.d.def_ 9 (d := dd_law_same) rfl
  have G_law_same : FunG K mg "_law_same" s_law_same (He.ga K "_law_same") fd_law_same ["_law_found", "_law_due"] := ⟨fun_of_D FD_law_same, He.glo_ok KX G (c.t.d.fact 5 (f := .glo "_law_same") rfl), FunD.bindsN (ps := ["_law_found", "_law_due"]) FD_law_same fun _ _ _ _ _ _ us hl => match us, hl with | [_, _], _ => rfl⟩
  obtain ⟨fd_law_beat, FD_law_beat⟩ := c.t.d.def_ 10 (d := dd_law_beat) rfl
  have G_law_beat : FunG K mg "_law_beat" s_law_beat (He.ga K "_law_beat") fd_law_beat ["_law_state", "_law_side"] := ⟨fun_of_D FD_law_beat, He.glo_ok KX G (c.t.d.fact 6 (f := .glo "_law_beat") rfl), FunD.bindsN (ps := ["_law_state", "_law_side"]) FD_law_beat fun _ _ _ _ _ _ us hl => match us, hl with | [_, _], _ => rfl⟩
  have SF : StreamF K (He.ga K "Stream") := ⟨He.cls_ok (c.t.d.fact 21 (f := .cls "Stream") rfl), He.noat_ok (c.t.d.fact 23 (f := .noat "Stream" "whole") rfl), He.noat_ok (c.t.d.fact 24 (f := .noat "Stream" "left") rfl), He.noat_ok (c.t.d.fact 25 (f := .noat "Stream" "told") rfl)⟩
  obtain ⟨fd_law, FD_law⟩ := c.t.d.def_ 11 (d := dd_law) rfl
  have e := hmg.symm.trans (He.glo_ok KX G (c.t.d.fact 7 (f := .glo "law") rfl))
  cases e
  have bA := FunD.bindsA (ps := ["_law_script"]) FD_law fun _ _ _ _ _ _ us hl => match us, hl with | [_], _ => rfl
  obtain ⟨oc, od, kV, doc, pm, an, cdv, ct, osl, rfl, lk, hcd⟩ := (fun_of_D (st := s_law) FD_law).ex
  obtain ⟨c0, rfl⟩ := He.codeIn_ref hcd
  obtain ⟨oc_law_beat, od_law_beat, kV_law_beat, doc_law_beat, pm_law_beat, an_law_beat, cdv_law_beat, ct_law_beat, osl_law_beat, rfl, lk_law_beat, hcd_law_beat⟩ := G_law_beat.fn.ex
  obtain ⟨c_law_beat_, rfl⟩ := He.codeIn_ref hcd_law_beat
  have ec0 : He.codeOf K ("_law_beat", none) = c_law_beat_ := He.codeOf_eq lk_law_beat rfl
  have x1_0 := c.hd ("_law_beat", none) (by simp)
  have x2_0 := c.out ("_law_beat", none) (by simp)
  have x3_0 := c.empty ("_law_beat", none) (by simp)
  have ec1 : He.codeOf K ("law", none) = c0 := He.codeOf_eq lk rfl
  have x1_1 := c.hd ("law", none) (by simp)
  have x2_1 := c.out ("law", none) (by simp)
  have x3_1 := c.empty ("law", none) (by simp)
  have ne_0_1 := of_decide_eq_true (hex_at c.more 16)
  unfold He.cT at x1_0 x2_0 x3_0 x1_1 x2_1 x3_1 ne_0_1
  rw [ec0] at x1_0 x2_0 x3_0 ne_0_1
  rw [ec1] at x1_1 x2_1 x3_1 ne_0_1
  dsimp only at x1_0 x2_0 x3_0 x1_1 x2_1 x3_1 ne_0_1
  generalize He.tabOf K c_law_beat_ = P_law_beat at x1_0 x2_0 x3_0 ne_0_1
  generalize He.tabOf K c0 = Pt at x1_1 x2_1 x3_1 ne_0_1
  have e_BadShare : ErrK K "BadShare" 1 := ⟨⟨of_decide_eq_true (hex_at c.more 2), of_decide_eq_true (hex_at c.more 3), of_decide_eq_true (hex_at c.more 4), hex_at c.more 5, of_decide_eq_true (hex_at c.more 6), of_decide_eq_true (hex_at c.more 0), of_decide_eq_true (hex_at c.more 1), of_decide_eq_true (hex_at c.more 7)⟩, He.exm_ok (c.t.d.fact 27 (f := .exm "BadShare" "PulseError" true) rfl), of_decide_eq_true (hex_at c.more 8), of_decide_eq_true (hex_at c.more 9), of_decide_eq_true (hex_at c.more 10), of_decide_eq_true (hex_at c.more 11), of_decide_eq_true (hex_at c.more 12), of_decide_eq_true (hex_at c.more 13), of_decide_eq_true (hex_at c.more 14), of_decide_eq_true (hex_at c.more 15), by decide, rfl⟩
  have T : Txt K mg := ⟨He.glo_ok KX G (c.t.d.fact 8 (f := .glo "BadBegins") rfl),
    He.glo_ok KX G (c.t.d.fact 9 (f := .glo "BadFrame") rfl),
    He.glo_ok KX G (c.t.d.fact 10 (f := .glo "BadRuns") rfl),
    He.glo_ok KX G (c.t.d.fact 11 (f := .glo "BadShare") rfl),
    ⟨He.glo_ok KX G (c.t.d.fact 11 (f := .glo "BadShare") rfl), (He.exc_ok (c.t.d.fact 26 (f := .exc "BadShare") rfl)).1, (He.exc_ok (c.t.d.fact 26 (f := .exc "BadShare") rfl)).2.1, (He.exc_ok (c.t.d.fact 26 (f := .exc "BadShare") rfl)).2.2.1, (He.exc_ok (c.t.d.fact 26 (f := .exc "BadShare") rfl)).2.2.2⟩,
    He.glo_ok KX G (c.t.d.fact 12 (f := .glo "BadText") rfl),
    He.glo_ok KX G (c.t.d.fact 13 (f := .glo "BadWidth") rfl),
    (by obtain ⟨t, e⟩ := He.int_ok KX G (c.t.d.fact 28 (f := .int "MOST_WHOLE" 1000000000000) rfl); exact ⟨_, e, t, rfl⟩),
    He.glo_ok KX G (c.t.d.fact 14 (f := .glo "NoRoom") rfl),
    He.glo_ok KX G (c.t.d.fact 15 (f := .glo "PulseError") rfl),
    He.free_ok KX G (c.t.d.fact 29 (f := .free "ValueError") rfl),
    He.free_ok KX G (c.t.d.fact 30 (f := .free "bool") rfl),
    He.free_ok KX G (c.t.d.fact 31 (f := .free "divmod") rfl),
    He.free_ok KX G (c.t.d.fact 32 (f := .free "int") rfl),
    He.free_ok KX G (c.t.d.fact 33 (f := .free "isinstance") rfl),
    He.free_ok KX G (c.t.d.fact 34 (f := .free "len") rfl),
    He.free_ok KX G (c.t.d.fact 35 (f := .free "list") rfl),
    He.free_ok KX G (c.t.d.fact 36 (f := .free "min") rfl),
    He.free_ok KX G (c.t.d.fact 37 (f := .free "range") rfl),
    He.free_ok KX G (c.t.d.fact 38 (f := .free "str") rfl),
    He.free_ok KX G (c.t.d.fact 39 (f := .free "sum") rfl),
    He.free_ok KX G (c.t.d.fact 40 (f := .free "tuple") rfl)⟩
  refine ⟨_, [(c_law_beat_, P_law_beat), (c0, Pt)], spLaw K P_law_beat Pt, fun p hp => ?_, fun p hp => ?_, fun p hp => ?_, fun s v => bA s [v] rfl, fun H a ns hl _ hT hS => ⟨a, ns, rfl, hS, hl, hT (c_law_beat_, P_law_beat) (by simp), hT (c0, Pt) (by simp), fun _ => rfl⟩, fun base KB GB TBs => ?_⟩
  · simp only [List.mem_cons, List.not_mem_nil, or_false] at hp
    rcases hp with rfl | rfl
    · exact x3_0
    · exact x3_1
  · simp only [List.mem_cons, List.not_mem_nil, or_false] at hp
    rcases hp with rfl | rfl
    · exact x2_0
    · exact x2_1
  · simp only [List.mem_cons, List.not_mem_nil, or_false] at hp
    rcases hp with rfl | rfl
    · exact PySem.W.codeHd_of_K KX x1_0
    · exact PySem.W.codeHd_of_K KX x1_1
  · have TB_0 := TBs (c_law_beat_, P_law_beat) (by simp)
    have TB_1 := TBs (c0, Pt) (by simp)
    have c_law_start := G_law_start.clX (ok_law_start (P := l.prog) (w := w) (base := base) G_law_start )
    have c_law_drawn := G_law_drawn.clX (ok_law_drawn (P := l.prog) (w := w) (base := base) G_law_drawn T)
    have c_Stream : ClI l.prog w K mg base (L2.CX l.prog w) 1 "Stream" (He.ga K "Stream") _ := ⟨_, _, _, He.mkr_ok (c.t.d.fact 22 (f := .mkr "Stream") rfl), ok_Stream_init (P := l.prog) (w := w) (base := base) G_Stream___init__ T SF, He.glo_ok KX G (c.t.d.fact 20 (f := .glo "Stream") rfl), G_Stream___init__.b⟩
    have c_Stream_next : ClMt l.prog w K mg base (L2.CX l.prog w) 1 (He.ga K "Stream") "next" _ := ⟨_, _, _, SF.cl, M_Stream_next, ok_Stream_next (P := l.prog) (w := w) (base := base) G_Stream_next T SF, G_Stream_next.b⟩
    have c_Stream_rest : ClMt l.prog w K mg base CX0 1 (He.ga K "Stream") "rest" _ := ⟨_, _, _, SF.cl, M_Stream_rest, ok_Stream_rest (P := l.prog) (w := w) (base := base) G_Stream_rest SF, G_Stream_rest.b⟩
    have c_Stream_pulses : ClMt l.prog w K mg base CX0 1 (He.ga K "Stream") "pulses" _ := ⟨_, _, _, SF.cl, M_Stream_pulses, ok_Stream_pulses (P := l.prog) (w := w) (base := base) G_Stream_pulses SF, G_Stream_pulses.b⟩
    have c_law_far := G_law_far.clX (ok_law_far (P := l.prog) (w := w) (base := base) G_law_far c_law_drawn)
    have c_pulsed := G_pulsed.clX (ok_pulsed (P := l.prog) (w := w) (base := base) G_pulsed T SF c_Stream c_Stream_next)
    have c_law_same := G_law_same.clX (ok_law_same (P := l.prog) (w := w) (base := base) G_law_same T 1)
    have c_law_beat := G_law_beat.clX (ok_law_beat (P := l.prog) (w := w) (base := base) lk_law_beat hcd_law_beat (TL := [(P_law_beat, lamQn "_law_beat"), (Pt, lamQn "law")]) (by simp) (fun p hp e => by simp only [List.mem_cons, List.not_mem_nil, or_false] at hp; rcases hp with rfl | rfl <;> first | exact absurd e ne_0_1.symm | exact rfl) TB_0 T SF G_law_kind e_BadShare c_law_drawn c_law_far c_Stream_next c_law_same)
    exact ok_law (P := l.prog) (w := w) (base := base) lk hcd T TB_1 G_law_kind (TL := [(P_law_beat, lamQn "_law_beat"), (Pt, lamQn "law")]) rfl (by show (Pt, lamQn "law") ∈ _; simp) (fun p hp e => by simp only [List.mem_cons, List.not_mem_nil, or_false] at hp; rcases hp with rfl | rfl <;> first | exact absurd e ne_0_1 | exact rfl) SF c_law_start c_law_drawn c_law_far c_pulsed c_Stream c_Stream_rest c_Stream_pulses c_law_same c_law_beat e_BadShare
end My
open PySem PySem.W PySem.Calls PyProof.Rows
theorem PySem.Challenge.cw_pulseshare_k07_streams_holds : PySem.Challenge.rw_pulseshare_k07_streams.Holds := by
  w_on; o_law
  refine HandSHeadRun.head_any (r := OpenLaw.row PySem.Challenge.rw_pulseshare_k07_streams) (q := view (OpenLaw.row PySem.Challenge.rw_pulseshare_k07_streams).prog [20]) (H := My.hkk) (ob := My.hob) (M := 4000) (loose := [("PulseError" : Str), ("BadFrame" : Str), ("BadShare" : Str), ("BadWidth" : Str), ("BadBegins" : Str), ("BadRuns" : Str), ("NoRoom" : Str), ("BadText" : Str), ("MOST_WHOLE" : Str), ("Stream" : Str), ("pulsed" : Str), ("_law_start" : Str), ("_law_drawn" : Str), ("_law_same" : Str), ("_law_kind" : Str), ("_law_far" : Str), ("_law_beat" : Str)]) (d := HandSHeadRun.topDef (OpenLaw.row PySem.Challenge.rw_pulseshare_k07_streams).prog 20) (kwd := []) My.hob_eq
    (by kernel_rfl) (fun s => by kernel_rfl) My.hrun (by kernel_rfl) (by kernel_rfl) (by kernel_rfl) (by rfl) (by first | assumption | decide +kernel) (by decide +kernel) ⟨rfl, rfl, rfl, rfl, rfl, by decide +kernel⟩ ?hw ?hc
  case hw => w_witness2
  case hc =>
    refine LamX.walk_ofTsE (l := PySem.Challenge.rw_pulseshare_k07_streams) (n := 63) (k := 8) (x := "_law_script") (CX := fun _ => L2.CX0) rfl (by decide) (by kernel_rfl) ⟨rfl, by decide, by decide⟩ ?F (fun _ _ _ _ _ z => z)
    intro w mg fa h Y G hmg0
    obtain ⟨K, KX, c⟩ := Y
    have hmg : mg ("law" : PySem.Str) = some (.ref fa) := by
      have e : (HandSHeadRun.topDef (OpenLaw.row PySem.Challenge.rw_pulseshare_k07_streams).prog 20).name = ("law" : PySem.Str) := by kernel_rfl
      rw [← e]
      exact hmg0
    exact ⟨K, KX, My.facts KX G hmg c⟩
