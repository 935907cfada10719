import PyProof.Rows.All
import Wide.All
import OpenK.AllK
import Wide.FinOn
import HandS.ForMost
import HandS.Wide
import HandS.WideBits
import HandS.IsInst
import HandS.Codes
import KE.KStateDown
import HandS.ExcIs
import HandS.WordsExc
import HandS.Defaults
import HandS.Head0
import HandS.Head1
import HandS.Head2
import HandS.HeadEnd
import HandS.HeadHook1
import HandS.HeadHook2
import HandS.HeadHook3
import HandS.HeadHook4
import HandS.HeadWalk
import HandS.EndTab
import HandS.Lambda
import HandS.Zip
import HandS.Walk
import PySem.Challenge.RW_pulseshare_k10_whole_under_one_bound
set_option Elab.async false
set_option linter.all false
set_option maxRecDepth 100000
set_option maxHeartbeats 4000000
namespace My
open PySem PySem.Spec PyProof.Rows LamX L2
def top (i : Nat) : Stmt := PySem.Challenge.pw_pulseshare_k10_whole_under_one_bound.main.body.getD i (.Pass ⟨0, 0, 0, 0⟩)
/-! ### calls in short -/
/-- a def of the text, where it stands, and how its arguments bind -/
structure FunG (K : PySem.W.Frag) (mg : Str → Option Value) (x : Str) (st : Stmt) (f : Addr) (fd : FuncData) (ps : List Str) : Prop where
  fn : Fun K x x st f fd
  mgf : mg x = some (.ref f)
  b : Binds K fd ps []
/-- a def that may be called by its name -/
structure Cl (P : Program) (w : World) (K : PySem.W.Frag) (mg : Str → Option Value) (base : Heap) (CX : CXT) (k : Nat) (x : Str) (sp : Sp) : Prop where
  ex : ∃ (f : Addr) (fd : FuncData) (ps : List Str), FnOk P w K mg base CX k f fd ps sp ∧ mg x = some (.ref f) ∧ PySem.W.keepIn K (.ref f) = true ∧ Binds K fd ps []
theorem FunG.cl {P : Program} {w : World} {K : PySem.W.Frag} {mg : Str → Option Value} {base : Heap} {CX : CXT} {k : Nat} {x : Str} {st : Stmt} {f : Addr} {fd : FuncData} {ps : List Str} {sp : Sp} (F : FunG K mg x st f fd ps) (h : FnOk P w K mg base CX k f fd ps sp) :
    Cl P w K mg base CX k x sp := ⟨f, fd, ps, h, F.mgf, F.fn.kp, F.b⟩
section
variable {X : Cx} {k j : Nat} {x : Str} {p pos : Pos} {e : Expr} {es : List Expr} {t : TA} {sp : Sp}
theorem pe_cl (c : Cl X.prog X.w X.K X.mg X.base CX0 k x sp) (hr : Room j X.A) (hk : k ≤ j) (hg : Gl X x) (ha : PA X (e :: es) t)
    (hdb : (x == ("__debug__" : Str)) = false := by decide) (he : starEach (e :: es) X.env = (false, eval e X.env) :: starEach es X.env := by rfl) (hpl : (backTo pos (starEach es X.env)).any (·.1) = false := by rfl) :
    PE X (.Call (.Name x p) (e :: es) [] pos) (tCall sp [] E0 t) := by
  obtain ⟨f, fd, ps, F, hm, kp, b⟩ := c.ex
  exact pe_call F (hr.mono hk) hg hm kp b .nil pass0 ha hdb he hpl
end
/-! ### words -/
theorem iteFe {c : Bool} {A B : Prop} (h : c = false) (k : B) : if c = true then A else B := by
  subst h; exact iteF k
theorem iteTe {c : Bool} {A B : Prop} (h : c = true) (k : A) : if c = true then A else B := by
  subst h; exact iteT k
theorem iteJoin {c : Bool} {A B R : Prop} (hA : c = true → R → A) (hB : c = false → R → B) (r : R) : if c = true then A else B := by
  cases c with
  | true => exact iteT (hA rfl r)
  | false => exact iteF (hB rfl r)
theorem neqF {x y : V} (h : x = y) : (!decide (x = y)) = false := by rw [decide_eq_true h]; rfl
/-! ### rules with the written part said (within a comprehension's block it can't be found by unification) -/
section
variable (K : PySem.W.Frag) {X : Cx}
theorem ixL (h : X.K = K := by rfl) : IxR X (rIxL K) := h ▸ ix_list
theorem ixT (h : X.K = K := by rfl) : IxR X (rIxT K) := h ▸ ix_tup
theorem ixQ (h : X.K = K := by rfl) : IxR X (rIx K) := h ▸ ix_seq
theorem slL (h : X.K = K := by rfl) : SlR X (rSlL K) := h ▸ sl_list
theorem opEqD (hu : X.A.units + 64 < cLine) (h : X.K = K := by rfl) : OpR X (compareOp .Eq) (rEqD K) := h ▸ op_eqD hu
theorem opNeD (hu : X.A.units + 64 < cLine) (h : X.K = K := by rfl) : OpR X (compareOp .NotEq) (rNeD K) := h ▸ op_neD hu
theorem opInQ (h : X.K = K := by rfl) : OpR X (compareOp .In) (rIn K false) := h ▸ op_in_seq
theorem opNotInQ (h : X.K = K := by rfl) : OpR X (compareOp .NotIn) (rIn K true) := h ▸ op_notIn_seq
theorem piListK {tg l : Expr} {tl : TE} (hl : PE X l tl) (h : X.K = K := by rfl) : PI X tg l (iList K tl) := h ▸ pi_list hl
theorem clLen (h : X.K = K := by rfl) : CallR X (.builtin "len") (fun xs H Q => ∃ p ys, xs = [.ref p] ∧ (SqL K H p ys ∨ SqT K H p ys) ∧ Q (.int ys.length) H) := h ▸ call_len_seq
theorem clList (h : X.K = K := by rfl) : CallR X (.type "list") (fun xs H Q => ∃ p ys, xs = [.ref p] ∧ (SqL K H p ys ∨ SqT K H p ys) ∧ ∀ l, H l = none → Q (.ref l) (upd H l (.lst ys))) := h ▸ call_list_of
theorem clSum (hc : X.calm = true) (h : X.K = K := by rfl) : CallR X (.builtin "sum") (rSum K) := h ▸ cr_sum hc
theorem clMax (hc : X.calm = true) (h : X.K = K := by rfl) : CallR X (.builtin "max") (rMax K) := h ▸ cr_max hc
theorem clMin (hc : X.calm = true) (h : X.K = K := by rfl) : CallR X (.builtin "min") (rMin K) := h ▸ cr_min hc
end
theorem units1 {n : Nat} (h : n + 64 < cLine) : n + 1 < cLine := by omega
/-! ### the drawing state -/
/-- [script, cells begun, mixed, left of a cell] -/
def StO (a : Addr) (i m c : Int) : HO := .lst [.ref a, .int i, .int m, .int c]
structure Drw (i m c : Int) : Prop where
  i0 : 0 ≤ i
  m0 : 0 ≤ m
  m1 : m < 2147483647
  c0 : 0 ≤ c
/-- all but the state is kept -/
def Keep (st : Addr) (H H' : Hp) : Prop := ∀ b o, b ≠ st → H b = some o → H' b = some o
/-- the state at st is good: its script is the list at a of the ints ns -/
structure SOk (K : PySem.W.Frag) (a : Addr) (ns : List Int) (st : Addr) (H : Hp) : Prop where
  len : ns.length ≤ 63
  sq : ∀ H', Keep st H H' → SqL K H' a (ns.map V.int)
  at_ : ∃ i m c, Drw i m c ∧ H st = some (StO a i m c)
section
variable {K : PySem.W.Frag} {a st p : Addr} {ns : List Int} {H H1 H2 : Hp} {o u : HO} {xs : List V}
theorem Keep.refl (st : Addr) (H : Hp) : Keep st H H := fun _ _ _ h => h
theorem Keep.trans (h : Keep st H H1) (h' : Keep st H1 H2) : Keep st H H2 := fun b o hb e => h' b o hb (h b o hb e)
theorem Keep.new (h : Keep st H H1) (hp : H1 p = none) : Keep st H (upd H1 p o) := fun b u hb e => by
  rw [upd_ne (ne_of_none (h b u hb e) hp)]; exact h b u hb e
theorem Keep.mut (h : Keep st H H1) (hp : H p = none) : Keep st H (upd H1 p o) := fun b u hb e => by
  rw [upd_ne (ne_of_none e hp)]; exact h b u hb e
theorem Keep.atSt (h : Keep st H H1) : Keep st H (upd H1 st o) := fun b u hb e => by
  rw [upd_ne hb]; exact h b u hb e
theorem Keep.free (h : Keep st H H1) (hp : p ≠ st) (e : H1 p = none) : H p = none := by
  cases q : H p with
  | none => rfl
  | some o => rw [h p o hp q] at e; cases e
theorem _root_.L2.Same.keep (h : Same H H1) : Keep st H H1 := fun b u _ e => h b u e
theorem _root_.L2.Same.new (h : Same H H1) (hp : H1 p = none) : Same H (upd H1 p o) := fun b u e => by
  rw [upd_ne (ne_of_none (h b u e) hp)]; exact h b u e
theorem _root_.L2.Same.mut (h : Same H H1) (hp : H p = none) : Same H (upd H1 p o) := fun b u e => by
  rw [upd_ne (ne_of_none e hp)]; exact h b u e
theorem _root_.L2.Same.upd (hp : H p = none) : Same H (upd H p o) := (Same.refl H).new hp
/-- the base heap, in which the state does not stand, is kept -/
theorem _root_.L2.Same.keepAll (h : Same H H1) (hst : H st = none) (k : Keep st H1 H2) : Same H H2 := fun b u e => k b u (ne_of_none e hst) (h b u e)
theorem SOk.now (s : SOk K a ns st H) : SqL K H a (ns.map V.int) := s.sq H (Keep.refl st H)
/-- a script that stood in H stands where all but the state is kept -/
theorem SOk.keep (s : SOk K a ns st H) (k : Keep st H H1) {i m c : Int} (d : Drw i m c) (h : H1 st = some (StO a i m c)) : SOk K a ns st H1 := ⟨s.len, fun H' k' => s.sq H' (k.trans k'), i, m, c, d, h⟩
theorem SOk.same (s : SOk K a ns st H) (k : Same H H1) : SOk K a ns st H1 := by
  obtain ⟨i, m, c, d, h⟩ := s.at_
  exact s.keep k.keep d (k _ _ h)
theorem SOk.new (s : SOk K a ns st H) (hp : H p = none) : SOk K a ns st (L2.upd H p o) := s.same (Same.upd hp)
/-- the state's making -/
theorem SOk.make (hl : ns.length ≤ 63) (hq : SqL K H a (ns.map V.int)) (hst : H st = none) {i m c : Int} (d : Drw i m c) : SOk K a ns st (L2.upd H st (StO a i m c)) :=
  ⟨hl, fun _ k' => ((Same.upd hst).keepAll hst k').seq hq, i, m, c, d, upd_same⟩
/-- a list that did not stand in the base heap H0 is changed -/
theorem SOk.mut {H0 : Hp} (s : SOk K a ns st H) (hq : SqL K H0 a (ns.map V.int)) (hst : H0 st = none) (k : Same H0 H) (hp : H0 p = none) (hps : p ≠ st) : SOk K a ns st (L2.upd H p o) := by
  obtain ⟨i, m, c, d, h⟩ := s.at_
  exact ⟨s.len, fun _ k' => ((k.mut hp).keepAll hst k').seq hq, i, m, c, d, by rw [upd_ne hps.symm]; exact h⟩
theorem SOk.ne_of (s : SOk K a ns st H) (hp : H p = none) : p ≠ st := by
  obtain ⟨i, m, c, d, h⟩ := s.at_
  exact (ne_of_none h hp).symm
/-- .. that did not stand in a heap with a good state -/
theorem SOk.mutK {H0 : Hp} (s : SOk K a ns st H) (s0 : SOk K a ns st H0) (k : Keep st H0 H) (hp : H0 p = none) : SOk K a ns st (L2.upd H p o) := by
  obtain ⟨i, m, c, d, h⟩ := s.at_
  have hps : p ≠ st := s0.ne_of hp
  exact ⟨s.len, fun H' k' => s0.sq H' ((k.mut hp).trans k'), i, m, c, d, by rw [upd_ne hps.symm]; exact h⟩
end
/-! ### lists of ints -/
theorem getV {ns : List Int} {i : Nat} {y : V} (h : (ns.map V.int)[i]? = some y) : ∃ z, ns[i]? = some z ∧ y = V.int z := by
  rw [List.getElem?_map] at h
  cases e : ns[i]? with
  | none => rw [e] at h; cases h
  | some z => rw [e] at h; exact ⟨z, rfl, (Option.some.inj h).symm⟩
theorem atV {ns : List Int} {z : Int} {j : Nat} (e : z = (j : Int)) (h : j < ns.length) : atI (ns.map V.int) z = some (V.int (ns.getD j 0)) := by
  refine at_of e ?_
  rw [List.getElem?_map, List.getElem?_eq_getElem h]
  simp [List.getD, List.getElem?_eq_getElem h]
theorem small_of {n m : Nat} (h : n ≤ m) (hm : m < 16000000 := by decide) : n < sizeLine := by rw [sizeLine_eq]; omega
theorem small_le {n m : Nat} (h : n ≤ m) (hm : m < 16000000 := by decide) : n ≤ sizeLine := by rw [sizeLine_eq]; omega
theorem nat_pow {z : Int} {n : Nat} (h0 : 0 ≤ z) (h1 : z < 2 ^ n) : z.natAbs < 2 ^ n := by
  have e : ((2 ^ n : Nat) : Int) = (2 : Int) ^ n := by simp
  omega
theorem pick3 {r : Int} (h0 : 0 ≤ r) (h1 : r < 3) : r = 0 ∨ r = 1 ∨ r = 2 := by omega
theorem pick4 {r : Int} (h0 : 0 ≤ r) (h1 : r < 4) : r = 0 ∨ r = 1 ∨ r = 2 ∨ r = 3 := by omega
theorem pick5 {r : Int} (h0 : 0 ≤ r) (h1 : r < 5) : r = 0 ∨ r = 1 ∨ r = 2 ∨ r = 3 ∨ r = 4 := by omega
/-! ### even frames -/
/-- beat k of the even frame of a share by a turn -/
def evB (b p t : Int) (k : Nat) : Int := ((k : Int) + 1 + t) * p / b - ((k : Int) + t) * p / b
def evL (b p t : Int) : List Int := (List.range b.toNat).map (evB b p t)
theorem evL_len (b p t : Int) : (evL b p t).length = b.toNat := by simp [evL]
/-- what is left beside wholes ahead of beat k -/
def evR (b p t : Int) (k : Nat) : Int := ((k : Int) + t) * p % b
theorem evR_range {b : Int} (hb : 0 < b) (p t : Int) (k : Nat) : 0 ≤ evR b p t k ∧ evR b p t k < b := ⟨Int.emod_nonneg _ (by omega), Int.emod_lt_of_pos _ hb⟩
theorem ev_step (b p t : Int) (k : Nat) : ((k : Int) + 1 + t) * p = ((k : Int) + t) * p + p := by
  rw [show (k : Int) + 1 + t = ((k : Int) + t) + 1 by omega, Int.add_mul, Int.one_mul]
/-- the beat by what is left -/
theorem evB_eq {b p : Int} (hb : 0 < b) (h0 : 0 ≤ p) (h1 : p ≤ b) (t : Int) (k : Nat) : evB b p t k = if b ≤ evR b p t k + p then 1 else 0 := by
  unfold evB evR
  rw [ev_step b]
  generalize ((k : Int) + t) * p = z
  have e := Int.mul_ediv_add_emod z b
  have r0 := Int.emod_nonneg z (show b ≠ 0 by omega)
  have r1 := Int.emod_lt_of_pos z hb
  have q : z + p = (z % b + p) + z / b * b := by rw [Int.mul_comm]; omega
  rw [q, Int.add_mul_ediv_right _ _ (show b ≠ 0 by omega)]
  by_cases c : b ≤ z % b + p
  · rw [if_pos c]
    have : (z % b + p) / b = 1 := by
      have e1 : z % b + p = (z % b + p - b) + 1 * b := by omega
      rw [e1, Int.add_mul_ediv_right _ _ (show b ≠ 0 by omega), Int.ediv_eq_zero_of_lt (by omega) (by omega)]
      omega
    omega
  · rw [if_neg c, Int.ediv_eq_zero_of_lt (by omega) (by omega)]
    omega
theorem evR_next {b p : Int} (hb : 0 < b) (h0 : 0 ≤ p) (h1 : p ≤ b) (t : Int) (k : Nat) : evR b p t (k + 1) = evR b p t k + p - b * evB b p t k := by
  rw [evB_eq hb h0 h1]
  unfold evR
  have e0 : (((k + 1 : Nat) : Int) + t) * p = ((k : Int) + t) * p + p := by
    have e1 : (((k + 1 : Nat) : Int) + t) = (k : Int) + 1 + t := by omega
    rw [e1, ev_step b]
  rw [e0]
  generalize ((k : Int) + t) * p = z
  have e := Int.mul_ediv_add_emod z b
  have r0 := Int.emod_nonneg z (show b ≠ 0 by omega)
  have r1 := Int.emod_lt_of_pos z hb
  have q : z + p = (z % b + p) + z / b * b := by rw [Int.mul_comm]; omega
  rw [q, Int.add_mul_emod_self_right]
  by_cases c : b ≤ z % b + p
  · rw [if_pos c]
    have e1 : z % b + p = (z % b + p - b) + 1 * b := by omega
    rw [e1, Int.add_mul_emod_self_right]
    by_cases c2 : z % b + p - b < b
    · rw [Int.emod_eq_of_lt (by omega) c2]; omega
    · omega
  · rw [if_neg c, Int.emod_eq_of_lt (by omega) (by omega)]; omega
theorem evB_01 {b p : Int} (hb : 0 < b) (h0 : 0 ≤ p) (h1 : p ≤ b) (t : Int) (k : Nat) : evB b p t k = 0 ∨ evB b p t k = 1 := by
  rw [evB_eq hb h0 h1]; split <;> simp
theorem evL_get {b p t : Int} {k : Nat} (h : k < b.toNat) : (evL b p t)[k]? = some (evB b p t k) := by
  unfold evL; simp [h]
theorem evL_take_sum (b p t : Int) : ∀ n : Nat, (((List.range n).map (evB b p t)).sum : Int) = ((n : Int) + t) * p / b - t * p / b
  | 0 => by simp
  | n + 1 => by
    rw [List.range_succ, List.map_append, List.sum_append, evL_take_sum b p t n]
    simp only [List.map_cons, List.map_nil, List.sum_cons, List.sum_nil, evB]
    have : (((n + 1 : Nat) : Int) + t) = (n : Int) + 1 + t := by omega
    rw [this]; omega
theorem evL_sum {b : Int} (hb : 0 < b) (p t : Int) : (evL b p t).sum = p := by
  unfold evL
  rw [evL_take_sum, Int.toNat_of_nonneg (by omega), Int.add_mul, Int.add_comm, Int.mul_comm b p, Int.add_mul_ediv_right _ _ (show b ≠ 0 by omega)]
  omega
/-! ### windows of frames -/
/-- beat k of a frame that goes round -/
def cyc (fs : List Int) (k : Nat) : Int := fs.getD (k % fs.length) 0
/-- the first k beats together, going round -/
def psum (fs : List Int) : Nat → Int
  | 0 => 0
  | k + 1 => psum fs k + cyc fs k
/-- how many are on in the window of w beats from k on -/
def win (fs : List Int) (w k : Nat) : Int := psum fs (k + w) - psum fs k
theorem cyc_add (fs : List Int) (k : Nat) : cyc fs (k + fs.length) = cyc fs k := by simp [cyc]
theorem cyc_lt {fs : List Int} {k : Nat} (h : k < fs.length) : cyc fs k = fs.getD k 0 := by simp [cyc, Nat.mod_eq_of_lt h]
theorem psum_take (fs : List Int) : ∀ k, k ≤ fs.length → psum fs k = (fs.take k).sum
  | 0, _ => by simp [psum]
  | k + 1, h => by
    have hk : k < fs.length := by omega
    rw [psum, psum_take fs k (by omega), cyc_lt hk, List.take_succ_eq_append_getElem hk, List.sum_append]
    simp [List.getD, List.getElem?_eq_getElem hk]
theorem psum_len (fs : List Int) : psum fs fs.length = fs.sum := by rw [psum_take fs _ (Nat.le_refl _), List.take_length]
theorem psum_add_len (fs : List Int) : ∀ k, psum fs (k + fs.length) = psum fs k + fs.sum
  | 0 => by rw [Nat.zero_add, psum_len]; simp [psum]
  | k + 1 => by
    rw [show k + 1 + fs.length = (k + fs.length) + 1 by omega, psum, psum_add_len fs k, cyc_add, psum]; omega
theorem psum_mul (fs : List Int) (r : Nat) : ∀ q : Nat, psum fs (q * fs.length + r) = fs.sum * q + psum fs r
  | 0 => by simp
  | q + 1 => by
    rw [show (q + 1) * fs.length + r = (q * fs.length + r) + fs.length by rw [Nat.add_mul]; omega, psum_add_len, psum_mul fs r q, Int.natCast_add, Int.mul_add]; simp; omega
theorem win_zero (fs : List Int) (w : Nat) : win fs w 0 = psum fs w := by simp [win, psum]
theorem win_next (fs : List Int) (w k : Nat) : win fs w (k + 1) = win fs w k - cyc fs k + cyc fs (k + w) := by
  unfold win
  rw [show k + 1 + w = (k + w) + 1 by omega, psum, psum]; omega
theorem win_first {fs : List Int} (w : Nat) : fs.sum * ((w / fs.length : Nat) : Int) + (fs.take (w % fs.length)).sum = win fs w 0 := by
  rw [win_zero]
  by_cases hn : fs.length = 0
  · have : fs = [] := List.eq_nil_of_length_eq_zero hn
    subst this
    have z : ∀ k, psum [] k = 0 := fun k => by
      induction k with
      | zero => rfl
      | succ k ih => rw [psum, ih]; simp [cyc]
    simp [z]
  · have e : w = (w / fs.length) * fs.length + w % fs.length := by rw [Nat.mul_comm]; exact (Nat.div_add_mod w fs.length).symm
    have hr : w % fs.length ≤ fs.length := Nat.le_of_lt (Nat.mod_lt _ (by omega))
    have h1 := psum_mul fs (w % fs.length) (w / fs.length)
    rw [← e] at h1
    rw [h1, psum_take fs _ hr]
theorem win_round (fs : List Int) (w k : Nat) : win fs w (k + fs.length) = win fs w k := by
  unfold win
  rw [show k + fs.length + w = (k + w) + fs.length by omega, psum_add_len, psum_add_len]; omega
theorem win_mod {fs : List Int} (w : Nat) : ∀ k, win fs w k = win fs w (k % fs.length) := by
  intro k
  have e := Nat.div_add_mod k fs.length
  have h : ∀ q r, win fs w (q * fs.length + r) = win fs w r := fun q r => by
    induction q with
    | zero => simp
    | succ q ih => rw [show (q + 1) * fs.length + r = (q * fs.length + r) + fs.length by rw [Nat.add_mul]; omega, win_round, ih]
  conv => lhs; rw [← e, Nat.mul_comm]
  exact h _ _
/-- all windows of a width -/
def wins (fs : List Int) (w : Nat) : List Int := (List.range fs.length).map (win fs w)
theorem wins_len (fs : List Int) (w : Nat) : (wins fs w).length = fs.length := by simp [wins]
theorem mem_wins {fs : List Int} {w : Nat} {x : Int} : x ∈ wins fs w ↔ ∃ k, k < fs.length ∧ win fs w k = x := by simp [wins]
theorem win_mem {fs : List Int} (h : 0 < fs.length) (w k : Nat) : win fs w k ∈ wins fs w := by
  rw [win_mod]
  exact mem_wins.mpr ⟨_, Nat.mod_lt _ h, rfl⟩
/-! sums over a round -/
def tsum (f : Nat → Int) (n : Nat) : Int := ((List.range n).map f).sum
theorem tsum_zero (f : Nat → Int) : tsum f 0 = 0 := rfl
theorem tsum_succ (f : Nat → Int) (n : Nat) : tsum f (n + 1) = tsum f n + f n := by
  unfold tsum; rw [List.range_succ, List.map_append, List.sum_append]; simp
theorem tsum_add (f g : Nat → Int) : ∀ n, tsum (fun k => f k + g k) n = tsum f n + tsum g n
  | 0 => rfl
  | n + 1 => by rw [tsum_succ, tsum_succ, tsum_succ, tsum_add f g n]; omega
theorem tsum_le {f g : Nat → Int} : ∀ n, (∀ k, k < n → f k ≤ g k) → tsum f n ≤ tsum g n
  | 0, _ => Int.le_refl _
  | n + 1, h => by
    rw [tsum_succ, tsum_succ]
    have := tsum_le n fun k hk => h k (by omega)
    have := h n (by omega)
    omega
theorem tsum_lt {f g : Nat → Int} : ∀ n, (∀ k, k < n → f k ≤ g k) → (∃ k, k < n ∧ f k < g k) → tsum f n < tsum g n
  | 0, _, ⟨k, hk, _⟩ => by omega
  | n + 1, h, ⟨k, hk, hl⟩ => by
    rw [tsum_succ, tsum_succ]
    have h1 := h n (by omega)
    by_cases e : k = n
    · subst e
      have := tsum_le k fun j hj => h j (by omega)
      omega
    · have := tsum_lt n (fun j hj => h j (by omega)) ⟨k, by omega, hl⟩
      omega
theorem tsum_const (c : Int) : ∀ n : Nat, tsum (fun _ => c) n = n * c
  | 0 => by simp [tsum_zero]
  | n + 1 => by rw [tsum_succ, tsum_const c n, Int.natCast_add, Int.add_mul]; simp
theorem tsum_congr {f g : Nat → Int} (n : Nat) (h : ∀ k, k < n → f k = g k) : tsum f n = tsum g n := by
  have h1 := tsum_le n fun k hk => Int.le_of_eq (h k hk)
  have h2 := tsum_le n fun k hk => Int.le_of_eq (h k hk).symm
  omega
theorem psum_tsum (fs : List Int) : ∀ k, psum fs k = tsum (cyc fs) k
  | 0 => rfl
  | k + 1 => by rw [psum, tsum_succ, psum_tsum fs k]
theorem tsum_shift (fs : List Int) : ∀ d, tsum (fun k => cyc fs (k + d)) fs.length = fs.sum := by
  intro d
  have h : ∀ n, tsum (fun k => cyc fs (k + d)) n = psum fs (n + d) - psum fs d := fun n => by
    induction n with
    | zero => simp [tsum_zero]
    | succ n ih => rw [tsum_succ, ih, show n + 1 + d = (n + d) + 1 by omega, psum]; omega
  rw [h, Nat.add_comm, psum_add_len]; omega
/-- all windows of a width together -/
theorem wins_sum (fs : List Int) : ∀ w : Nat, tsum (win fs w) fs.length = w * fs.sum
  | 0 => by
    have h : tsum (win fs 0) fs.length = tsum (fun _ => (0 : Int)) fs.length := tsum_congr _ fun k _ => by simp [win]
    rw [h, tsum_const]; simp
  | w + 1 => by
    have h : tsum (win fs (w + 1)) fs.length = tsum (fun k => win fs w k + cyc fs (k + w)) fs.length := tsum_congr _ fun k _ => by
      unfold win
      rw [show k + (w + 1) = (k + w) + 1 by omega, psum]; omega
    rw [h, tsum_add, wins_sum fs w, tsum_shift, Int.natCast_add, Int.add_mul]; simp
/-! ### spread -/
/-- windows of each width up to the beats are at most one apart -/
def Spread (fs : List Int) : Prop := ∀ w, 1 ≤ w → w ≤ fs.length → ∀ i j, i < fs.length → j < fs.length → win fs w i - win fs w j ≤ 1
theorem Spread.near {fs : List Int} (h : Spread fs) (h0 : 0 < fs.length) (w i : Nat) (hw : w ≤ fs.length) : (fs.length : Int) * win fs w i - w * fs.sum < fs.length ∧ -(fs.length : Int) < (fs.length : Int) * win fs w i - w * fs.sum := by
  rcases Nat.eq_zero_or_pos w with e | hw0
  · subst e
    have : win fs 0 i = 0 := by simp [win]
    rw [this]; simp; omega
  rw [win_mod]
  have hi : i % fs.length < fs.length := Nat.mod_lt _ h0
  generalize i % fs.length = k at hi
  have s := wins_sum fs w
  have up : tsum (win fs w) fs.length < tsum (fun _ => win fs w k + 1) fs.length := tsum_lt _ (fun j hj => by have := h w hw0 hw j k hj hi; omega) ⟨k, hi, by omega⟩
  have dn : tsum (fun _ => win fs w k - 1) fs.length < tsum (win fs w) fs.length := tsum_lt _ (fun j hj => by have := h w hw0 hw k j hi hj; omega) ⟨k, hi, by omega⟩
  rw [tsum_const] at up dn
  rw [s] at up dn
  rw [Int.mul_add] at up
  rw [Int.mul_sub] at dn
  constructor <;> omega
/-- the least, the greatest of finitely many -/
theorem exists_max (f : Nat → Int) : ∀ n, 0 < n → ∃ k, k < n ∧ ∀ j, j < n → f j ≤ f k
  | 1, _ => ⟨0, by omega, fun j hj => by have : j = 0 := by omega
                                         subst this; exact Int.le_refl _⟩
  | n + 2, _ => by
    obtain ⟨k, hk, h⟩ := exists_max f (n + 1) (by omega)
    by_cases c : f k ≤ f (n + 1)
    · refine ⟨n + 1, by omega, fun j hj => ?_⟩
      by_cases e : j = n + 1
      · subst e; exact Int.le_refl _
      · exact Int.le_trans (h j (by omega)) c
    · refine ⟨k, by omega, fun j hj => ?_⟩
      by_cases e : j = n + 1
      · subst e; omega
      · exact h j (by omega)
/-- a spread frame is an even one -/
theorem Spread.even {fs : List Int} (h : Spread fs) (h0 : 0 < fs.length) : ∃ t : Nat, t < fs.length ∧ evL (fs.length : Int) fs.sum (t : Int) = fs := by
  obtain ⟨k0, hk0, hmax⟩ := exists_max (fun k => (fs.length : Int) * psum fs k - k * fs.sum) fs.length h0
  -- the greatest lies less than the beats above any
  have key : ∀ k, (fs.length : Int) * psum fs k - k * fs.sum ≤ (fs.length : Int) * psum fs k0 - k0 * fs.sum ∧ (fs.length : Int) * psum fs k0 - k0 * fs.sum < (fs.length : Int) * psum fs k - k * fs.sum + fs.length := by
    have base : ∀ k, k < fs.length → (fs.length : Int) * psum fs k - k * fs.sum ≤ (fs.length : Int) * psum fs k0 - k0 * fs.sum ∧ (fs.length : Int) * psum fs k0 - k0 * fs.sum < (fs.length : Int) * psum fs k - k * fs.sum + fs.length := by
      intro k hk
      refine ⟨hmax k hk, ?_⟩
      by_cases c : k ≤ k0
      · obtain ⟨d, rfl⟩ : ∃ d, k0 = k + d := ⟨k0 - k, by omega⟩
        have n := (h.near h0 d k (by omega)).1
        unfold win at n
        rw [Int.mul_sub] at n
        rw [Int.natCast_add, Int.add_mul]
        omega
      · obtain ⟨d, rfl⟩ : ∃ d, k = k0 + d := ⟨k - k0, by omega⟩
        have n := (h.near h0 d k0 (by omega)).2
        unfold win at n
        rw [Int.mul_sub] at n
        rw [Int.natCast_add, Int.add_mul]
        omega
    intro k
    have e := Nat.div_add_mod k fs.length
    have hk := base (k % fs.length) (Nat.mod_lt _ h0)
    have h1 := psum_mul fs (k % fs.length) (k / fs.length)
    rw [Nat.mul_comm, ] at e
    rw [e] at h1
    have e2 : (k : Int) = (k / fs.length : Nat) * (fs.length : Int) + (k % fs.length : Nat) := by
      have := congrArg (fun z : Nat => (z : Int)) e
      simp only [Int.natCast_add, Int.natCast_mul] at this
      omega
    have e3 : (fs.length : Int) * psum fs k - k * fs.sum = (fs.length : Int) * psum fs (k % fs.length) - (k % fs.length : Nat) * fs.sum := by
      rw [h1]
      have : (k : Int) * fs.sum = (k / fs.length : Nat) * (fs.length : Int) * fs.sum + (k % fs.length : Nat) * fs.sum := by
        rw [← Int.add_mul]; congr 1
      rw [this, Int.mul_add, show (fs.length : Int) * (fs.sum * ((k / fs.length : Nat) : Int)) = ((k / fs.length : Nat) : Int) * (fs.length : Int) * fs.sum by
        rw [Int.mul_comm fs.sum, ← Int.mul_assoc, Int.mul_comm (fs.length : Int)]]
      omega
    rw [e3]; exact hk
  -- so the sums are floors
  have floor : ∀ k : Nat, psum fs k = ((k : Int) - k0) * fs.sum / fs.length + psum fs k0 := by
    intro k
    obtain ⟨a, b⟩ := key k
    have hn : (0 : Int) < fs.length := by omega
    have e : ((k : Int) - k0) * fs.sum = (fs.length : Int) * (psum fs k - psum fs k0) + (((fs.length : Int) * psum fs k0 - k0 * fs.sum) - ((fs.length : Int) * psum fs k - k * fs.sum)) := by
      rw [Int.sub_mul, Int.mul_sub]; omega
    rw [e, Int.add_comm ((fs.length : Int) * _), Int.add_mul_ediv_left _ _ (by omega), Int.ediv_eq_zero_of_lt (by omega) (by omega)]
    omega
  refine ⟨(fs.length - k0) % fs.length, Nat.mod_lt _ h0, ?_⟩
  -- the turn: less k0, going round
  have turn : ∀ k : Nat, evB (fs.length : Int) fs.sum (((fs.length - k0) % fs.length : Nat) : Int) k = evB (fs.length : Int) fs.sum (-(k0 : Int)) k := by
    intro k
    by_cases c : k0 = 0
    · subst c; simp
    · rw [Nat.mod_eq_of_lt (by omega)]
      have hn : (fs.length : Int) ≠ 0 := by omega
      unfold evB
      have e1 : ((k : Int) + 1 + ((fs.length - k0 : Nat) : Int)) * fs.sum = ((k : Int) + 1 + -(k0 : Int)) * fs.sum + fs.length * fs.sum := by
        rw [← Int.add_mul]; congr 1; omega
      have e2 : ((k : Int) + ((fs.length - k0 : Nat) : Int)) * fs.sum = ((k : Int) + -(k0 : Int)) * fs.sum + fs.length * fs.sum := by
        rw [← Int.add_mul]; congr 1; omega
      rw [e1, e2, Int.add_mul_ediv_left _ _ hn, Int.add_mul_ediv_left _ _ hn]
      omega
  apply List.ext_getElem
  · rw [evL_len]; simp
  · intro k h1 h2
    have hk : k < ((fs.length : Nat) : Int).toNat := by simpa [evL_len] using h1
    have g : (evL (fs.length : Int) fs.sum (((fs.length - k0) % fs.length : Nat) : Int))[k]? = some (evB (fs.length : Int) fs.sum (((fs.length - k0) % fs.length : Nat) : Int) k) := evL_get hk
    rw [List.getElem?_eq_getElem h1] at g
    rw [Option.some.inj g, turn]
    unfold evB
    have f1 := floor (k + 1)
    have f0 := floor k
    rw [psum, cyc_lt h2] at f1
    have e1 : ((k + 1 : Nat) : Int) - k0 = (k : Int) + 1 + -(k0 : Int) := by omega
    have e0 : (k : Int) - k0 = (k : Int) + -(k0 : Int) := by omega
    rw [e1] at f1
    rw [e0] at f0
    have : fs.getD k 0 = fs[k] := by simp [List.getD, List.getElem?_eq_getElem h2]
    omega
/-! ### windows of even frames -/
theorem evL_cyc {b p t : Int} (hb : 0 < b) (k : Nat) : cyc (evL b p t) k = evB b p t k := by
  have hl : (evL b p t).length = b.toNat := evL_len b p t
  have h0 : 0 < (evL b p t).length := by omega
  unfold cyc
  have g := evL_get (b := b) (p := p) (t := t) (k := k % (evL b p t).length) (by have := Nat.mod_lt k h0; omega)
  rw [List.getD, g, Option.getD_some]
  have e := Nat.div_add_mod k (evL b p t).length
  generalize k % (evL b p t).length = r at e
  generalize k / (evL b p t).length = q at e
  subst e
  unfold evB
  have e1 : (((evL b p t).length * q + r : Nat) : Int) = b * (q : Int) + (r : Int) := by rw [hl]; simp [Int.toNat_of_nonneg (Int.le_of_lt hb)]
  have e2 : ((b * (q : Int) + (r : Int)) + 1 + t) * p = ((r : Int) + 1 + t) * p + b * ((q : Int) * p) := by
    rw [show (b * (q : Int) + (r : Int)) + 1 + t = ((r : Int) + 1 + t) + b * (q : Int) by omega, Int.add_mul, Int.mul_assoc]
  have e3 : ((b * (q : Int) + (r : Int)) + t) * p = ((r : Int) + t) * p + b * ((q : Int) * p) := by
    rw [show (b * (q : Int) + (r : Int)) + t = ((r : Int) + t) + b * (q : Int) by omega, Int.add_mul, Int.mul_assoc]
  rw [e1, e2, e3, Int.add_mul_ediv_left _ _ (show b ≠ 0 by omega), Int.add_mul_ediv_left _ _ (show b ≠ 0 by omega)]
  omega
theorem evL_psum {b p t : Int} (hb : 0 < b) : ∀ k : Nat, psum (evL b p t) k = ((k : Int) + t) * p / b - t * p / b
  | 0 => by simp [psum]
  | k + 1 => by
    rw [psum, evL_psum hb k, evL_cyc hb, evB]
    have e1 : (((k + 1 : Nat) : Int) + t) = (k : Int) + 1 + t := by omega
    rw [e1]; omega
theorem evL_win {b p t : Int} (hb : 0 < b) (w k : Nat) : win (evL b p t) w k = (((k : Int) + t) * p + (w : Int) * p) / b - ((k : Int) + t) * p / b := by
  unfold win
  rw [evL_psum hb, evL_psum hb]
  have e : (((k + w : Nat) : Int) + t) * p = ((k : Int) + t) * p + (w : Int) * p := by
    rw [← Int.add_mul]; congr 1; omega
  rw [e]; omega
theorem div_part {x y b : Int} (hb : 0 < b) : y / b ≤ (x + y) / b - x / b ∧ (x + y) / b - x / b ≤ y / b + 1 := by
  have ex := Int.mul_ediv_add_emod x b
  have ey := Int.mul_ediv_add_emod y b
  have rx0 := Int.emod_nonneg x (show b ≠ 0 by omega)
  have rx1 := Int.emod_lt_of_pos x hb
  have ry0 := Int.emod_nonneg y (show b ≠ 0 by omega)
  have ry1 := Int.emod_lt_of_pos y hb
  have q : x + y = (x % b + y % b) + b * (x / b + y / b) := by rw [Int.mul_add]; omega
  rw [q, Int.add_mul_ediv_left _ _ (show b ≠ 0 by omega)]
  by_cases c : x % b + y % b < b
  · rw [Int.ediv_eq_zero_of_lt (by omega) c]; omega
  · have : (x % b + y % b) / b = 1 := by
      have e1 : x % b + y % b = (x % b + y % b - b) + b * 1 := by omega
      rw [e1, Int.add_mul_ediv_left _ _ (show b ≠ 0 by omega), Int.ediv_eq_zero_of_lt (by omega) (by omega)]; omega
    omega
/-- the windows of an even frame have the width's part, down to a whole one, or one more -/
theorem evL_part {b p t : Int} (hb : 0 < b) (w k : Nat) : (w : Int) * p / b ≤ win (evL b p t) w k ∧ win (evL b p t) w k ≤ (w : Int) * p / b + 1 := by
  rw [evL_win hb]; exact div_part hb
theorem evL_spread {b p t : Int} (hb : 0 < b) : Spread (evL b p t) := fun w _ _ i j _ _ => by
  have h1 := evL_part (p := p) (t := t) hb w i
  have h2 := evL_part (p := p) (t := t) hb w j
  omega
/-- all as many just where beats go into the width times the pulses -/
theorem evL_exact {b p t : Int} (hb : 0 < b) (w : Nat) : (∀ i j, i < b.toNat → j < b.toNat → win (evL b p t) w i = win (evL b p t) w j) ↔ (w : Int) * p % b = 0 := by
  have hl := evL_len b p t
  constructor
  · intro h
    have s := wins_sum (evL b p t) w
    rw [evL_sum hb, hl] at s
    have c : tsum (win (evL b p t) w) b.toNat = tsum (fun _ => win (evL b p t) w 0) b.toNat := tsum_congr _ fun k hk => h k 0 hk (by omega)
    rw [c, tsum_const, Int.toNat_of_nonneg (by omega)] at s
    rw [← s]
    exact Int.mul_emod_right b _
  · intro h i j _ _
    have e := Int.mul_ediv_add_emod ((w : Int) * p) b
    rw [h] at e
    rw [evL_win hb, evL_win hb]
    have e2 : (w : Int) * p = b * ((w : Int) * p / b) := by omega
    rw [e2, Int.add_mul_ediv_left _ _ (show b ≠ 0 by omega), Int.add_mul_ediv_left _ _ (show b ≠ 0 by omega)]
    omega
/-! ### windows cut out of a frame laid several times -/
def around (fs : List Int) (m : Nat) : List Int := (List.replicate m fs).flatten
theorem around_len (fs : List Int) (m : Nat) : (around fs m).length = m * fs.length := by simp [around]
theorem around_succ (fs : List Int) (m : Nat) : around fs (m + 1) = fs ++ around fs m := by simp [around, List.replicate_succ]
theorem around_take (fs : List Int) : ∀ (m k : Nat), k ≤ m * fs.length → ((around fs m).take k).sum = psum fs k
  | 0, k, h => by
    have : k = 0 := by omega
    subst this; simp [psum]
  | m + 1, k, h => by
    rw [around_succ]
    by_cases c : k ≤ fs.length
    · rw [List.take_append_of_le_length c, psum_take fs k c]
    · obtain ⟨d, rfl⟩ : ∃ d, k = fs.length + d := ⟨k - fs.length, by omega⟩
      rw [List.take_append, List.sum_append, List.take_of_length_le (by omega), show fs.length + d - fs.length = d by omega, around_take fs m d (by rw [Nat.add_mul] at h; omega), Nat.add_comm fs.length d, psum_add_len]
      omega
theorem drop_take_sum (l : List Int) (k w : Nat) : ((l.drop k).take w).sum = (l.take (k + w)).sum - (l.take k).sum := by
  rw [List.take_add, List.sum_append]; omega
theorem around_win {fs : List Int} {m k w : Nat} (h : k + w ≤ m * fs.length) : (((around fs m).drop k).take w).sum = win fs w k := by
  rw [drop_take_sum, around_take fs m _ h, around_take fs m k (by omega)]; rfl
/-! ### turns of a frame -/
def TS (fs : List Int) (n : Nat) : List Nat := (List.range n).filter fun j => decide (evL (fs.length : Int) fs.sum (j : Int) = fs)
theorem TS_succ (fs : List Int) (n : Nat) : TS fs (n + 1) = if evL (fs.length : Int) fs.sum (n : Int) = fs then TS fs n ++ [n] else TS fs n := by
  unfold TS
  rw [List.range_succ, List.filter_append]
  by_cases c : evL (fs.length : Int) fs.sum (n : Int) = fs
  · rw [if_pos c]; simp [c]
  · rw [if_neg c]; simp [c]
theorem TS_none {fs : List Int} : ∀ {n : Nat}, (∀ j, j < n → evL (fs.length : Int) fs.sum (j : Int) ≠ fs) → TS fs n = []
  | 0, _ => rfl
  | n + 1, h => by rw [TS_succ, if_neg (h n (by omega)), TS_none fun j hj => h j (by omega)]
theorem TS_first {fs : List Int} {t : Nat} (ht : evL (fs.length : Int) fs.sum (t : Int) = fs) (hn : ∀ j, j < t → evL (fs.length : Int) fs.sum (j : Int) ≠ fs) : ∀ n, t < n → ∃ r, TS fs n = t :: r
  | 0, h => absurd h (Nat.not_lt_zero _)
  | n + 1, h => by
    rw [TS_succ]
    by_cases e : t = n
    · subst e
      rw [if_pos ht, TS_none hn]
      exact ⟨[], rfl⟩
    · obtain ⟨r, hr⟩ := TS_first ht hn n (by omega)
      rw [hr]
      split
      · exact ⟨_, rfl⟩
      · exact ⟨_, rfl⟩
theorem TS_len (fs : List Int) (n : Nat) : (TS fs n).length ≤ n := by
  unfold TS
  have := List.length_filter_le (fun j : Nat => decide (evL (fs.length : Int) fs.sum (j : Int) = fs)) (List.range n)
  rw [List.length_range] at this
  exact this
theorem TS_ne {fs : List Int} {n : Nat} : TS fs n ≠ [] ↔ ∃ t, t < n ∧ evL (fs.length : Int) fs.sum (t : Int) = fs := by
  constructor
  · intro h
    obtain ⟨t, ht⟩ := List.exists_mem_of_ne_nil _ h
    unfold TS at ht
    obtain ⟨h1, h2⟩ := List.mem_filter.mp ht
    exact ⟨t, List.mem_range.mp h1, of_decide_eq_true h2⟩
  · rintro ⟨t, ht, e⟩ h
    have : t ∈ TS fs n := List.mem_filter.mpr ⟨List.mem_range.mpr ht, decide_eq_true e⟩
    rw [h] at this
    cases this
/-- a frame is spread just where some turn tells it -/
theorem spread_iff {fs : List Int} (h0 : 0 < fs.length) : Spread fs ↔ TS fs fs.length ≠ [] := by
  rw [TS_ne]
  constructor
  · exact fun h => h.even h0
  · rintro ⟨t, _, e⟩
    rw [← e]
    exact evL_spread (by omega)
def SpreadTo (fs : List Int) (n : Nat) : Prop := ∀ w, 1 ≤ w → w ≤ n → ∀ i j, i < fs.length → j < fs.length → win fs w i - win fs w j ≤ 1
theorem SpreadTo.zero (fs : List Int) : SpreadTo fs 0 := fun w h1 h2 => by omega
theorem spreadTo_succ {fs : List Int} {n : Nat} {lo hi : Int} (l1 : lo ∈ wins fs (n + 1)) (l2 : ∀ y, y ∈ wins fs (n + 1) → lo ≤ y) (h1 : hi ∈ wins fs (n + 1)) (h2 : ∀ y, y ∈ wins fs (n + 1) → y ≤ hi) : SpreadTo fs (n + 1) ↔ SpreadTo fs n ∧ hi - lo < 2 := by
  constructor
  · intro h
    refine ⟨fun w a b => h w a (by omega), ?_⟩
    obtain ⟨i, hi', rfl⟩ := mem_wins.mp l1
    obtain ⟨j, hj, rfl⟩ := mem_wins.mp h1
    have := h (n + 1) (by omega) (Nat.le_refl _) j i hj hi'
    omega
  · rintro ⟨h, d⟩ w a b i j hi' hj
    by_cases e : w = n + 1
    · subst e
      have := l2 _ (mem_wins.mpr ⟨j, hj, rfl⟩)
      have := h2 _ (mem_wins.mpr ⟨i, hi', rfl⟩)
      omega
    · exact h w a (by omega) i j hi' hj
/-! ### data of ints -/
def dI (ns : List Int) : PyData := .list (ns.map PyData.int)
theorem dI_layA : ∀ ns : List Int, PyData.canLayAll0 (ns.map PyData.int) = true
  | [] => by simp [PyData.canLayAll0]
  | z :: zs => by simp [PyData.canLayAll0, PyData.canLay0, dI_layA zs]
theorem dI_depthA : ∀ ns : List Int, PyData.depthAll (ns.map PyData.int) ≤ 1
  | [] => by simp [PyData.depthAll]
  | z :: zs => by
    have h1 := dI_depthA zs
    simp only [List.map_cons, PyData.depthAll, PyData.depth]
    omega
theorem dI_shaped (ns : List Int) : SeqAt.shaped (dI ns) = true := by
  have h1 := dI_depthA ns
  have h2 : PyData.depth (dI ns) ≤ 64 := by
    unfold dI
    simp only [PyData.depth]
    omega
  show (PyData.canLay0 (dI ns) && decide (PyData.depth (dI ns) ≤ 64)) = true
  rw [Bool.and_eq_true]
  exact ⟨by unfold dI; simp only [PyData.canLay0]; exact dI_layA ns, decide_eq_true h2⟩
theorem dI_eqvA : ∀ ns ms : List Int, PyData.eqvAll (ns.map PyData.int) (ms.map PyData.int) = decide (ns = ms)
  | [], [] => by simp [PyData.eqvAll]
  | [], _ :: _ => by simp [PyData.eqvAll]
  | _ :: _, [] => by simp [PyData.eqvAll]
  | n :: ns, m :: ms => by
    rw [List.map_cons, List.map_cons, PyData.eqvAll, dI_eqvA ns ms]
    by_cases e : n = m
    · subst e; simp [PyData.eqv]
    · simp [PyData.eqv, e]
theorem dI_eqv (ns ms : List Int) : PyData.eqv (dI ns) (dI ms) = decide (ns = ms) := by
  unfold dI
  simp only [PyData.eqv]
  exact dI_eqvA ns ms
theorem dpA_ints {K : PySem.W.Frag} {H : Hp} : ∀ ns : List Int, DpAll K H (ns.map V.int) (ns.map PyData.int)
  | [] => .nil
  | n :: ns => .cons (.int n) (dpA_ints ns)
theorem dp_ints {K : PySem.W.Frag} {H : Hp} {a : Addr} {ns : List Int} (h : SqL K H a (ns.map V.int)) : Dp K H (.ref a) (dI ns) := .lst h (dpA_ints ns)
theorem dp_nil {K : PySem.W.Frag} {H : Hp} {a : Addr} (h : SqL K H a []) : Dp K H (.ref a) (dI []) := dp_ints (ns := []) h
/-! ### cuts of lists of ints -/
theorem cut_to {ns : List Int} {k : Nat} (hk : k ≤ ns.length) : cutV (ns.map V.int) none (some (k : Int)) = (ns.take k).map V.int := by
  unfold cutV
  rw [HT.sIx_none, HT.sIx_nat, List.length_map, Nat.min_eq_left hk, List.drop_zero, Nat.sub_zero, List.map_take]
theorem cut_from {ns : List Int} {k : Nat} (hk : k ≤ ns.length) : cutV (ns.map V.int) (some (k : Int)) none = (ns.drop k).map V.int := by
  unfold cutV
  rw [HT.sIx_none, HT.sIx_nat, List.length_map, Nat.min_eq_left hk, List.map_drop]
  exact List.take_of_length_le (by rw [List.length_drop, List.length_map]; exact Nat.le_refl _)
theorem cut_mid {ns : List Int} {i j : Nat} (hi : i ≤ j) (hj : j ≤ ns.length) : cutV (ns.map V.int) (some (i : Int)) (some (j : Int)) = ((ns.drop i).take (j - i)).map V.int := by
  unfold cutV
  rw [HT.sIx_nat, HT.sIx_nat, List.length_map, Nat.min_eq_left (show i ≤ ns.length by omega), Nat.min_eq_left hj, List.map_take, List.map_drop]
/-! ### frames -/
structure Frm (fs : List Int) : Prop where
  pos : 0 < fs.length
  le : fs.length ≤ 64
  bit : ∀ f ∈ fs, f = 0 ∨ f = 1
theorem bits_sum : ∀ {fs : List Int}, (∀ f ∈ fs, f = 0 ∨ f = 1) → 0 ≤ fs.sum ∧ fs.sum ≤ fs.length
  | [], _ => by simp
  | f :: fs, h => by
    have h1 := bits_sum (fs := fs) fun g hg => h g (List.mem_cons_of_mem _ hg)
    have h2 := h f List.mem_cons_self
    rw [List.sum_cons, List.length_cons]
    omega
theorem Frm.sum {fs : List Int} (h : Frm fs) : 0 ≤ fs.sum ∧ fs.sum ≤ fs.length := bits_sum h.bit
theorem Frm.getD {fs : List Int} (h : Frm fs) (k : Nat) : fs.getD k 0 = 0 ∨ fs.getD k 0 = 1 := by
  by_cases c : k < fs.length
  · have e : fs.getD k 0 = fs[k] := by simp [List.getD, List.getElem?_eq_getElem c]
    rw [e]
    exact h.bit _ (List.getElem_mem c)
  · left
    simp [List.getD, List.getElem?_eq_none (Nat.le_of_not_lt c)]
theorem evL_frm {b p : Int} (b0 : 1 ≤ b) (b1 : b ≤ 64) (p0 : 0 ≤ p) (p1 : p ≤ b) (t : Int) : Frm (evL b p t) := by
  refine ⟨by rw [evL_len]; omega, by rw [evL_len]; omega, fun f hf => ?_⟩
  unfold evL at hf
  obtain ⟨k, _, rfl⟩ := List.mem_map.mp hf
  exact evB_01 (by omega) p0 p1 t k
def Lo (ws : List Int) (m : Int) : Prop := m ∈ ws ∧ ∀ y, y ∈ ws → m ≤ y
def Hi (ws : List Int) (m : Int) : Prop := m ∈ ws ∧ ∀ y, y ∈ ws → y ≤ m
theorem divP {i j : Int} {b : Nat} (h : 0 < j) (hb : j.natAbs < 2 ^ b) (h0 : 0 < b) (h9 : b ≤ 9000) : CDivP i j := ⟨h, PyProof.noPylong_of_log2 (Nat.lt_of_lt_of_le (PySem.Flt.log2_lt_of h0 hb) h9)⟩
/-! ### rules for an except suite -/
def rIsK (K : PySem.W.Frag) (cls : Value) (d : Option Addr) (a : Addr) : List V → Hp → VK → Prop := fun xs H Q => ∃ (D : Addr) (c : V) (cv : Value) (b : Bool), cls = .ref D ∧ d = none ∧ ExcC K D ∧ xs = [.ref a, c] ∧ (∀ u, RelV c u → u = cv) ∧ PySem.W.kitOne K (.ref D) cv = some b ∧ Q (.bl b) H
theorem call_isK {X : Cx} {a : Addr} {cls : Value} {d : Option Addr} {oe : Obj} {pn : List (Addr × Obj)} (hz : Zc cls d oe) (hf : ∃ vs, oe.data = .fields vs) : CallR (X.suite a ((a, oe) :: pn)) (.builtin "isinstance") (rIsK X.K cls d a) := by
  intro pins s σ H xs us Q I r h
  obtain ⟨D, c, cv, b, rfl, rfl, C, e1, e2, e3, q⟩ := h
  exact call_isE C hz hf pins s σ H xs us Q I r ⟨c, cv, b, e1, e2, e3, q⟩
theorem pe_nev {X : Cx} {e : Expr} : PE X e (fun _ _ _ => False) := ⟨fun _ _ _ _ _ _ h => h.elim⟩
theorem eqU_count {y : V} {vs : List V} {us : List Value} (r : Vals vs us) (hf : vs.all flatV = true) : us.countP (eqU y) = vs.countP fun z => eqV z y := by
  induction vs generalizing us with
  | nil => cases r; rfl
  | cons v vs ih =>
    cases r with
    | cons h t =>
      rw [List.all_cons, Bool.and_eq_true] at hf
      rw [List.countP_cons, List.countP_cons, ih t hf.2, eqU_of h hf.1]
def rCntV (K : PySem.W.Frag) : V → List V → Hp → VK → Prop := fun x xs H Q => ∃ (a : Addr) (ys : List V) (y : V), x = .ref a ∧ xs = [y] ∧ SqL K H a ys ∧ flatV y = true ∧ ys.all flatV = true ∧ Q (.int ((ys.countP fun z => eqV z y : Nat) : Int)) H
theorem mt_cntV {X : Cx} : MtR X "list.count" (rCntV X.K) := by
  intro pins s σ H x xs v us Q I rx rxs h
  obtain ⟨a, ys, y, rfl, rfl, hs, fy, fys, q⟩ := h
  cases rx
  cases rxs with
  | cons ry rt =>
    rename_i uy ut
    cases rt
    obtain ⟨its, rv, ⟨⟨cls, dd, data, sl⟩, n, ho, hc, hdn, hd⟩, hlen⟩ := I.list hs
    simp only at hc hd
    subst hc hd
    refine call_meets PySem.F.slot_list_count ⟨_, ho, rfl⟩ PySem.F.entry_list_count (PySem.F.args_list_count_2 _ _)
      (SeqAt.list_countAt a its.toArray n dd sl uy (eqU y)) ⟨ho, fun u' hu' => mem_eqAt ry fy rv fys u' (by simpa using hu'), ?_⟩
    have ec : its.toArray.toList.countP (eqU y) = ys.countP fun z => eqV z y := eqU_count rv fys
    refine ⟨.int ((ys.countP fun z => eqV z y : Nat) : Int), H, I.tok _, ⟨s.toks, ?_⟩, q⟩
    show Value.int ((its.toArray.toList.countP (eqU y) : Nat) : Int) s.toks = Value.int ((ys.countP fun z => eqV z y : Nat) : Int) s.toks
    rw [ec]
section
variable (K : PySem.W.Frag) {X : Cx}
theorem mtCntK (h : X.K = K := by rfl) : MtR X "list.count" (rCntV K) := h ▸ mt_cntV
theorem mtIndexK (h : X.K = K := by rfl) : MtR X "list.index" (rIndex K) := h ▸ mt_index
theorem pe_bmK {T id : String} {nm : Str} {r : V → List V → Hp → VK → Prop} {o e : Expr} {es : List Expr} {to : TE} {t : TA} {apos cpos : Pos} (pa : PlainAttrs T) (slot : Slot T nm id) (hty : typeOf (.builtin id) = pure (.type "method_descriptor")) (hm : MtR X id r) (ho : PE X o to) (ha : PA X (e :: es) t)
    (hbase : attributeBase o nm X.env (eval o X.env) = eval o X.env := by rfl)
    (hfew : ((backTo cpos (starEach (e :: es) X.env)).all (fun x => !x.1) && (backToKw cpos (keywordEach [] X.env)).all (fun x => x.1.isSome)
      && decide ((e :: es).length + ([] : List Keyword).length + (if ([] : List Keyword).isEmpty then 0 else 1) < 30)) = true := by rfl)
    (hline : (apos.endLine == cpos.line) = true := by rfl) (hs : starEach (e :: es) X.env = (false, eval e X.env) :: starEach es X.env := by rfl) (hplain : (backTo cpos (starEach es X.env)).any (·.1) = false := by rfl) (h : X.K = K := by rfl) :
    PE X (.Call (.Attribute o nm apos) (e :: es) [] cpos) (tBM K T r to t) := h ▸ pe_bm pa slot hty hm ho ha hbase hfew hline hs hplain
end
/-- an own error's class, that may be raised -/
structure ExF (K : PySem.W.Frag) (mg : Str → Option Value) (n : Str) : Prop where
  g : mg n = some (.ref (He.ga K n))
  x : PySem.W.excIn K (He.ga K n) He.veBase "ValueError.__new__" = true
  k : PySem.W.keepIn K (.ref (He.ga K n)) = true
  b : PySem.W.subIn K (.ref (He.ga K n)) (.type "BaseException") = some true
  t : PySem.W.typeIn K (.ref (He.ga K n)) = some (.type "type")
/-- the slots' number is known -/
theorem pss_len {X : Cx} {b : List Stmt} {t : L2.TS} (n : Nat) (h : PSs X b t) (hn : X.N.length = n := by rfl) : PSs X b (fun D σ H => σ.length = n → t D σ H) := ⟨fun pins s σ H D I hw => h.run pins s σ H D I (hw (I.len.trans hn))⟩
theorem five {σ : L2.St} (h : σ.length = 5) : ∃ a b c d e, σ = [a, b, c, d, e] := by
  match σ, h with
  | [a, b, c, d, e], _ => exact ⟨a, b, c, d, e, rfl⟩
theorem noAhead (bs : List Bool) (j : Nat) (h : ((List.range j).all fun m => bs[m]? != some true) = true) : ∀ (m : Nat) (z' : V), m < j → (bs.map V.bl)[m]? = some z' → eqV z' (.bl true) = false := fun m z' hm hz => by
  rw [List.all_eq_true] at h
  have h1 := h m (List.mem_range.mpr hm)
  rw [List.getElem?_map] at hz
  cases e : bs[m]? with
  | none => rw [e] at hz; cases hz
  | some b =>
    rw [e] at hz h1
    cases hz
    cases b with
    | false => rfl
    | true => simp at h1
/-! ### calls of defs that may raise -/
section
variable {X : Cx} {k j : Nat} {x : Str} {p pos : Pos} {e : Expr} {es : List Expr} {t : TA} {sp : Sp} {E : XK}
theorem pe_clT (c : Cl X.prog X.w X.K X.mg X.base (L2.CX X.prog X.w) k x sp) (hr : Room j X.A) (hk : k ≤ j) (hx : Passes (L2.CX X.prog X.w) X E) (hg : Gl X x) (ha : PA X (e :: es) t)
    (hdb : (x == ("__debug__" : Str)) = false := by decide) (he : starEach (e :: es) X.env = (false, eval e X.env) :: starEach es X.env := by rfl) (hpl : (backTo pos (starEach es X.env)).any (·.1) = false := by rfl) :
    PE X (.Call (.Name x p) (e :: es) [] pos) (tCall sp [] E t) := by
  obtain ⟨f, fd, ps, F, hm, kp, b⟩ := c.ex
  exact pe_call F (hr.mono hk) hg hm kp b .nil hx ha hdb he hpl
theorem pe_clG (c : Cl X.prog X.w X.K X.mg X.base (L2.CX X.prog X.w) k x sp) (hr : Room j X.A) (hk : k ≤ j) (hg : Gl X x) (ha : PA X (e :: es) t)
    (hdb : (x == ("__debug__" : Str)) = false := by decide) (he : starEach (e :: es) X.env = (false, eval e X.env) :: starEach es X.env := by rfl) (hpl : (backTo pos (starEach es X.env)).any (·.1) = false := by rfl) :
    PE X (.Call (.Name x p) (e :: es) [] pos) (tCall sp [] E0 t) := pe_clT c hr hk passL hg ha hdb he hpl
end
theorem FunG.clX {P : Program} {w : World} {K : PySem.W.Frag} {mg : Str → Option Value} {base : Heap} {CX : CXT} {k : Nat} {x : Str} {st : Stmt} {f : Addr} {fd : FuncData} {ps : List Str} {sp : Sp} (F : FunG K mg x st f fd ps) (h : FnOk P w K mg base CX k f fd ps sp) :
    Cl P w K mg base CX k x sp := ⟨f, fd, ps, h, F.mgf, F.fn.kp, F.b⟩
/-! ### heaps with a table of code objects -/
def lamQ : Str := ("law" : Str) ++ ".<locals>." ++ "<lambda>"
def noTab (H : Hp) : Hp := fun b => match H b with
  | some (.tbl _) => none
  | o => o
section
variable {K : PySem.W.Frag} {a st : Addr} {ns : List Int} {H H0 H1 H2 : Hp} {T : List (Addr × Str)}
theorem noTab_some {b : Addr} {o : HO} (h : noTab H b = some o) : H b = some o ∧ ∀ ps, o ≠ .tbl ps := by
  unfold noTab at h
  split at h
  · cases h
  · rename_i hn
    exact ⟨h, fun ps e => hn ps (by rw [h, e])⟩
theorem noTab_same (H : Hp) : Same (noTab H) H := fun _ _ h => (noTab_some h).1
theorem noTab_none {b : Addr} (h : H b = none) : noTab H b = none := by
  unfold noTab; rw [h]
theorem noTab_at {b : Addr} {o : HO} (h : H b = some o) (hn : ∀ ps, o ≠ .tbl ps) : noTab H b = some o := by
  unfold noTab
  rw [h]
  cases o <;> first | rfl | exact absurd rfl (hn _)
theorem noTab_sq {xs : List V} (h : SqL K H a xs) : SqL K (noTab H) a xs := by
  rcases h with (h | ⟨o, h⟩) | h
  · exact .inl (.inl (noTab_at h fun _ z => nomatch z))
  · exact .inl (.inr ⟨o, noTab_at h fun _ z => nomatch z⟩)
  · exact .inr h
theorem extN_same (h : Same (noTab H) H1) (e : ExtN H1 H2) : Same (noTab H) H2 := fun b o hb => e b o (h b o hb) (noTab_some hb).2
theorem SOk.extN (s : SOk K a ns st H1) (hq : SqL K (noTab H0) a (ns.map V.int)) (hst : noTab H0 st = none) (k : Same (noTab H0) H1) (e : ExtN H1 H2) : SOk K a ns st H2 := by
  obtain ⟨i, m, c, d, h⟩ := s.at_
  exact ⟨s.len, fun H' k' => ((extN_same k e).keepAll hst k').seq hq, i, m, c, d, e _ _ h fun _ z => nomatch z⟩
theorem tabs_same (t : Tabs T H) (e : Same H H1) : Tabs T H1 := t.ext e
theorem tabs_keep {xs : List V} (t : Tabs T H) (hs : H st = some (.lst xs)) (e : Keep st H H1) : Tabs T H1 := fun p hp => by
  obtain ⟨ps, h1, h2, h3⟩ := t p hp
  refine ⟨ps, e _ _ (fun z => by rw [z, hs] at h1; cases h1) h1, h2, fun pos cv hc => ?_⟩
  obtain ⟨c, e1, e2⟩ := h3 pos cv hc
  exact ⟨c, e1, e _ _ (fun z => by rw [z, hs] at e2; unfold CodeO at e2; cases e2) e2⟩
theorem SOk.tabs (s : SOk K a ns st H) (t : Tabs T H) (e : Keep st H H1) : Tabs T H1 := by
  obtain ⟨i, m, c, d, h⟩ := s.at_
  exact tabs_keep t h e
end
theorem tabs_keepL {T : List (Addr × Str)} {H : Hp} {l : Addr} {xs : List V} {o : HO} (t : Tabs T H) (hs : H l = some (.lst xs)) : Tabs T (upd H l o) := fun p hp => by
  obtain ⟨ps, h1, h2, h3⟩ := t p hp
  refine ⟨ps, by rw [upd_ne (fun z => by rw [z, hs] at h1; cases h1)]; exact h1, h2, fun pos cv hc => ?_⟩
  obtain ⟨c, e1, e2⟩ := h3 pos cv hc
  exact ⟨c, e1, by rw [upd_ne (fun z => by rw [z, hs] at e2; unfold CodeO at e2; cases e2)]; exact e2⟩
/-! ### arcs -/
/-- how often place t is met by m steps from s around b -/
def arc (b s : Nat) : Nat → Nat → Nat
  | 0, _ => 0
  | m + 1, t => arc b s m t + if (s + m) % b = t then 1 else 0
theorem arc_add (b s m1 : Nat) (t : Nat) : ∀ m2, arc b s (m1 + m2) t = arc b s m1 t + arc b (s + m1) m2 t
  | 0 => rfl
  | m2 + 1 => by
    rw [Nat.add_succ, arc, arc, arc_add b s m1 t m2, Nat.add_assoc s m1 m2]; omega
theorem arc_mod {b : Nat} (s t : Nat) : ∀ m, arc b (s % b) m t = arc b s m t
  | 0 => rfl
  | m + 1 => by
    rw [arc, arc, arc_mod s t m, Nat.mod_add_mod]
theorem zsum : ∀ n : Nat, ((List.range n).map fun _ => (0 : Nat)).sum = 0
  | 0 => rfl
  | n + 1 => by rw [List.range_succ, List.map_append, List.sum_append, zsum n]; rfl
theorem arc_sum {b : Nat} (hb : 0 < b) (s : Nat) : ∀ m, ((List.range b).map (arc b s m)).sum = m
  | 0 => by
    exact zsum b
  | m + 1 => by
    have h : ∀ n, ((List.range n).map (arc b s (m + 1))).sum = ((List.range n).map (arc b s m)).sum + if (s + m) % b < n then 1 else 0 := fun n => by
      induction n with
      | zero => simp
      | succ n ih =>
        rw [List.range_succ, List.map_append, List.sum_append, ih, List.map_append, List.sum_append]
        simp only [List.map_cons, List.map_nil, List.sum_cons, List.sum_nil, arc]
        split <;> split <;> split <;> omega
    rw [h b, arc_sum hb s m, if_pos (Nat.mod_lt _ hb)]
theorem arc_zero {b s t m : Nat} (h : ∀ k, k < m → (s + k) % b ≠ t) : arc b s m t = 0 := by
  induction m with
  | zero => rfl
  | succ m ih => rw [arc, ih fun k hk => h k (by omega), if_neg (h m (by omega))]
theorem arc_le {b s t : Nat} (hb : 0 < b) : ∀ {m : Nat}, m ≤ b → arc b s m t ≤ 1
  | 0, _ => Nat.zero_le _
  | m + 1, h => by
    rw [arc]
    by_cases c : (s + m) % b = t
    · rw [if_pos c, arc_zero fun k hk e => ?_]
      · exact Nat.le_refl _
      · rw [← e] at c
        have h1 := Nat.div_add_mod (s + m) b
        have h2 := Nat.div_add_mod (s + k) b
        rw [c] at h1
        have h3 : b * ((s + m) / b) + (s + k) = b * ((s + k) / b) + (s + m) := by omega
        have h4 : (s + k) / b ≤ (s + m) / b := Nat.div_le_div_right (by omega)
        obtain ⟨d, hd⟩ : ∃ d, (s + m) / b = (s + k) / b + d := ⟨(s + m) / b - (s + k) / b, by omega⟩
        rw [hd, Nat.mul_add] at h3
        have h5 : m = k + b * d := by omega
        cases d with
        | zero => omega
        | succ d => rw [Nat.mul_succ] at h5; omega
    · rw [if_neg c]
      exact arc_le hb (by omega)
theorem arc_full {b : Nat} (hb : 0 < b) {t : Nat} (ht : t < b) : ∀ m, arc b 0 m t = m / b + if t < m % b then 1 else 0
  | 0 => by simp [arc]
  | m + 1 => by
    rw [arc, arc_full hb ht m, Nat.zero_add]
    have h1 := Nat.div_add_mod m b
    have h2 := Nat.mod_lt m hb
    by_cases c : m % b + 1 = b
    · have e1 : (m + 1) / b = m / b + 1 := by
        rw [show m + 1 = b * (m / b + 1) by rw [Nat.mul_add]; omega, Nat.mul_div_cancel_left _ hb]
      have e2 : (m + 1) % b = 0 := by
        rw [show m + 1 = b * (m / b + 1) by rw [Nat.mul_add]; omega, Nat.mul_mod_right]
      rw [e1, e2]
      split <;> split <;> split <;> omega
    · have e1 : (m + 1) / b = m / b := by
        rw [show m + 1 = b * (m / b) + (m % b + 1) by omega, Nat.mul_add_div hb, Nat.div_eq_of_lt (show m % b + 1 < b by omega), Nat.add_zero]
      have e2 : (m + 1) % b = m % b + 1 := by
        rw [show m + 1 = b * (m / b) + (m % b + 1) by omega, Nat.mul_add_mod, Nat.mod_eq_of_lt (show m % b + 1 < b by omega)]
      rw [e1, e2]
      split <;> split <;> split <;> omega
/-- all arcs: shares from begins -/
def arcs (b : Nat) : List (Nat × Nat) → Nat → Nat
  | [], _ => 0
  | z :: r, t => arc b z.2 z.1 t + arcs b r t
theorem arcs_snoc (b : Nat) (z : Nat × Nat) (t : Nat) : ∀ r, arcs b (r ++ [z]) t = arcs b r t + arc b z.2 z.1 t
  | [] => by simp [arcs]
  | y :: r => by rw [List.cons_append, arcs, arcs, arcs_snoc b z t r]; omega
theorem arcs_sum {b : Nat} (hb : 0 < b) : ∀ r : List (Nat × Nat), ((List.range b).map (arcs b r)).sum = (r.map Prod.fst).sum
  | [] => by
    exact zsum b
  | z :: r => by
    have h : ∀ n, ((List.range n).map (arcs b (z :: r))).sum = ((List.range n).map (arc b z.2 z.1)).sum + ((List.range n).map (arcs b r)).sum := fun n => by
      induction n with
      | zero => simp
      | succ n ih =>
        rw [List.range_succ, List.map_append, List.sum_append, ih, List.map_append, List.sum_append, List.map_append, List.sum_append]
        simp only [List.map_cons, List.map_nil, List.sum_cons, List.sum_nil, arcs]
        omega
    rw [h b, arc_sum hb, arcs_sum hb r, List.map_cons, List.sum_cons]
/-- shares one behind the other -/
def laid (b : Nat) : Nat → List Nat → List (Nat × Nat)
  | _, [] => []
  | s, x :: xs => (x, s % b) :: laid b (s + x) xs
theorem arcs_laid (b : Nat) (t : Nat) : ∀ (xs : List Nat) (s : Nat), arcs b (laid b s xs) t = arc b s xs.sum t
  | [], _ => rfl
  | x :: xs, s => by
    rw [laid, arcs, arcs_laid b t xs, List.sum_cons, arc_add, arc_mod]
/-- begins, one behind the other -/
def begs (b : Int) (sh : List Int) : List Int := (List.range sh.length).map fun i => (sh.take i).sum % b
def zipN (sh ts : List Int) (n : Nat) : List (Nat × Nat) := (List.range n).map fun i => ((sh.getD i 0).toNat, (ts.getD i 0).toNat)
theorem zipN_succ (sh ts : List Int) (n : Nat) : zipN sh ts (n + 1) = zipN sh ts n ++ [((sh.getD n 0).toNat, (ts.getD n 0).toNat)] := by
  unfold zipN; rw [List.range_succ, List.map_append]; rfl
def arcL (B : Nat) (f : Nat → Nat) : List Int := (List.range B).map fun t => ((f t : Nat) : Int)
theorem arcL_len (B : Nat) (f : Nat → Nat) : (arcL B f).length = B := by simp [arcL]
theorem arcL_getD {B : Nat} (f : Nat → Nat) {j : Nat} (hj : j < B) : (arcL B f).getD j 0 = ((f j : Nat) : Int) := by
  unfold arcL
  rw [List.getD_eq_getElem?_getD, List.getElem?_map, List.getElem?_range hj]
  rfl
theorem arcL_set {B : Nat} (f : Nat → Nat) {j : Nat} (hj : j < B) : (arcL B f).set j (((f j : Nat) : Int) + 1) = arcL B fun t => f t + if j = t then 1 else 0 := by
  apply List.ext_getElem?
  intro i
  unfold arcL
  rw [List.getElem?_set, List.getElem?_map, List.getElem?_map]
  by_cases hi : i < B
  · rw [List.getElem?_range hi]
    by_cases e : j = i
    · subst e
      rw [if_pos rfl, if_pos (by simpa using hi)]
      simp
    · rw [if_neg e]
      simp [e]
  · rw [List.getElem?_eq_none (by simpa using hi)]
    by_cases e : j = i
    · omega
    · rw [if_neg e]; rfl
theorem arcL_sum (f : Nat → Nat) : ∀ B : Nat, (arcL B f).sum = ((((List.range B).map f).sum : Nat) : Int)
  | 0 => rfl
  | B + 1 => by
    have := arcL_sum f B
    unfold arcL at this ⊢
    rw [List.range_succ, List.map_append, List.sum_append, List.map_append, List.sum_append, this]
    simp
theorem arcL_congr {B : Nat} {f g : Nat → Nat} (h : ∀ t, t < B → f t = g t) : arcL B f = arcL B g := by
  unfold arcL
  apply List.map_congr_left
  intro t ht
  rw [h t (List.mem_range.mp ht)]
theorem arcs_begs {b : Int} (hb : 1 ≤ b) {sh ts : List Int} (hsh : ∀ x ∈ sh, 0 ≤ x ∧ x ≤ b) (hts : ∀ i, i < sh.length → ts.getD i 0 = (sh.take i).sum % b) (t : Nat) : ∀ i, i ≤ sh.length → 0 ≤ (sh.take i).sum ∧ arcs b.toNat (zipN sh ts i) t = arc b.toNat 0 (sh.take i).sum.toNat t
  | 0, _ => ⟨by simp, by simp [zipN, arcs, arc]⟩
  | i + 1, h => by
    obtain ⟨h0, ih⟩ := arcs_begs hb hsh hts t i (by omega)
    have hi : i < sh.length := by omega
    have hx := hsh (sh.getD i 0) (by rw [List.getD_eq_getElem?_getD, List.getElem?_eq_getElem hi]; exact List.getElem_mem hi)
    have es : (sh.take (i + 1)).sum = (sh.take i).sum + sh.getD i 0 := by
      rw [List.take_succ, List.getElem?_eq_getElem hi, List.sum_append]
      simp [List.getD, List.getElem?_eq_getElem hi]
    refine ⟨by omega, ?_⟩
    rw [zipN_succ, arcs_snoc, ih, es, hts i hi]
    have e1 : ((sh.take i).sum + sh.getD i 0).toNat = (sh.take i).sum.toNat + (sh.getD i 0).toNat := by omega
    have e2 : ((sh.take i).sum % b).toNat = (sh.take i).sum.toNat % b.toNat := by
      have h1 : (sh.take i).sum = (((sh.take i).sum.toNat : Nat) : Int) := by omega
      have h2 : b = ((b.toNat : Nat) : Int) := by omega
      rw [h1, h2, ← Int.natCast_emod]
      simp only [Int.toNat_natCast]
    rw [e1, arc_add, Nat.zero_add]
    show _ + arc b.toNat ((sh.take i).sum % b).toNat (sh.getD i 0).toNat t = _
    rw [e2, arc_mod]
structure Told (b s : Int) (L : List Int) : Prop where
  len : (L.length : Int) = b
  sum : L.sum = s
  max : ∀ m, m ∈ L → (∀ y, y ∈ L → y ≤ m) → m = (s + b - 1) / b
  min : ∀ m, m ∈ L → (∀ y, y ∈ L → m ≤ y) → m = s / b
theorem told_mk {b : Int} (hb : 1 ≤ b) {sh ts : List Int} (hsh : ∀ x ∈ sh, 0 ≤ x ∧ x ≤ b) (hts : ∀ i, i < sh.length → ts.getD i 0 = (sh.take i).sum % b) : Told b sh.sum (arcL b.toNat (arcs b.toNat (zipN sh ts sh.length))) := by
  have hS := (arcs_begs hb hsh hts 0 sh.length (Nat.le_refl _)).1
  rw [List.take_length] at hS
  have hL : arcL b.toNat (arcs b.toNat (zipN sh ts sh.length)) = arcL b.toNat (arc b.toNat 0 sh.sum.toNat) := arcL_congr fun t _ => by
    have := (arcs_begs hb hsh hts t sh.length (Nat.le_refl _)).2
    rw [List.take_length] at this
    exact this
  rw [hL]
  have hB : 0 < b.toNat := by omega
  obtain ⟨S, hSS⟩ : ∃ S, S = sh.sum.toNat := ⟨_, rfl⟩
  obtain ⟨B, hBB⟩ : ∃ B, B = b.toNat := ⟨_, rfl⟩
  have eS : sh.sum = (S : Int) := by omega
  have eB : b = (B : Int) := by omega
  rw [← hSS, ← hBB, eS, eB]
  rw [← hBB] at hB
  have hmem : ∀ y, y ∈ arcL B (arc B 0 S) ↔ ∃ t, t < B ∧ y = ((S / B + if t < S % B then 1 else 0 : Nat) : Int) := fun y => by
    unfold arcL
    rw [List.mem_map]
    constructor
    · rintro ⟨t, ht, rfl⟩
      have ht := List.mem_range.mp ht
      exact ⟨t, ht, by rw [arc_full hB ht]⟩
    · rintro ⟨t, ht, rfl⟩
      exact ⟨t, List.mem_range.mpr ht, by rw [arc_full hB ht]⟩
  have h1 := Nat.div_add_mod S B
  have h2 := Nat.mod_lt S hB
  have hpk : ((S : Int) + (B : Int) - 1) / (B : Int) = ((S / B + if 0 < S % B then 1 else 0 : Nat) : Int) := by
    have e : (S : Int) + (B : Int) - 1 = ((S + B - 1 : Nat) : Int) := by omega
    rw [e, ← Int.natCast_ediv]
    congr 1
    obtain ⟨q, hq⟩ : ∃ q, q = S / B := ⟨_, rfl⟩
    rw [← hq] at h1 ⊢
    rw [show S + B - 1 = B * q + (S % B + B - 1) by omega, Nat.mul_add_div hB]
    congr 1
    by_cases c : 0 < S % B
    · rw [if_pos c, Nat.div_eq_sub_div hB (show B ≤ S % B + B - 1 by omega), Nat.div_eq_of_lt (show S % B + B - 1 - B < B by omega)]
    · rw [if_neg c, Nat.div_eq_of_lt (show S % B + B - 1 < B by omega)]
  refine ⟨by rw [arcL_len], by rw [arcL_sum, arc_sum hB], fun m hm hle => ?_, fun m hm hle => ?_⟩
  · rw [hpk]
    obtain ⟨t, ht, rfl⟩ := (hmem m).mp hm
    have := hle _ ((hmem _).mpr ⟨0, hB, rfl⟩)
    split at this <;> split <;> split at this <;> omega
  · obtain ⟨t, ht, rfl⟩ := (hmem m).mp hm
    have := hle _ ((hmem _).mpr ⟨S % B, h2, rfl⟩)
    rw [if_neg (Nat.lt_irrefl _)] at this
    rw [← Int.natCast_ediv]
    split at this <;> split <;> omega
theorem zipN_fst {sh ts : List Int} {b : Int} (hsh : ∀ x ∈ sh, 0 ≤ x ∧ x ≤ b) : ∀ i, i ≤ sh.length → ((((zipN sh ts i).map Prod.fst).sum : Nat) : Int) = (sh.take i).sum
  | 0, _ => by simp [zipN]
  | i + 1, h => by
    have hi : i < sh.length := by omega
    have hx := hsh (sh.getD i 0) (by rw [List.getD_eq_getElem?_getD, List.getElem?_eq_getElem hi]; exact List.getElem_mem hi)
    rw [zipN_succ, List.map_append, List.sum_append, Int.natCast_add, zipN_fst hsh i (by omega), List.take_succ, List.getElem?_eq_getElem hi, List.sum_append]
    have : sh.getD i 0 = sh[i] := by simp [List.getD, List.getElem?_eq_getElem hi]
    rw [this] at hx ⊢
    simp
    omega
theorem any_sum {b : Int} (hb : 1 ≤ b) {sh ts : List Int} (hsh : ∀ x ∈ sh, 0 ≤ x ∧ x ≤ b) : (arcL b.toNat (arcs b.toNat (zipN sh ts sh.length))).sum = sh.sum := by
  rw [arcL_sum, arcs_sum (by omega), zipN_fst hsh _ (Nat.le_refl _), List.take_length]
theorem any_max {b : Int} (hb : 1 ≤ b) {sh ts : List Int} (hsh : ∀ x ∈ sh, 0 ≤ x ∧ x ≤ b) (m : Int) (hle : ∀ y, y ∈ arcL b.toNat (arcs b.toNat (zipN sh ts sh.length)) → y ≤ m) : (sh.sum + b - 1) / b ≤ m := by
  have hs := any_sum (ts := ts) hb hsh
  have h1 : tsum (fun t => ((arcs b.toNat (zipN sh ts sh.length) t : Nat) : Int)) b.toNat = sh.sum := hs
  have h2 := tsum_le (f := fun t => ((arcs b.toNat (zipN sh ts sh.length) t : Nat) : Int)) (g := fun _ => m) b.toNat fun k hk => hle _ (List.mem_map.mpr ⟨k, List.mem_range.mpr hk, rfl⟩)
  rw [h1, tsum_const, Int.toNat_of_nonneg (by omega)] at h2
  have : (sh.sum + b - 1) / b < m + 1 := by
    apply Int.ediv_lt_of_lt_mul (by omega)
    rw [Int.add_mul, Int.mul_comm m b]
    omega
  omega
theorem alone_le {b x y : Int} (hb : 1 ≤ b) (h0 : 0 ≤ x) (h1 : x ≤ b) : ∀ z, z ∈ arcL b.toNat (arcs b.toNat (zipN [x] [y] 1)) → z ≤ 1 := fun z hz => by
  obtain ⟨t, ht, rfl⟩ := List.mem_map.mp hz
  have : arcs b.toNat (zipN [x] [y] 1) t = arc b.toNat y.toNat x.toNat t := by simp [zipN, arcs]
  rw [this]
  have := arc_le (b := b.toNat) (s := y.toNat) (t := t) (m := x.toNat) (by omega) (by omega)
  omega
structure Txt (K : PySem.W.Frag) (mg : Str → Option Value) : Prop where
  g_BadBegins : mg "BadBegins" = some (.ref (He.ga K "BadBegins"))
  g_BadFrame : mg "BadFrame" = some (.ref (He.ga K "BadFrame"))
  g_BadRuns : mg "BadRuns" = some (.ref (He.ga K "BadRuns"))
  g_BadShare : mg "BadShare" = some (.ref (He.ga K "BadShare"))
  g_BadText : mg "BadText" = some (.ref (He.ga K "BadText"))
  g_BadWidth : mg "BadWidth" = some (.ref (He.ga K "BadWidth"))
  k_MOST_BEATS : ∃ u, mg "MOST_BEATS" = some u ∧ RelV (.int 64) u
  k_MOST_SHARES : ∃ u, mg "MOST_SHARES" = some u ∧ RelV (.int 12) u
  g_NoRoom : mg "NoRoom" = some (.ref (He.ga K "NoRoom"))
  x_NoRoom : ExF K mg "NoRoom"
  g_PulseError : mg "PulseError" = some (.ref (He.ga K "PulseError"))
  b_ValueError : mg "ValueError" = none
  b_isinstance : mg "isinstance" = none
  b_len : mg "len" = none
  b_max : mg "max" = none
  b_min : mg "min" = none
  b_range : mg "range" = none
  b_sum : mg "sum" = none
  b_zip : mg "zip" = none
section
variable {P : Program} {w : World} {K : PySem.W.Frag} {mg : Str → Option Value} {base : Heap}
abbrev s_law_start : Stmt := top 20
theorem sc_law_start : FnScope ["_law_script", "_law_mixed", "_law_cell"] ["_law_script"] (defScope s_law_start) := ⟨rfl, rfl, rfl, by decide +kernel, rfl, by decide +kernel, by decide +kernel⟩
/-- _law_start(script): a new good state -/
def spStart (K : PySem.W.Frag) : Sp := fun vs H Q _ => ∃ (a : Addr) (ns : List Int), vs = [.ref a] ∧ SqL K H a (ns.map V.int) ∧ ∀ (st : Addr) (m : Int), H st = none → Drw 0 m 0 → Q (.ref st) (upd H st (StO a 0 m 0))
theorem ok_law_start {f : Addr} {fd : FuncData} (F : FunG K mg "_law_start" s_law_start f fd ["_law_script"]) : FnOk P w K mg base CX0 1 f fd ["_law_script"] (spStart K) := by
  refine F.fn.ok sc_law_start (fun vs H Q E h => ?_) (fun cdv A outer s H vs Q E hr h => ?_)
  · obtain ⟨a, ns, rfl, _⟩ := h
    rfl
  · obtain ⟨a, ns, rfl, hS, k⟩ := h
    refine ⟨_, (pss_cons (ps_set (i := 1) sc_law_start.nd rfl (.inl rfl) pe_int)
      (pss_cons (ps_for PassesOwn.never (by rfl) (pi_list (pv 0)) (pg_name (i := 2) sc_law_start.nd rfl (.inl rfl)) (pss_one (ps_set (i := 1) sc_law_start.nd rfl (.inl rfl) (pe_op op_mod (pe_op op_add (pe_op op_add (pe_op op_mulW (pv 1) pe_int) (pv 2)) pe_int) pe_int))))
      (pss_one (ps_ret (pe_lst (pa_cons (pv 0) (pa_cons pe_int (pa_cons (pv 1) (pa_cons pe_int pa_nil))))))))), ?_⟩
    refine ⟨_, rfl, a, rfl, ⟨_, hS⟩, for_list (K := K) (a := a) (xs := ns.map V.int) (fun i σ H' => ∃ (m : Int) (v : Option V), σ = [some (.ref a), some (.int m), v] ∧ H' = H ∧ 0 ≤ m ∧ m < 2147483647)
      ⟨1, none, rfl, rfl, by decide, by decide⟩ (fun i σ H' _ ⟨_, _, _, e, _⟩ => e ▸ hS) ?_ ?_⟩
    · rintro i y σ H' hi ⟨m, v, rfl, rfl, m0, m1⟩
      obtain ⟨z, hz, rfl⟩ := getV hi
      refine ⟨_, rfl, _, _, rfl, rfl, wide_mul (a := 31) (b := 17) (by omega) (by decide) (by decide) (by decide) (by decide), _, rfl, _, _, rfl, rfl, _, _, rfl, rfl, _, _, rfl, rfl, (by show (0 : Int) < 2147483647; decide), ?_⟩
      exact ⟨_, _, rfl, rfl, Int.emod_nonneg _ (by decide), Int.emod_lt_of_pos _ (by decide)⟩
    · rintro σ H' ⟨m, v, rfl, rfl, m0, m1⟩
      refine ⟨_, rfl, _, rfl, (by show 4 ≤ sizeLine; decide), fun p hp => ?_⟩
      exact k p m hp ⟨Int.le_refl _, m0, m1, Int.le_refl _⟩
abbrev s_law_drawn : Stmt := top 21
theorem sc_law_drawn : FnScope ["_law_state", "_law_many", "_law_found", "_law_cell"] ["_law_state", "_law_many"] (defScope s_law_drawn) := ⟨rfl, rfl, rfl, by decide +kernel, rfl, by decide +kernel, by decide +kernel⟩
/-- _law_drawn(state, many): some number from 0 on below many; the state is good behind it, all else as it was -/
def spDrawn (K : PySem.W.Frag) : Sp := fun vs H Q _ => ∃ (st a : Addr) (ns : List Int) (many : Int), vs = [.ref st, .int many] ∧ SOk K a ns st H ∧ 0 < many ∧ many < 2 ^ 200 ∧
  ∀ r i m c : Int, 0 ≤ r → r < many → Drw i m c → Q (.int r) (upd H st (StO a i m c))
theorem SOk.drawn {K : PySem.W.Frag} {a st : Addr} {ns : List Int} {H : Hp} (s : SOk K a ns st H) {i m c : Int} (d : Drw i m c) : SOk K a ns st (upd H st (StO a i m c)) := s.keep (Keep.refl st H).atSt d upd_same
theorem ok_law_drawn {f : Addr} {fd : FuncData} (F : FunG K mg "_law_drawn" s_law_drawn f fd ["_law_state", "_law_many"]) (T : Txt K mg) : FnOk P w K mg base CX0 1 f fd ["_law_state", "_law_many"] (spDrawn K) := by
  refine F.fn.ok sc_law_drawn (fun vs H Q E h => ?_) (fun cdv A outer s H vs Q E hr h => ?_)
  · obtain ⟨st, a, ns, many, rfl, _⟩ := h
    rfl
  · obtain ⟨st, a, ns, many, rfl, hs, m0, m1, k⟩ := h
    obtain ⟨i, m, c, d, hst⟩ := hs.at_
    have hdiv : ∀ x : Int, CDivW x many := fun x => wide_div (b := 200) m0 (by omega) (by decide) (by decide)
    have hl : H st = some (.lst [.ref a, .int i, .int m, .int c]) := hst
    refine ⟨_, (pss_cons (ps_if (pt_cmpR op_gt (pe_ix (ixL K) (pv 0) pe_int (fun _ _ => rfl)) pe_int (nomark _)) (pss_cons (ps_set (i := 2) sc_law_drawn.nd rfl (.inl rfl) (pe_op op_mod (pe_ix (ixL K) (pv 0) pe_int (fun _ _ => rfl)) (pv 1)))
      (pss_cons (ps_asg (pe_op op_fdivW (pe_ix (ixL K) (pv 0) pe_int (fun _ _ => rfl)) (pv 1)) (pg_sub (pv 0) pe_int set_list))
      (pss_one (ps_ret (pv 2))))) pss_nil)
      (pss_cons (ps_asg (pe_op op_add (pe_ix (ixL K) (pv 0) pe_int (fun _ _ => rfl)) pe_int) (pg_sub (pv 0) pe_int set_list))
      (pss_cons (ps_if (pt_cmpR op_le (pe_ix (ixL K) (pv 0) pe_int (fun _ _ => rfl)) (pe_callB (clLen K) (by rfl) T.b_len (by decide +kernel) (pa_cons (pe_ix (ixL K) (pv 0) pe_int (fun _ _ => rfl)) pa_nil)) (nomark _)) (pss_cons (ps_set (i := 3) sc_law_drawn.nd rfl (.inl rfl) (pe_ix (ixL K) (pe_ix (ixL K) (pv 0) pe_int (fun _ _ => rfl)) (pe_op op_sub (pe_ix (ixL K) (pv 0) pe_int (fun _ _ => rfl)) pe_int) (fun _ _ => rfl)))
      (pss_cons (ps_asg (pe_ifExp (pt_cmpR op_ge (pv 3) (pe_op op_pow pe_int pe_int) (nomark _)) (pe_op op_fdivW (pv 3) (pv 1)) pe_int) (pg_sub (pv 0) pe_int set_list))
      (pss_one (ps_ret (pe_op op_mod (pv 3) (pv 1)))))) pss_nil)
      (pss_cons (ps_asg (pe_op op_mod (pe_op op_add (pe_op op_mulW (pe_ix (ixL K) (pv 0) pe_int (fun _ _ => rfl)) pe_int) pe_int) pe_int) (pg_sub (pv 0) pe_int set_list))
      (pss_one (ps_ret (pe_op op_mod (pe_op op_fdivW (pe_ix (ixL K) (pv 0) pe_int (fun _ _ => rfl)) pe_int) (pv 1)))))))), ?_⟩
    refine ⟨_, rfl, _, _, _, _, rfl, rfl, SqL.of hl, rfl, _, _, rfl, rfl, _, rfl, ?_⟩
    refine ite2 (fun hc => ?_) (fun hc => ?_)
    · have hc : 0 < c := of_decide_eq_true hc
      refine ⟨_, rfl, _, _, _, _, rfl, rfl, SqL.of hl, rfl, _, rfl, _, _, rfl, rfl, m0, ?_⟩
      refine ⟨_, rfl, _, _, _, _, rfl, rfl, SqL.of hl, rfl, _, rfl, _, _, rfl, rfl, hdiv _, _, rfl, st, _, _, 3, rfl, rfl, hl, rfl, ?_⟩
      refine ⟨_, rfl, ?_⟩
      exact k (c % many) i m (c / many) (Int.emod_nonneg _ (by omega)) (Int.emod_lt_of_pos _ m0) ⟨d.i0, d.m0, d.m1, Int.ediv_nonneg d.c0 (by omega)⟩
    · refine ⟨_, rfl, _, _, _, _, rfl, rfl, SqL.of hl, rfl, _, _, rfl, rfl, _, rfl, st, _, _, 1, rfl, rfl, hl, rfl, ?_⟩
      have hl1 : (upd H st (.lst [.ref a, .int (i + 1), .int m, .int c])) st = some (.lst [.ref a, .int (i + 1), .int m, .int c]) := upd_same
      have hS1 : SqL K (upd H st (.lst [.ref a, .int (i + 1), .int m, .int c])) a (ns.map V.int) := hs.sq _ (Keep.refl st H).atSt
      refine ⟨_, rfl, _, _, _, _, rfl, rfl, SqL.of hl1, rfl, _, rfl, _, _, _, _, rfl, rfl, SqL.of hl1, rfl, _, _, rfl, .inl hS1, _, _, rfl, rfl, _, rfl, ?_⟩
      refine ite2 (fun hb => ?_) (fun hb => ?_)
      · have hb : i + 1 ≤ ((ns.map V.int).length : Int) := of_decide_eq_true hb
        rw [List.length_map] at hb
        have i0 := d.i0
        refine ⟨_, rfl, _, _, _, _, rfl, rfl, SqL.of hl1, rfl, _, rfl, _, _, _, _, rfl, rfl, SqL.of hl1, rfl, _, _, rfl, rfl, _, _, _, _, rfl, rfl, hS1, atV (j := i.toNat) (by omega) (by omega), ?_⟩
        refine ⟨_, rfl, _, _, rfl, rfl, ⟨by decide, by decide, by decide⟩, _, _, rfl, rfl, _, rfl, ?_⟩
        generalize ns.getD i.toNat 0 = z
        refine ite2 (fun hz => ?_) (fun hz => ?_)
        · have hz : (10 : Int) ^ (18 : Int).toNat ≤ z := of_decide_eq_true hz
          have z0 : 0 ≤ z := Int.le_trans (by decide) hz
          refine ⟨_, rfl, _, rfl, _, _, rfl, rfl, hdiv _, _, rfl, st, _, _, 3, rfl, rfl, hl1, rfl, ?_⟩
          refine ⟨_, rfl, _, rfl, _, _, rfl, rfl, m0, ?_⟩
          rw [upd_upd]
          exact k (z % many) (i + 1) m (z / many) (Int.emod_nonneg _ (by omega)) (Int.emod_lt_of_pos _ m0) ⟨by omega, d.m0, d.m1, Int.ediv_nonneg z0 (by omega)⟩
        · refine ⟨_, rfl, st, _, _, 3, rfl, rfl, hl1, rfl, ?_⟩
          refine ⟨_, rfl, _, rfl, _, _, rfl, rfl, m0, ?_⟩
          rw [upd_upd]
          exact k (z % many) (i + 1) m 0 (Int.emod_nonneg _ (by omega)) (Int.emod_lt_of_pos _ m0) ⟨by omega, d.m0, d.m1, Int.le_refl _⟩
      · refine ⟨_, rfl, _, _, _, _, rfl, rfl, SqL.of hl1, rfl, _, _, rfl, rfl, wide_mul (a := 31) (b := 17) (by have := d.m0; have := d.m1; omega) (by decide) (by decide) (by decide) (by decide), _, _, rfl, rfl, _, _, rfl, rfl, (by show (0 : Int) < 2147483647; decide), _, rfl, st, _, _, 2, rfl, rfl, hl1, rfl, ?_⟩
        rw [upd_upd]
        have n0 := Int.emod_nonneg (m * 48271 + 11) (show (2147483647 : Int) ≠ 0 by decide)
        have n1 := Int.emod_lt_of_pos (m * 48271 + 11) (show (0 : Int) < 2147483647 by decide)
        have hl2 : (upd H st (.lst [.ref a, .int (i + 1), .int ((m * 48271 + 11) % 2147483647), .int c])) st = some (.lst [.ref a, .int (i + 1), .int ((m * 48271 + 11) % 2147483647), .int c]) := upd_same
        refine ⟨_, rfl, _, _, _, _, rfl, rfl, SqL.of hl2, rfl, _, _, rfl, rfl, wide_div (b := 3) (by decide) (by decide) (by decide) (by decide), _, rfl, _, _, rfl, rfl, m0, ?_⟩
        have i0 := d.i0
        exact k ((m * 48271 + 11) % 2147483647 / 7 % many) (i + 1) ((m * 48271 + 11) % 2147483647) c (Int.emod_nonneg _ (by omega)) (Int.emod_lt_of_pos _ m0) ⟨by omega, n0, n1, d.c0⟩
end
end My

namespace My
open PySem PySem.Spec PyProof.Rows LamX L2
section
variable {P : Program} {w : World} {K : PySem.W.Frag} {mg : Str → Option Value} {base : Heap}
abbrev s_law_kind : Stmt := top 22
theorem sc_law_kind : FnScope ["_law_work", "e", "_law_kinds", "_law_words", "_law_word"] ["_law_work"] (defScope s_law_kind) := ⟨rfl, rfl, rfl, by decide +kernel, rfl, by decide +kernel, by decide +kernel⟩
/-- the errors' names -/
def kindW : List Str := ["BadFrame", "BadShare", "BadWidth", "BadBegins", "BadRuns", "NoRoom", "BadText"]
/-- the class of the name x is the j-th of these -/
structure ErrK (K : PySem.W.Frag) (x : Str) (j : Nat) : Prop where
  exc : ExcC K (He.ga K x)
  pe : PySem.W.exmOne K (.ref (He.ga K x)) (.ref (He.ga K "PulseError")) = some true
  k0 : PySem.W.kitOne K (.ref (He.ga K x)) (.ref (He.ga K "BadFrame")) = some (decide (j = 0))
  k1 : PySem.W.kitOne K (.ref (He.ga K x)) (.ref (He.ga K "BadShare")) = some (decide (j = 1))
  k2 : PySem.W.kitOne K (.ref (He.ga K x)) (.ref (He.ga K "BadWidth")) = some (decide (j = 2))
  k3 : PySem.W.kitOne K (.ref (He.ga K x)) (.ref (He.ga K "BadBegins")) = some (decide (j = 3))
  k4 : PySem.W.kitOne K (.ref (He.ga K x)) (.ref (He.ga K "BadRuns")) = some (decide (j = 4))
  k5 : PySem.W.kitOne K (.ref (He.ga K x)) (.ref (He.ga K "NoRoom")) = some (decide (j = 5))
  k6 : PySem.W.kitOne K (.ref (He.ga K x)) (.ref (He.ga K "BadText")) = some (decide (j = 6))
  ve : PySem.W.kitOne K (.ref (He.ga K x)) (.type "ValueError") = some true
  lt : j < 6
  nm : kindW[j]? = some x
/-- _law_kind's making of what it got: its answer, or the error's name -/
def TKind (K : PySem.W.Frag) : (XK → Hp → VK → Prop) → Hp → VK → Prop := fun tl H Q =>
  tl (fun cls d H' => ∃ (x : Str) (j : Nat), cls = .ref (He.ga K x) ∧ d = none ∧ ErrK K x j ∧ ∀ H'', Same H' H'' → Q (.str x) H'') H Q
theorem kind_gives {X : Cx} (T : Txt X.K X.mg) {g : Addr} {cdg : Value} {q : Str} : GivesTo X ["_law_work", "e", "_law_kinds", "_law_words", "_law_word"] "_law_kind" (defScope s_law_kind) g cdg (defBody s_law_kind) "_law_work" q (TKind X.K) := by
  intro f c' s H Q tl act hc h
  refine ⟨_, pss_one (ps_try_as (X := (cxOf C8.CX0 X.prog X.w X.K X.mg X.base ["_law_work", "e", "_law_kinds", "_law_words", "_law_word"] "_law_kind" (defScope s_law_kind) g cdg X.A X.stack s H C8.E0).nox) (i := 1) (c := .ref (He.ga X.K "PulseError"))
      (tb := fun W D σ H => ∃ Ech : XK, (∀ cls d σ' H', Ech cls d H' → W cls d σ' H') ∧ σ[0]? = some (some (.ref f)) ∧ H c' = some (CodeO c' q) ∧ tl Ech H D.rt)
      rfl rfl sc_law_kind.nd rfl (by rfl) ⟨rfl, by decide, .inl T.g_PulseError⟩ L2.takes0 (fun W pn xe tk _ => ?_) (fun a oe cls d pn hz hf => pss_len 5 (pss_cons (ps_set (i := 2) sc_law_kind.nd rfl (.inl rfl) (pe_lst (pa_cons (pe_callB (call_isK hz hf) (by rfl) T.b_isinstance (by decide +kernel) (pa_cons (pv 1) (pa_cons (pe_glob (v := .ref (He.ga X.K "BadFrame")) (by rfl) T.g_BadFrame rfl) pa_nil))) (pa_cons (pe_callB (call_isK hz hf) (by rfl) T.b_isinstance (by decide +kernel) (pa_cons (pv 1) (pa_cons (pe_glob (v := .ref (He.ga X.K "BadShare")) (by rfl) T.g_BadShare rfl) pa_nil))) (pa_cons (pe_callB (call_isK hz hf) (by rfl) T.b_isinstance (by decide +kernel) (pa_cons (pv 1) (pa_cons (pe_glob (v := .ref (He.ga X.K "BadWidth")) (by rfl) T.g_BadWidth rfl) pa_nil))) (pa_cons (pe_callB (call_isK hz hf) (by rfl) T.b_isinstance (by decide +kernel) (pa_cons (pv 1) (pa_cons (pe_glob (v := .ref (He.ga X.K "BadBegins")) (by rfl) T.g_BadBegins rfl) pa_nil))) pa_nil))))))
      (pss_cons (ps_set (i := 2) sc_law_kind.nd rfl (.inl rfl) (pe_op op_cat (pv 2) (pe_lst (pa_cons (pe_callB (call_isK hz hf) (by rfl) T.b_isinstance (by decide +kernel) (pa_cons (pv 1) (pa_cons (pe_glob (v := .ref (He.ga X.K "BadRuns")) (by rfl) T.g_BadRuns rfl) pa_nil))) (pa_cons (pe_callB (call_isK hz hf) (by rfl) T.b_isinstance (by decide +kernel) (pa_cons (pv 1) (pa_cons (pe_glob (v := .ref (He.ga X.K "NoRoom")) (by rfl) T.g_NoRoom rfl) pa_nil))) (pa_cons (pe_callB (call_isK hz hf) (by rfl) T.b_isinstance (by decide +kernel) (pa_cons (pv 1) (pa_cons (pe_glob (v := .ref (He.ga X.K "BadText")) (by rfl) T.g_BadText rfl) pa_nil))) pa_nil))))))
      (pss_cons (ps_set (i := 3) sc_law_kind.nd rfl (.inl rfl) (pe_lst (pa_cons pe_str (pa_cons pe_str (pa_cons pe_str (pa_cons pe_str (pa_cons pe_str (pa_cons pe_str (pa_cons pe_str pa_nil)))))))))
      (pss_cons (ps_if (PW.pt (pw_or (pt_cmpR op_ne (pe_bmK X.K PySem.F.plainAttrs_list PySem.F.slot_list_count PySem.F.type_list_count (mtCntK X.K) (pv 2) (pa_cons pe_bl pa_nil)) pe_int (nomark _)) (pw_or1 (pt_not (pt_val (pe_callB (call_isK hz hf) (by rfl) T.b_isinstance (by decide +kernel) (pa_cons (pv 1) (pa_cons (pe_bltn (v := .ty "ValueError") (u := .type "ValueError") (by rfl) T.b_ValueError (by decide +kernel) rfl) pa_nil)))))))) (pss_one (ps_ret pe_str)) pss_nil)
      (pss_cons (ps_set (i := 4) sc_law_kind.nd rfl (.inl rfl) (pe_ix (ixL X.K) (pv 3) (pe_bmK X.K PySem.F.plainAttrs_list PySem.F.slot_list_index PySem.F.type_list_index (mtIndexK X.K) (pv 2) (pa_cons pe_bl pa_nil)) (fun _ _ => rfl)))
      (pss_one (ps_ret (pe_ifExp (pt_cmpR op_eq (pv 4) pe_str (nomark _)) (pe_tup (pa_cons (pv 4) (pa_cons pe_nev pa_nil))) (pv 4))))))))))), ?_⟩
  · refine ⟨fun pins s' σ H' D I h' => ?_⟩
    obtain ⟨Ech, hW, h1, h2, h3⟩ := h'
    exact (pss_one (ps_ret (act W pn xe Ech _ _ tk hW))).run pins s' σ H' D I ⟨h1, h2, h3⟩
  · refine ⟨fun cls d H' => ∃ (x : Str) (j : Nat), cls = .ref (He.ga X.K x) ∧ d = none ∧ ErrK X.K x j ∧ ∀ H'', Same H' H'' → Q (.str x) H'', ?_, rfl, hc, h⟩
    rintro cls d σ' H' ⟨x, j, rfl, rfl, E, k⟩
    refine ⟨true, E.pe, fun _ a ha hlen => ?_, fun z => nomatch z⟩
    rw [List.length_set] at hlen
    obtain ⟨v0, v1, v2, v3, v4, rfl⟩ := five hlen
    have hj := E.lt
    refine ⟨_, rfl, _, _, _, _, rfl, rfl, E.exc, rfl, (fun _ h => h), E.k0, _, rfl, _, _, _, _, rfl, rfl, E.exc, rfl, (fun _ h => h), E.k1, _, rfl, _, _, _, _, rfl, rfl, E.exc, rfl, (fun _ h => h), E.k2, _, rfl, _, _, _, _, rfl, rfl, E.exc, rfl, (fun _ h => h), E.k3, (by show 4 ≤ sizeLine; decide), fun p1 hp1 => ?_⟩
    have e1 : Same H' (upd H' p1 (.lst [.bl (decide (j = 0)), .bl (decide (j = 1)), .bl (decide (j = 2)), .bl (decide (j = 3))])) := Same.upd hp1
    have h1 : upd H' p1 (.lst [.bl (decide (j = 0)), .bl (decide (j = 1)), .bl (decide (j = 2)), .bl (decide (j = 3))]) p1 = some (.lst [.bl (decide (j = 0)), .bl (decide (j = 1)), .bl (decide (j = 2)), .bl (decide (j = 3))]) := upd_same
    generalize upd H' p1 (.lst [.bl (decide (j = 0)), .bl (decide (j = 1)), .bl (decide (j = 2)), .bl (decide (j = 3))]) = H1 at e1 h1
    refine ⟨_, rfl, _, rfl, _, _, _, _, rfl, rfl, E.exc, rfl, (fun _ h => h), E.k4, _, rfl, _, _, _, _, rfl, rfl, E.exc, rfl, (fun _ h => h), E.k5, _, rfl, _, _, _, _, rfl, rfl, E.exc, rfl, (fun _ h => h), E.k6, (by show 3 ≤ sizeLine; decide), fun p2 hp2 => ?_⟩
    have e2 : Same H' (upd H1 p2 (.lst [.bl (decide (j = 4)), .bl (decide (j = 5)), .bl (decide (j = 6))])) := e1.new hp2
    have h12 : upd H1 p2 (.lst [.bl (decide (j = 4)), .bl (decide (j = 5)), .bl (decide (j = 6))]) p1 = _ := (upd_ne (ne_of_none h1 hp2)).trans h1
    have h2 : upd H1 p2 (.lst [.bl (decide (j = 4)), .bl (decide (j = 5)), .bl (decide (j = 6))]) p2 = some (.lst [.bl (decide (j = 4)), .bl (decide (j = 5)), .bl (decide (j = 6))]) := upd_same
    generalize upd H1 p2 (.lst [.bl (decide (j = 4)), .bl (decide (j = 5)), .bl (decide (j = 6))]) = H2 at e2 h12 h2
    refine ⟨_, _, _, _, rfl, rfl, h12, h2, (by show 7 ≤ sizeLine; decide), fun p3 hp3 => ?_⟩
    have e3 : Same H' (upd H2 p3 (.lst ([.bl (decide (j = 0)), .bl (decide (j = 1)), .bl (decide (j = 2)), .bl (decide (j = 3))] ++ [.bl (decide (j = 4)), .bl (decide (j = 5)), .bl (decide (j = 6))]))) := e2.new hp3
    have h3 : upd H2 p3 (.lst ([.bl (decide (j = 0)), .bl (decide (j = 1)), .bl (decide (j = 2)), .bl (decide (j = 3))] ++ [.bl (decide (j = 4)), .bl (decide (j = 5)), .bl (decide (j = 6))])) p3 = some (.lst [.bl (decide (j = 0)), .bl (decide (j = 1)), .bl (decide (j = 2)), .bl (decide (j = 3)), .bl (decide (j = 4)), .bl (decide (j = 5)), .bl (decide (j = 6))]) := upd_same
    generalize upd H2 p3 (.lst ([.bl (decide (j = 0)), .bl (decide (j = 1)), .bl (decide (j = 2)), .bl (decide (j = 3))] ++ [.bl (decide (j = 4)), .bl (decide (j = 5)), .bl (decide (j = 6))])) = H3 at e3 h3
    refine ⟨(by show 7 ≤ sizeLine; decide), fun p4 hp4 => ?_⟩
    have e4 : Same H' (upd H3 p4 (.lst [V.str "BadFrame", V.str "BadShare", V.str "BadWidth", V.str "BadBegins", V.str "BadRuns", V.str "NoRoom", V.str "BadText"])) := e3.new hp4
    have h34 : upd H3 p4 (.lst [V.str "BadFrame", V.str "BadShare", V.str "BadWidth", V.str "BadBegins", V.str "BadRuns", V.str "NoRoom", V.str "BadText"]) p3 = _ := (upd_ne (ne_of_none h3 hp4)).trans h3
    have h4 : upd H3 p4 (.lst [V.str "BadFrame", V.str "BadShare", V.str "BadWidth", V.str "BadBegins", V.str "BadRuns", V.str "NoRoom", V.str "BadText"]) p4 = some (.lst [V.str "BadFrame", V.str "BadShare", V.str "BadWidth", V.str "BadBegins", V.str "BadRuns", V.str "NoRoom", V.str "BadText"]) := upd_same
    have fin := k _ e4
    generalize upd H3 p4 (.lst [V.str "BadFrame", V.str "BadShare", V.str "BadWidth", V.str "BadBegins", V.str "BadRuns", V.str "NoRoom", V.str "BadText"]) = H4 at e4 h34 h4 fin
    have hnm := E.nm
    have six : j = 0 ∨ j = 1 ∨ j = 2 ∨ j = 3 ∨ j = 4 ∨ j = 5 := by omega
    rcases six with e | e | e | e | e | e <;> subst e <;> cases hnm
    · refine ⟨_, rfl, .inl ⟨rfl, _, SqL.of h34⟩, _, _, _, rfl, rfl, SqL.of h34, rfl, rfl, rfl, _, rfl, iteFe rfl ⟨_, rfl, _, _, _, _, rfl, rfl, E.exc, rfl, (fun _ h => h), E.ve, _, rfl, iteF ?_⟩⟩
      refine ⟨_, rfl, _, rfl, .inl ⟨rfl, _, SqL.of h34⟩, _, _, _, 0, _, rfl, rfl, SqL.of h34, rfl, rfl, rfl, rfl, noAhead [decide (0 = 0), decide (0 = 1), decide (0 = 2), decide (0 = 3), decide (0 = 4), decide (0 = 5), decide (0 = 6)] 0 (by decide), _, _, _, _, rfl, rfl, SqL.of h4, at_of (j := 0) rfl rfl, ?_⟩
      exact ⟨_, rfl, rfl, _, rfl, iteFe (by decide) ⟨_, rfl, fin⟩⟩
    · refine ⟨_, rfl, .inl ⟨rfl, _, SqL.of h34⟩, _, _, _, rfl, rfl, SqL.of h34, rfl, rfl, rfl, _, rfl, iteFe rfl ⟨_, rfl, _, _, _, _, rfl, rfl, E.exc, rfl, (fun _ h => h), E.ve, _, rfl, iteF ?_⟩⟩
      refine ⟨_, rfl, _, rfl, .inl ⟨rfl, _, SqL.of h34⟩, _, _, _, 1, _, rfl, rfl, SqL.of h34, rfl, rfl, rfl, rfl, noAhead [decide (1 = 0), decide (1 = 1), decide (1 = 2), decide (1 = 3), decide (1 = 4), decide (1 = 5), decide (1 = 6)] 1 (by decide), _, _, _, _, rfl, rfl, SqL.of h4, at_of (j := 1) rfl rfl, ?_⟩
      exact ⟨_, rfl, rfl, _, rfl, iteFe (by decide) ⟨_, rfl, fin⟩⟩
    · refine ⟨_, rfl, .inl ⟨rfl, _, SqL.of h34⟩, _, _, _, rfl, rfl, SqL.of h34, rfl, rfl, rfl, _, rfl, iteFe rfl ⟨_, rfl, _, _, _, _, rfl, rfl, E.exc, rfl, (fun _ h => h), E.ve, _, rfl, iteF ?_⟩⟩
      refine ⟨_, rfl, _, rfl, .inl ⟨rfl, _, SqL.of h34⟩, _, _, _, 2, _, rfl, rfl, SqL.of h34, rfl, rfl, rfl, rfl, noAhead [decide (2 = 0), decide (2 = 1), decide (2 = 2), decide (2 = 3), decide (2 = 4), decide (2 = 5), decide (2 = 6)] 2 (by decide), _, _, _, _, rfl, rfl, SqL.of h4, at_of (j := 2) rfl rfl, ?_⟩
      exact ⟨_, rfl, rfl, _, rfl, iteFe (by decide) ⟨_, rfl, fin⟩⟩
    · refine ⟨_, rfl, .inl ⟨rfl, _, SqL.of h34⟩, _, _, _, rfl, rfl, SqL.of h34, rfl, rfl, rfl, _, rfl, iteFe rfl ⟨_, rfl, _, _, _, _, rfl, rfl, E.exc, rfl, (fun _ h => h), E.ve, _, rfl, iteF ?_⟩⟩
      refine ⟨_, rfl, _, rfl, .inl ⟨rfl, _, SqL.of h34⟩, _, _, _, 3, _, rfl, rfl, SqL.of h34, rfl, rfl, rfl, rfl, noAhead [decide (3 = 0), decide (3 = 1), decide (3 = 2), decide (3 = 3), decide (3 = 4), decide (3 = 5), decide (3 = 6)] 3 (by decide), _, _, _, _, rfl, rfl, SqL.of h4, at_of (j := 3) rfl rfl, ?_⟩
      exact ⟨_, rfl, rfl, _, rfl, iteFe (by decide) ⟨_, rfl, fin⟩⟩
    · refine ⟨_, rfl, .inl ⟨rfl, _, SqL.of h34⟩, _, _, _, rfl, rfl, SqL.of h34, rfl, rfl, rfl, _, rfl, iteFe rfl ⟨_, rfl, _, _, _, _, rfl, rfl, E.exc, rfl, (fun _ h => h), E.ve, _, rfl, iteF ?_⟩⟩
      refine ⟨_, rfl, _, rfl, .inl ⟨rfl, _, SqL.of h34⟩, _, _, _, 4, _, rfl, rfl, SqL.of h34, rfl, rfl, rfl, rfl, noAhead [decide (4 = 0), decide (4 = 1), decide (4 = 2), decide (4 = 3), decide (4 = 4), decide (4 = 5), decide (4 = 6)] 4 (by decide), _, _, _, _, rfl, rfl, SqL.of h4, at_of (j := 4) rfl rfl, ?_⟩
      exact ⟨_, rfl, rfl, _, rfl, iteFe (by decide) ⟨_, rfl, fin⟩⟩
    · refine ⟨_, rfl, .inl ⟨rfl, _, SqL.of h34⟩, _, _, _, rfl, rfl, SqL.of h34, rfl, rfl, rfl, _, rfl, iteFe rfl ⟨_, rfl, _, _, _, _, rfl, rfl, E.exc, rfl, (fun _ h => h), E.ve, _, rfl, iteF ?_⟩⟩
      refine ⟨_, rfl, _, rfl, .inl ⟨rfl, _, SqL.of h34⟩, _, _, _, 5, _, rfl, rfl, SqL.of h34, rfl, rfl, rfl, rfl, noAhead [decide (5 = 0), decide (5 = 1), decide (5 = 2), decide (5 = 3), decide (5 = 4), decide (5 = 5), decide (5 = 6)] 5 (by decide), _, _, _, _, rfl, rfl, SqL.of h4, at_of (j := 5) rfl rfl, ?_⟩
      exact ⟨_, rfl, rfl, _, rfl, iteFe (by decide) ⟨_, rfl, fin⟩⟩
end
end My

namespace My
open PySem PySem.Spec PyProof.Rows LamX L2
section
variable {P : Program} {w : World} {K : PySem.W.Frag} {mg : Str → Option Value} {base : Heap}
abbrev s_need_beats : Stmt := top 11
theorem sc_need_beats : FnScope ["beats"] ["beats"] (defScope s_need_beats) := ⟨rfl, rfl, rfl, by decide +kernel, rfl, by decide +kernel, by decide +kernel⟩
/-- need_beats(beats), good ones -/
def spNeedBeats : Sp := fun vs H Q _ => ∃ b : Int, vs = [.int b] ∧ 1 ≤ b ∧ b ≤ 64 ∧ Q .non H
theorem ok_need_beats {f : Addr} {fd : FuncData} (F : FunG K mg "need_beats" s_need_beats f fd ["beats"]) (T : Txt K mg) : FnOk P w K mg base CX0 1 f fd ["beats"] spNeedBeats := by
  refine F.fn.ok sc_need_beats (fun vs H Q E h => ?_) (fun cdv A outer s H vs Q E hr h => ?_)
  · obtain ⟨b, rfl, _⟩ := h
    rfl
  · obtain ⟨b, rfl, b0, b1, k⟩ := h
    refine ⟨_, (pss_one (ps_if (pt_not (pt_chain op_le op_le pe_int (pv 0) (C8.pe_gc (by rfl) T.k_MOST_BEATS))) (pss_one ps_never) pss_nil)), ?_⟩
    refine ⟨_, rfl, _, _, rfl, rfl, _, rfl, ?_⟩
    rw [decide_eq_true b0]
    refine iteT ⟨_, _, rfl, rfl, _, rfl, ?_⟩
    rw [decide_eq_true b1]
    exact iteF k
abbrev s_need_shares : Stmt := top 14
theorem sc_need_shares : FnScope ["beats", "shares", "share"] ["beats", "shares"] (defScope s_need_shares) := ⟨rfl, rfl, rfl, by decide +kernel, rfl, by decide +kernel, by decide +kernel⟩
/-- need_shares(beats, shares), good ones -/
def spNeedShares (K : PySem.W.Frag) : Sp := fun vs H Q _ => ∃ (b : Int) (s : Addr) (sh : List Int), vs = [.int b, .ref s] ∧ SqL K H s (sh.map V.int) ∧ 1 ≤ b ∧ b ≤ 64 ∧ (∀ x ∈ sh, 0 ≤ x ∧ x ≤ b) ∧ sh.length ≤ 12 ∧ ∀ H', Same H H' → Q .non H'
theorem ok_need_shares {f : Addr} {fd : FuncData} (F : FunG K mg "need_shares" s_need_shares f fd ["beats", "shares"]) (T : Txt K mg) (c_need_beats : Cl P w K mg base CX0 1 "need_beats" spNeedBeats) : FnOk P w K mg base CX0 2 f fd ["beats", "shares"] (spNeedShares K) := by
  refine F.fn.ok sc_need_shares (fun vs H Q E h => ?_) (fun cdv A outer s H vs Q E hr h => ?_)
  · obtain ⟨b, s, sh, rfl, _⟩ := h
    rfl
  · obtain ⟨b, s, sh, rfl, hs, b0, b1, hsh, hl, k⟩ := h
    refine ⟨_, (pss_cons (ps_expr (pe_cl c_need_beats hr (by decide) (by rfl) (pa_cons (pv 0) pa_nil)))
      (pss_one (ps_if (PW.pt (pw_or (pt_cmpR op_gt (pe_callB (clLen K) (by rfl) T.b_len (by decide +kernel) (pa_cons (pv 1) pa_nil)) (C8.pe_gc (by rfl) T.k_MOST_SHARES) (nomark _)) (pw_or1 (pt_cmpR (opNeD K hr.units) (pe_lc (own := [("share", 2)]) (g := gName 2) (by rfl) sc_need_shares.nd (pi_list (pv 1)) (blkOk_by (own := [("share", 2)]) (N := ["beats", "shares", "share"]) (sc := defScope s_need_shares) (by decide +kernel)) (fun _ _ _ _ _ => (pg_name (i := 2) sc_need_shares.nd rfl (.inl rfl))) (fun _ _ _ _ _ => (pts_one (pt_not (pt_chain op_le op_le pe_int (pv 2) (pv 0))))) (fun _ _ _ _ _ => (pv 2))) (pe_lst pa_nil) (nomark _))))) (pss_one ps_never) pss_nil))), ?_⟩
    have hlen : (sh.map V.int).length = sh.length := List.length_map _
    refine ⟨_, rfl, b, rfl, b0, b1, ?_⟩
    refine ⟨_, rfl, _, _, rfl, .inl hs, _, _, rfl, rfl, _, rfl, iteFe (decide_eq_false (by rw [hlen]; omega)) ?_⟩
    refine ⟨_, rfl, _, rfl, ⟨_, hs⟩, fun D hD => lc_list (K := K) (a := s) (xs := sh.map V.int) (fun i H' => Same H H' ∧ H' D = some (.lst [])) ⟨Same.upd hD, upd_same⟩ (fun i H' _ h => h.1.seq hs) ?_ ?_⟩
    · rintro i x H' hi ⟨e, hd⟩
      obtain ⟨z, hz, rfl⟩ := getV hi
      obtain ⟨z0, z1⟩ := hsh z (List.mem_of_getElem? hz)
      refine ⟨rfl, _, rfl, _, _, rfl, rfl, _, rfl, iteTe (decide_eq_true z0) ⟨_, rfl, _, _, rfl, rfl, _, rfl, ?_⟩⟩
      exact iteFe (c := !decide (z ≤ b)) (by rw [decide_eq_true z1]; rfl) ⟨e, hd⟩
    · rintro H' ⟨e, hd⟩
      refine ⟨Nat.zero_le _, fun q hq => ⟨_, _, dp_nil (SqL.of (by rw [upd_ne (ne_of_none hd hq)]; exact hd)), dp_nil (SqL.of upd_same), dI_shaped _, dI_shaped _, _, rfl, ?_⟩⟩
      rw [dI_eqv]
      exact iteF (k _ (e.new hq))
abbrev s_peak_of : Stmt := top 15
theorem sc_peak_of : FnScope ["beats", "shares"] ["beats", "shares"] (defScope s_peak_of) := ⟨rfl, rfl, rfl, by decide +kernel, rfl, by decide +kernel, by decide +kernel⟩
/-- peak_of(beats, shares) -/
theorem sum_bd {b : Int} : ∀ {sh : List Int}, (∀ x ∈ sh, 0 ≤ x ∧ x ≤ b) → 0 ≤ sh.sum ∧ sh.sum ≤ sh.length * b
  | [], _ => by simp
  | x :: xs, h => by
    have h1 := sum_bd (sh := xs) fun y hy => h y (List.mem_cons_of_mem _ hy)
    have h2 := h x List.mem_cons_self
    rw [List.sum_cons, List.length_cons, Int.natCast_add, Int.add_mul]
    omega
def spPeakOf (K : PySem.W.Frag) : Sp := fun vs H Q _ => ∃ (b : Int) (s : Addr) (sh : List Int), vs = [.int b, .ref s] ∧ SqL K H s (sh.map V.int) ∧ 1 ≤ b ∧ b ≤ 64 ∧ Q (.int ((sh.sum + b - 1) / b)) H
theorem ok_peak_of {f : Addr} {fd : FuncData} (F : FunG K mg "peak_of" s_peak_of f fd ["beats", "shares"]) (T : Txt K mg) : FnOk P w K mg base CX0 1 f fd ["beats", "shares"] (spPeakOf K) := by
  refine F.fn.ok sc_peak_of (fun vs H Q E h => ?_) (fun cdv A outer s H vs Q E hr h => ?_)
  · obtain ⟨b, s, sh, rfl, _⟩ := h
    rfl
  · obtain ⟨b, s, sh, rfl, hs, b0, b1, k⟩ := h
    refine ⟨_, (pss_one (ps_ret (pe_op op_fdivW (pe_op op_sub (pe_op op_add (pe_callB (clSum K rfl) (by rfl) T.b_sum (by decide +kernel) (pa_cons (pv 1) pa_nil)) (pv 0)) pe_int) (pv 0)))), ?_⟩
    exact ⟨_, rfl, _, _, rfl, hs, _, rfl, _, _, rfl, rfl, _, _, rfl, rfl, _, rfl, _, _, rfl, rfl, wide_div (b := 7) (by omega) (by omega) (by decide) (by decide), k⟩
abbrev s_peak : Stmt := top 16
theorem sc_peak : FnScope ["beats", "shares"] ["beats", "shares"] (defScope s_peak) := ⟨rfl, rfl, rfl, by decide +kernel, rfl, by decide +kernel, by decide +kernel⟩
/-- peak(beats, shares) -/
def spPeak (K : PySem.W.Frag) : Sp := fun vs H Q _ => ∃ (b : Int) (s : Addr) (sh : List Int), vs = [.int b, .ref s] ∧ SqL K H s (sh.map V.int) ∧ 1 ≤ b ∧ b ≤ 64 ∧ (∀ x ∈ sh, 0 ≤ x ∧ x ≤ b) ∧ sh.length ≤ 12 ∧ ∀ H', Same H H' → Q (.int ((sh.sum + b - 1) / b)) H'
theorem ok_peak {f : Addr} {fd : FuncData} (F : FunG K mg "peak" s_peak f fd ["beats", "shares"]) (c_need_shares : Cl P w K mg base CX0 2 "need_shares" (spNeedShares K)) (c_peak_of : Cl P w K mg base CX0 1 "peak_of" (spPeakOf K)) : FnOk P w K mg base CX0 3 f fd ["beats", "shares"] (spPeak K) := by
  refine F.fn.ok sc_peak (fun vs H Q E h => ?_) (fun cdv A outer s H vs Q E hr h => ?_)
  · obtain ⟨b, s, sh, rfl, _⟩ := h
    rfl
  · obtain ⟨b, s, sh, rfl, hs, b0, b1, hsh, hl, k⟩ := h
    refine ⟨_, (pss_cons (ps_expr (pe_cl c_need_shares hr (by decide) (by rfl) (pa_cons (pv 0) (pa_cons (pv 1) pa_nil))))
      (pss_one (ps_ret (pe_cl c_peak_of hr (by decide) (by rfl) (pa_cons (pv 0) (pa_cons (pv 1) pa_nil)))))), ?_⟩
    refine ⟨_, rfl, _, rfl, b, s, sh, rfl, hs, b0, b1, hsh, hl, fun H1 e1 => ?_⟩
    exact ⟨_, rfl, _, rfl, b, s, sh, rfl, e1.seq hs, b0, b1, k H1 e1⟩
abbrev s_law_shares : Stmt := top 23
theorem sc_law_shares : FnScope ["_law_state", "_law_beats", "_law_most", "_law_wide", "_law_k"] ["_law_state", "_law_beats", "_law_most"] (defScope s_law_shares) := ⟨rfl, rfl, rfl, by decide +kernel, rfl, by decide +kernel, by decide +kernel⟩
/-- _law_shares(state, beats, most): shares of the beats, a new list -/
def spLShares (K : PySem.W.Frag) : Sp := fun vs H Q _ => ∃ (st a : Addr) (ns : List Int) (b m : Int), vs = [.ref st, .int b, .int m] ∧ SOk K a ns st H ∧ 1 ≤ b ∧ b ≤ 64 ∧ 0 ≤ m ∧ m ≤ 12 ∧
  ∀ (sh : List Int) (p : Addr) (H' : Hp), (∀ x ∈ sh, 0 ≤ x ∧ x ≤ b) → (sh.length : Int) ≤ m → H p = none → Keep st H H' → SOk K a ns st H' → H' p = some (.lst (sh.map V.int)) → Q (.ref p) H'
theorem ok_law_shares {f : Addr} {fd : FuncData} (F : FunG K mg "_law_shares" s_law_shares f fd ["_law_state", "_law_beats", "_law_most"]) (T : Txt K mg) (c_law_drawn : Cl P w K mg base CX0 1 "_law_drawn" (spDrawn K)) : FnOk P w K mg base CX0 2 f fd ["_law_state", "_law_beats", "_law_most"] (spLShares K) := by
  refine F.fn.ok sc_law_shares (fun vs H Q E h => ?_) (fun cdv A outer s H vs Q E hr h => ?_)
  · obtain ⟨st, a, ns, b, m, rfl, _⟩ := h
    rfl
  · obtain ⟨st, a, ns, b, m, rfl, hs, b0, b1, m0, m1, k⟩ := h
    refine ⟨_, (pss_cons (ps_set (i := 3) sc_law_shares.nd rfl (.inr rfl) (pe_ix (ixL K) (pe_lst (pa_cons (pv 1) (pa_cons (pe_op op_fdivW (pv 1) pe_int) (pa_cons (pe_op op_fdivW (pv 1) pe_int) pa_nil)))) (pe_cl c_law_drawn hr (by decide) (by rfl) (pa_cons (pv 0) (pa_cons pe_int pa_nil))) (fun _ _ => rfl)))
      (pss_one (ps_ret (pe_lc (own := [("_law_k", 4)]) (g := gName 4) (tt := tYes) (by rfl) sc_law_shares.nd (pi_range1 (by rfl) T.b_range (pa_cons (pe_cl c_law_drawn hr (by decide) (by rfl) (pa_cons (pv 0) (pa_cons (pe_op op_add (pv 2) pe_int) pa_nil))) pa_nil)) (blkOk_by (own := [("_law_k", 4)]) (N := ["_law_state", "_law_beats", "_law_most", "_law_wide", "_law_k"]) (sc := defScope s_law_shares) (by decide +kernel)) (fun _ _ _ _ _ => (pg_name (i := 4) sc_law_shares.nd rfl (.inl rfl))) (fun _ _ _ _ _ => pts_nil) (fun _ _ _ _ _ => (pe_cl c_law_drawn hr (by decide) (by rfl) (pa_cons (pv 0) (pa_cons (pe_op op_add (pv 3) pe_int) pa_nil)))))))), ?_⟩
    refine ⟨_, rfl, _, rfl, _, _, rfl, rfl, wide_div (b := 2) (by decide) (by decide) (by decide) (by decide), _, rfl, _, _, rfl, rfl, wide_div (b := 3) (by decide) (by decide) (by decide) (by decide), (by show 3 ≤ sizeLine; decide), fun p1 hp1 => ?_⟩
    have s1 := hs.new (o := .lst [.int b, .int (b / 2), .int (b / 4)]) hp1
    have n1 := hs.ne_of hp1
    refine ⟨_, rfl, st, a, ns, 3, rfl, s1, by decide, by decide, fun r i c d r0 r1 dd => ?_⟩
    have s2 := s1.drawn dd
    have k2 : Keep st H (upd (upd H p1 (.lst [.int b, .int (b / 2), .int (b / 4)])) st (StO a i c d)) := ((Keep.refl st H).new hp1).atSt
    have hp2 : (upd (upd H p1 (.lst [.int b, .int (b / 2), .int (b / 4)])) st (StO a i c d)) p1 = some (.lst [.int b, .int (b / 2), .int (b / 4)]) := by rw [upd_ne n1, upd_same]
    generalize upd (upd H p1 (.lst [.int b, .int (b / 2), .int (b / 4)])) st (StO a i c d) = H2 at s2 k2 hp2
    have hat : ∃ v : Int, atI [V.int b, V.int (b / 2), V.int (b / 4)] r = some (.int v) ∧ 0 ≤ v ∧ v ≤ b := by
      rcases pick3 r0 r1 with e | e | e <;> subst e <;> exact ⟨_, rfl, by omega, by omega⟩
    obtain ⟨wd, hwd, w0, w1⟩ := hat
    refine ⟨_, _, _, _, rfl, rfl, SqL.of hp2, hwd, ?_⟩
    refine ⟨_, rfl, _, rfl, _, _, rfl, rfl, st, a, ns, m + 1, rfl, s2, by omega, Int.lt_of_le_of_lt (show m + 1 ≤ 13 by omega) (by decide), fun q i3 c3 d3 q0 q1 dd3 => ?_⟩
    have s3 := s2.drawn dd3
    have k3 := k2.atSt (o := StO a i3 c3 d3)
    generalize upd H2 st (StO a i3 c3 d3) = H3 at s3 k3
    refine ⟨_, rfl, by omega, by omega, fun D hD => ?_⟩
    have nD := s3.ne_of hD
    have hDn := k3.free nD hD
    refine lc_range (lo := 0) (n := q.toNat) (fun i H' => SOk K a ns st H' ∧ Keep st H H' ∧ ∃ sh : List Int, H' D = some (.lst (sh.map V.int)) ∧ sh.length = i ∧ ∀ x ∈ sh, 0 ≤ x ∧ x ≤ b) ⟨s3.new hD, k3.new hD, [], upd_same, rfl, fun x hx => by simp at hx⟩ ?_ ?_
    · rintro i H4 hi ⟨s4, k4, sh, hd4, hl4, hb4⟩
      refine ⟨rfl, _, rfl, _, rfl, _, _, rfl, rfl, st, a, ns, wd + 1, rfl, s4, by omega, Int.lt_of_le_of_lt (show wd + 1 ≤ 65 by omega) (by decide), fun y i5 c5 d5 y0 y1 dd5 => ?_⟩
      have s5 := s4.drawn dd5
      have k5 := k4.atSt (o := StO a i5 c5 d5)
      have hd5 : upd H4 st (StO a i5 c5 d5) D = some (.lst (sh.map V.int)) := by rw [upd_ne nD]; exact hd4
      generalize upd H4 st (StO a i5 c5 d5) = H5 at s5 k5 hd5
      refine ⟨_, hd5, small_of (m := 64) (by rw [List.length_map]; omega), s5.mutK hs k5 hDn, k5.mut hDn, sh ++ [y], ?_, by rw [List.length_append, hl4]; rfl, fun x hx => ?_⟩
      · rw [upd_same, List.map_append]; rfl
      · rcases List.mem_append.mp hx with h | h
        · exact hb4 x h
        · rw [List.mem_singleton] at h
          subst h
          omega
    · rintro H4 ⟨s4, k4, sh, hd4, hl4, hb4⟩
      exact k sh D H4 hb4 (by omega) hDn k4 s4 hd4
end
end My

namespace My
open PySem PySem.Spec PyProof.Rows LamX L2
section
variable {P : Program} {w : World} {K : PySem.W.Frag} {mg : Str → Option Value} {base : Heap}
abbrev s_blocks : Stmt := top 17
theorem sc_blocks : FnScope ["beats", "shares", "bound", "found", "here", "share"] ["beats", "shares", "bound"] (defScope s_blocks) := ⟨rfl, rfl, rfl, by decide +kernel, rfl, by decide +kernel, by decide +kernel⟩
/-- blocks(beats, shares, bound), good shares: begins, or NoRoom -/
def spBlocksX (K : PySem.W.Frag) : Sp := fun vs H Q E => ∃ (b bd : Int) (s : Addr) (sh : List Int), vs = [.int b, .ref s, .int bd] ∧ SqL K H s (sh.map V.int) ∧ 1 ≤ b ∧ b ≤ 64 ∧ (∀ x ∈ sh, 0 ≤ x ∧ x ≤ b) ∧ sh.length ≤ 12 ∧
  (((sh.sum + b - 1) / b ≤ bd ∧ ∀ l H', Same H H' → H l = none → H' l = some (.lst ((begs b sh).map V.int)) → Q (.ref l) H') ∨ (bd < (sh.sum + b - 1) / b ∧ ∀ H', Same H H' → E (.ref (He.ga K "NoRoom")) none H'))
theorem ok_blocks {f : Addr} {fd : FuncData} (F : FunG K mg "blocks" s_blocks f fd ["beats", "shares", "bound"]) (T : Txt K mg) (c_need_shares : Cl P w K mg base CX0 2 "need_shares" (spNeedShares K)) (c_peak_of : Cl P w K mg base CX0 1 "peak_of" (spPeakOf K)) : FnOk P w K mg base (L2.CX P w) 3 f fd ["beats", "shares", "bound"] (spBlocksX K) := by
  refine F.fn.okX sc_blocks (fun vs H Q E h => ?_) (fun cdv A outer s H vs Q E hr h => ?_)
  · obtain ⟨b, bd, s, sh, rfl, _⟩ := h
    rfl
  · obtain ⟨b, bd, s, sh, rfl, hs, b0, b1, hsh, hl, k⟩ := h
    refine ⟨_, (pss_cons (ps_expr (pe_cl c_need_shares hr (by decide) (by rfl) (pa_cons (pv 0) (pa_cons (pv 1) pa_nil))))
      (pss_cons (ps_if (pt_cmpR op_gt (pe_cl c_peak_of hr (by decide) (by rfl) (pa_cons (pv 0) (pa_cons (pv 1) pa_nil))) (pv 2) (nomark _)) (pss_one (ps_raise (by rfl) (takes_of rfl rfl rfl rfl) (pmk_own PySem.F.excBase_ValueError T.x_NoRoom.x T.x_NoRoom.g T.x_NoRoom.k (raises_own T.x_NoRoom.b T.x_NoRoom.t) (by rfl)))) pss_nil)
      (PSs.nox (pss_cons (ps_set (i := 3) sc_blocks.nd rfl (.inl rfl) (pe_lst pa_nil))
      (pss_cons (ps_set (i := 4) sc_blocks.nd rfl (.inl rfl) pe_int)
      (pss_cons (ps_for PassesOwn.never (by rfl) (pi_list (pv 1)) (pg_name (i := 5) sc_blocks.nd rfl (.inl rfl)) (pss_cons (ps_expr (pe_bm PySem.F.plainAttrs_list PySem.F.slot_list_append PySem.F.type_list_append mt_append (pv 3) (pa_cons (pv 4) pa_nil)))
      (pss_one (ps_set (i := 4) sc_blocks.nd rfl (.inl rfl) (pe_op op_mod (pe_op op_add (pv 4) (pv 5)) (pv 0))))))
      (pss_one (ps_ret (pv 3))))))))), ?_⟩
    have hlen : (sh.map V.int).length = sh.length := List.length_map _
    refine ⟨_, rfl, _, rfl, b, s, sh, rfl, hs, b0, b1, hsh, hl, fun H1 e1 => ?_⟩
    refine ⟨_, rfl, _, rfl, b, s, sh, rfl, e1.seq hs, b0, b1, _, rfl, _, _, rfl, rfl, _, rfl, ?_⟩
    rcases k with ⟨hle, k⟩ | ⟨hgt, k⟩
    · refine iteFe (decide_eq_false (by omega)) ?_
      refine ⟨Nat.zero_le _, fun D hD => ?_⟩
      have hDn := e1.free hD
      refine ⟨_, rfl, s, rfl, ⟨_, (e1.new hD).seq hs⟩, for_list (K := K) (a := s) (xs := sh.map V.int) (fun i σ H' => (∃ v : Option V, σ = [some (.int b), some (.ref s), some (.int bd), some (.ref D), some (.int ((sh.take i).sum % b)), v]) ∧ Same H H' ∧ H' D = some (.lst (((List.range i).map fun i => (sh.take i).sum % b).map V.int))) ?_ (fun i σ H' _ h => h.2.1.seq hs) ?_ ?_⟩
      · refine ⟨⟨none, ?_⟩, e1.new hD, upd_same⟩
        rw [List.take_zero, List.sum_nil, Int.zero_emod]; rfl
      · rintro i y σ H' hi ⟨⟨v, rfl⟩, e2, hd⟩
        obtain ⟨z, hz, rfl⟩ := getV hi
        have hi' : i < sh.length := (List.getElem?_eq_some_iff.mp hz).1
        refine ⟨_, rfl, .inl ⟨rfl, _, SqL.of hd⟩, _, rfl, D, _, _, rfl, rfl, hd, small_of (m := 64) (by rw [List.length_map, List.length_map, List.length_range]; omega), ?_⟩
        refine ⟨_, rfl, _, rfl, _, _, rfl, rfl, _, rfl, _, _, rfl, rfl, (by show (0 : Int) < b; omega), ?_⟩
        refine ⟨⟨some (.int z), ?_⟩, e2.mut hDn, ?_⟩
        · have : (sh.take (i + 1)).sum % b = ((sh.take i).sum % b + z) % b := by
            rw [List.take_succ, hz, List.sum_append]
            simp
          rw [this]; rfl
        · rw [upd_same, List.range_succ, List.map_append, List.map_append]; rfl
      · rintro σ H' ⟨⟨v, rfl⟩, e2, hd⟩
        rw [hlen] at hd
        exact ⟨_, rfl, k D H' e2 hDn hd⟩
    · exact iteTe (decide_eq_true (by omega)) (k H1 e1)
abbrev s_sums : Stmt := top 18
theorem sc_sums : FnScope ["beats", "shares", "begins", "begin", "found", "share", "k"] ["beats", "shares", "begins"] (defScope s_sums) := ⟨rfl, rfl, rfl, by decide +kernel, rfl, by decide +kernel, by decide +kernel⟩
/-- sums(beats, shares, begins), good ones: a new list -/
def spArcs (K : PySem.W.Frag) : Sp := fun vs H Q _ => ∃ (b : Int) (s t : Addr) (sh ts : List Int), vs = [.int b, .ref s, .ref t] ∧ SqL K H s (sh.map V.int) ∧ SqL K H t (ts.map V.int) ∧ 1 ≤ b ∧ b ≤ 64 ∧ (∀ x ∈ sh, 0 ≤ x ∧ x ≤ b) ∧ sh.length ≤ 12 ∧ ts.length = sh.length ∧ (∀ x ∈ ts, 0 ≤ x ∧ x < b) ∧
  ∀ p H', Same H H' → H p = none → H' p = some (.lst ((arcL b.toNat (arcs b.toNat (zipN sh ts sh.length))).map V.int)) → Q (.ref p) H'
theorem rep_intsK (x : Int) (n : Nat) : (List.replicate n [V.int x]).flatten = (List.replicate n x).map V.int := by
  rw [List.map_replicate]
  induction n with
  | zero => rfl
  | succ n ih => rw [List.replicate_succ, List.flatten_cons, ih]; rfl
theorem ok_sums {f : Addr} {fd : FuncData} (F : FunG K mg "sums" s_sums f fd ["beats", "shares", "begins"]) (T : Txt K mg) (c_need_shares : Cl P w K mg base CX0 2 "need_shares" (spNeedShares K)) : FnOk P w K mg base CX0 3 f fd ["beats", "shares", "begins"] (spArcs K) := by
  refine F.fn.ok sc_sums (fun vs H Q E h => ?_) (fun cdv A outer s H vs Q E hr h => ?_)
  · obtain ⟨b, s, t, sh, ts, rfl, _⟩ := h
    rfl
  · obtain ⟨b, s, t, sh, ts, rfl, hs, ht, b0, b1, hsh, hl, hlt, hts, k⟩ := h
    refine ⟨_, (pss_cons (ps_expr (pe_cl c_need_shares hr (by decide) (by rfl) (pa_cons (pv 0) (pa_cons (pv 1) pa_nil))))
      (pss_cons (ps_if (PW.pt (pw_or (pt_cmpR op_ne (pe_callB (clLen K) (by rfl) T.b_len (by decide +kernel) (pa_cons (pv 2) pa_nil)) (pe_callB (clLen K) (by rfl) T.b_len (by decide +kernel) (pa_cons (pv 1) pa_nil)) (nomark _)) (pw_or1 (pt_cmpR (opNeD K hr.units) (pe_lc (own := [("begin", 3)]) (g := gName 3) (by rfl) sc_sums.nd (pi_list (pv 2)) (blkOk_by (own := [("begin", 3)]) (N := ["beats", "shares", "begins", "begin", "found", "share", "k"]) (sc := defScope s_sums) (by decide +kernel)) (fun _ _ _ _ _ => (pg_name (i := 3) sc_sums.nd rfl (.inl rfl))) (fun _ _ _ _ _ => (pts_one (pt_not (pt_chain op_le op_lt pe_int (pv 3) (pv 0))))) (fun _ _ _ _ _ => (pv 3))) (pe_lst pa_nil) (nomark _))))) (pss_one ps_never) pss_nil)
      (pss_cons (ps_set (i := 4) sc_sums.nd rfl (.inl rfl) (pe_op op_rep (pe_lst (pa_cons pe_int pa_nil)) (pv 0)))
      (pss_cons (ps_for PassesOwn.never (by rfl) (pi_zip (by rfl) T.b_zip (pa_cons (pv 1) (pa_cons (pv 2) pa_nil))) (pg_tup (by rfl) (pgs_cons (pg_name (i := 5) sc_sums.nd rfl (.inl rfl)) (pgs_cons (pg_name (i := 3) sc_sums.nd rfl (.inl rfl)) pgs_nil))) (pss_one (ps_for PassesOwn.never (by rfl) (pi_range1 (by rfl) T.b_range (pa_cons (pv 5) pa_nil)) (pg_name (i := 6) sc_sums.nd rfl (.inl rfl)) (pss_one (ps_asg (pe_op op_add (pe_ix (ixL K) (pv 4) (pe_op op_mod (pe_op op_add (pv 3) (pv 6)) (pv 0)) (fun _ _ => rfl)) pe_int) (pg_sub (pv 4) (pe_op op_mod (pe_op op_add (pv 3) (pv 6)) (pv 0)) set_list))))))
      (pss_one (ps_ret (pv 4))))))), ?_⟩
    have hlen : (sh.map V.int).length = sh.length := List.length_map _
    have hlen2 : (ts.map V.int).length = ts.length := List.length_map _
    have hB : (b.toNat : Int) = b := Int.toNat_of_nonneg (by omega)
    refine ⟨_, rfl, _, rfl, b, s, sh, rfl, hs, b0, b1, hsh, hl, fun H1 e1 => ?_⟩
    refine ⟨_, rfl, _, _, rfl, .inl (e1.seq ht), _, rfl, _, _, rfl, .inl (e1.seq hs), rfl, _, rfl, iteFe (neqF (congrArg V.int (by rw [hlen, hlen2, hlt]))) ?_⟩
    refine ⟨_, rfl, t, rfl, ⟨_, e1.seq ht⟩, fun D hD => lc_list (K := K) (a := t) (xs := ts.map V.int) (fun i H' => Same H H' ∧ H' D = some (.lst [])) ⟨e1.new hD, upd_same⟩ (fun i H' _ h => h.1.seq ht) ?_ ?_⟩
    · rintro i x H' hi ⟨e, hd⟩
      obtain ⟨z, hz, rfl⟩ := getV hi
      obtain ⟨z0, z1⟩ := hts z (List.mem_of_getElem? hz)
      refine ⟨rfl, _, rfl, _, _, rfl, rfl, _, rfl, iteTe (decide_eq_true z0) ⟨_, rfl, _, _, rfl, rfl, _, rfl, ?_⟩⟩
      exact iteFe (c := !decide (z < b)) (by rw [decide_eq_true z1]; rfl) ⟨e, hd⟩
    · rintro H2 ⟨e2, hd2⟩
      refine ⟨Nat.zero_le _, fun q hq => ⟨_, _, dp_nil (SqL.of (by rw [upd_ne (ne_of_none hd2 hq)]; exact hd2)), dp_nil (SqL.of upd_same), dI_shaped _, dI_shaped _, _, rfl, ?_⟩⟩
      refine iteFe (by rw [dI_eqv]; rfl) ?_
      have e3 := e2.new (o := .lst []) hq
      generalize upd H2 q (.lst []) = H3 at e3
      refine ⟨(by show 1 ≤ sizeLine; decide), fun q1 hq1 => ?_⟩
      have e4 := e3.new (o := .lst [.int 0]) hq1
      refine ⟨_, rfl, _, _, _, rfl, rfl, upd_same, by omega, by omega, small_le (m := 64) (by show 1 * b.toNat ≤ 64; omega), fun D2 hD2 => ?_⟩
      rw [rep_intsK]
      have hDn : H D2 = none := e4.free hD2
      have e5 := e4.new (o := .lst ((List.replicate b.toNat 0).map V.int)) hD2
      have hd5 : upd (upd H3 q1 (.lst [.int 0])) D2 (.lst ((List.replicate b.toNat 0).map V.int)) D2 = some (.lst ((arcL b.toNat (arcs b.toNat (zipN sh ts 0))).map V.int)) := by
        rw [upd_same]
        have : arcL b.toNat (arcs b.toNat (zipN sh ts 0)) = List.replicate b.toNat 0 := by
          unfold arcL zipN
          refine List.eq_replicate_iff.mpr ⟨by simp, fun x hx => ?_⟩
          obtain ⟨y, _, rfl⟩ := List.mem_map.mp hx
          rfl
        rw [this]
      generalize upd (upd H3 q1 (.lst [.int 0])) D2 (.lst ((List.replicate b.toNat 0).map V.int)) = H5 at e5 hd5
      refine ⟨_, rfl, _, rfl, _, _, _, _, rfl, e5.seq hs, e5.seq ht, ?_⟩
      refine for_it (walk_zip (K := K) (a := s) (b := t) (xs := sh.map V.int) (ys := ts.map V.int) (n := sh.length) (by rw [hlen, hlen2, hlt, Nat.min_self])) (fun i σ H' => (∃ v4 v5 v6 : Option V, σ = [some (.int b), some (.ref s), some (.ref t), v4, some (.ref D2), v5, v6]) ∧ Same H H' ∧ H' D2 = some (.lst ((arcL b.toNat (arcs b.toNat (zipN sh ts i))).map V.int))) ?_ (fun i σ H' _ h => ⟨h.2.1.seq hs, h.2.1.seq ht⟩) ?_ ?_
      · exact ⟨⟨_, _, _, rfl⟩, e5, hd5⟩
      · rintro i v σ H6 H7 hi ⟨⟨v4, v5, v6, rfl⟩, e6, hd6⟩ ⟨tq, x, y, rfl, htq, rfl, hx, hy⟩
        obtain ⟨x, hx', rfl⟩ := getV hx
        obtain ⟨y, hy', rfl⟩ := getV hy
        have e7 := e6.new (o := .tup [V.int x, V.int y]) htq
        have hd7 : upd H6 tq (.tup [V.int x, V.int y]) D2 = _ := (upd_ne (ne_of_none hd6 htq)).trans hd6
        have ht7 : upd H6 tq (.tup [V.int x, V.int y]) tq = some (.tup [V.int x, V.int y]) := upd_same
        generalize upd H6 tq (.tup [V.int x, V.int y]) = H7 at e7 hd7 ht7
        obtain ⟨x0, x1⟩ := hsh x (List.mem_of_getElem? hx')
        obtain ⟨y0, y1⟩ := hts y (List.mem_of_getElem? hy')
        have ez : zipN sh ts (i + 1) = zipN sh ts i ++ [(x.toNat, y.toNat)] := by
          rw [zipN_succ, List.getD_eq_getElem?_getD, List.getD_eq_getElem?_getD, hx', hy']; rfl
        rw [ez]
        generalize zipN sh ts i = zs at hd7
        refine ⟨_, _, rfl, SqT.of ht7, rfl, _, _, rfl, _, _, rfl, rfl, ?_⟩
        refine ⟨_, rfl, _, rfl, by omega, by omega, for_range (lo := 0) (n := x.toNat) (fun j σ H' => (∃ v7 : Option V, σ = [some (.int b), some (.ref s), some (.ref t), some (.int y), some (.ref D2), some (.int x), v7]) ∧ Same H H' ∧ H' D2 = some (.lst ((arcL b.toNat fun t => arcs b.toNat zs t + arc b.toNat y.toNat j t).map V.int))) ?_ ?_ ?_⟩
        · exact ⟨⟨_, rfl⟩, e7, hd7⟩
        · rintro j σ H8 hj ⟨⟨v7, rfl⟩, e8, hd8⟩
          have hjb : (y.toNat + j) % b.toNat < b.toNat := Nat.mod_lt _ (by omega)
          have hix : (y + (0 + (j : Int))) % b = (((y.toNat + j) % b.toNat : Nat) : Int) := by
            rw [Int.natCast_emod, hB]
            congr 1
            omega
          have hg := arcL_getD (B := b.toNat) (fun t => arcs b.toNat zs t + arc b.toNat y.toNat j t) hjb
          have hst := arcL_set (B := b.toNat) (fun t => arcs b.toNat zs t + arc b.toNat y.toNat j t) hjb
          have hn := arcL_len b.toNat (fun t => arcs b.toNat zs t + arc b.toNat y.toNat j t)
          refine ⟨_, rfl, _, rfl, _, rfl, _, _, rfl, rfl, _, rfl, _, _, rfl, rfl, (by show (0 : Int) < b; omega), _, _, _, _, rfl, rfl, SqL.of hd8, atV (j := (y.toNat + j) % b.toNat) hix (by rw [hn]; exact hjb), _, _, rfl, rfl, ?_⟩
          refine ⟨_, rfl, _, rfl, _, rfl, _, _, rfl, rfl, _, rfl, _, _, rfl, rfl, (by show (0 : Int) < b; omega), D2, _, _, (y.toNat + j) % b.toNat, rfl, rfl, hd8, ?_, ?_⟩
          · show ixN ((arcL b.toNat fun t => arcs b.toNat zs t + arc b.toNat y.toNat j t).map V.int).length ((y + (0 + (j : Int))) % b) = _
            rw [hix, List.length_map, hn]
            unfold ixN
            rw [if_pos (by omega), if_pos (by omega), Int.toNat_natCast]
          · refine ⟨⟨_, rfl⟩, e8.mut hDn, ?_⟩
            rw [upd_same]
            refine congrArg (fun z => some (HO.lst z)) ?_
            rw [hg]
            have h1 : ((arcL b.toNat fun t => arcs b.toNat zs t + arc b.toNat y.toNat j t).map V.int).set ((y.toNat + j) % b.toNat) (V.int (((arcs b.toNat zs ((y.toNat + j) % b.toNat) + arc b.toNat y.toNat j ((y.toNat + j) % b.toNat) : Nat) : Int) + 1)) = ((arcL b.toNat fun t => arcs b.toNat zs t + arc b.toNat y.toNat j t).set ((y.toNat + j) % b.toNat) (((arcs b.toNat zs ((y.toNat + j) % b.toNat) + arc b.toNat y.toNat j ((y.toNat + j) % b.toNat) : Nat) : Int) + 1)).map V.int := List.map_set.symm
            refine h1.trans ?_
            rw [hst]
            congr 1
            exact arcL_congr fun t _ => by rw [arc]; omega
        · rintro σ H8 ⟨⟨v7, rfl⟩, e8, hd8⟩
          refine ⟨⟨_, _, _, rfl⟩, e8, ?_⟩
          rw [hd8]
          congr 3
          exact arcL_congr fun t _ => (arcs_snoc b.toNat (x.toNat, y.toNat) t zs).symm
      · rintro σ H6 ⟨⟨v4, v5, v6, rfl⟩, e6, hd6⟩
        exact ⟨_, rfl, k D2 H6 e6 hDn hd6⟩
end
end My

namespace My
open PySem PySem.Spec PyProof.Rows LamX L2
section
variable {P : Program} {w : World} {K : PySem.W.Frag} {mg : Str → Option Value} {base : Heap}
abbrev s_law : Stmt := top 25
theorem sc_law : FnScope ["_law_script", "_law_state", "_law_turn", "_law_beats", "_law_shares_here", "_law_most", "_law_begins", "_law_told", "_law_k", "_law_alone", "_law_share", "_law_any_begins"] ["_law_script"] (defScope s_law) := ⟨rfl, rfl, rfl, by decide +kernel, rfl, by decide +kernel, by decide +kernel⟩
theorem cut_one {ns : List Int} {k : Nat} (hk : k < ns.length) : cutV (ns.map V.int) (some (0 + (k : Int))) (some (0 + (k : Int) + 1)) = [ns.getD k 0].map V.int := by
  have e : cutV (ns.map V.int) (some (0 + (k : Int))) (some (0 + (k : Int) + 1)) = cutV (ns.map V.int) (some ((k : Nat) : Int)) (some ((k + 1 : Nat) : Int)) := by
    rw [Int.zero_add]; rfl
  have h1 : (ns.drop k).take 1 = [ns.getD k 0] := by
    rw [List.drop_eq_getElem_cons hk, List.take_succ_cons, List.take_zero, List.getD_eq_getElem?_getD, List.getElem?_eq_getElem hk]; rfl
  rw [e, cut_mid (by omega) (by omega), Nat.add_sub_cancel_left, h1]
def spLaw (K : PySem.W.Frag) (Pt : Addr) : Sp := fun vs H Q _ => ∃ (a : Addr) (ns : List Int), vs = [.ref a] ∧ SqL K H a (ns.map V.int) ∧ ns.length ≤ 63 ∧ H Pt = some (.tbl #[]) ∧ ∀ H', Q (.bl true) H'
theorem ok_law {f : Addr} {oc : Value} {od : Option Addr} {dV kV doc pm : Value} {an : Option Addr} {ct : Value} {osl : Array (Option Value)} {c Pt : Addr} (lk : K.lookup f = some ⟨oc, od, .func (PySem.W.fnOf "law" "law" (defArgs s_law) (defBody s_law) (defScope s_law) dV kV doc pm an (.ref c) ct), osl⟩) (hcd : PySem.W.codeIn K (.ref c) "law" = true) (T : Txt K mg) (TB : TabB base mg c Pt)
    {g : Addr} {fdk : FuncData} (GK : FunG K mg "_law_kind" s_law_kind g fdk ["_law_work"]) (c_law_start : Cl P w K mg base CX0 1 "_law_start" (spStart K)) (c_law_drawn : Cl P w K mg base CX0 1 "_law_drawn" (spDrawn K)) (c_law_shares : Cl P w K mg base CX0 2 "_law_shares" (spLShares K)) (c_peak : Cl P w K mg base CX0 3 "peak" (spPeak K))
    (c_blocks : Cl P w K mg base (L2.CX P w) 3 "blocks" (spBlocksX K)) (c_sums : Cl P w K mg base CX0 3 "sums" (spArcs K)) (eNR : ErrK K "NoRoom" 5) :
    FnOk P w K mg base CX0 (5 + 1) f (PySem.W.fnOf "law" "law" (defArgs s_law) (defBody s_law) (defScope s_law) dV kV doc pm an (.ref c) ct) ["_law_script"] (spLaw K Pt) := by
  obtain ⟨ock, odk, kVk, dock, pmk, ank, cdvk, ctk, oslk, rfl, lkK, hcK⟩ := GK.fn.ex
  refine fn_of lk hcd sc_law (fun vs H Q E h => ?_) (fun A outer s H vs Q E hr h => ?_)
  · obtain ⟨a, ns, rfl, _⟩ := h
    rfl
  · obtain ⟨a, ns, rfl, hS, hlen, hPt, k⟩ := h
    refine ⟨_, PSs.nox (pss_cons (ps_set (i := 1) sc_law.nd rfl (.inr rfl) (pe_cl c_law_start hr (by decide) (by rfl) (pa_cons (pv 0) pa_nil)))
      (pss_cons (ps_for PassesOwn.never (by rfl) (pi_range1 (by rfl) T.b_range (pa_cons pe_int pa_nil)) (pg_name (i := 2) sc_law.nd rfl (.inl rfl)) (pss_cons (ps_set (i := 3) sc_law.nd rfl (.inr rfl) (pe_op op_add pe_int (pe_cl c_law_drawn hr (by decide) (by rfl) (pa_cons (pv 1) (pa_cons (pe_ix (ixL K) (pe_lst (pa_cons pe_int (pa_cons pe_int pa_nil))) (pe_cl c_law_drawn hr (by decide) (by rfl) (pa_cons (pv 1) (pa_cons pe_int pa_nil))) (fun _ _ => rfl)) pa_nil)))))
      (pss_cons (ps_set (i := 4) sc_law.nd rfl (.inr rfl) (pe_cl c_law_shares hr (by decide) (by rfl) (pa_cons (pv 1) (pa_cons (pv 3) (pa_cons pe_int pa_nil)))))
      (pss_cons (ps_set (i := 5) sc_law.nd rfl (.inr rfl) (pe_cl c_peak hr (by decide) (by rfl) (pa_cons (pv 3) (pa_cons (pv 4) pa_nil))))
      (pss_cons (ps_set (i := 6) sc_law.nd rfl (.inl rfl) (pe_clG c_blocks hr (by decide) (by rfl) (pa_cons (pv 3) (pa_cons (pv 4) (pa_cons (pv 5) pa_nil)))))
      (pss_cons (ps_set (i := 7) sc_law.nd rfl (.inl rfl) (pe_cl c_sums hr (by decide) (by rfl) (pa_cons (pv 3) (pa_cons (pv 4) (pa_cons (pv 6) pa_nil)))))
      (pss_cons (ps_if (PW.pt (pw_or (pt_cmpR op_ne (pe_callB (clLen K) (by rfl) T.b_len (by decide +kernel) (pa_cons (pv 7) pa_nil)) (pv 3) (nomark _)) (pw_or (pt_cmpR op_ne (pe_callB (clSum K rfl) (by rfl) T.b_sum (by decide +kernel) (pa_cons (pv 7) pa_nil)) (pe_callB (clSum K rfl) (by rfl) T.b_sum (by decide +kernel) (pa_cons (pv 4) pa_nil)) (nomark _)) (pw_or (pt_cmpR op_ne (pe_callB (clMax K rfl) (by rfl) T.b_max (by decide +kernel) (pa_cons (pv 7) pa_nil)) (pv 5) (nomark _)) (pw_or1 (pt_cmpR op_ne (pe_callB (clMin K rfl) (by rfl) T.b_min (by decide +kernel) (pa_cons (pv 7) pa_nil)) (pe_op op_fdivW (pe_callB (clSum K rfl) (by rfl) T.b_sum (by decide +kernel) (pa_cons (pv 4) pa_nil)) (pv 3)) (nomark _))))))) (pss_one (ps_ret pe_bl)) pss_nil)
      (pss_cons (ps_for PassesOwn.never (by rfl) (pi_range1 (by rfl) T.b_range (pa_cons (pe_callB (clLen K) (by rfl) T.b_len (by decide +kernel) (pa_cons (pv 4) pa_nil)) pa_nil)) (pg_name (i := 8) sc_law.nd rfl (.inl rfl)) (pss_cons (ps_set (i := 9) sc_law.nd rfl (.inl rfl) (pe_cl c_sums hr (by decide) (by rfl) (pa_cons (pv 3) (pa_cons (pe_slice (slL K) (pv 4) (po_some (pv 8)) (po_some (pe_op op_add (pv 8) pe_int))) (pa_cons (pe_slice (slL K) (pv 6) (po_some (pv 8)) (po_some (pe_op op_add (pv 8) pe_int))) pa_nil)))))
      (pss_one (ps_if (PW.pt (pw_or (pt_cmpR op_ne (pe_callB (clSum K rfl) (by rfl) T.b_sum (by decide +kernel) (pa_cons (pv 9) pa_nil)) (pe_ix (ixL K) (pv 4) (pv 8) (fun _ _ => rfl)) (nomark _)) (pw_or1 (pt_cmpR op_gt (pe_callB (clMax K rfl) (by rfl) T.b_max (by decide +kernel) (pa_cons (pv 9) pa_nil)) pe_int (nomark _))))) (pss_one (ps_ret pe_bl)) pss_nil))))
      (pss_cons (ps_setLc (i := 11) (own := [("_law_share", 10)]) (g := gName 10) (tt := tYes) rfl sc_law.nd rfl rfl (sw_true rfl rfl rfl (by decide +kernel)) (pi_list (pv 4)) (blkOk_by (own := [("_law_share", 10)]) (N := ["_law_script", "_law_state", "_law_turn", "_law_beats", "_law_shares_here", "_law_most", "_law_begins", "_law_told", "_law_k", "_law_alone", "_law_share", "_law_any_begins"]) (sc := defScope s_law) (by decide +kernel)) (fun _ _ _ _ _ => (pg_name (i := 10) sc_law.nd rfl (.inl rfl))) (fun _ _ _ _ _ => pts_nil) (fun _ _ _ _ _ => (pe_cl c_law_drawn hr (by decide) (by rfl) (pa_cons (pv 1) (pa_cons (pv 3) pa_nil)))))
      (pss_cons (ps_if (pt_cmpR op_lt (pe_callB (clMax K rfl) (by rfl) T.b_max (by decide +kernel) (pa_cons (pe_cl c_sums hr (by decide) (by rfl) (pa_cons (pv 3) (pa_cons (pv 4) (pa_cons (pv 11) pa_nil)))) pa_nil)) (pv 5) (nomark _)) (pss_one (ps_ret pe_bl)) pss_nil)
      (pss_one (ps_if (pt_cmpR op_ne (pe_lamcall (T := [(Pt, lamQ)]) (k := 3) (P := Pt) (by rfl) GK.mgf GK.fn.kp lkK hcK GK.b sc_law_kind rfl (.inl rfl) (kind_gives T) TB rfl List.mem_cons_self (fun p hp _ => by rw [List.mem_singleton] at hp; subst hp; rfl) (hr.mono (by decide)) (lamS_by (sc := defScope s_law) (by decide +kernel)) rfl (fun _ _ _ _ _ => rfl) (fun A outer s H E f c2 hr => (pe_clT c_blocks hr (by decide) (passes_call (takes_of rfl rfl rfl rfl) (fun _ _ _ _ h => h)) (by rfl) (pa_cons (pv 3) (pa_cons (pv 4) (pa_cons (pe_op op_sub (pv 5) pe_int) pa_nil)))))) pe_str (nomark _)) (pss_one (ps_ret pe_bl)) pss_nil))))))))))))
      (pss_one (ps_ret pe_bl)))), ?_⟩
    have hSm := noTab_sq hS
    have tb0 : Tabs [(Pt, lamQ)] H := fun p hp => by rw [List.mem_singleton] at hp; subst hp; exact TabS.nil hPt
    refine ⟨_, rfl, a, ns, rfl, hS, fun st m0 hst d0 => ?_⟩
    have hstm := noTab_none hst
    have s0 : SOk K a ns st (upd H st (StO a 0 m0 0)) := SOk.make hlen hS hst d0
    have e0 : Same (noTab H) (upd H st (StO a 0 m0 0)) := (noTab_same H).new hst
    have t0 : Tabs [(Pt, lamQ)] (upd H st (StO a 0 m0 0)) := tabs_same tb0 (Same.upd hst)
    generalize upd H st (StO a 0 m0 0) = H0 at s0 e0 t0
    refine ⟨_, rfl, by decide, by decide, for_range (lo := 0) (n := 8) (fun i σ H' => (∃ v2 v3 v4 v5 v6 v7 v8 v9 v10 v11 : Option V, σ = [some (.ref a), some (.ref st), v2, v3, v4, v5, v6, v7, v8, v9, v10, v11]) ∧ SOk K a ns st H' ∧ Same (noTab H) H' ∧ Tabs [(Pt, lamQ)] H')
      ⟨⟨none, none, none, none, none, none, none, none, none, none, rfl⟩, s0, e0, t0⟩ ?_ ?_⟩
    · rintro i σ H1 hi ⟨⟨v2, v3, v4, v5, v6, v7, v8, v9, v10, v11, rfl⟩, s1, e1, t1⟩
      refine ⟨_, rfl, (by show 2 ≤ sizeLine; decide), fun p1 hp1 => ?_⟩
      have s1' := s1.new (o := .lst [.int 8, .int 64]) hp1
      have k1' := (Keep.refl st H1).new (o := .lst [.int 8, .int 64]) hp1
      have n1 := s1.ne_of hp1
      refine ⟨_, rfl, st, a, ns, 2, rfl, s1', by decide, by decide, fun y ia ma ca y0 y1 da => ?_⟩
      have s2 := s1'.drawn da
      have k2 := k1'.atSt (o := StO a ia ma ca)
      have hp2 : upd (upd H1 p1 (.lst [.int 8, .int 64])) st (StO a ia ma ca) p1 = some (.lst [.int 8, .int 64]) := by rw [upd_ne n1, upd_same]
      generalize upd (upd H1 p1 (.lst [.int 8, .int 64])) st (StO a ia ma ca) = H2 at s2 k2 hp2
      have hat : ∃ v : Int, atI [V.int 8, V.int 64] y = some (.int v) ∧ 1 ≤ v ∧ v ≤ 64 := by
        have : y = 0 ∨ y = 1 := by omega
        rcases this with e | e <;> subst e <;> exact ⟨_, rfl, by decide, by decide⟩
      obtain ⟨far, hfar, f0, f1⟩ := hat
      refine ⟨_, _, _, _, rfl, rfl, SqL.of hp2, hfar, st, a, ns, far, rfl, s2, by omega, Int.lt_of_le_of_lt f1 (by decide), fun r ib mb cb r0 r1 db => ⟨_, _, rfl, rfl, ?_⟩⟩
      have s3 := s2.drawn db
      have k3 := k2.atSt (o := StO a ib mb cb)
      generalize upd H2 st (StO a ib mb cb) = H3 at s3 k3
      have b0 : 1 ≤ 1 + r := by omega
      have b1 : 1 + r ≤ 64 := by omega
      refine ⟨_, rfl, _, rfl, st, a, ns, 1 + r, 12, rfl, s3, b0, b1, by decide, by decide, fun sh s H4 hsh hl12 hsn k4 s4 hs4 => ?_⟩
      have k14 : Keep st H1 H4 := k3.trans k4
      have e4 : Same (noTab H) H4 := e1.keepAll hstm k14
      have t4 := s1.tabs t1 k14
      have hl : sh.length ≤ 12 := by omega
      have hslen : (sh.map V.int).length = sh.length := List.length_map _
      refine ⟨_, rfl, _, rfl, 1 + r, s, sh, rfl, SqL.of hs4, b0, b1, hsh, hl, fun H5 e5 => ?_⟩
      have hs5 := e5 _ _ hs4
      refine ⟨_, rfl, _, rfl, _, rfl, 1 + r, ((sh.sum + (1 + r) - 1) / (1 + r)), s, sh, rfl, SqL.of hs5, b0, b1, hsh, hl, .inl ⟨Int.le_refl _, fun bl H6 e6 hbln hbl => ?_⟩⟩
      have hs6 := e6 _ _ hs5
      have hbg : (begs (1 + r) sh).length = sh.length := by simp [begs]
      have hbd : ∀ x ∈ begs (1 + r) sh, 0 ≤ x ∧ x < 1 + r := fun x hx => by
        obtain ⟨q, _, rfl⟩ := List.mem_map.mp hx
        exact ⟨Int.emod_nonneg _ (by omega), Int.emod_lt_of_pos _ (by omega)⟩
      have hbt : ∀ q, q < sh.length → (begs (1 + r) sh).getD q 0 = (sh.take q).sum % (1 + r) := fun q hq => by
        unfold begs
        rw [List.getD_eq_getElem?_getD, List.getElem?_map, List.getElem?_range hq]; rfl
      refine ⟨_, rfl, _, rfl, _, rfl, 1 + r, s, bl, sh, begs (1 + r) sh, rfl, SqL.of hs6, SqL.of hbl, b0, b1, hsh, hl, hbg, hbd, fun tp H7 e7 htn ht7 => ?_⟩
      have TT := told_mk b0 hsh hbt
      have hLl : (arcL (1 + r).toNat (arcs (1 + r).toNat (zipN sh (begs (1 + r) sh) sh.length))).length = (1 + r).toNat := arcL_len _ _
      generalize arcL (1 + r).toNat (arcs (1 + r).toNat (zipN sh (begs (1 + r) sh) sh.length)) = L at TT ht7 hLl
      have hpos : 0 < L.length := by omega
      have hs7 := e7 _ _ hs6
      have hbl7 := e7 _ _ hbl
      generalize begs (1 + r) sh = bg at hbl hbl7 hbg hbd hbt
      refine ⟨_, rfl, _, _, rfl, .inl (SqL.of ht7), _, rfl, rfl, _, rfl, iteFe (neqF (congrArg V.int (by rw [List.length_map]; exact TT.len))) ⟨_, rfl, _, _, rfl, SqL.of ht7, _, rfl, _, _, rfl, SqL.of hs7, rfl, _, rfl, iteFe (neqF (congrArg V.int TT.sum)) ⟨_, rfl, _, _, rfl, SqL.of ht7, hpos, fun m hm hle => ⟨_, rfl, rfl, _, rfl, iteFe (neqF (congrArg V.int (TT.max m hm hle))) ⟨_, rfl, _, _, rfl, SqL.of ht7, hpos, fun m2 hm2 hle2 => ⟨_, rfl, _, _, rfl, SqL.of hs7, _, rfl, _, _, rfl, rfl, wide_div (b := 7) (by omega) (by omega) (by decide) (by decide), rfl, _, rfl, iteFe (neqF (congrArg V.int (TT.min m2 hm2 hle2))) ?_⟩⟩⟩⟩⟩⟩
      have e47 := (e5.trans e6).trans e7
      have s7 := s4.same e47
      have e7' := e4.trans e47
      have t7 := tabs_same t4 e47
      refine ⟨_, rfl, _, _, rfl, .inl (SqL.of hs7), _, rfl, by rw [hslen]; omega, by rw [hslen]; omega, for_range (lo := 0) (n := ((sh.map V.int).length : Int).toNat) (fun q σ H' => (∃ v8 v9 v10 v11 : Option V, σ = [some (.ref a), some (.ref st), some (.int (0 + (i : Int))), some (.int (1 + r)), some (.ref s), some (.int ((sh.sum + (1 + r) - 1) / (1 + r))), some (.ref bl), some (.ref tp), v8, v9, v10, v11]) ∧ Same H7 H')
        ⟨⟨v8, v9, v10, v11, rfl⟩, Same.refl _⟩ ?_ ?_⟩
      · rintro q σ H8 hq ⟨⟨v8, v9, v10, v11, rfl⟩, e8⟩
        rw [hslen] at hq
        have hq : q < sh.length := by omega
        have hx := hsh (sh.getD q 0) (by rw [List.getD_eq_getElem?_getD, List.getElem?_eq_getElem hq]; exact List.getElem_mem hq)
        have hy := hbd (bg.getD q 0) (by rw [List.getD_eq_getElem?_getD, List.getElem?_eq_getElem (by omega)]; exact List.getElem_mem _)
        refine ⟨_, rfl, _, rfl, _, rfl, _, rfl, _, rfl, _, _, rfl, rfl, _, rfl, _, _, rfl, SqL.of (e8 _ _ hs7), fun q1 hq1 => ?_⟩
        rw [cut_one hq]
        have e9 := e8.new (o := .lst ([sh.getD q 0].map V.int)) hq1
        have hq19 : upd H8 q1 (.lst ([sh.getD q 0].map V.int)) q1 = some (.lst ([sh.getD q 0].map V.int)) := upd_same
        generalize upd H8 q1 (.lst ([sh.getD q 0].map V.int)) = H9 at e9 hq19
        refine ⟨_, rfl, _, rfl, _, rfl, _, rfl, _, _, rfl, rfl, _, rfl, _, _, rfl, SqL.of (e9 _ _ hbl7), fun q2 hq2 => ?_⟩
        rw [cut_one (show q < bg.length by omega)]
        have ea := e9.new (o := .lst ([bg.getD q 0].map V.int)) hq2
        have hq1a : upd H9 q2 (.lst ([bg.getD q 0].map V.int)) q1 = _ := (upd_ne (ne_of_none hq19 hq2)).trans hq19
        have hq2a : upd H9 q2 (.lst ([bg.getD q 0].map V.int)) q2 = some (.lst ([bg.getD q 0].map V.int)) := upd_same
        generalize upd H9 q2 (.lst ([bg.getD q 0].map V.int)) = Ha at ea hq1a hq2a
        have hsh1 : ∀ x ∈ [sh.getD q 0], 0 ≤ x ∧ x ≤ 1 + r := fun x hx' => by rw [List.mem_singleton] at hx'; subst hx'; exact hx
        refine ⟨1 + r, q1, q2, [sh.getD q 0], [bg.getD q 0], rfl, SqL.of hq1a, SqL.of hq2a, b0, b1, hsh1, (by show 1 ≤ 12; decide), rfl, fun x hx' => by rw [List.mem_singleton] at hx'; subst hx'; exact hy, fun al Hb eb haln hal => ?_⟩
        have hsum := any_sum (ts := [bg.getD q 0]) b0 hsh1
        have hone := alone_le (y := bg.getD q 0) b0 hx.1 hx.2
        have hall : (arcL (1 + r).toNat (arcs (1 + r).toNat (zipN [sh.getD q 0] [bg.getD q 0] [sh.getD q 0].length))).length = (1 + r).toNat := arcL_len _ _
        have hone : ∀ z, z ∈ arcL (1 + r).toNat (arcs (1 + r).toNat (zipN [sh.getD q 0] [bg.getD q 0] [sh.getD q 0].length)) → z ≤ 1 := hone
        generalize arcL (1 + r).toNat (arcs (1 + r).toNat (zipN [sh.getD q 0] [bg.getD q 0] [sh.getD q 0].length)) = AL at hal hsum hall hone
        have e7b := ea.trans eb
        refine ⟨_, rfl, _, _, rfl, SqL.of hal, _, rfl, _, rfl, _, _, _, _, rfl, rfl, SqL.of (e7b _ _ hs7), atV (j := q) (by omega) hq, rfl, _, rfl, iteFe (neqF (congrArg V.int (by rw [hsum]; simp))) ⟨_, rfl, _, _, rfl, SqL.of hal, by omega, fun m hm hle => ⟨_, _, rfl, rfl, _, rfl, iteFe (decide_eq_false ?_) ⟨⟨_, _, _, _, rfl⟩, e7b⟩⟩⟩⟩
        have := hone m hm
        omega
      · rintro σ H8 ⟨⟨v8, v9, v10, v11, rfl⟩, e8⟩
        have s8 := s7.same e8
        have hs8 := e8 _ _ hs7
        refine ⟨_, rfl, s, rfl, ⟨_, SqL.of hs8⟩, fun D hD => ?_⟩
        have nls : s ≠ st := fun z => by subst z; obtain ⟨_, _, _, _, hst8⟩ := s8.at_; rw [hs8] at hst8; unfold StO at hst8; have := congrArg (fun o => match o with | some (HO.lst (x :: _)) => x | _ => V.non) hst8; cases sh <;> simp at this
        refine lc_list (K := K) (a := s) (xs := sh.map V.int) (fun q H' => SOk K a ns st H' ∧ Keep st H8 H' ∧ ∃ ts : List Int, H' D = some (.lst (ts.map V.int)) ∧ ts.length = q ∧ ∀ x ∈ ts, 0 ≤ x ∧ x < 1 + r) ⟨s8.new hD, (Keep.refl st H8).new hD, [], upd_same, rfl, fun x hx => by simp at hx⟩ (fun q H' _ h => SqL.of (h.2.1 _ _ nls hs8)) ?_ ?_
        · rintro q x H9 hq ⟨s9, k9, ts, hd9, hl9, hb9⟩
          have hq' : q < sh.length := by have := (List.getElem?_eq_some_iff.mp hq).1; omega
          have nD : D ≠ st := s8.ne_of hD
          refine ⟨rfl, _, rfl, _, rfl, st, a, ns, 1 + r, rfl, s9, by omega, Int.lt_of_le_of_lt b1 (by decide), fun z ic mc cc z0 z1 dc => ?_⟩
          have sa := s9.drawn dc
          have ka := k9.atSt (o := StO a ic mc cc)
          have hda : upd H9 st (StO a ic mc cc) D = some (.lst (ts.map V.int)) := by rw [upd_ne nD]; exact hd9
          generalize upd H9 st (StO a ic mc cc) = Ha at sa ka hda
          refine ⟨_, hda, small_of (m := 64) (by rw [List.length_map]; omega), sa.mutK s8 ka hD, ka.mut hD, ts ++ [z], ?_, by rw [List.length_append, hl9]; rfl, fun x hx => ?_⟩
          · rw [upd_same, List.map_append]; rfl
          · rcases List.mem_append.mp hx with h | h
            · exact hb9 x h
            · rw [List.mem_singleton] at h
              subst h
              omega
        · rintro H9 ⟨s9, k9, ts, hd9, hl9, hb9⟩
          rw [hslen] at hl9
          have e9 : Same (noTab H) H9 := (e7'.trans e8).keepAll hstm k9
          have t9 := s8.tabs (tabs_same t7 e8) k9
          have hs9 := k9 _ _ nls hs8
          refine ⟨_, rfl, _, rfl, _, rfl, 1 + r, s, D, sh, ts, rfl, SqL.of hs9, SqL.of hd9, b0, b1, hsh, hl, hl9, hb9, fun al Ha ea haln hal => ?_⟩
          have hmx := any_max (ts := ts) b0 hsh
          have hall : (arcL (1 + r).toNat (arcs (1 + r).toNat (zipN sh ts sh.length))).length = (1 + r).toNat := arcL_len _ _
          generalize arcL (1 + r).toNat (arcs (1 + r).toNat (zipN sh ts sh.length)) = AL at hal hmx hall
          refine ⟨_, _, rfl, SqL.of hal, by omega, fun m hm hle => ⟨_, rfl, _, _, rfl, rfl, _, rfl, iteFe (decide_eq_false (by have := hmx m hle; omega)) ?_⟩⟩
          have ta := tabs_same t9 ea
          have ea' := e9.trans ea
          have sa := s9.same ea
          have hsa := ea _ _ hs9
          refine ⟨ta, fun Hb eN tN => ?_⟩
          have hsb := eN _ _ hsa fun _ z => nomatch z
          have sb := sa.extN hSm hstm ea' eN
          have eb := extN_same ea' eN
          refine ⟨_, rfl, _, rfl, _, rfl, _, _, rfl, rfl, 1 + r, ((sh.sum + (1 + r) - 1) / (1 + r)) - 1, s, sh, rfl, SqL.of hsb, b0, b1, hsh, hl, .inr ⟨by omega, fun Hc ec => ⟨"NoRoom", 5, rfl, rfl, eNR, fun Hd ed => ?_⟩⟩⟩
          refine ⟨rfl, _, rfl, iteFe (neqF rfl) ?_⟩
          have ebd := ec.trans ed
          exact ⟨⟨_, _, _, _, _, _, _, _, _, _, rfl⟩, sb.same ebd, eb.trans ebd, tabs_same tN ebd⟩
    · rintro σ H1 ⟨⟨v2, v3, v4, v5, v6, v7, v8, v9, v10, v11, rfl⟩, s1, e1, t1⟩
      exact k _
end
end My

namespace My
open PySem PySem.Spec PyProof.Rows LamX L2
def dd_law_start : He.DefD := ⟨("_law_start", none), "_law_start", "_law_start", defArgs s_law_start, defBody s_law_start, defScope s_law_start, [], []⟩
def dd_law_drawn : He.DefD := ⟨("_law_drawn", none), "_law_drawn", "_law_drawn", defArgs s_law_drawn, defBody s_law_drawn, defScope s_law_drawn, [], []⟩
def dd_law_kind : He.DefD := ⟨("_law_kind", none), "_law_kind", "_law_kind", defArgs s_law_kind, defBody s_law_kind, defScope s_law_kind, [], []⟩
def dd_need_beats : He.DefD := ⟨("need_beats", none), "need_beats", "need_beats", defArgs s_need_beats, defBody s_need_beats, defScope s_need_beats, [], []⟩
def dd_need_shares : He.DefD := ⟨("need_shares", none), "need_shares", "need_shares", defArgs s_need_shares, defBody s_need_shares, defScope s_need_shares, [], []⟩
def dd_peak_of : He.DefD := ⟨("peak_of", none), "peak_of", "peak_of", defArgs s_peak_of, defBody s_peak_of, defScope s_peak_of, [], []⟩
def dd_peak : He.DefD := ⟨("peak", none), "peak", "peak", defArgs s_peak, defBody s_peak, defScope s_peak, [], []⟩
def dd_law_shares : He.DefD := ⟨("_law_shares", none), "_law_shares", "_law_shares", defArgs s_law_shares, defBody s_law_shares, defScope s_law_shares, [], []⟩
def dd_blocks : He.DefD := ⟨("blocks", none), "blocks", "blocks", defArgs s_blocks, defBody s_blocks, defScope s_blocks, [], []⟩
def dd_sums : He.DefD := ⟨("sums", none), "sums", "sums", defArgs s_sums, defBody s_sums, defScope s_sums, [], []⟩
def dd_law : He.DefD := ⟨("law", none), "law", "law", defArgs s_law, defBody s_law, defScope s_law, [], []⟩
def hfn : List He.DefD := [dd_law_start, dd_law_drawn, dd_law_kind, dd_need_beats, dd_need_shares, dd_peak_of, dd_peak, dd_law_shares, dd_blocks, dd_sums, dd_law]
def hfa : List He.Fa := [.glo "_law_start", .glo "_law_drawn", .glo "_law_kind", .glo "need_beats", .glo "need_shares", .glo "peak_of", .glo "peak", .glo "_law_shares", .glo "blocks", .glo "sums", .glo "law", .glo "BadBegins", .glo "BadFrame", .glo "BadRuns", .glo "BadShare", .glo "BadText", .glo "BadWidth", .glo "NoRoom", .glo "PulseError", .exc "NoRoom", .exm "NoRoom" "PulseError" true, .int "MOST_BEATS" 64, .int "MOST_SHARES" 12, .free "ValueError", .free "isinstance", .free "len", .free "max", .free "min", .free "range", .free "sum", .free "zip"]
def exL (K : PySem.W.Frag) : List Bool := [decide (PySem.W.specialIn K (.builtin "object.__class__") "__get__" = some (some (.builtin "getset_descriptor.__get__"))),
  decide (PySem.W.takesIn K (.builtin "object.__class__") = some true),
  decide (PySem.W.findIn K (.ref (He.ga K "NoRoom")) "__getattribute__" = some (some (.builtin "BaseException.__getattribute__"))),
  decide (PySem.W.findIn K (.ref (He.ga K "NoRoom")) "__getattr__" = some none),
  decide (PySem.W.subIn K (.ref (He.ga K "NoRoom")) (.type "BaseException") = some true),
  PySem.W.hasDictIn K (He.ga K "NoRoom"),
  decide (PySem.W.findIn K (.ref (He.ga K "NoRoom")) "__class__" = some (some (.builtin "object.__class__"))),
  decide (PySem.W.mroIn K (He.ga K "NoRoom") (.type "object") = some true),
  decide (PySem.W.kitOne K (.ref (He.ga K "NoRoom")) (.ref (He.ga K "BadFrame")) = some (decide (5 = 0))),
  decide (PySem.W.kitOne K (.ref (He.ga K "NoRoom")) (.ref (He.ga K "BadShare")) = some (decide (5 = 1))),
  decide (PySem.W.kitOne K (.ref (He.ga K "NoRoom")) (.ref (He.ga K "BadWidth")) = some (decide (5 = 2))),
  decide (PySem.W.kitOne K (.ref (He.ga K "NoRoom")) (.ref (He.ga K "BadBegins")) = some (decide (5 = 3))),
  decide (PySem.W.kitOne K (.ref (He.ga K "NoRoom")) (.ref (He.ga K "BadRuns")) = some (decide (5 = 4))),
  decide (PySem.W.kitOne K (.ref (He.ga K "NoRoom")) (.ref (He.ga K "NoRoom")) = some (decide (5 = 5))),
  decide (PySem.W.kitOne K (.ref (He.ga K "NoRoom")) (.ref (He.ga K "BadText")) = some (decide (5 = 6))),
  decide (PySem.W.kitOne K (.ref (He.ga K "NoRoom")) (.type "ValueError") = some true)]
def hex (K : PySem.W.Frag) : Bool := (exL K).all id
theorem hex_at {K : PySem.W.Frag} (h : hex K = true) (i : Nat) {b : Bool} (e : (exL K)[i]? = some b := by rfl) : b = true := List.all_eq_true.mp h b (List.mem_of_getElem? e)
abbrev hR : PySem.W.OpenRow := PySem.W.OpenLaw.row PySem.Challenge.rw_pulseshare_k10_whole_under_one_bound
abbrev hkk : PySem.W.Hook := He.hookX 4 hfa hfn [] [("law", none)] hex
def hob (s : PySem.W.SharedT) : He.AlX := He.obsX 4 hfa hfn [] [("law", none)] hex (HandSHeadRun.getT s)
theorem hob_eq (s : PySem.W.SharedT) : hob s = hkk.obs s.abs := He.obsX_eq (HandSHeadRun.getT_eq s)
theorem hrun (w : World) : HandSHeadRun.RunEq hR (PySem.W.view hR.prog [25]) hkk hob 4000 ["PulseError", "BadFrame", "BadShare", "BadWidth", "BadBegins", "BadRuns", "NoRoom", "BadText", "MOST_BEATS", "need_beats", "MOST_SHARES", "need_shares", "peak_of", "peak", "blocks", "sums", "_law_start", "_law_drawn", "_law_kind", "_law_shares", "_law_sums"] w := by
  intro os
  kernel_rfl
theorem fun_of_D {K : PySem.W.Frag} {x q : Str} {st : Stmt} {f : Addr} {fd : FuncData} (F : FunD K x q (defArgs st) (defBody st) (defScope st) [] [] f fd) : Fun K x q st f fd := by
  obtain ⟨oc, od, dV, kV, doc, pm, an, cdv, ct, osl, e, lk, hcd, hD, hK⟩ := F.ex
  rcases hD with ⟨_, e2⟩ | ⟨e2, _⟩
  · subst e2
    exact ⟨⟨oc, od, kV, doc, pm, an, cdv, ct, osl, e, lk, hcd⟩, F.kp⟩
  · exact absurd rfl e2
theorem facts {l : PySem.W.OpenLaw} {w : World} {K : PySem.W.Frag} {h : Heap} {mg : Str → Option Value} {fa : Addr} (KX : K.In h) (G : h.Ns mainGlobals mg) (hmg : mg ("law" : Str) = some (.ref fa)) (c : He.SaysX hfa hfn [] [("law", none)] hex w h K) : LawAtS l w K CX0 6 63 "_law_script" mg fa h := by
  obtain ⟨fd_law_start, FD_law_start⟩ := c.t.d.def_ 0 (d := dd_law_start) rfl
  have G_law_start : FunG K mg "_law_start" s_law_start (He.ga K "_law_start") fd_law_start ["_law_script"] := ⟨fun_of_D FD_law_start, He.glo_ok KX G (c.t.d.fact 0 (f := .glo "_law_start") rfl), FunD.bindsN (ps := ["_law_script"]) FD_law_start fun _ _ _ _ _ _ us hl => match us, hl with | [_], _ => rfl⟩
  obtain ⟨fd_law_drawn, FD_law_drawn⟩ := c.t.d.def_ 1 (d := dd_law_drawn) rfl
  have G_law_drawn : FunG K mg "_law_drawn" s_law_drawn (He.ga K "_law_drawn") fd_law_drawn ["_law_state", "_law_many"] := ⟨fun_of_D FD_law_drawn, He.glo_ok KX G (c.t.d.fact 1 (f := .glo "_law_drawn") rfl), FunD.bindsN (ps := ["_law_state", "_law_many"]) FD_law_drawn fun _ _ _ _ _ _ us hl => match us, hl with | [_, _], _ => rfl⟩
  obtain ⟨fd_law_kind, FD_law_kind⟩ := c.t.d.def_ 2 (d := dd_law_kind) rfl
  have G_law_kind : FunG K mg "_law_kind" s_law_kind (He.ga K "_law_kind") fd_law_kind ["_law_work"] := ⟨fun_of_D FD_law_kind, He.glo_ok KX G (c.t.d.fact 2 (f := .glo "_law_kind") rfl), FunD.bindsN (ps := ["_law_work"]) FD_law_kind fun _ _ _ _ _ _ us hl => match us, hl with | [_], _ => rfl⟩
  obtain ⟨fd_need_beats, FD_need_beats⟩ := c.t.d.def_ 3 (d := dd_need_beats) rfl
  have G_need_beats : FunG K mg "need_beats" s_need_beats (He.ga K "need_beats") fd_need_beats ["beats"] := ⟨fun_of_D FD_need_beats, He.glo_ok KX G (c.t.d.fact 3 (f := .glo "need_beats") rfl), FunD.bindsN (ps := ["beats"]) FD_need_beats fun _ _ _ _ _ _ us hl => match us, hl with | [_], _ => rfl⟩
  obtain ⟨fd_need_shares, FD_need_shares⟩ := c.t.d.def_ 4 (d := dd_need_shares) rfl
  have G_need_shares : FunG K mg "need_shares" s_need_shares (He.ga K "need_shares") fd_need_shares ["beats", "shares"] := ⟨fun_of_D FD_need_shares, He.glo_ok KX G (c.t.d.fact 4 (f := .glo "need_shares") rfl), FunD.bindsN (ps := ["beats", "shares"]) FD_need_shares fun _ _ _ _ _ _ us hl => match us, hl with | [_, _], _ => rfl⟩
  obtain ⟨fd_peak_of, FD_peak_of⟩ := c.t.d.def_ 5 (d := dd_peak_of) rfl
  have G_peak_of : FunG K mg "peak_of" s_peak_of (He.ga K "peak_of") fd_peak_of ["beats", "shares"] := ⟨fun_of_D FD_peak_of, He.glo_ok KX G (c.t.d.fact 5 (f := .glo "peak_of") rfl), FunD.bindsN (ps := ["beats", "shares"]) FD_peak_of fun _ _ _ _ _ _ us hl => match us, hl with | [_, _], _ => rfl⟩
  obtain ⟨fd_peak, FD_peak⟩ := c.t.d.def_ 6 (d := dd_peak) rfl
  have G_peak : FunG K mg "peak" s_peak (He.ga K "peak") fd_peak ["beats", "shares"] := ⟨fun_of_D FD_peak, He.glo_ok KX G (c.t.d.fact 6 (f := .glo "peak") rfl), FunD.bindsN (ps := ["beats", "shares"]) FD_peak fun _ _ _ _ _ _ us hl => match us, hl with | [_, _], _ => rfl⟩
  obtain ⟨fd_law_shares, FD_law_shares⟩ := c.t.d.def_ 7 (d := dd_law_shares) rfl
  have G_law_shares : FunG K mg "_law_shares" s_law_shares (He.ga K "_law_shares") fd_law_shares ["_law_state", "_law_beats", "_law_most"] := ⟨fun_of_D FD_law_shares, He.glo_ok KX G (c.t.d.fact 7 (f := .glo "_law_shares") rfl), FunD.bindsN (ps := ["_law_state", "_law_beats", "_law_most"]) FD_law_shares fun _ _ _ _ _ _ us hl => match us, hl with | [_, _, _], _ => rfl⟩
  obtain ⟨fd_blocks, FD_blocks⟩ := c.t.d.def_ 8 (d := dd_blocks) rfl
  have G_blocks : FunG K mg "blocks" s_blocks (He.ga K "blocks") fd_blocks ["beats", "shares", "bound"] := ⟨fun_of_D FD_blocks, He.glo_ok KX G (c.t.d.fact 8 (f := .glo "blocks") rfl), FunD.bindsN (ps := ["beats", "shares", "bound"]) FD_blocks fun _ _ _ _ _ _ us hl => match us, hl with | [_, _, _], _ => rfl⟩
  obtain ⟨fd_sums, FD_sums⟩ := c.t.d.def_ 9 (d := dd_sums) rfl
  have G_sums : FunG K mg "sums" s_sums (He.ga K "sums") fd_sums ["beats", "shares", "begins"] := ⟨fun_of_D FD_sums, He.glo_ok KX G (c.t.d.fact 9 (f := .glo "sums") rfl), FunD.bindsN (ps := ["beats", "shares", "begins"]) FD_sums fun _ _ _ _ _ _ us hl => match us, hl with | [_, _, _], _ => rfl⟩
  obtain ⟨fd_law, FD_law⟩ := c.t.d.def_ 10 (d := dd_law) rfl
  have e := hmg.symm.trans (He.glo_ok KX G (c.t.d.fact 10 (f := .glo "law") rfl))
  cases e
  have bA := FunD.bindsA (ps := ["_law_script"]) FD_law fun _ _ _ _ _ _ us hl => match us, hl with | [_], _ => rfl
  obtain ⟨oc, od, kV, doc, pm, an, cdv, ct, osl, rfl, lk, hcd⟩ := (fun_of_D (st := s_law) FD_law).ex
  obtain ⟨c0, rfl⟩ := He.codeIn_ref hcd
  have ec : He.codeOf K ("law", none) = c0 := He.codeOf_eq lk rfl
  have h1 := c.hd ("law", none) List.mem_cons_self
  have h2 := c.out ("law", none) List.mem_cons_self
  have h3 := c.empty ("law", none) List.mem_cons_self
  unfold He.cT at h1 h2 h3
  rw [ec] at h1 h2 h3
  dsimp only at h1 h2 h3
  generalize He.tabOf K c0 = Pt at h1 h2 h3
  have T : Txt K mg := ⟨He.glo_ok KX G (c.t.d.fact 11 (f := .glo "BadBegins") rfl),
    He.glo_ok KX G (c.t.d.fact 12 (f := .glo "BadFrame") rfl),
    He.glo_ok KX G (c.t.d.fact 13 (f := .glo "BadRuns") rfl),
    He.glo_ok KX G (c.t.d.fact 14 (f := .glo "BadShare") rfl),
    He.glo_ok KX G (c.t.d.fact 15 (f := .glo "BadText") rfl),
    He.glo_ok KX G (c.t.d.fact 16 (f := .glo "BadWidth") rfl),
    (by obtain ⟨t, e⟩ := He.int_ok KX G (c.t.d.fact 21 (f := .int "MOST_BEATS" 64) rfl); exact ⟨_, e, t, rfl⟩),
    (by obtain ⟨t, e⟩ := He.int_ok KX G (c.t.d.fact 22 (f := .int "MOST_SHARES" 12) rfl); exact ⟨_, e, t, rfl⟩),
    He.glo_ok KX G (c.t.d.fact 17 (f := .glo "NoRoom") rfl),
    ⟨He.glo_ok KX G (c.t.d.fact 17 (f := .glo "NoRoom") rfl), (He.exc_ok (c.t.d.fact 19 (f := .exc "NoRoom") rfl)).1, (He.exc_ok (c.t.d.fact 19 (f := .exc "NoRoom") rfl)).2.1, (He.exc_ok (c.t.d.fact 19 (f := .exc "NoRoom") rfl)).2.2.1, (He.exc_ok (c.t.d.fact 19 (f := .exc "NoRoom") rfl)).2.2.2⟩,
    He.glo_ok KX G (c.t.d.fact 18 (f := .glo "PulseError") rfl),
    He.free_ok KX G (c.t.d.fact 23 (f := .free "ValueError") rfl),
    He.free_ok KX G (c.t.d.fact 24 (f := .free "isinstance") rfl),
    He.free_ok KX G (c.t.d.fact 25 (f := .free "len") rfl),
    He.free_ok KX G (c.t.d.fact 26 (f := .free "max") rfl),
    He.free_ok KX G (c.t.d.fact 27 (f := .free "min") rfl),
    He.free_ok KX G (c.t.d.fact 28 (f := .free "range") rfl),
    He.free_ok KX G (c.t.d.fact 29 (f := .free "sum") rfl),
    He.free_ok KX G (c.t.d.fact 30 (f := .free "zip") rfl)⟩
  have e_NoRoom : ErrK K "NoRoom" 5 := ⟨⟨of_decide_eq_true (hex_at c.more 2), of_decide_eq_true (hex_at c.more 3), of_decide_eq_true (hex_at c.more 4), hex_at c.more 5, of_decide_eq_true (hex_at c.more 6), of_decide_eq_true (hex_at c.more 0), of_decide_eq_true (hex_at c.more 1), of_decide_eq_true (hex_at c.more 7)⟩, He.exm_ok (c.t.d.fact 20 (f := .exm "NoRoom" "PulseError" true) rfl), of_decide_eq_true (hex_at c.more 8), of_decide_eq_true (hex_at c.more 9), of_decide_eq_true (hex_at c.more 10), of_decide_eq_true (hex_at c.more 11), of_decide_eq_true (hex_at c.more 12), of_decide_eq_true (hex_at c.more 13), of_decide_eq_true (hex_at c.more 14), of_decide_eq_true (hex_at c.more 15), by decide, rfl⟩
  refine ⟨_, [(c0, Pt)], spLaw K Pt, fun p hp => ?_, fun p hp => ?_, fun p hp => ?_, fun s v => bA s [v] rfl, fun H a ns hl _ hT hS => ⟨a, ns, rfl, hS, hl, hT _ List.mem_cons_self, fun _ => rfl⟩, fun base KB GB TBs => ?_⟩
  · rw [List.mem_singleton] at hp; subst hp; exact h3
  · rw [List.mem_singleton] at hp; subst hp; exact h2
  · rw [List.mem_singleton] at hp; subst hp; exact PySem.W.codeHd_of_K KX h1
  · have TB := TBs (c0, Pt) List.mem_cons_self
    have c_law_start := G_law_start.clX (ok_law_start (P := l.prog) (w := w) (base := base) G_law_start )
    have c_law_drawn := G_law_drawn.clX (ok_law_drawn (P := l.prog) (w := w) (base := base) G_law_drawn T)
    have c_need_beats := G_need_beats.clX (ok_need_beats (P := l.prog) (w := w) (base := base) G_need_beats T)
    have c_need_shares := G_need_shares.clX (ok_need_shares (P := l.prog) (w := w) (base := base) G_need_shares T c_need_beats)
    have c_peak_of := G_peak_of.clX (ok_peak_of (P := l.prog) (w := w) (base := base) G_peak_of T)
    have c_peak := G_peak.clX (ok_peak (P := l.prog) (w := w) (base := base) G_peak c_need_shares c_peak_of)
    have c_law_shares := G_law_shares.clX (ok_law_shares (P := l.prog) (w := w) (base := base) G_law_shares T c_law_drawn)
    have c_blocks := G_blocks.clX (ok_blocks (P := l.prog) (w := w) (base := base) G_blocks T c_need_shares c_peak_of)
    have c_sums := G_sums.clX (ok_sums (P := l.prog) (w := w) (base := base) G_sums T c_need_shares)
    exact ok_law (P := l.prog) (w := w) (base := base) lk hcd T TB G_law_kind c_law_start c_law_drawn c_law_shares c_peak c_blocks c_sums e_NoRoom
end My
open PySem PySem.W PySem.Calls PyProof.Rows
theorem PySem.Challenge.cw_pulseshare_k10_whole_under_one_bound_holds : PySem.Challenge.rw_pulseshare_k10_whole_under_one_bound.Holds := by
  w_on; o_law
  refine HandSHeadRun.head_any (r := OpenLaw.row PySem.Challenge.rw_pulseshare_k10_whole_under_one_bound) (q := view (OpenLaw.row PySem.Challenge.rw_pulseshare_k10_whole_under_one_bound).prog [25]) (H := My.hkk) (ob := My.hob) (M := 4000) (loose := ["PulseError", "BadFrame", "BadShare", "BadWidth", "BadBegins", "BadRuns", "NoRoom", "BadText", "MOST_BEATS", "need_beats", "MOST_SHARES", "need_shares", "peak_of", "peak", "blocks", "sums", "_law_start", "_law_drawn", "_law_kind", "_law_shares", "_law_sums"]) (d := HandSHeadRun.topDef (OpenLaw.row PySem.Challenge.rw_pulseshare_k10_whole_under_one_bound).prog 25) (kwd := []) My.hob_eq
    (by kernel_rfl) (fun s => by kernel_rfl) My.hrun (by kernel_rfl) (by kernel_rfl) (by kernel_rfl) (by rfl) (by first | assumption | decide +kernel) (by decide +kernel) ⟨rfl, rfl, rfl, rfl, rfl, by decide +kernel⟩ ?hw ?hc
  case hw => w_witness2
  case hc =>
    refine LamX.walk_ofTsE (l := PySem.Challenge.rw_pulseshare_k10_whole_under_one_bound) (n := 63) (k := 6) (x := "_law_script") (CX := fun _ => L2.CX0) rfl (by decide) (by kernel_rfl) ⟨rfl, by decide, by decide⟩ ?F (fun _ _ _ _ _ z => z)
    intro w mg fa h Y G hmg0
    obtain ⟨K, KX, c⟩ := Y
    have hmg : mg ("law" : PySem.Str) = some (.ref fa) := by
      have e : (HandSHeadRun.topDef (OpenLaw.row PySem.Challenge.rw_pulseshare_k10_whole_under_one_bound).prog 25).name = ("law" : PySem.Str) := by kernel_rfl
      rw [← e]
      exact hmg0
    exact ⟨K, KX, My.facts KX G hmg c⟩
