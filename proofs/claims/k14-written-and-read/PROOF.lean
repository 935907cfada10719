import PyProof.Rows.All
import Wide.All
import OpenK.AllK
import Wide.FinOn
import HandS.ForMost
import HandS.Wide
import HandS.WideBits
import HandS.IsInst
import HandS.Codes
import KE.KStateDown
import HandS.ExcIs
import HandS.WordsExc
import HandS.Defaults
import HandS.Head0
import HandS.Head1
import HandS.Head2
import HandS.HeadEnd
import HandS.HeadHook1
import HandS.HeadHook2
import HandS.HeadHook3
import HandS.HeadHook4
import HandS.HeadWalk
import HandS.EndTab
import HandS.Lambda
import HandS.Walk
import HandS.Text
import HandS.StrMore
import HandS.ExcInit
import HandS.ExcField
import KE.KExcIs
import PyProof.Draws
import PyProof.StrWalks
import PyProof.EnumMake
import PyProof.StrOps2
import PyProof.Rows.StrMul
import PySem.Challenge.RW_pulseshare_k14_written_and_read
set_option Elab.async false
set_option linter.all false
set_option maxRecDepth 100000
set_option maxHeartbeats 4000000
namespace My
open PySem PySem.Spec PyProof.Rows LamX L2
def top (i : Nat) : Stmt := PySem.Challenge.pw_pulseshare_k14_written_and_read.main.body.getD i (.Pass ⟨0, 0, 0, 0⟩)
/-! ### calls in short -/
/-- a def of the text, where it stands, and how its arguments bind -/
structure FunG (K : PySem.W.Frag) (mg : Str → Option Value) (x : Str) (st : Stmt) (f : Addr) (fd : FuncData) (ps : List Str) : Prop where
  fn : Fun K x x st f fd
  mgf : mg x = some (.ref f)
  b : Binds K fd ps []
/-- a def that may be called by its name -/
structure Cl (P : Program) (w : World) (K : PySem.W.Frag) (mg : Str → Option Value) (base : Heap) (CX : CXT) (k : Nat) (x : Str) (sp : Sp) : Prop where
  ex : ∃ (f : Addr) (fd : FuncData) (ps : List Str), FnOk P w K mg base CX k f fd ps sp ∧ mg x = some (.ref f) ∧ PySem.W.keepIn K (.ref f) = true ∧ Binds K fd ps []
theorem FunG.cl {P : Program} {w : World} {K : PySem.W.Frag} {mg : Str → Option Value} {base : Heap} {CX : CXT} {k : Nat} {x : Str} {st : Stmt} {f : Addr} {fd : FuncData} {ps : List Str} {sp : Sp} (F : FunG K mg x st f fd ps) (h : FnOk P w K mg base CX k f fd ps sp) :
    Cl P w K mg base CX k x sp := ⟨f, fd, ps, h, F.mgf, F.fn.kp, F.b⟩
section
variable {X : Cx} {k j : Nat} {x : Str} {p pos : Pos} {e : Expr} {es : List Expr} {t : TA} {sp : Sp}
theorem pe_cl (c : Cl X.prog X.w X.K X.mg X.base CX0 k x sp) (hr : Room j X.A) (hk : k ≤ j) (hg : Gl X x) (ha : PA X (e :: es) t)
    (hdb : (x == ("__debug__" : Str)) = false := by decide) (he : starEach (e :: es) X.env = (false, eval e X.env) :: starEach es X.env := by rfl) (hpl : (backTo pos (starEach es X.env)).any (·.1) = false := by rfl) :
    PE X (.Call (.Name x p) (e :: es) [] pos) (tCall sp [] E0 t) := by
  obtain ⟨f, fd, ps, F, hm, kp, b⟩ := c.ex
  exact pe_call F (hr.mono hk) hg hm kp b .nil pass0 ha hdb he hpl
end
/-! ### words -/
theorem iteFe {c : Bool} {A B : Prop} (h : c = false) (k : B) : if c = true then A else B := by
  subst h; exact iteF k
theorem iteTe {c : Bool} {A B : Prop} (h : c = true) (k : A) : if c = true then A else B := by
  subst h; exact iteT k
theorem iteJoin {c : Bool} {A B R : Prop} (hA : c = true → R → A) (hB : c = false → R → B) (r : R) : if c = true then A else B := by
  cases c with
  | true => exact iteT (hA rfl r)
  | false => exact iteF (hB rfl r)
theorem neqF {x y : V} (h : x = y) : (!decide (x = y)) = false := by rw [decide_eq_true h]; rfl
/-! ### rules with the written part said (within a comprehension's block it can't be found by unification) -/
section
variable (K : PySem.W.Frag) {X : Cx}
theorem ixL (h : X.K = K := by rfl) : IxR X (rIxL K) := h ▸ ix_list
theorem ixT (h : X.K = K := by rfl) : IxR X (rIxT K) := h ▸ ix_tup
theorem ixQ (h : X.K = K := by rfl) : IxR X (rIx K) := h ▸ ix_seq
theorem slL (h : X.K = K := by rfl) : SlR X (rSlL K) := h ▸ sl_list
theorem opEqD (hu : X.A.units + 64 < cLine) (h : X.K = K := by rfl) : OpR X (compareOp .Eq) (rEqD K) := h ▸ op_eqD hu
theorem opNeD (hu : X.A.units + 64 < cLine) (h : X.K = K := by rfl) : OpR X (compareOp .NotEq) (rNeD K) := h ▸ op_neD hu
theorem opInQ (h : X.K = K := by rfl) : OpR X (compareOp .In) (rIn K false) := h ▸ op_in_seq
theorem opNotInQ (h : X.K = K := by rfl) : OpR X (compareOp .NotIn) (rIn K true) := h ▸ op_notIn_seq
theorem piListK {tg l : Expr} {tl : TE} (hl : PE X l tl) (h : X.K = K := by rfl) : PI X tg l (iList K tl) := h ▸ pi_list hl
theorem clLen (h : X.K = K := by rfl) : CallR X (.builtin "len") (fun xs H Q => ∃ p ys, xs = [.ref p] ∧ (SqL K H p ys ∨ SqT K H p ys) ∧ Q (.int ys.length) H) := h ▸ call_len_seq
theorem clList (h : X.K = K := by rfl) : CallR X (.type "list") (fun xs H Q => ∃ p ys, xs = [.ref p] ∧ (SqL K H p ys ∨ SqT K H p ys) ∧ ∀ l, H l = none → Q (.ref l) (upd H l (.lst ys))) := h ▸ call_list_of
theorem clSum (hc : X.calm = true) (h : X.K = K := by rfl) : CallR X (.builtin "sum") (rSum K) := h ▸ cr_sum hc
theorem clMax (hc : X.calm = true) (h : X.K = K := by rfl) : CallR X (.builtin "max") (rMax K) := h ▸ cr_max hc
theorem clMin (hc : X.calm = true) (h : X.K = K := by rfl) : CallR X (.builtin "min") (rMin K) := h ▸ cr_min hc
end
theorem units1 {n : Nat} (h : n + 64 < cLine) : n + 1 < cLine := by omega
/-! ### the drawing state -/
/-- [script, cells begun, mixed, left of a cell] -/
def StO (a : Addr) (i m c : Int) : HO := .lst [.ref a, .int i, .int m, .int c]
structure Drw (i m c : Int) : Prop where
  i0 : 0 ≤ i
  m0 : 0 ≤ m
  m1 : m < 2147483647
  c0 : 0 ≤ c
/-- all but the state is kept -/
def Keep (st : Addr) (H H' : Hp) : Prop := ∀ b o, b ≠ st → H b = some o → H' b = some o
/-- the state at st is good: its script is the list at a of the ints ns -/
structure SOk (K : PySem.W.Frag) (a : Addr) (ns : List Int) (st : Addr) (H : Hp) : Prop where
  len : ns.length ≤ 63
  sq : ∀ H', Keep st H H' → SqL K H' a (ns.map V.int)
  at_ : ∃ i m c, Drw i m c ∧ H st = some (StO a i m c)
section
variable {K : PySem.W.Frag} {a st p : Addr} {ns : List Int} {H H1 H2 : Hp} {o u : HO} {xs : List V}
theorem Keep.refl (st : Addr) (H : Hp) : Keep st H H := fun _ _ _ h => h
theorem Keep.trans (h : Keep st H H1) (h' : Keep st H1 H2) : Keep st H H2 := fun b o hb e => h' b o hb (h b o hb e)
theorem Keep.new (h : Keep st H H1) (hp : H1 p = none) : Keep st H (upd H1 p o) := fun b u hb e => by
  rw [upd_ne (ne_of_none (h b u hb e) hp)]; exact h b u hb e
theorem Keep.mut (h : Keep st H H1) (hp : H p = none) : Keep st H (upd H1 p o) := fun b u hb e => by
  rw [upd_ne (ne_of_none e hp)]; exact h b u hb e
theorem Keep.atSt (h : Keep st H H1) : Keep st H (upd H1 st o) := fun b u hb e => by
  rw [upd_ne hb]; exact h b u hb e
theorem Keep.free (h : Keep st H H1) (hp : p ≠ st) (e : H1 p = none) : H p = none := by
  cases q : H p with
  | none => rfl
  | some o => rw [h p o hp q] at e; cases e
theorem _root_.L2.Same.keep (h : Same H H1) : Keep st H H1 := fun b u _ e => h b u e
theorem _root_.L2.Same.new (h : Same H H1) (hp : H1 p = none) : Same H (upd H1 p o) := fun b u e => by
  rw [upd_ne (ne_of_none (h b u e) hp)]; exact h b u e
theorem _root_.L2.Same.mut (h : Same H H1) (hp : H p = none) : Same H (upd H1 p o) := fun b u e => by
  rw [upd_ne (ne_of_none e hp)]; exact h b u e
theorem _root_.L2.Same.upd (hp : H p = none) : Same H (upd H p o) := (Same.refl H).new hp
/-- the base heap, in which the state does not stand, is kept -/
theorem _root_.L2.Same.keepAll (h : Same H H1) (hst : H st = none) (k : Keep st H1 H2) : Same H H2 := fun b u e => k b u (ne_of_none e hst) (h b u e)
theorem SOk.now (s : SOk K a ns st H) : SqL K H a (ns.map V.int) := s.sq H (Keep.refl st H)
/-- a script that stood in H stands where all but the state is kept -/
theorem SOk.keep (s : SOk K a ns st H) (k : Keep st H H1) {i m c : Int} (d : Drw i m c) (h : H1 st = some (StO a i m c)) : SOk K a ns st H1 := ⟨s.len, fun H' k' => s.sq H' (k.trans k'), i, m, c, d, h⟩
theorem SOk.same (s : SOk K a ns st H) (k : Same H H1) : SOk K a ns st H1 := by
  obtain ⟨i, m, c, d, h⟩ := s.at_
  exact s.keep k.keep d (k _ _ h)
theorem SOk.new (s : SOk K a ns st H) (hp : H p = none) : SOk K a ns st (L2.upd H p o) := s.same (Same.upd hp)
/-- the state's making -/
theorem SOk.make (hl : ns.length ≤ 63) (hq : SqL K H a (ns.map V.int)) (hst : H st = none) {i m c : Int} (d : Drw i m c) : SOk K a ns st (L2.upd H st (StO a i m c)) :=
  ⟨hl, fun _ k' => ((Same.upd hst).keepAll hst k').seq hq, i, m, c, d, upd_same⟩
/-- a list that did not stand in the base heap H0 is changed -/
theorem SOk.mut {H0 : Hp} (s : SOk K a ns st H) (hq : SqL K H0 a (ns.map V.int)) (hst : H0 st = none) (k : Same H0 H) (hp : H0 p = none) (hps : p ≠ st) : SOk K a ns st (L2.upd H p o) := by
  obtain ⟨i, m, c, d, h⟩ := s.at_
  exact ⟨s.len, fun _ k' => ((k.mut hp).keepAll hst k').seq hq, i, m, c, d, by rw [upd_ne hps.symm]; exact h⟩
theorem SOk.ne_of (s : SOk K a ns st H) (hp : H p = none) : p ≠ st := by
  obtain ⟨i, m, c, d, h⟩ := s.at_
  exact (ne_of_none h hp).symm
/-- .. that did not stand in a heap with a good state -/
theorem SOk.mutK {H0 : Hp} (s : SOk K a ns st H) (s0 : SOk K a ns st H0) (k : Keep st H0 H) (hp : H0 p = none) : SOk K a ns st (L2.upd H p o) := by
  obtain ⟨i, m, c, d, h⟩ := s.at_
  have hps : p ≠ st := s0.ne_of hp
  exact ⟨s.len, fun H' k' => s0.sq H' ((k.mut hp).trans k'), i, m, c, d, by rw [upd_ne hps.symm]; exact h⟩
end
/-! ### lists of ints -/
theorem getV {ns : List Int} {i : Nat} {y : V} (h : (ns.map V.int)[i]? = some y) : ∃ z, ns[i]? = some z ∧ y = V.int z := by
  rw [List.getElem?_map] at h
  cases e : ns[i]? with
  | none => rw [e] at h; cases h
  | some z => rw [e] at h; exact ⟨z, rfl, (Option.some.inj h).symm⟩
theorem atV {ns : List Int} {z : Int} {j : Nat} (e : z = (j : Int)) (h : j < ns.length) : atI (ns.map V.int) z = some (V.int (ns.getD j 0)) := by
  refine at_of e ?_
  rw [List.getElem?_map, List.getElem?_eq_getElem h]
  simp [List.getD, List.getElem?_eq_getElem h]
theorem small_of {n m : Nat} (h : n ≤ m) (hm : m < 16000000 := by decide) : n < sizeLine := by rw [sizeLine_eq]; omega
theorem small_le {n m : Nat} (h : n ≤ m) (hm : m < 16000000 := by decide) : n ≤ sizeLine := by rw [sizeLine_eq]; omega
theorem nat_pow {z : Int} {n : Nat} (h0 : 0 ≤ z) (h1 : z < 2 ^ n) : z.natAbs < 2 ^ n := by
  have e : ((2 ^ n : Nat) : Int) = (2 : Int) ^ n := by simp
  omega
theorem pick3 {r : Int} (h0 : 0 ≤ r) (h1 : r < 3) : r = 0 ∨ r = 1 ∨ r = 2 := by omega
theorem pick4 {r : Int} (h0 : 0 ≤ r) (h1 : r < 4) : r = 0 ∨ r = 1 ∨ r = 2 ∨ r = 3 := by omega
theorem pick5 {r : Int} (h0 : 0 ≤ r) (h1 : r < 5) : r = 0 ∨ r = 1 ∨ r = 2 ∨ r = 3 ∨ r = 4 := by omega
/-! ### even frames -/
/-- beat k of the even frame of a share by a turn -/
def evB (b p t : Int) (k : Nat) : Int := ((k : Int) + 1 + t) * p / b - ((k : Int) + t) * p / b
def evL (b p t : Int) : List Int := (List.range b.toNat).map (evB b p t)
theorem evL_len (b p t : Int) : (evL b p t).length = b.toNat := by simp [evL]
/-- what is left beside wholes ahead of beat k -/
def evR (b p t : Int) (k : Nat) : Int := ((k : Int) + t) * p % b
theorem evR_range {b : Int} (hb : 0 < b) (p t : Int) (k : Nat) : 0 ≤ evR b p t k ∧ evR b p t k < b := ⟨Int.emod_nonneg _ (by omega), Int.emod_lt_of_pos _ hb⟩
theorem ev_step (b p t : Int) (k : Nat) : ((k : Int) + 1 + t) * p = ((k : Int) + t) * p + p := by
  rw [show (k : Int) + 1 + t = ((k : Int) + t) + 1 by omega, Int.add_mul, Int.one_mul]
/-- the beat by what is left -/
theorem evB_eq {b p : Int} (hb : 0 < b) (h0 : 0 ≤ p) (h1 : p ≤ b) (t : Int) (k : Nat) : evB b p t k = if b ≤ evR b p t k + p then 1 else 0 := by
  unfold evB evR
  rw [ev_step b]
  generalize ((k : Int) + t) * p = z
  have e := Int.mul_ediv_add_emod z b
  have r0 := Int.emod_nonneg z (show b ≠ 0 by omega)
  have r1 := Int.emod_lt_of_pos z hb
  have q : z + p = (z % b + p) + z / b * b := by rw [Int.mul_comm]; omega
  rw [q, Int.add_mul_ediv_right _ _ (show b ≠ 0 by omega)]
  by_cases c : b ≤ z % b + p
  · rw [if_pos c]
    have : (z % b + p) / b = 1 := by
      have e1 : z % b + p = (z % b + p - b) + 1 * b := by omega
      rw [e1, Int.add_mul_ediv_right _ _ (show b ≠ 0 by omega), Int.ediv_eq_zero_of_lt (by omega) (by omega)]
      omega
    omega
  · rw [if_neg c, Int.ediv_eq_zero_of_lt (by omega) (by omega)]
    omega
theorem evR_next {b p : Int} (hb : 0 < b) (h0 : 0 ≤ p) (h1 : p ≤ b) (t : Int) (k : Nat) : evR b p t (k + 1) = evR b p t k + p - b * evB b p t k := by
  rw [evB_eq hb h0 h1]
  unfold evR
  have e0 : (((k + 1 : Nat) : Int) + t) * p = ((k : Int) + t) * p + p := by
    have e1 : (((k + 1 : Nat) : Int) + t) = (k : Int) + 1 + t := by omega
    rw [e1, ev_step b]
  rw [e0]
  generalize ((k : Int) + t) * p = z
  have e := Int.mul_ediv_add_emod z b
  have r0 := Int.emod_nonneg z (show b ≠ 0 by omega)
  have r1 := Int.emod_lt_of_pos z hb
  have q : z + p = (z % b + p) + z / b * b := by rw [Int.mul_comm]; omega
  rw [q, Int.add_mul_emod_self_right]
  by_cases c : b ≤ z % b + p
  · rw [if_pos c]
    have e1 : z % b + p = (z % b + p - b) + 1 * b := by omega
    rw [e1, Int.add_mul_emod_self_right]
    by_cases c2 : z % b + p - b < b
    · rw [Int.emod_eq_of_lt (by omega) c2]; omega
    · omega
  · rw [if_neg c, Int.emod_eq_of_lt (by omega) (by omega)]; omega
theorem evB_01 {b p : Int} (hb : 0 < b) (h0 : 0 ≤ p) (h1 : p ≤ b) (t : Int) (k : Nat) : evB b p t k = 0 ∨ evB b p t k = 1 := by
  rw [evB_eq hb h0 h1]; split <;> simp
theorem evL_get {b p t : Int} {k : Nat} (h : k < b.toNat) : (evL b p t)[k]? = some (evB b p t k) := by
  unfold evL; simp [h]
theorem evL_take_sum (b p t : Int) : ∀ n : Nat, (((List.range n).map (evB b p t)).sum : Int) = ((n : Int) + t) * p / b - t * p / b
  | 0 => by simp
  | n + 1 => by
    rw [List.range_succ, List.map_append, List.sum_append, evL_take_sum b p t n]
    simp only [List.map_cons, List.map_nil, List.sum_cons, List.sum_nil, evB]
    have : (((n + 1 : Nat) : Int) + t) = (n : Int) + 1 + t := by omega
    rw [this]; omega
theorem evL_sum {b : Int} (hb : 0 < b) (p t : Int) : (evL b p t).sum = p := by
  unfold evL
  rw [evL_take_sum, Int.toNat_of_nonneg (by omega), Int.add_mul, Int.add_comm, Int.mul_comm b p, Int.add_mul_ediv_right _ _ (show b ≠ 0 by omega)]
  omega
/-! ### windows of frames -/
/-- beat k of a frame that goes round -/
def cyc (fs : List Int) (k : Nat) : Int := fs.getD (k % fs.length) 0
/-- the first k beats together, going round -/
def psum (fs : List Int) : Nat → Int
  | 0 => 0
  | k + 1 => psum fs k + cyc fs k
/-- how many are on in the window of w beats from k on -/
def win (fs : List Int) (w k : Nat) : Int := psum fs (k + w) - psum fs k
theorem cyc_add (fs : List Int) (k : Nat) : cyc fs (k + fs.length) = cyc fs k := by simp [cyc]
theorem cyc_lt {fs : List Int} {k : Nat} (h : k < fs.length) : cyc fs k = fs.getD k 0 := by simp [cyc, Nat.mod_eq_of_lt h]
theorem psum_take (fs : List Int) : ∀ k, k ≤ fs.length → psum fs k = (fs.take k).sum
  | 0, _ => by simp [psum]
  | k + 1, h => by
    have hk : k < fs.length := by omega
    rw [psum, psum_take fs k (by omega), cyc_lt hk, List.take_succ_eq_append_getElem hk, List.sum_append]
    simp [List.getD, List.getElem?_eq_getElem hk]
theorem psum_len (fs : List Int) : psum fs fs.length = fs.sum := by rw [psum_take fs _ (Nat.le_refl _), List.take_length]
theorem psum_add_len (fs : List Int) : ∀ k, psum fs (k + fs.length) = psum fs k + fs.sum
  | 0 => by rw [Nat.zero_add, psum_len]; simp [psum]
  | k + 1 => by
    rw [show k + 1 + fs.length = (k + fs.length) + 1 by omega, psum, psum_add_len fs k, cyc_add, psum]; omega
theorem psum_mul (fs : List Int) (r : Nat) : ∀ q : Nat, psum fs (q * fs.length + r) = fs.sum * q + psum fs r
  | 0 => by simp
  | q + 1 => by
    rw [show (q + 1) * fs.length + r = (q * fs.length + r) + fs.length by rw [Nat.add_mul]; omega, psum_add_len, psum_mul fs r q, Int.natCast_add, Int.mul_add]; simp; omega
theorem win_zero (fs : List Int) (w : Nat) : win fs w 0 = psum fs w := by simp [win, psum]
theorem win_next (fs : List Int) (w k : Nat) : win fs w (k + 1) = win fs w k - cyc fs k + cyc fs (k + w) := by
  unfold win
  rw [show k + 1 + w = (k + w) + 1 by omega, psum, psum]; omega
theorem win_first {fs : List Int} (w : Nat) : fs.sum * ((w / fs.length : Nat) : Int) + (fs.take (w % fs.length)).sum = win fs w 0 := by
  rw [win_zero]
  by_cases hn : fs.length = 0
  · have : fs = [] := List.eq_nil_of_length_eq_zero hn
    subst this
    have z : ∀ k, psum [] k = 0 := fun k => by
      induction k with
      | zero => rfl
      | succ k ih => rw [psum, ih]; simp [cyc]
    simp [z]
  · have e : w = (w / fs.length) * fs.length + w % fs.length := by rw [Nat.mul_comm]; exact (Nat.div_add_mod w fs.length).symm
    have hr : w % fs.length ≤ fs.length := Nat.le_of_lt (Nat.mod_lt _ (by omega))
    have h1 := psum_mul fs (w % fs.length) (w / fs.length)
    rw [← e] at h1
    rw [h1, psum_take fs _ hr]
theorem win_round (fs : List Int) (w k : Nat) : win fs w (k + fs.length) = win fs w k := by
  unfold win
  rw [show k + fs.length + w = (k + w) + fs.length by omega, psum_add_len, psum_add_len]; omega
theorem win_mod {fs : List Int} (w : Nat) : ∀ k, win fs w k = win fs w (k % fs.length) := by
  intro k
  have e := Nat.div_add_mod k fs.length
  have h : ∀ q r, win fs w (q * fs.length + r) = win fs w r := fun q r => by
    induction q with
    | zero => simp
    | succ q ih => rw [show (q + 1) * fs.length + r = (q * fs.length + r) + fs.length by rw [Nat.add_mul]; omega, win_round, ih]
  conv => lhs; rw [← e, Nat.mul_comm]
  exact h _ _
/-- all windows of a width -/
def wins (fs : List Int) (w : Nat) : List Int := (List.range fs.length).map (win fs w)
theorem wins_len (fs : List Int) (w : Nat) : (wins fs w).length = fs.length := by simp [wins]
theorem mem_wins {fs : List Int} {w : Nat} {x : Int} : x ∈ wins fs w ↔ ∃ k, k < fs.length ∧ win fs w k = x := by simp [wins]
theorem win_mem {fs : List Int} (h : 0 < fs.length) (w k : Nat) : win fs w k ∈ wins fs w := by
  rw [win_mod]
  exact mem_wins.mpr ⟨_, Nat.mod_lt _ h, rfl⟩
/-! sums over a round -/
def tsum (f : Nat → Int) (n : Nat) : Int := ((List.range n).map f).sum
theorem tsum_zero (f : Nat → Int) : tsum f 0 = 0 := rfl
theorem tsum_succ (f : Nat → Int) (n : Nat) : tsum f (n + 1) = tsum f n + f n := by
  unfold tsum; rw [List.range_succ, List.map_append, List.sum_append]; simp
theorem tsum_add (f g : Nat → Int) : ∀ n, tsum (fun k => f k + g k) n = tsum f n + tsum g n
  | 0 => rfl
  | n + 1 => by rw [tsum_succ, tsum_succ, tsum_succ, tsum_add f g n]; omega
theorem tsum_le {f g : Nat → Int} : ∀ n, (∀ k, k < n → f k ≤ g k) → tsum f n ≤ tsum g n
  | 0, _ => Int.le_refl _
  | n + 1, h => by
    rw [tsum_succ, tsum_succ]
    have := tsum_le n fun k hk => h k (by omega)
    have := h n (by omega)
    omega
theorem tsum_lt {f g : Nat → Int} : ∀ n, (∀ k, k < n → f k ≤ g k) → (∃ k, k < n ∧ f k < g k) → tsum f n < tsum g n
  | 0, _, ⟨k, hk, _⟩ => by omega
  | n + 1, h, ⟨k, hk, hl⟩ => by
    rw [tsum_succ, tsum_succ]
    have h1 := h n (by omega)
    by_cases e : k = n
    · subst e
      have := tsum_le k fun j hj => h j (by omega)
      omega
    · have := tsum_lt n (fun j hj => h j (by omega)) ⟨k, by omega, hl⟩
      omega
theorem tsum_const (c : Int) : ∀ n : Nat, tsum (fun _ => c) n = n * c
  | 0 => by simp [tsum_zero]
  | n + 1 => by rw [tsum_succ, tsum_const c n, Int.natCast_add, Int.add_mul]; simp
theorem tsum_congr {f g : Nat → Int} (n : Nat) (h : ∀ k, k < n → f k = g k) : tsum f n = tsum g n := by
  have h1 := tsum_le n fun k hk => Int.le_of_eq (h k hk)
  have h2 := tsum_le n fun k hk => Int.le_of_eq (h k hk).symm
  omega
theorem psum_tsum (fs : List Int) : ∀ k, psum fs k = tsum (cyc fs) k
  | 0 => rfl
  | k + 1 => by rw [psum, tsum_succ, psum_tsum fs k]
theorem tsum_shift (fs : List Int) : ∀ d, tsum (fun k => cyc fs (k + d)) fs.length = fs.sum := by
  intro d
  have h : ∀ n, tsum (fun k => cyc fs (k + d)) n = psum fs (n + d) - psum fs d := fun n => by
    induction n with
    | zero => simp [tsum_zero]
    | succ n ih => rw [tsum_succ, ih, show n + 1 + d = (n + d) + 1 by omega, psum]; omega
  rw [h, Nat.add_comm, psum_add_len]; omega
/-- all windows of a width together -/
theorem wins_sum (fs : List Int) : ∀ w : Nat, tsum (win fs w) fs.length = w * fs.sum
  | 0 => by
    have h : tsum (win fs 0) fs.length = tsum (fun _ => (0 : Int)) fs.length := tsum_congr _ fun k _ => by simp [win]
    rw [h, tsum_const]; simp
  | w + 1 => by
    have h : tsum (win fs (w + 1)) fs.length = tsum (fun k => win fs w k + cyc fs (k + w)) fs.length := tsum_congr _ fun k _ => by
      unfold win
      rw [show k + (w + 1) = (k + w) + 1 by omega, psum]; omega
    rw [h, tsum_add, wins_sum fs w, tsum_shift, Int.natCast_add, Int.add_mul]; simp
/-! ### spread -/
/-- windows of each width up to the beats are at most one apart -/
def Spread (fs : List Int) : Prop := ∀ w, 1 ≤ w → w ≤ fs.length → ∀ i j, i < fs.length → j < fs.length → win fs w i - win fs w j ≤ 1
theorem Spread.near {fs : List Int} (h : Spread fs) (h0 : 0 < fs.length) (w i : Nat) (hw : w ≤ fs.length) : (fs.length : Int) * win fs w i - w * fs.sum < fs.length ∧ -(fs.length : Int) < (fs.length : Int) * win fs w i - w * fs.sum := by
  rcases Nat.eq_zero_or_pos w with e | hw0
  · subst e
    have : win fs 0 i = 0 := by simp [win]
    rw [this]; simp; omega
  rw [win_mod]
  have hi : i % fs.length < fs.length := Nat.mod_lt _ h0
  generalize i % fs.length = k at hi
  have s := wins_sum fs w
  have up : tsum (win fs w) fs.length < tsum (fun _ => win fs w k + 1) fs.length := tsum_lt _ (fun j hj => by have := h w hw0 hw j k hj hi; omega) ⟨k, hi, by omega⟩
  have dn : tsum (fun _ => win fs w k - 1) fs.length < tsum (win fs w) fs.length := tsum_lt _ (fun j hj => by have := h w hw0 hw k j hi hj; omega) ⟨k, hi, by omega⟩
  rw [tsum_const] at up dn
  rw [s] at up dn
  rw [Int.mul_add] at up
  rw [Int.mul_sub] at dn
  constructor <;> omega
/-- the least, the greatest of finitely many -/
theorem exists_max (f : Nat → Int) : ∀ n, 0 < n → ∃ k, k < n ∧ ∀ j, j < n → f j ≤ f k
  | 1, _ => ⟨0, by omega, fun j hj => by have : j = 0 := by omega
                                         subst this; exact Int.le_refl _⟩
  | n + 2, _ => by
    obtain ⟨k, hk, h⟩ := exists_max f (n + 1) (by omega)
    by_cases c : f k ≤ f (n + 1)
    · refine ⟨n + 1, by omega, fun j hj => ?_⟩
      by_cases e : j = n + 1
      · subst e; exact Int.le_refl _
      · exact Int.le_trans (h j (by omega)) c
    · refine ⟨k, by omega, fun j hj => ?_⟩
      by_cases e : j = n + 1
      · subst e; omega
      · exact h j (by omega)
/-- a spread frame is an even one -/
theorem Spread.even {fs : List Int} (h : Spread fs) (h0 : 0 < fs.length) : ∃ t : Nat, t < fs.length ∧ evL (fs.length : Int) fs.sum (t : Int) = fs := by
  obtain ⟨k0, hk0, hmax⟩ := exists_max (fun k => (fs.length : Int) * psum fs k - k * fs.sum) fs.length h0
  -- the greatest lies less than the beats above any
  have key : ∀ k, (fs.length : Int) * psum fs k - k * fs.sum ≤ (fs.length : Int) * psum fs k0 - k0 * fs.sum ∧ (fs.length : Int) * psum fs k0 - k0 * fs.sum < (fs.length : Int) * psum fs k - k * fs.sum + fs.length := by
    have base : ∀ k, k < fs.length → (fs.length : Int) * psum fs k - k * fs.sum ≤ (fs.length : Int) * psum fs k0 - k0 * fs.sum ∧ (fs.length : Int) * psum fs k0 - k0 * fs.sum < (fs.length : Int) * psum fs k - k * fs.sum + fs.length := by
      intro k hk
      refine ⟨hmax k hk, ?_⟩
      by_cases c : k ≤ k0
      · obtain ⟨d, rfl⟩ : ∃ d, k0 = k + d := ⟨k0 - k, by omega⟩
        have n := (h.near h0 d k (by omega)).1
        unfold win at n
        rw [Int.mul_sub] at n
        rw [Int.natCast_add, Int.add_mul]
        omega
      · obtain ⟨d, rfl⟩ : ∃ d, k = k0 + d := ⟨k - k0, by omega⟩
        have n := (h.near h0 d k0 (by omega)).2
        unfold win at n
        rw [Int.mul_sub] at n
        rw [Int.natCast_add, Int.add_mul]
        omega
    intro k
    have e := Nat.div_add_mod k fs.length
    have hk := base (k % fs.length) (Nat.mod_lt _ h0)
    have h1 := psum_mul fs (k % fs.length) (k / fs.length)
    rw [Nat.mul_comm, ] at e
    rw [e] at h1
    have e2 : (k : Int) = (k / fs.length : Nat) * (fs.length : Int) + (k % fs.length : Nat) := by
      have := congrArg (fun z : Nat => (z : Int)) e
      simp only [Int.natCast_add, Int.natCast_mul] at this
      omega
    have e3 : (fs.length : Int) * psum fs k - k * fs.sum = (fs.length : Int) * psum fs (k % fs.length) - (k % fs.length : Nat) * fs.sum := by
      rw [h1]
      have : (k : Int) * fs.sum = (k / fs.length : Nat) * (fs.length : Int) * fs.sum + (k % fs.length : Nat) * fs.sum := by
        rw [← Int.add_mul]; congr 1
      rw [this, Int.mul_add, show (fs.length : Int) * (fs.sum * ((k / fs.length : Nat) : Int)) = ((k / fs.length : Nat) : Int) * (fs.length : Int) * fs.sum by
        rw [Int.mul_comm fs.sum, ← Int.mul_assoc, Int.mul_comm (fs.length : Int)]]
      omega
    rw [e3]; exact hk
  -- so the sums are floors
  have floor : ∀ k : Nat, psum fs k = ((k : Int) - k0) * fs.sum / fs.length + psum fs k0 := by
    intro k
    obtain ⟨a, b⟩ := key k
    have hn : (0 : Int) < fs.length := by omega
    have e : ((k : Int) - k0) * fs.sum = (fs.length : Int) * (psum fs k - psum fs k0) + (((fs.length : Int) * psum fs k0 - k0 * fs.sum) - ((fs.length : Int) * psum fs k - k * fs.sum)) := by
      rw [Int.sub_mul, Int.mul_sub]; omega
    rw [e, Int.add_comm ((fs.length : Int) * _), Int.add_mul_ediv_left _ _ (by omega), Int.ediv_eq_zero_of_lt (by omega) (by omega)]
    omega
  refine ⟨(fs.length - k0) % fs.length, Nat.mod_lt _ h0, ?_⟩
  -- the turn: less k0, going round
  have turn : ∀ k : Nat, evB (fs.length : Int) fs.sum (((fs.length - k0) % fs.length : Nat) : Int) k = evB (fs.length : Int) fs.sum (-(k0 : Int)) k := by
    intro k
    by_cases c : k0 = 0
    · subst c; simp
    · rw [Nat.mod_eq_of_lt (by omega)]
      have hn : (fs.length : Int) ≠ 0 := by omega
      unfold evB
      have e1 : ((k : Int) + 1 + ((fs.length - k0 : Nat) : Int)) * fs.sum = ((k : Int) + 1 + -(k0 : Int)) * fs.sum + fs.length * fs.sum := by
        rw [← Int.add_mul]; congr 1; omega
      have e2 : ((k : Int) + ((fs.length - k0 : Nat) : Int)) * fs.sum = ((k : Int) + -(k0 : Int)) * fs.sum + fs.length * fs.sum := by
        rw [← Int.add_mul]; congr 1; omega
      rw [e1, e2, Int.add_mul_ediv_left _ _ hn, Int.add_mul_ediv_left _ _ hn]
      omega
  apply List.ext_getElem
  · rw [evL_len]; simp
  · intro k h1 h2
    have hk : k < ((fs.length : Nat) : Int).toNat := by simpa [evL_len] using h1
    have g : (evL (fs.length : Int) fs.sum (((fs.length - k0) % fs.length : Nat) : Int))[k]? = some (evB (fs.length : Int) fs.sum (((fs.length - k0) % fs.length : Nat) : Int) k) := evL_get hk
    rw [List.getElem?_eq_getElem h1] at g
    rw [Option.some.inj g, turn]
    unfold evB
    have f1 := floor (k + 1)
    have f0 := floor k
    rw [psum, cyc_lt h2] at f1
    have e1 : ((k + 1 : Nat) : Int) - k0 = (k : Int) + 1 + -(k0 : Int) := by omega
    have e0 : (k : Int) - k0 = (k : Int) + -(k0 : Int) := by omega
    rw [e1] at f1
    rw [e0] at f0
    have : fs.getD k 0 = fs[k] := by simp [List.getD, List.getElem?_eq_getElem h2]
    omega
/-! ### windows of even frames -/
theorem evL_cyc {b p t : Int} (hb : 0 < b) (k : Nat) : cyc (evL b p t) k = evB b p t k := by
  have hl : (evL b p t).length = b.toNat := evL_len b p t
  have h0 : 0 < (evL b p t).length := by omega
  unfold cyc
  have g := evL_get (b := b) (p := p) (t := t) (k := k % (evL b p t).length) (by have := Nat.mod_lt k h0; omega)
  rw [List.getD, g, Option.getD_some]
  have e := Nat.div_add_mod k (evL b p t).length
  generalize k % (evL b p t).length = r at e
  generalize k / (evL b p t).length = q at e
  subst e
  unfold evB
  have e1 : (((evL b p t).length * q + r : Nat) : Int) = b * (q : Int) + (r : Int) := by rw [hl]; simp [Int.toNat_of_nonneg (Int.le_of_lt hb)]
  have e2 : ((b * (q : Int) + (r : Int)) + 1 + t) * p = ((r : Int) + 1 + t) * p + b * ((q : Int) * p) := by
    rw [show (b * (q : Int) + (r : Int)) + 1 + t = ((r : Int) + 1 + t) + b * (q : Int) by omega, Int.add_mul, Int.mul_assoc]
  have e3 : ((b * (q : Int) + (r : Int)) + t) * p = ((r : Int) + t) * p + b * ((q : Int) * p) := by
    rw [show (b * (q : Int) + (r : Int)) + t = ((r : Int) + t) + b * (q : Int) by omega, Int.add_mul, Int.mul_assoc]
  rw [e1, e2, e3, Int.add_mul_ediv_left _ _ (show b ≠ 0 by omega), Int.add_mul_ediv_left _ _ (show b ≠ 0 by omega)]
  omega
theorem evL_psum {b p t : Int} (hb : 0 < b) : ∀ k : Nat, psum (evL b p t) k = ((k : Int) + t) * p / b - t * p / b
  | 0 => by simp [psum]
  | k + 1 => by
    rw [psum, evL_psum hb k, evL_cyc hb, evB]
    have e1 : (((k + 1 : Nat) : Int) + t) = (k : Int) + 1 + t := by omega
    rw [e1]; omega
theorem evL_win {b p t : Int} (hb : 0 < b) (w k : Nat) : win (evL b p t) w k = (((k : Int) + t) * p + (w : Int) * p) / b - ((k : Int) + t) * p / b := by
  unfold win
  rw [evL_psum hb, evL_psum hb]
  have e : (((k + w : Nat) : Int) + t) * p = ((k : Int) + t) * p + (w : Int) * p := by
    rw [← Int.add_mul]; congr 1; omega
  rw [e]; omega
theorem div_part {x y b : Int} (hb : 0 < b) : y / b ≤ (x + y) / b - x / b ∧ (x + y) / b - x / b ≤ y / b + 1 := by
  have ex := Int.mul_ediv_add_emod x b
  have ey := Int.mul_ediv_add_emod y b
  have rx0 := Int.emod_nonneg x (show b ≠ 0 by omega)
  have rx1 := Int.emod_lt_of_pos x hb
  have ry0 := Int.emod_nonneg y (show b ≠ 0 by omega)
  have ry1 := Int.emod_lt_of_pos y hb
  have q : x + y = (x % b + y % b) + b * (x / b + y / b) := by rw [Int.mul_add]; omega
  rw [q, Int.add_mul_ediv_left _ _ (show b ≠ 0 by omega)]
  by_cases c : x % b + y % b < b
  · rw [Int.ediv_eq_zero_of_lt (by omega) c]; omega
  · have : (x % b + y % b) / b = 1 := by
      have e1 : x % b + y % b = (x % b + y % b - b) + b * 1 := by omega
      rw [e1, Int.add_mul_ediv_left _ _ (show b ≠ 0 by omega), Int.ediv_eq_zero_of_lt (by omega) (by omega)]; omega
    omega
/-- the windows of an even frame have the width's part, down to a whole one, or one more -/
theorem evL_part {b p t : Int} (hb : 0 < b) (w k : Nat) : (w : Int) * p / b ≤ win (evL b p t) w k ∧ win (evL b p t) w k ≤ (w : Int) * p / b + 1 := by
  rw [evL_win hb]; exact div_part hb
theorem evL_spread {b p t : Int} (hb : 0 < b) : Spread (evL b p t) := fun w _ _ i j _ _ => by
  have h1 := evL_part (p := p) (t := t) hb w i
  have h2 := evL_part (p := p) (t := t) hb w j
  omega
/-- all as many just where beats go into the width times the pulses -/
theorem evL_exact {b p t : Int} (hb : 0 < b) (w : Nat) : (∀ i j, i < b.toNat → j < b.toNat → win (evL b p t) w i = win (evL b p t) w j) ↔ (w : Int) * p % b = 0 := by
  have hl := evL_len b p t
  constructor
  · intro h
    have s := wins_sum (evL b p t) w
    rw [evL_sum hb, hl] at s
    have c : tsum (win (evL b p t) w) b.toNat = tsum (fun _ => win (evL b p t) w 0) b.toNat := tsum_congr _ fun k hk => h k 0 hk (by omega)
    rw [c, tsum_const, Int.toNat_of_nonneg (by omega)] at s
    rw [← s]
    exact Int.mul_emod_right b _
  · intro h i j _ _
    have e := Int.mul_ediv_add_emod ((w : Int) * p) b
    rw [h] at e
    rw [evL_win hb, evL_win hb]
    have e2 : (w : Int) * p = b * ((w : Int) * p / b) := by omega
    rw [e2, Int.add_mul_ediv_left _ _ (show b ≠ 0 by omega), Int.add_mul_ediv_left _ _ (show b ≠ 0 by omega)]
    omega
/-! ### windows cut out of a frame laid several times -/
def around (fs : List Int) (m : Nat) : List Int := (List.replicate m fs).flatten
theorem around_len (fs : List Int) (m : Nat) : (around fs m).length = m * fs.length := by simp [around]
theorem around_succ (fs : List Int) (m : Nat) : around fs (m + 1) = fs ++ around fs m := by simp [around, List.replicate_succ]
theorem around_take (fs : List Int) : ∀ (m k : Nat), k ≤ m * fs.length → ((around fs m).take k).sum = psum fs k
  | 0, k, h => by
    have : k = 0 := by omega
    subst this; simp [psum]
  | m + 1, k, h => by
    rw [around_succ]
    by_cases c : k ≤ fs.length
    · rw [List.take_append_of_le_length c, psum_take fs k c]
    · obtain ⟨d, rfl⟩ : ∃ d, k = fs.length + d := ⟨k - fs.length, by omega⟩
      rw [List.take_append, List.sum_append, List.take_of_length_le (by omega), show fs.length + d - fs.length = d by omega, around_take fs m d (by rw [Nat.add_mul] at h; omega), Nat.add_comm fs.length d, psum_add_len]
      omega
theorem drop_take_sum (l : List Int) (k w : Nat) : ((l.drop k).take w).sum = (l.take (k + w)).sum - (l.take k).sum := by
  rw [List.take_add, List.sum_append]; omega
theorem around_win {fs : List Int} {m k w : Nat} (h : k + w ≤ m * fs.length) : (((around fs m).drop k).take w).sum = win fs w k := by
  rw [drop_take_sum, around_take fs m _ h, around_take fs m k (by omega)]; rfl
/-! ### turns of a frame -/
def TS (fs : List Int) (n : Nat) : List Nat := (List.range n).filter fun j => decide (evL (fs.length : Int) fs.sum (j : Int) = fs)
theorem TS_succ (fs : List Int) (n : Nat) : TS fs (n + 1) = if evL (fs.length : Int) fs.sum (n : Int) = fs then TS fs n ++ [n] else TS fs n := by
  unfold TS
  rw [List.range_succ, List.filter_append]
  by_cases c : evL (fs.length : Int) fs.sum (n : Int) = fs
  · rw [if_pos c]; simp [c]
  · rw [if_neg c]; simp [c]
theorem TS_none {fs : List Int} : ∀ {n : Nat}, (∀ j, j < n → evL (fs.length : Int) fs.sum (j : Int) ≠ fs) → TS fs n = []
  | 0, _ => rfl
  | n + 1, h => by rw [TS_succ, if_neg (h n (by omega)), TS_none fun j hj => h j (by omega)]
theorem TS_first {fs : List Int} {t : Nat} (ht : evL (fs.length : Int) fs.sum (t : Int) = fs) (hn : ∀ j, j < t → evL (fs.length : Int) fs.sum (j : Int) ≠ fs) : ∀ n, t < n → ∃ r, TS fs n = t :: r
  | 0, h => absurd h (Nat.not_lt_zero _)
  | n + 1, h => by
    rw [TS_succ]
    by_cases e : t = n
    · subst e
      rw [if_pos ht, TS_none hn]
      exact ⟨[], rfl⟩
    · obtain ⟨r, hr⟩ := TS_first ht hn n (by omega)
      rw [hr]
      split
      · exact ⟨_, rfl⟩
      · exact ⟨_, rfl⟩
theorem TS_len (fs : List Int) (n : Nat) : (TS fs n).length ≤ n := by
  unfold TS
  have := List.length_filter_le (fun j : Nat => decide (evL (fs.length : Int) fs.sum (j : Int) = fs)) (List.range n)
  rw [List.length_range] at this
  exact this
theorem TS_ne {fs : List Int} {n : Nat} : TS fs n ≠ [] ↔ ∃ t, t < n ∧ evL (fs.length : Int) fs.sum (t : Int) = fs := by
  constructor
  · intro h
    obtain ⟨t, ht⟩ := List.exists_mem_of_ne_nil _ h
    unfold TS at ht
    obtain ⟨h1, h2⟩ := List.mem_filter.mp ht
    exact ⟨t, List.mem_range.mp h1, of_decide_eq_true h2⟩
  · rintro ⟨t, ht, e⟩ h
    have : t ∈ TS fs n := List.mem_filter.mpr ⟨List.mem_range.mpr ht, decide_eq_true e⟩
    rw [h] at this
    cases this
/-- a frame is spread just where some turn tells it -/
theorem spread_iff {fs : List Int} (h0 : 0 < fs.length) : Spread fs ↔ TS fs fs.length ≠ [] := by
  rw [TS_ne]
  constructor
  · exact fun h => h.even h0
  · rintro ⟨t, _, e⟩
    rw [← e]
    exact evL_spread (by omega)
def SpreadTo (fs : List Int) (n : Nat) : Prop := ∀ w, 1 ≤ w → w ≤ n → ∀ i j, i < fs.length → j < fs.length → win fs w i - win fs w j ≤ 1
theorem SpreadTo.zero (fs : List Int) : SpreadTo fs 0 := fun w h1 h2 => by omega
theorem spreadTo_succ {fs : List Int} {n : Nat} {lo hi : Int} (l1 : lo ∈ wins fs (n + 1)) (l2 : ∀ y, y ∈ wins fs (n + 1) → lo ≤ y) (h1 : hi ∈ wins fs (n + 1)) (h2 : ∀ y, y ∈ wins fs (n + 1) → y ≤ hi) : SpreadTo fs (n + 1) ↔ SpreadTo fs n ∧ hi - lo < 2 := by
  constructor
  · intro h
    refine ⟨fun w a b => h w a (by omega), ?_⟩
    obtain ⟨i, hi', rfl⟩ := mem_wins.mp l1
    obtain ⟨j, hj, rfl⟩ := mem_wins.mp h1
    have := h (n + 1) (by omega) (Nat.le_refl _) j i hj hi'
    omega
  · rintro ⟨h, d⟩ w a b i j hi' hj
    by_cases e : w = n + 1
    · subst e
      have := l2 _ (mem_wins.mpr ⟨j, hj, rfl⟩)
      have := h2 _ (mem_wins.mpr ⟨i, hi', rfl⟩)
      omega
    · exact h w a (by omega) i j hi' hj
/-! ### data of ints -/
def dI (ns : List Int) : PyData := .list (ns.map PyData.int)
theorem dI_layA : ∀ ns : List Int, PyData.canLayAll0 (ns.map PyData.int) = true
  | [] => by simp [PyData.canLayAll0]
  | z :: zs => by simp [PyData.canLayAll0, PyData.canLay0, dI_layA zs]
theorem dI_depthA : ∀ ns : List Int, PyData.depthAll (ns.map PyData.int) ≤ 1
  | [] => by simp [PyData.depthAll]
  | z :: zs => by
    have h1 := dI_depthA zs
    simp only [List.map_cons, PyData.depthAll, PyData.depth]
    omega
theorem dI_shaped (ns : List Int) : SeqAt.shaped (dI ns) = true := by
  have h1 := dI_depthA ns
  have h2 : PyData.depth (dI ns) ≤ 64 := by
    unfold dI
    simp only [PyData.depth]
    omega
  show (PyData.canLay0 (dI ns) && decide (PyData.depth (dI ns) ≤ 64)) = true
  rw [Bool.and_eq_true]
  exact ⟨by unfold dI; simp only [PyData.canLay0]; exact dI_layA ns, decide_eq_true h2⟩
theorem dI_eqvA : ∀ ns ms : List Int, PyData.eqvAll (ns.map PyData.int) (ms.map PyData.int) = decide (ns = ms)
  | [], [] => by simp [PyData.eqvAll]
  | [], _ :: _ => by simp [PyData.eqvAll]
  | _ :: _, [] => by simp [PyData.eqvAll]
  | n :: ns, m :: ms => by
    rw [List.map_cons, List.map_cons, PyData.eqvAll, dI_eqvA ns ms]
    by_cases e : n = m
    · subst e; simp [PyData.eqv]
    · simp [PyData.eqv, e]
theorem dI_eqv (ns ms : List Int) : PyData.eqv (dI ns) (dI ms) = decide (ns = ms) := by
  unfold dI
  simp only [PyData.eqv]
  exact dI_eqvA ns ms
theorem dpA_ints {K : PySem.W.Frag} {H : Hp} : ∀ ns : List Int, DpAll K H (ns.map V.int) (ns.map PyData.int)
  | [] => .nil
  | n :: ns => .cons (.int n) (dpA_ints ns)
theorem dp_ints {K : PySem.W.Frag} {H : Hp} {a : Addr} {ns : List Int} (h : SqL K H a (ns.map V.int)) : Dp K H (.ref a) (dI ns) := .lst h (dpA_ints ns)
theorem dp_nil {K : PySem.W.Frag} {H : Hp} {a : Addr} (h : SqL K H a []) : Dp K H (.ref a) (dI []) := dp_ints (ns := []) h
/-! ### cuts of lists of ints -/
theorem cut_to {ns : List Int} {k : Nat} (hk : k ≤ ns.length) : cutV (ns.map V.int) none (some (k : Int)) = (ns.take k).map V.int := by
  unfold cutV
  rw [HT.sIx_none, HT.sIx_nat, List.length_map, Nat.min_eq_left hk, List.drop_zero, Nat.sub_zero, List.map_take]
theorem cut_from {ns : List Int} {k : Nat} (hk : k ≤ ns.length) : cutV (ns.map V.int) (some (k : Int)) none = (ns.drop k).map V.int := by
  unfold cutV
  rw [HT.sIx_none, HT.sIx_nat, List.length_map, Nat.min_eq_left hk, List.map_drop]
  exact List.take_of_length_le (by rw [List.length_drop, List.length_map]; exact Nat.le_refl _)
theorem cut_mid {ns : List Int} {i j : Nat} (hi : i ≤ j) (hj : j ≤ ns.length) : cutV (ns.map V.int) (some (i : Int)) (some (j : Int)) = ((ns.drop i).take (j - i)).map V.int := by
  unfold cutV
  rw [HT.sIx_nat, HT.sIx_nat, List.length_map, Nat.min_eq_left (show i ≤ ns.length by omega), Nat.min_eq_left hj, List.map_take, List.map_drop]
/-! ### frames -/
structure Frm (fs : List Int) : Prop where
  pos : 0 < fs.length
  le : fs.length ≤ 64
  bit : ∀ f ∈ fs, f = 0 ∨ f = 1
theorem bits_sum : ∀ {fs : List Int}, (∀ f ∈ fs, f = 0 ∨ f = 1) → 0 ≤ fs.sum ∧ fs.sum ≤ fs.length
  | [], _ => by simp
  | f :: fs, h => by
    have h1 := bits_sum (fs := fs) fun g hg => h g (List.mem_cons_of_mem _ hg)
    have h2 := h f List.mem_cons_self
    rw [List.sum_cons, List.length_cons]
    omega
theorem Frm.sum {fs : List Int} (h : Frm fs) : 0 ≤ fs.sum ∧ fs.sum ≤ fs.length := bits_sum h.bit
theorem Frm.getD {fs : List Int} (h : Frm fs) (k : Nat) : fs.getD k 0 = 0 ∨ fs.getD k 0 = 1 := by
  by_cases c : k < fs.length
  · have e : fs.getD k 0 = fs[k] := by simp [List.getD, List.getElem?_eq_getElem c]
    rw [e]
    exact h.bit _ (List.getElem_mem c)
  · left
    simp [List.getD, List.getElem?_eq_none (Nat.le_of_not_lt c)]
theorem evL_frm {b p : Int} (b0 : 1 ≤ b) (b1 : b ≤ 64) (p0 : 0 ≤ p) (p1 : p ≤ b) (t : Int) : Frm (evL b p t) := by
  refine ⟨by rw [evL_len]; omega, by rw [evL_len]; omega, fun f hf => ?_⟩
  unfold evL at hf
  obtain ⟨k, _, rfl⟩ := List.mem_map.mp hf
  exact evB_01 (by omega) p0 p1 t k
def Lo (ws : List Int) (m : Int) : Prop := m ∈ ws ∧ ∀ y, y ∈ ws → m ≤ y
def Hi (ws : List Int) (m : Int) : Prop := m ∈ ws ∧ ∀ y, y ∈ ws → y ≤ m
theorem divP {i j : Int} {b : Nat} (h : 0 < j) (hb : j.natAbs < 2 ^ b) (h0 : 0 < b) (h9 : b ≤ 9000) : CDivP i j := ⟨h, PyProof.noPylong_of_log2 (Nat.lt_of_lt_of_le (PySem.Flt.log2_lt_of h0 hb) h9)⟩
/-! ### classes of the text -/
structure FunM (K : PySem.W.Frag) (m qual : Str) (st : Stmt) (f : Addr) (fd : FuncData) (ps : List Str) : Prop where
  fn : Fun K m qual st f fd
  b : Binds K fd ps []
/-- a class that may be made by its name; sp: its __init__ -/
structure ClI (P : Program) (w : World) (K : PySem.W.Frag) (mg : Str → Option Value) (base : Heap) (CX : CXT) (k : Nat) (x : Str) (C : Addr) (sp : Sp) : Prop where
  ex : ∃ (f : Addr) (fd : FuncData) (ps : List Str), Mk K C f ∧ FnOk P w K mg base CX k f fd ps sp ∧ mg x = some (.ref C) ∧ Binds K fd ps []
/-- a method of the class at C, at f -/
structure MtAt (P : Program) (w : World) (K : PySem.W.Frag) (mg : Str → Option Value) (base : Heap) (CX : CXT) (k : Nat) (C : Addr) (m : Str) (sp : Sp) (f : Addr) (fd : FuncData) (ps : List Str) : Prop where
  cl : Cls K C
  me : Meth K C m f
  ok : FnOk P w K mg base CX k f fd ps sp
  b : Binds K fd ps []
structure ClMt (P : Program) (w : World) (K : PySem.W.Frag) (mg : Str → Option Value) (base : Heap) (CX : CXT) (k : Nat) (C : Addr) (m : Str) (sp : Sp) : Prop where
  ex : ∃ (f : Addr) (fd : FuncData) (ps : List Str), MtAt P w K mg base CX k C m sp f fd ps
section
variable {X : Cx} {k j : Nat} {x m : Str} {p pos apos : Pos} {e o : Expr} {es : List Expr} {t : TA} {ta : TE} {sp : Sp} {C : Addr}
theorem pe_mkl (c : ClI X.prog X.w X.K X.mg X.base CX0 k x C sp) (hr : Room j X.A) (hk : k + 1 ≤ j) (hg : Gl X x) (ha : PA X (e :: es) t)
    (hdb : (x == ("__debug__" : Str)) = false := by decide) (he : starEach (e :: es) X.env = (false, eval e X.env) :: starEach es X.env := by rfl) (hpl : (backTo pos (starEach es X.env)).any (·.1) = false := by rfl) :
    PE X (.Call (.Name x p) (e :: es) [] pos) (tMake C sp [] E0 t) := by
  obtain ⟨f, fd, ps, M, F, hm, b⟩ := c.ex
  exact pe_make M F (hr.mono hk) hg hm b .nil pass0 ha hdb he hpl
/-- o.f = .. as a target -/
def gFld (K : PySem.W.Frag) (to : TE) (f : Str) : TG := fun v σ H Q => to σ H fun x H1 => ∃ a C dx fs, x = .ref a ∧ H1 a = some (.ins C dx fs) ∧ Cls K C ∧ NoAttr K C f ∧ fs.length < 1000 ∧ Q σ (upd H1 a (.ins C dx (putF f v fs)))
theorem pg_fld {f : Str} {to : TE} (ho : PE X o to) : PG X (.Attribute o f pos) (gFld X.K to f) := by
  refine ⟨fun pins s σ H v u Q I r h => ?_⟩
  rw [assign_Attribute]
  refine wpAny_bind (wpAny_holding (thn (ho.run pins s σ H _ I h) fun ov s1 ⟨x, H1, I1, r1, a, C, dx, fs, ex, ea, c, n, l, q⟩ => ?_))
  subst ex
  obtain rfl : ov = Value.ref a := r1
  refine wpAny_bind (wpAny_standAt (wpAny_bind (wpAny_holding (setattr_ok I1 ea c n l r fun s3 I3 => ?_))))
  exact wpAny_release ⟨σ, _, I3, q⟩
end
/-! ### rules for an except suite -/
def rIsK (K : PySem.W.Frag) (cls : Value) (d : Option Addr) (a : Addr) : List V → Hp → VK → Prop := fun xs H Q => ∃ (D : Addr) (c : V) (cv : Value) (b : Bool), cls = .ref D ∧ d = none ∧ ExcC K D ∧ xs = [.ref a, c] ∧ (∀ u, RelV c u → u = cv) ∧ PySem.W.kitOne K (.ref D) cv = some b ∧ Q (.bl b) H
theorem call_isK {X : Cx} {a : Addr} {cls : Value} {d : Option Addr} {oe : Obj} {pn : List (Addr × Obj)} (hz : Zc cls d oe) (hf : ∃ vs, oe.data = .fields vs) : CallR (X.suite a ((a, oe) :: pn)) (.builtin "isinstance") (rIsK X.K cls d a) := by
  intro pins s σ H xs us Q I r h
  obtain ⟨D, c, cv, b, rfl, rfl, C, e1, e2, e3, q⟩ := h
  exact call_isE C hz hf pins s σ H xs us Q I r ⟨c, cv, b, e1, e2, e3, q⟩
theorem pe_nev {X : Cx} {e : Expr} : PE X e (fun _ _ _ => False) := ⟨fun _ _ _ _ _ _ h => h.elim⟩
theorem eqU_count {y : V} {vs : List V} {us : List Value} (r : Vals vs us) (hf : vs.all flatV = true) : us.countP (eqU y) = vs.countP fun z => eqV z y := by
  induction vs generalizing us with
  | nil => cases r; rfl
  | cons v vs ih =>
    cases r with
    | cons h t =>
      rw [List.all_cons, Bool.and_eq_true] at hf
      rw [List.countP_cons, List.countP_cons, ih t hf.2, eqU_of h hf.1]
def rCntV (K : PySem.W.Frag) : V → List V → Hp → VK → Prop := fun x xs H Q => ∃ (a : Addr) (ys : List V) (y : V), x = .ref a ∧ xs = [y] ∧ SqL K H a ys ∧ flatV y = true ∧ ys.all flatV = true ∧ Q (.int ((ys.countP fun z => eqV z y : Nat) : Int)) H
theorem mt_cntV {X : Cx} : MtR X "list.count" (rCntV X.K) := by
  intro pins s σ H x xs v us Q I rx rxs h
  obtain ⟨a, ys, y, rfl, rfl, hs, fy, fys, q⟩ := h
  cases rx
  cases rxs with
  | cons ry rt =>
    rename_i uy ut
    cases rt
    obtain ⟨its, rv, ⟨⟨cls, dd, data, sl⟩, n, ho, hc, hdn, hd⟩, hlen⟩ := I.list hs
    simp only at hc hd
    subst hc hd
    refine call_meets PySem.F.slot_list_count ⟨_, ho, rfl⟩ PySem.F.entry_list_count (PySem.F.args_list_count_2 _ _)
      (SeqAt.list_countAt a its.toArray n dd sl uy (eqU y)) ⟨ho, fun u' hu' => mem_eqAt ry fy rv fys u' (by simpa using hu'), ?_⟩
    have ec : its.toArray.toList.countP (eqU y) = ys.countP fun z => eqV z y := eqU_count rv fys
    refine ⟨.int ((ys.countP fun z => eqV z y : Nat) : Int), H, I.tok _, ⟨s.toks, ?_⟩, q⟩
    show Value.int ((its.toArray.toList.countP (eqU y) : Nat) : Int) s.toks = Value.int ((ys.countP fun z => eqV z y : Nat) : Int) s.toks
    rw [ec]
section
variable (K : PySem.W.Frag) {X : Cx}
theorem mtCntK (h : X.K = K := by rfl) : MtR X "list.count" (rCntV K) := h ▸ mt_cntV
theorem mtIndexK (h : X.K = K := by rfl) : MtR X "list.index" (rIndex K) := h ▸ mt_index
theorem pe_bmK {T id : String} {nm : Str} {r : V → List V → Hp → VK → Prop} {o e : Expr} {es : List Expr} {to : TE} {t : TA} {apos cpos : Pos} (pa : PlainAttrs T) (slot : Slot T nm id) (hty : typeOf (.builtin id) = pure (.type "method_descriptor")) (hm : MtR X id r) (ho : PE X o to) (ha : PA X (e :: es) t)
    (hbase : attributeBase o nm X.env (eval o X.env) = eval o X.env := by rfl)
    (hfew : ((backTo cpos (starEach (e :: es) X.env)).all (fun x => !x.1) && (backToKw cpos (keywordEach [] X.env)).all (fun x => x.1.isSome)
      && decide ((e :: es).length + ([] : List Keyword).length + (if ([] : List Keyword).isEmpty then 0 else 1) < 30)) = true := by rfl)
    (hline : (apos.endLine == cpos.line) = true := by rfl) (hs : starEach (e :: es) X.env = (false, eval e X.env) :: starEach es X.env := by rfl) (hplain : (backTo cpos (starEach es X.env)).any (·.1) = false := by rfl) (h : X.K = K := by rfl) :
    PE X (.Call (.Attribute o nm apos) (e :: es) [] cpos) (tBM K T r to t) := h ▸ pe_bm pa slot hty hm ho ha hbase hfew hline hs hplain
end
/-- an own error's class, that may be raised -/
structure ExF (K : PySem.W.Frag) (mg : Str → Option Value) (n : Str) : Prop where
  g : mg n = some (.ref (He.ga K n))
  x : PySem.W.excIn K (He.ga K n) He.veBase "ValueError.__new__" = true
  k : PySem.W.keepIn K (.ref (He.ga K n)) = true
  b : PySem.W.subIn K (.ref (He.ga K n)) (.type "BaseException") = some true
  t : PySem.W.typeIn K (.ref (He.ga K n)) = some (.type "type")
/-- the slots' number is known -/
theorem pss_len {X : Cx} {b : List Stmt} {t : L2.TS} (n : Nat) (h : PSs X b t) (hn : X.N.length = n := by rfl) : PSs X b (fun D σ H => σ.length = n → t D σ H) := ⟨fun pins s σ H D I hw => h.run pins s σ H D I (hw (I.len.trans hn))⟩
theorem five {σ : L2.St} (h : σ.length = 5) : ∃ a b c d e, σ = [a, b, c, d, e] := by
  match σ, h with
  | [a, b, c, d, e], _ => exact ⟨a, b, c, d, e, rfl⟩
theorem noAhead (bs : List Bool) (j : Nat) (h : ((List.range j).all fun m => bs[m]? != some true) = true) : ∀ (m : Nat) (z' : V), m < j → (bs.map V.bl)[m]? = some z' → eqV z' (.bl true) = false := fun m z' hm hz => by
  rw [List.all_eq_true] at h
  have h1 := h m (List.mem_range.mpr hm)
  rw [List.getElem?_map] at hz
  cases e : bs[m]? with
  | none => rw [e] at hz; cases hz
  | some b =>
    rw [e] at hz h1
    cases hz
    cases b with
    | false => rfl
    | true => simp at h1
/-! ### calls of defs that may raise -/
section
variable {X : Cx} {k j : Nat} {x : Str} {p pos : Pos} {e : Expr} {es : List Expr} {t : TA} {sp : Sp} {E : XK}
theorem pe_clT (c : Cl X.prog X.w X.K X.mg X.base (L2.CX X.prog X.w) k x sp) (hr : Room j X.A) (hk : k ≤ j) (hx : Passes (L2.CX X.prog X.w) X E) (hg : Gl X x) (ha : PA X (e :: es) t)
    (hdb : (x == ("__debug__" : Str)) = false := by decide) (he : starEach (e :: es) X.env = (false, eval e X.env) :: starEach es X.env := by rfl) (hpl : (backTo pos (starEach es X.env)).any (·.1) = false := by rfl) :
    PE X (.Call (.Name x p) (e :: es) [] pos) (tCall sp [] E t) := by
  obtain ⟨f, fd, ps, F, hm, kp, b⟩ := c.ex
  exact pe_call F (hr.mono hk) hg hm kp b .nil hx ha hdb he hpl
theorem pe_clG (c : Cl X.prog X.w X.K X.mg X.base (L2.CX X.prog X.w) k x sp) (hr : Room j X.A) (hk : k ≤ j) (hg : Gl X x) (ha : PA X (e :: es) t)
    (hdb : (x == ("__debug__" : Str)) = false := by decide) (he : starEach (e :: es) X.env = (false, eval e X.env) :: starEach es X.env := by rfl) (hpl : (backTo pos (starEach es X.env)).any (·.1) = false := by rfl) :
    PE X (.Call (.Name x p) (e :: es) [] pos) (tCall sp [] E0 t) := pe_clT c hr hk passL hg ha hdb he hpl
end
theorem FunG.clX {P : Program} {w : World} {K : PySem.W.Frag} {mg : Str → Option Value} {base : Heap} {CX : CXT} {k : Nat} {x : Str} {st : Stmt} {f : Addr} {fd : FuncData} {ps : List Str} {sp : Sp} (F : FunG K mg x st f fd ps) (h : FnOk P w K mg base CX k f fd ps sp) :
    Cl P w K mg base CX k x sp := ⟨f, fd, ps, h, F.mgf, F.fn.kp, F.b⟩
/-! ### heaps with a table of code objects -/
def lamQ : Str := ("law" : Str) ++ ".<locals>." ++ "<lambda>"
def noTab (H : Hp) : Hp := fun b => match H b with
  | some (.tbl _) => none
  | o => o
section
variable {K : PySem.W.Frag} {a st : Addr} {ns : List Int} {H H0 H1 H2 : Hp} {T : List (Addr × Str)}
theorem noTab_some {b : Addr} {o : HO} (h : noTab H b = some o) : H b = some o ∧ ∀ ps, o ≠ .tbl ps := by
  unfold noTab at h
  split at h
  · cases h
  · rename_i hn
    exact ⟨h, fun ps e => hn ps (by rw [h, e])⟩
theorem noTab_same (H : Hp) : Same (noTab H) H := fun _ _ h => (noTab_some h).1
theorem noTab_none {b : Addr} (h : H b = none) : noTab H b = none := by
  unfold noTab; rw [h]
theorem noTab_at {b : Addr} {o : HO} (h : H b = some o) (hn : ∀ ps, o ≠ .tbl ps) : noTab H b = some o := by
  unfold noTab
  rw [h]
  cases o <;> first | rfl | exact absurd rfl (hn _)
theorem noTab_sq {xs : List V} (h : SqL K H a xs) : SqL K (noTab H) a xs := by
  rcases h with (h | ⟨o, h⟩) | h
  · exact .inl (.inl (noTab_at h fun _ z => nomatch z))
  · exact .inl (.inr ⟨o, noTab_at h fun _ z => nomatch z⟩)
  · exact .inr h
theorem extN_same (h : Same (noTab H) H1) (e : ExtN H1 H2) : Same (noTab H) H2 := fun b o hb => e b o (h b o hb) (noTab_some hb).2
theorem SOk.extN (s : SOk K a ns st H1) (hq : SqL K (noTab H0) a (ns.map V.int)) (hst : noTab H0 st = none) (k : Same (noTab H0) H1) (e : ExtN H1 H2) : SOk K a ns st H2 := by
  obtain ⟨i, m, c, d, h⟩ := s.at_
  exact ⟨s.len, fun H' k' => ((extN_same k e).keepAll hst k').seq hq, i, m, c, d, e _ _ h fun _ z => nomatch z⟩
theorem tabs_same (t : Tabs T H) (e : Same H H1) : Tabs T H1 := t.ext e
theorem tabs_keep {xs : List V} (t : Tabs T H) (hs : H st = some (.lst xs)) (e : Keep st H H1) : Tabs T H1 := fun p hp => by
  obtain ⟨ps, h1, h2, h3⟩ := t p hp
  refine ⟨ps, e _ _ (fun z => by rw [z, hs] at h1; cases h1) h1, h2, fun pos cv hc => ?_⟩
  obtain ⟨c, e1, e2⟩ := h3 pos cv hc
  exact ⟨c, e1, e _ _ (fun z => by rw [z, hs] at e2; unfold CodeO at e2; cases e2) e2⟩
theorem SOk.tabs (s : SOk K a ns st H) (t : Tabs T H) (e : Keep st H H1) : Tabs T H1 := by
  obtain ⟨i, m, c, d, h⟩ := s.at_
  exact tabs_keep t h e
end
theorem tabs_keepL {T : List (Addr × Str)} {H : Hp} {l : Addr} {xs : List V} {o : HO} (t : Tabs T H) (hs : H l = some (.lst xs)) : Tabs T (upd H l o) := fun p hp => by
  obtain ⟨ps, h1, h2, h3⟩ := t p hp
  refine ⟨ps, by rw [upd_ne (fun z => by rw [z, hs] at h1; cases h1)]; exact h1, h2, fun pos cv hc => ?_⟩
  obtain ⟨c, e1, e2⟩ := h3 pos cv hc
  exact ⟨c, e1, by rw [upd_ne (fun z => by rw [z, hs] at e2; unfold CodeO at e2; cases e2)]; exact e2⟩
/-- the errors' names -/
def kindW : List Str := ["BadFrame", "BadShare", "BadWidth", "BadBegins", "BadRuns", "NoRoom", "BadText"]
/-- the class of the name x is the j-th of these -/
structure ErrK (K : PySem.W.Frag) (x : Str) (j : Nat) : Prop where
  exc : ExcC K (He.ga K x)
  pe : PySem.W.exmOne K (.ref (He.ga K x)) (.ref (He.ga K "PulseError")) = some true
  k0 : PySem.W.kitOne K (.ref (He.ga K x)) (.ref (He.ga K "BadFrame")) = some (decide (j = 0))
  k1 : PySem.W.kitOne K (.ref (He.ga K x)) (.ref (He.ga K "BadShare")) = some (decide (j = 1))
  k2 : PySem.W.kitOne K (.ref (He.ga K x)) (.ref (He.ga K "BadWidth")) = some (decide (j = 2))
  k3 : PySem.W.kitOne K (.ref (He.ga K x)) (.ref (He.ga K "BadBegins")) = some (decide (j = 3))
  k4 : PySem.W.kitOne K (.ref (He.ga K x)) (.ref (He.ga K "BadRuns")) = some (decide (j = 4))
  k5 : PySem.W.kitOne K (.ref (He.ga K x)) (.ref (He.ga K "NoRoom")) = some (decide (j = 5))
  k6 : PySem.W.kitOne K (.ref (He.ga K x)) (.ref (He.ga K "BadText")) = some (decide (j = 6))
  ve : PySem.W.kitOne K (.ref (He.ga K x)) (.type "ValueError") = some true
  lt : j < 7
  nm : kindW[j]? = some x
/-! ### errors with a dict: isinstance -/
def rIsD (K : PySem.W.Frag) (cls : Value) (d : Option Addr) (a : Addr) : List V → Hp → VK → Prop := fun xs H Q => ∃ (D dd : Addr) (fs : List (Str × V)) (c : V) (cv : Value) (b : Bool), cls = .ref D ∧ d = some dd ∧ H dd = some (.xd fs) ∧ ExcC K D ∧ xs = [.ref a, c] ∧ (∀ u, RelV c u → u = cv) ∧ PySem.W.kitOne K (.ref D) cv = some b ∧ Q (.bl b) H
theorem call_isD {X : Cx} {a : Addr} {cls : Value} {d : Option Addr} {oe : Obj} {pn : List (Addr × Obj)} (hz : Zc cls d oe) (hf : ∃ vs, oe.data = .fields vs) : CallR (X.suite a ((a, oe) :: pn)) (.builtin "isinstance") (rIsD X.K cls d a) := by
  intro pins s σ H xs us Q I r h
  obtain ⟨D, dd, fs, c, cv, b, rfl, rfl, hdd, C, rfl, hcv, e, q⟩ := h
  obtain ⟨u1, u2, rfl, r1, r2⟩ : ∃ u1 u2, us = [u1, u2] ∧ RelV (.ref a) u1 ∧ RelV c u2 := by
    cases r with
    | cons p1 p2 => cases p2 with
      | cons p3 p4 => cases p4; exact ⟨_, _, rfl, p1, p3⟩
  obtain rfl : u1 = Value.ref a := r1
  obtain rfl := hcv _ r2
  have hx : ObjOk X.prog X.w H s.heap dd (.xd fs) := I.hok dd _ hdd
  obtain ⟨mA, hns, _⟩ := hx
  obtain ⟨od, ho, _⟩ := lookIn_ns hns
  obtain ⟨hget, _⟩ := I.pin (a, oe) (List.mem_append_left _ List.mem_cons_self)
  obtain ⟨vs, hv⟩ := hf
  have J : PySem.W.InstAt s.heap a oe D (some od) := ⟨hget, hz.1, by unfold PySem.W.notCls; rw [hv] <;> rfl, by rw [hz.2]; exact ho⟩
  have hcl : (PySem.W.clsIn X.K D).isSome = true := by
    obtain ⟨cd, hc, _⟩ := PySem.W.any_some C.hd
    rw [hc]; rfl
  exact PySem.W.kia_one (PySem.W.kitx_exc hcl C.hg C.hk C.hs C.ha C.hn C.ht C.hm) I.kIn J e (fun z => nomatch z) fun tk => ⟨.bl b, H, I.kept (t' := tk) fun _ _ z => z, rfl, q⟩
theorem xfC_of {K : PySem.W.Frag} {D : Addr} (C : ExcC K D) : XfC K D := ⟨C.hg, C.hk, C.hs, C.hd⟩
/-- e.f in the suite, the class told -/
theorem pe_xfD {X : Cx} {a C : Addr} {oe : Obj} {cls : Value} {d : Option Addr} {pn : List (Addr × Obj)} {e : Expr} {te : TE} {pos : Pos} {n : Str} (T : ExcC X.K C) (hno : PySem.W.findIn X.K (.ref C) n = some none)
    (hz : Zc cls d oe) (hf : ∃ vs, oe.data = .fields vs) (he : PE (X.suite a ((a, oe) :: pn)) e te) (hb : attributeBase e n X.env (eval e X.env) = eval e X.env := by rfl) :
    PE (X.suite a ((a, oe) :: pn)) (.Attribute e n pos) (tXf a cls d C n te) := pe_xf (xfC_of T) hno hz hf he hb
/-! ### Base.__init__(self, ..), Base a class of the text over ValueError -/
def isVeInit : Option PySem.W.CFound → Bool
  | some (.val v) => v == .builtin "ValueError.__init__"
  | _ => false
theorem isVeInit_ok {o : Option PySem.W.CFound} (h : isVeInit o = true) : o = some (.val (.builtin "ValueError.__init__")) := by
  cases o with
  | none => cases h
  | some c => cases c with
    | val v => exact congrArg (fun z => some (PySem.W.CFound.val z)) (beq_iff_eq.mp h)
    | get _ _ _ _ => cases h
structure BaseI (K : PySem.W.Frag) (mg : Str → Option Value) (x : Str) : Prop where
  mgx : mg x = some (.ref (He.ga K x))
  ga : PySem.W.specialIn K (.ref (He.ga K x)) "__getattribute__" = some (some (.builtin "type.__getattribute__"))
  rd : PySem.W.readsIn K (He.ga K x) (.type "type") = true
  fi : PySem.W.findCls K (.ref (He.ga K x)) (.type "type") "__init__" = some (.val (.builtin "ValueError.__init__"))
theorem pe_baseinit {X : Cx} {x : Str} {e : Expr} {es : List Expr} {ta : TA} {p1 p2 pos : Pos} {pl : Sem Bool} (B : BaseI X.K X.mg x) (hg : Gl X x) (ha : PA X (e :: es) ta) (hdb : (x == ("__debug__" : Str)) = false := by decide)
    (hc : eval (.Call (.Attribute (.Name x p1) "__init__" p2) (e :: es) [] pos) X.env = (do
      let w0 ← eval (.Name x p1) X.env
      standAt p2.atName
      let (g0, l0) ← holding [w0] (getMethod w0 "__init__" pl)
      callWith pos g0 l0 (backTo pos (starEach (e :: es) X.env)) (backToKw pos (keywordEach [] X.env))) := by rfl)
    (he : starEach (e :: es) X.env = (false, eval e X.env) :: starEach es X.env := by rfl) (hpl : (backTo pos (starEach es X.env)).any (·.1) = false := by rfl) :
    PE X (.Call (.Attribute (.Name x p1) "__init__" p2) (e :: es) [] pos) (tVeI X.K ta) := by
  refine ⟨fun pins s σ H Q I h => PySem.W.methodCall_KW (ld_glob I hg B.mgx ?_ hdb) hc⟩
  have kin := I.kIn
  refine PySem.W.method_cls kin B.ga (PySem.W.cls_value kin B.rd B.fi rfl ?_)
  show wpAny _ _ (callWith pos (Value.builtin "ValueError.__init__") [] (backTo pos (starEach (e :: es) X.env)) []) _ _ _
  refine PyProof.Rows.callWith_method1 (thn (ha.run pos pins _ σ H _ (I.tok _) h) fun us s1 hh => ?_) he hpl
  obtain ⟨vs, H1, I1, r1, a, C, ws, rfl, hl, T, ea, q⟩ := hh
  obtain ⟨u0, ur, rfl, ra, rw'⟩ : ∃ u0 ur, us = u0 :: ur ∧ RelV (.ref a) u0 ∧ Vals ws ur := by
    cases r1 with
    | cons p1 p2 => exact ⟨_, _, rfl, p1, p2⟩
  obtain rfl : u0 = Value.ref a := ra
  have hlen : ur.length ≤ sizeLine := by
    have e1 := Paired.length rw'
    rw [sizeLine_eq]
    omega
  exact oinit_ok T I1 ea hlen fun s' J => ⟨.non, H1, J, rfl, q⟩
/-! ### the class BadText -/
def oexB (K : PySem.W.Frag) (C : Addr) : Bool := match K.lookup C with
  | some ⟨.type "type", _, .cls cd, sl⟩ => (match cd.mro, sl.toList with
    | .ref C' :: bm, [_, _, _, _, some (.builtin n), _] => decide (C' = C) && (decide (n = "ValueError.__new__") && (!cd.hasDel && (cd.hasDict && PySem.HandSPX.refsVE bm)))
    | _, _ => false)
  | _ => false
theorem oexB_ok {K : PySem.W.Frag} {C : Addr} (h : oexB K C = true) : ∃ nm q N bs bm sn sub ab col dd k0 k1 k2 k3 k5, K.lookup C = some (excClassObj nm q C N bs bm true sn sub ab col dd k0 k1 k2 k3 k5 "ValueError.__new__") ∧ PySem.HandSPX.refsVE bm = true := by
  unfold oexB at h
  split at h
  · rename_i dd cd sl ho
    split at h
    · rename_i C' bm k0 k1 k2 k3 n k5 hm hs
      obtain ⟨h1, h⟩ := Bool.and_eq_true_iff.mp h
      obtain ⟨h2, h⟩ := Bool.and_eq_true_iff.mp h
      obtain ⟨h3, h⟩ := Bool.and_eq_true_iff.mp h
      obtain ⟨h4, h5⟩ := Bool.and_eq_true_iff.mp h
      have e1 := of_decide_eq_true h1
      have e2 := of_decide_eq_true h2
      have e3 : cd.hasDel = false := by cases q : cd.hasDel with
        | false => rfl
        | true => rw [q] at h3; cases h3
      subst e1 e2
      cases cd with
      | mk nm bs mro ns qn hd sn sub ab col del =>
        cases sl with
        | mk l =>
          have hs' : l = [k0, k1, k2, k3, some (.builtin "ValueError.__new__"), k5] := hs
          have hm' : mro = .ref C' :: bm := hm
          have h4' : hd = true := h4
          have e3' : del = false := e3
          subst hs' hm' h4' e3'
          exact ⟨_, _, _, _, bm, _, _, _, _, _, _, _, _, _, _, ho, h5⟩
    · cases h
  · cases h
/-- BadText may be raised: its class, its __init__ keeping sp -/
structure BtC (P : Program) (w : World) (K : PySem.W.Frag) (mg : Str → Option Value) (base : Heap) (k : Nat) (sp : Sp) : Prop where
  ex : ∃ (f : Addr) (fd : FuncData) (ps : List Str), OexC K (He.ga K "BadText") ∧ PySem.W.findIn K (.ref (He.ga K "BadText")) "__init__" = some (some (.ref f)) ∧ PySem.W.typeIn K (.ref f) = some (.type "function") ∧
    FnOk P w K mg base CX0 k f fd ps sp ∧ Binds K fd ps [] ∧ mg "BadText" = some (.ref (He.ga K "BadText"))
theorem pmk_bt {X : Cx} {e : Expr} {es : List Expr} {ta : TA} {p pos : Pos} {k j : Nat} {sp : Sp} (c : BtC X.prog X.w X.K X.mg X.base k sp) (hr : Room j X.A) (hk : k + 1 ≤ j) (hg : Gl X "BadText") (ha : PA X (e :: es) ta)
    (he : starEach (e :: es) X.env = (false, eval e X.env) :: starEach es X.env := by rfl) (hpl : (backTo pos (starEach es X.env)).any (·.1) = false := by rfl) :
    PMk X (.Call (.Name "BadText" p) (e :: es) [] pos) (tMkO (He.ga X.K "BadText") sp [] ta) := by
  obtain ⟨f, fd, ps, T, i1, i2, F, b, m⟩ := c.ex
  exact pmk_oex T i1 i2 F (hr.mono hk) b .nil pass0 hg m ha (by decide) he hpl
/-! ### a text so often -/
theorem op_mulS {X : Cx} : OpR X (binaryOp .Mult) (fun x y H Q => ∃ (z : Str) (n : Int), x = .str z ∧ y = .int n ∧ 2 ≤ n ∧ n ≤ 1000 ∧ z.length ≤ 10000 ∧ ∀ r : Str, r.length ≤ z.length * n.toNat → Q (.str r) H) := by
  intro pins s σ H x y v u Q I rx ry h
  obtain ⟨z, n, rfl, rfl, n0, n1, hz, q⟩ := h
  obtain ⟨t, rfl⟩ := rx
  obtain ⟨t', rfl⟩ := ry
  have hlt : ¬ n < 1 := by omega
  have hm : z.length * n.toNat ≤ 10000 * 1000 := Nat.mul_le_mul hz (by omega)
  refine P.mul_str ?_ (fun _ _ => ?_) (fun _ _ => ?_) ?_
  · rw [decide_eq_false (by omega), decide_eq_false (by omega)]; rfl
  · have : (10000 : Int) ≤ (2 ^ 63 - 1) / n := by
      rw [Int.le_ediv_iff_mul_le (by omega)]
      have : (10000 : Int) * n ≤ 10000 * 1000 := by omega
      omega
    omega
  · show decide (z.length * n.toNat > sizeLine) = false
    exact decide_eq_false (by rw [sizeLine_eq]; omega)
  · rw [if_neg hlt]
    split
    · refine ⟨.str z, H, I, ⟨_, rfl⟩, q z ?_⟩
      have : z.length * 1 ≤ z.length * n.toNat := Nat.mul_le_mul (Nat.le_refl _) (by omega)
      omega
    · have hr : (⟨(List.replicate n.toNat z.cps).foldl (· ++ ·) #[]⟩ : Str).length ≤ z.length * n.toNat := by
        show (((List.replicate n.toNat z.cps).foldl (· ++ ·) #[] : Array Nat)).size ≤ z.cps.size * n.toNat
        rw [PyProof.Rows.len_reps, Nat.mul_comm]
        simp
      exact ⟨by rw [sizeLine_eq]; omega, .str ⟨(List.replicate n.toNat z.cps).foldl (· ++ ·) #[]⟩, H, I.tok _, ⟨_, rfl⟩, q _ hr⟩
/-! ### enumerate(text) -/
def Ites (x : Str) : It := ⟨fun i _ => i < x.cps.size, fun i H v H' => ∃ T c, v = .ref T ∧ H T = none ∧ H' = upd H T (.tup [.int (i : Nat), .str ⟨#[c]⟩]) ∧ x.cps[i]? = some c, fun i _ => i = x.cps.size⟩
theorem draws_s {prog : Program} {w : World} {A : Around} (hh : A.handled = none) (it : Addr) (x : Str) (t : Tok) :
    Draws prog w A it [it] x.cps.size (fun i v => ∃ c u, x.cps[i]? = some c ∧ v = .str ⟨#[c]⟩ u) (fun i h => h.IsStrIter it (strIterType x) x t i) := by
  unfold strIterType
  by_cases q : x.cps.all (· < 128) = true
  · rw [if_pos q]; exact Draws.strAscii hh it x t
  · rw [if_neg q]; exact Draws.strWide hh it x t
theorem turn_enumS {P : Program} {w : World} {K : PySem.W.Frag} {elts : List Expr} {kk : Nat} {tpos : Pos} (x : Str) (t : Tok) (e it : Addr) :
    Turn P w K (.Tuple elts kk tpos) (Ites x) [e, it] e (fun i h => (∃ old, IsEnum h e it ((i : Nat) : Int) old) ∧ h.IsStrIter it (strIterType x) x t i ∧ e ≠ it) where
  mem := List.mem_cons_self
  obj := fun i h st b hb => by
    obtain ⟨⟨old, h1⟩, ⟨o, h2, hc, hd⟩, _⟩ := st
    rcases List.mem_cons.mp hb with rfl | hb
    · exact ⟨_, h1, fun v q => nomatch q⟩
    · rw [List.mem_singleton.mp hb]; exact ⟨o, h2, fun v q => by rw [hd] at q; cases q⟩
  keep := fun i h h' st k => by
    obtain ⟨⟨old, h1⟩, ⟨o, h2, r⟩, hne⟩ := st
    exact ⟨⟨old, k e List.mem_cons_self _ h1⟩, ⟨o, k it (List.mem_cons_of_mem _ List.mem_cons_self) o h2, r⟩, hne⟩
  item := by
    intro X hP hw hK hc i pins s σ H E I hf st hg
    subst hP hw hK
    obtain ⟨⟨old, h1⟩, h2, hne⟩ := st
    have D := draws_s (prog := X.prog) (w := X.w) (A := X.A.in1) (I.ok.hd hc) it x t
    have lE : e < s.heap.objs.size := Heap.lt_size h1
    have lI : it < s.heap.objs.size := by obtain ⟨_, q, _⟩ := h2; exact Heap.lt_size q
    refine wpAny_pyNext_enum_itemD D h1 h2 hg hne (fun z => hne (List.mem_singleton.mp z)) fun y h' tk hy ho h2' hT hsz hk => ?_
    obtain ⟨c, u, hcx, rfl⟩ := hy
    refine ⟨_, rfl, wpAny_letOwnedTupleGo_enum (s := { s with heap := h', toks := tk + 1 }) ho fun h'' h1' sb => ?_⟩
    have kT : h''.get? s.heap.objs.size = some { cls := .type "tuple", data := .seq #[.int i tk, .str ⟨#[c]⟩ u] } := (sb.2 _ (Nat.ne_of_gt lE)).trans hT
    have new : ObjOk X.prog X.w (upd H s.heap.objs.size (.tup [.int (i : Nat), .str ⟨#[c]⟩])) h'' s.heap.objs.size (.tup [.int (i : Nat), .str ⟨#[c]⟩]) :=
      ⟨by show 2 ≤ sizeLine; decide, [.int i tk, .str ⟨#[c]⟩ u], .cons ⟨_, rfl⟩ (.cons ⟨_, rfl⟩ .nil), ⟨_, kT, rfl, _, rfl⟩⟩
    have J : Inv X pins σ (upd H s.heap.objs.size (.tup [.int (i : Nat), .str ⟨#[c]⟩])) { s with heap := h'', toks := tk + 1 } := by
      refine I.turnedNew (ch := [e, it]) (fun b o hb q => ?_) hf (Nat.le_refl _) new
      have be : b ≠ e := fun z => hb (z ▸ List.mem_cons_self)
      have bi : b ≠ it := fun z => hb (z ▸ List.mem_cons_of_mem _ List.mem_cons_self)
      exact (sb.2 b be).trans (hk b o be bi q)
    refine ⟨.ref s.heap.objs.size, _, J, rfl, ⟨_, c, rfl, I.hok.fresh (Nat.le_refl _), rfl, hcx⟩, ⟨⟨.str ⟨#[c]⟩ u, ?_⟩, ?_, hne⟩, fun b hb => ?_⟩
    · have e1 : ((i + 1 : Nat) : Int) = (i : Int) + 1 := by omega
      rw [e1]; exact h1'
    · obtain ⟨o, q1, q2⟩ := h2'
      exact ⟨o, (sb.2 it (Ne.symm hne)).trans q1, q2⟩
    · have lb : b < s.heap.objs.size := by
        rcases List.mem_cons.mp hb with rfl | hb
        · exact lE
        · rw [List.mem_singleton.mp hb]; exact lI
      rw [upd_ne (Nat.ne_of_lt lb)]
      exact (hf b hb).1
  done := by
    intro X hP hw hK hc i pins s σ H E I hf st hg
    subst hP hw hK
    obtain ⟨⟨old, h1⟩, h2, hne⟩ := st
    obtain ⟨f0, f1, f2, f3, f4, f5⟩ := hf it (List.mem_cons_of_mem _ List.mem_cons_self)
    have hi : i = x.cps.size := hg
    subst hi
    exact wpAny_pyNext_enum_endD (draws_s (prog := X.prog) (w := X.w) (A := X.A.in1) (I.ok.hd hc) it x t) h1 h2 fun h' eb => ⟨rfl, I.turned (t' := s.toks) (fun b o hb q => eb b o hb q) f0 f1 f3 f4 f5⟩
  self := fun A i s Q E st h => by
    obtain ⟨⟨old, h1⟩, _⟩ := st
    exact wpAny_pyIter_enum h1 h
def iEnumS (ta : TA) : TI := fun σ H R => ta σ H fun vs H1 => ∃ x : Str, vs = [.str x] ∧ R (Ites x) H1
theorem pi_enumS {X : Cx} {e : Expr} {ta : TA} {p pos tpos : Pos} {elts : List Expr} {kk : Nat} (hg : Gl X "enumerate") (hm : X.mg "enumerate" = none) (ha : PA X [e] ta) (hs : starEach [e] X.env = [(false, eval e X.env)] := by rfl) :
    PI X (.Tuple elts kk tpos) (.Call (.Name "enumerate" p) [e] [] pos) (iEnumS ta) := by
  refine ⟨fun pins s σ H R I h => Call_ (ld_blt I hg hm boot_enumerate (PyProof.Rows.callWith_type1 (thn (ha.run pos pins s σ H _ I h) fun us s1 hh => ?_) hs rfl))⟩
  obtain ⟨vs, H1, I1, r1, x, rfl, q⟩ := hh
  obtain ⟨u, rfl, ru⟩ : ∃ u, us = [u] ∧ RelV (.str x) u := by
    cases r1 with
    | cons p1 p2 => cases p2; exact ⟨_, rfl, p1⟩
  obtain ⟨t, rfl⟩ := ru
  refine call_enumerate_str fun h' h1 h2 hsz hk => wpAny_pyIter_enum h1 ?_
  refine ⟨s1.heap.objs.size + 1, [s1.heap.objs.size + 1, s1.heap.objs.size], _, _, H1, rfl, I1.kept (t' := s1.toks) hk, turn_enumS x t (s1.heap.objs.size + 1) s1.heap.objs.size, ⟨⟨.none, h1⟩, h2, Nat.succ_ne_self _⟩, fun b hb => ?_, q⟩
  have hle : s1.heap.objs.size ≤ b := by
    rcases List.mem_cons.mp hb with rfl | hb
    · exact Nat.le_succ _
    · rw [List.mem_singleton.mp hb]; exact Nat.le_refl _
  exact I1.fpOk hle (I1.hok.fresh hle)
theorem walk_enumS {x : Str} : Walk (Ites x) x.cps.size (fun _ => True) (YPair (fun i => some (.int (i : Nat))) (fun i => x.cps[i]?.map fun c => V.str ⟨#[c]⟩)) := by
  refine ⟨fun i _ hi _ => hi, fun _ _ => rfl, fun i H v H' _ _ y => ?_⟩
  obtain ⟨T, c, h1, h2, h3, h4⟩ := y
  exact ⟨T, .int (i : Nat), .str ⟨#[c]⟩, h1, h2, h3, rfl, by simp [h4]⟩
/-! ### texts of signs -/
def sgS (f : Int) : Str := if f = 0 then ⟨#[46]⟩ else ⟨#[35]⟩
def bitC (c : Nat) : Int := if c = 35 then 1 else 0
def okC (c : Nat) : Prop := c = 46 ∨ c = 35
instance (c : Nat) : Decidable (okC c) := inferInstanceAs (Decidable (_ ∨ _))
def bitsS (z : Str) : List Int := z.cps.toList.map bitC
def Gd (z : Str) : Prop := 1 ≤ z.cps.size ∧ z.cps.size ≤ 64 ∧ ∀ (i c : Nat), z.cps[i]? = some c → okC c
def Bd (z : Str) (n : Nat) : Prop := (z.cps.size = 0 ∧ n = 0) ∨ (n < z.cps.size ∧ n ≤ 64 ∧ (∀ i c : Nat, i < n → z.cps[i]? = some c → okC c) ∧ (n = 64 ∨ ∃ c, z.cps[n]? = some c ∧ ¬ okC c))
theorem gd_bd {z : Str} {n : Nat} (g : Gd z) (b : Bd z n) : False := by
  obtain ⟨g1, g2, g3⟩ := g
  rcases b with ⟨b1, _⟩ | ⟨b1, b2, b3, b4 | ⟨c, b4, b5⟩⟩
  · omega
  · omega
  · exact b5 (g3 n c b4)
theorem bd_bd {z : Str} {n m : Nat} (h : Bd z n) (k : Bd z m) : n = m := by
  rcases h with ⟨h1, h2⟩ | ⟨h1, h2, h3, h4⟩ <;> rcases k with ⟨k1, k2⟩ | ⟨k1, k2, k3, k4⟩
  · omega
  · omega
  · omega
  · rcases Nat.lt_trichotomy n m with l | l | l
    · rcases h4 with h4 | ⟨c, h4, h5⟩
      · omega
      · exact absurd (k3 n c l h4) h5
    · exact l
    · rcases k4 with k4 | ⟨c, k4, k5⟩
      · omega
      · exact absurd (h3 m c l k4) k5
theorem scan_s (z : Str) : ∀ N : Nat, (∃ n, n < N ∧ Bd z n) ∨ ∀ n, n < N → n < z.cps.size → n < 64 ∧ ∀ i c : Nat, i ≤ n → z.cps[i]? = some c → okC c
  | 0 => .inr fun n hn => absurd hn (Nat.not_lt_zero n)
  | N + 1 => by
    rcases scan_s z N with ⟨n, h1, h2⟩ | h
    · exact .inl ⟨n, Nat.lt_succ_of_lt h1, h2⟩
    by_cases hs : N < z.cps.size
    · have up : ∀ i c : Nat, i < N → z.cps[i]? = some c → okC c := fun i c hi e => (h i hi (Nat.lt_trans hi hs)).2 i c (Nat.le_refl _) e
      have le : N ≤ 64 := by
        cases N with
        | zero => omega
        | succ M => have := (h M (Nat.lt_succ_self M) (by omega)).1; omega
      by_cases h64 : N = 64
      · exact .inl ⟨N, Nat.lt_succ_self N, .inr ⟨hs, le, up, .inl h64⟩⟩
      by_cases hc : okC z.cps[N]
      · refine .inr fun n hn hz => ?_
        rcases Nat.lt_succ_iff_lt_or_eq.mp hn with l | l
        · exact h n l hz
        · subst l
          refine ⟨by omega, fun i c hi e => ?_⟩
          rcases Nat.lt_or_eq_of_le hi with l | l
          · exact up i c l e
          · subst l
            rw [Array.getElem?_eq_getElem hs] at e
            cases e
            exact hc
      · exact .inl ⟨N, Nat.lt_succ_self N, .inr ⟨hs, le, up, .inr ⟨_, Array.getElem?_eq_getElem hs, hc⟩⟩⟩
    · refine .inr fun n hn hz => ?_
      exact h n (by omega) hz
theorem gd_or_bd (z : Str) : Gd z ∨ ∃ n, Bd z n := by
  rcases scan_s z z.cps.size with ⟨n, _, h⟩ | h
  · exact .inr ⟨n, h⟩
  by_cases h0 : z.cps.size = 0
  · exact .inr ⟨0, .inl ⟨h0, rfl⟩⟩
  have h1 := h (z.cps.size - 1) (by omega) (by omega)
  refine .inl ⟨by omega, by omega, fun i c e => ?_⟩
  have hi : i < z.cps.size := (Array.getElem?_eq_some_iff.mp e).1
  exact h1.2 i c (by omega) e
theorem join_cps : ∀ ys : List Str, (Str.join ⟨#[]⟩ ys).cps.toList = ys.flatMap fun y => y.cps.toList
  | [] => rfl
  | [x] => by simp [Str.join]
  | x :: y :: r => by
    have ih := join_cps (y :: r)
    show (x.cps ++ #[] ++ (Str.join ⟨#[]⟩ (y :: r)).cps).toList = _
    rw [List.flatMap_cons, ← ih]
    simp
def wrS (fs : List Int) : Str := Txt.join ⟨#[]⟩ (fs.map sgS)
def sgC (f : Int) : Nat := if f = 0 then 46 else 35
theorem wrS_cps (fs : List Int) : (wrS fs).cps.toList = fs.map sgC := by
  unfold wrS
  rw [TL.join_eq, join_cps]
  induction fs with
  | nil => rfl
  | cons f fs ih =>
    rw [List.map_cons, List.flatMap_cons, ih, List.map_cons]
    unfold sgS sgC
    by_cases h : f = 0 <;> simp [h]
theorem wrS_size (fs : List Int) : (wrS fs).cps.size = fs.length := by
  have h := congrArg List.length (wrS_cps fs)
  rw [List.length_map, Array.length_toList] at h
  exact h
theorem sgC_ok (f : Int) : okC (sgC f) := by
  unfold sgC okC
  by_cases h : f = 0 <;> simp [h]
theorem wrS_gd {fs : List Int} (h : Frm fs) : Gd (wrS fs) := by
  refine ⟨by rw [wrS_size]; exact h.pos, by rw [wrS_size]; exact h.le, fun i c e => ?_⟩
  have e2 : (wrS fs).cps.toList[i]? = some c := by rw [Array.getElem?_toList]; exact e
  rw [wrS_cps, List.getElem?_map] at e2
  obtain ⟨f, _, rfl⟩ := Option.map_eq_some_iff.mp e2
  exact sgC_ok f
theorem bits_wrS {fs : List Int} (h : Frm fs) : bitsS (wrS fs) = fs := by
  unfold bitsS
  rw [wrS_cps, List.map_map]
  refine (List.map_congr_left (g := id) fun f hf => ?_).trans (List.map_id fs)
  show bitC (sgC f) = f
  rcases h.bit f hf with e | e <;> subst e <;> rfl
theorem sg_sum (fs : List Int) : ((fs.map sgS).map (·.length)).sum = fs.length := by
  induction fs with
  | nil => rfl
  | cons f fs ih =>
    rw [List.map_cons, List.map_cons, List.sum_cons, ih, List.length_cons]
    have : (sgS f).length = 1 := by unfold sgS; by_cases h : f = 0 <;> simp [h] <;> rfl
    omega
theorem at_ex {xs : List Nat} {r : Int} (h0 : 0 ≤ r) (h1 : r < xs.length) : ∃ c, atI xs r = some c := by
  have hl : r.toNat < xs.length := by omega
  refine ⟨xs[r.toNat], ?_⟩
  unfold atI ixN
  rw [if_pos h0, if_pos h1]
  exact List.getElem?_eq_getElem hl
theorem at_nat {xs : List Nat} {i : Nat} {r : Int} {c : Nat} (e : r = (i : Int)) (h : xs[i]? = some c) : atI xs r = some c := by
  have h1 := (List.getElem?_eq_some_iff.mp h).1
  subst e
  unfold atI ixN
  rw [if_pos (Int.natCast_nonneg i), if_pos (by omega)]
  exact h
structure Txt (K : PySem.W.Frag) (mg : Str → Option Value) : Prop where
  g_BadBegins : mg "BadBegins" = some (.ref (He.ga K "BadBegins"))
  g_BadFrame : mg "BadFrame" = some (.ref (He.ga K "BadFrame"))
  g_BadRuns : mg "BadRuns" = some (.ref (He.ga K "BadRuns"))
  g_BadShare : mg "BadShare" = some (.ref (He.ga K "BadShare"))
  g_BadText : mg "BadText" = some (.ref (He.ga K "BadText"))
  g_BadWidth : mg "BadWidth" = some (.ref (He.ga K "BadWidth"))
  k_MOST_BEATS : ∃ u, mg "MOST_BEATS" = some u ∧ RelV (.int 64) u
  g_NoRoom : mg "NoRoom" = some (.ref (He.ga K "NoRoom"))
  g_PulseError : mg "PulseError" = some (.ref (He.ga K "PulseError"))
  k_SIGNS : ∃ u, mg "SIGNS" = some u ∧ RelV (.str ".#") u
  b_ValueError : mg "ValueError" = none
  b_bool : mg "bool" = none
  b_enumerate : mg "enumerate" = none
  b_int : mg "int" = none
  b_isinstance : mg "isinstance" = none
  b_len : mg "len" = none
  b_list : mg "list" = none
  b_range : mg "range" = none
  b_str : mg "str" = none
  b_tuple : mg "tuple" = none
  bt_o : OexC K (He.ga K "BadText")
  bt_n : PySem.W.findIn K (.ref (He.ga K "BadText")) "place" = some none
  bt_b : BaseI K mg "PulseError"
  bt_k : ErrK K "BadText" 6
section
variable {P : Program} {w : World} {K : PySem.W.Frag} {mg : Str → Option Value} {base : Heap}
abbrev s_law_start : Stmt := top 17
theorem sc_law_start : FnScope ["_law_script", "_law_mixed", "_law_cell"] ["_law_script"] (defScope s_law_start) := ⟨rfl, rfl, rfl, by decide +kernel, rfl, by decide +kernel, by decide +kernel⟩
/-- _law_start(script): a new good state -/
def spStart (K : PySem.W.Frag) : Sp := fun vs H Q _ => ∃ (a : Addr) (ns : List Int), vs = [.ref a] ∧ SqL K H a (ns.map V.int) ∧ ∀ (st : Addr) (m : Int), H st = none → Drw 0 m 0 → Q (.ref st) (upd H st (StO a 0 m 0))
theorem ok_law_start {f : Addr} {fd : FuncData} (F : FunG K mg "_law_start" s_law_start f fd ["_law_script"]) : FnOk P w K mg base CX0 1 f fd ["_law_script"] (spStart K) := by
  refine F.fn.ok sc_law_start (fun vs H Q E h => ?_) (fun cdv A outer s H vs Q E hr h => ?_)
  · obtain ⟨a, ns, rfl, _⟩ := h
    rfl
  · obtain ⟨a, ns, rfl, hS, k⟩ := h
    refine ⟨_, (pss_cons (ps_set (i := 1) sc_law_start.nd rfl (.inl rfl) pe_int)
      (pss_cons (ps_for PassesOwn.never (by rfl) (pi_list (pv 0)) (pg_name (i := 2) sc_law_start.nd rfl (.inl rfl)) (pss_one (ps_set (i := 1) sc_law_start.nd rfl (.inl rfl) (pe_op op_mod (pe_op op_add (pe_op op_add (pe_op op_mulW (pv 1) pe_int) (pv 2)) pe_int) pe_int))))
      (pss_one (ps_ret (pe_lst (pa_cons (pv 0) (pa_cons pe_int (pa_cons (pv 1) (pa_cons pe_int pa_nil))))))))), ?_⟩
    refine ⟨_, rfl, a, rfl, ⟨_, hS⟩, for_list (K := K) (a := a) (xs := ns.map V.int) (fun i σ H' => ∃ (m : Int) (v : Option V), σ = [some (.ref a), some (.int m), v] ∧ H' = H ∧ 0 ≤ m ∧ m < 2147483647)
      ⟨1, none, rfl, rfl, by decide, by decide⟩ (fun i σ H' _ ⟨_, _, _, e, _⟩ => e ▸ hS) ?_ ?_⟩
    · rintro i y σ H' hi ⟨m, v, rfl, rfl, m0, m1⟩
      obtain ⟨z, hz, rfl⟩ := getV hi
      refine ⟨_, rfl, _, _, rfl, rfl, wide_mul (a := 31) (b := 17) (by omega) (by decide) (by decide) (by decide) (by decide), _, rfl, _, _, rfl, rfl, _, _, rfl, rfl, _, _, rfl, rfl, (by show (0 : Int) < 2147483647; decide), ?_⟩
      exact ⟨_, _, rfl, rfl, Int.emod_nonneg _ (by decide), Int.emod_lt_of_pos _ (by decide)⟩
    · rintro σ H' ⟨m, v, rfl, rfl, m0, m1⟩
      refine ⟨_, rfl, _, rfl, (by show 4 ≤ sizeLine; decide), fun p hp => ?_⟩
      exact k p m hp ⟨Int.le_refl _, m0, m1, Int.le_refl _⟩
abbrev s_law_drawn : Stmt := top 18
theorem sc_law_drawn : FnScope ["_law_state", "_law_many", "_law_found", "_law_cell"] ["_law_state", "_law_many"] (defScope s_law_drawn) := ⟨rfl, rfl, rfl, by decide +kernel, rfl, by decide +kernel, by decide +kernel⟩
/-- _law_drawn(state, many): some number from 0 on below many; the state is good behind it, all else as it was -/
def spDrawn (K : PySem.W.Frag) : Sp := fun vs H Q _ => ∃ (st a : Addr) (ns : List Int) (many : Int), vs = [.ref st, .int many] ∧ SOk K a ns st H ∧ 0 < many ∧ many < 2 ^ 200 ∧
  ∀ r i m c : Int, 0 ≤ r → r < many → Drw i m c → Q (.int r) (upd H st (StO a i m c))
theorem SOk.drawn {K : PySem.W.Frag} {a st : Addr} {ns : List Int} {H : Hp} (s : SOk K a ns st H) {i m c : Int} (d : Drw i m c) : SOk K a ns st (upd H st (StO a i m c)) := s.keep (Keep.refl st H).atSt d upd_same
theorem ok_law_drawn {f : Addr} {fd : FuncData} (F : FunG K mg "_law_drawn" s_law_drawn f fd ["_law_state", "_law_many"]) (T : Txt K mg) : FnOk P w K mg base CX0 1 f fd ["_law_state", "_law_many"] (spDrawn K) := by
  refine F.fn.ok sc_law_drawn (fun vs H Q E h => ?_) (fun cdv A outer s H vs Q E hr h => ?_)
  · obtain ⟨st, a, ns, many, rfl, _⟩ := h
    rfl
  · obtain ⟨st, a, ns, many, rfl, hs, m0, m1, k⟩ := h
    obtain ⟨i, m, c, d, hst⟩ := hs.at_
    have hdiv : ∀ x : Int, CDivW x many := fun x => wide_div (b := 200) m0 (by omega) (by decide) (by decide)
    have hl : H st = some (.lst [.ref a, .int i, .int m, .int c]) := hst
    refine ⟨_, (pss_cons (ps_if (pt_cmpR op_gt (pe_ix (ixL K) (pv 0) pe_int (fun _ _ => rfl)) pe_int (nomark _)) (pss_cons (ps_set (i := 2) sc_law_drawn.nd rfl (.inl rfl) (pe_op op_mod (pe_ix (ixL K) (pv 0) pe_int (fun _ _ => rfl)) (pv 1)))
      (pss_cons (ps_asg (pe_op op_fdivW (pe_ix (ixL K) (pv 0) pe_int (fun _ _ => rfl)) (pv 1)) (pg_sub (pv 0) pe_int set_list))
      (pss_one (ps_ret (pv 2))))) pss_nil)
      (pss_cons (ps_asg (pe_op op_add (pe_ix (ixL K) (pv 0) pe_int (fun _ _ => rfl)) pe_int) (pg_sub (pv 0) pe_int set_list))
      (pss_cons (ps_if (pt_cmpR op_le (pe_ix (ixL K) (pv 0) pe_int (fun _ _ => rfl)) (pe_callB (clLen K) (by rfl) T.b_len (by decide +kernel) (pa_cons (pe_ix (ixL K) (pv 0) pe_int (fun _ _ => rfl)) pa_nil)) (nomark _)) (pss_cons (ps_set (i := 3) sc_law_drawn.nd rfl (.inl rfl) (pe_ix (ixL K) (pe_ix (ixL K) (pv 0) pe_int (fun _ _ => rfl)) (pe_op op_sub (pe_ix (ixL K) (pv 0) pe_int (fun _ _ => rfl)) pe_int) (fun _ _ => rfl)))
      (pss_cons (ps_asg (pe_ifExp (pt_cmpR op_ge (pv 3) (pe_op op_pow pe_int pe_int) (nomark _)) (pe_op op_fdivW (pv 3) (pv 1)) pe_int) (pg_sub (pv 0) pe_int set_list))
      (pss_one (ps_ret (pe_op op_mod (pv 3) (pv 1)))))) pss_nil)
      (pss_cons (ps_asg (pe_op op_mod (pe_op op_add (pe_op op_mulW (pe_ix (ixL K) (pv 0) pe_int (fun _ _ => rfl)) pe_int) pe_int) pe_int) (pg_sub (pv 0) pe_int set_list))
      (pss_one (ps_ret (pe_op op_mod (pe_op op_fdivW (pe_ix (ixL K) (pv 0) pe_int (fun _ _ => rfl)) pe_int) (pv 1)))))))), ?_⟩
    refine ⟨_, rfl, _, _, _, _, rfl, rfl, SqL.of hl, rfl, _, _, rfl, rfl, _, rfl, ?_⟩
    refine ite2 (fun hc => ?_) (fun hc => ?_)
    · have hc : 0 < c := of_decide_eq_true hc
      refine ⟨_, rfl, _, _, _, _, rfl, rfl, SqL.of hl, rfl, _, rfl, _, _, rfl, rfl, m0, ?_⟩
      refine ⟨_, rfl, _, _, _, _, rfl, rfl, SqL.of hl, rfl, _, rfl, _, _, rfl, rfl, hdiv _, _, rfl, st, _, _, 3, rfl, rfl, hl, rfl, ?_⟩
      refine ⟨_, rfl, ?_⟩
      exact k (c % many) i m (c / many) (Int.emod_nonneg _ (by omega)) (Int.emod_lt_of_pos _ m0) ⟨d.i0, d.m0, d.m1, Int.ediv_nonneg d.c0 (by omega)⟩
    · refine ⟨_, rfl, _, _, _, _, rfl, rfl, SqL.of hl, rfl, _, _, rfl, rfl, _, rfl, st, _, _, 1, rfl, rfl, hl, rfl, ?_⟩
      have hl1 : (upd H st (.lst [.ref a, .int (i + 1), .int m, .int c])) st = some (.lst [.ref a, .int (i + 1), .int m, .int c]) := upd_same
      have hS1 : SqL K (upd H st (.lst [.ref a, .int (i + 1), .int m, .int c])) a (ns.map V.int) := hs.sq _ (Keep.refl st H).atSt
      refine ⟨_, rfl, _, _, _, _, rfl, rfl, SqL.of hl1, rfl, _, rfl, _, _, _, _, rfl, rfl, SqL.of hl1, rfl, _, _, rfl, .inl hS1, _, _, rfl, rfl, _, rfl, ?_⟩
      refine ite2 (fun hb => ?_) (fun hb => ?_)
      · have hb : i + 1 ≤ ((ns.map V.int).length : Int) := of_decide_eq_true hb
        rw [List.length_map] at hb
        have i0 := d.i0
        refine ⟨_, rfl, _, _, _, _, rfl, rfl, SqL.of hl1, rfl, _, rfl, _, _, _, _, rfl, rfl, SqL.of hl1, rfl, _, _, rfl, rfl, _, _, _, _, rfl, rfl, hS1, atV (j := i.toNat) (by omega) (by omega), ?_⟩
        refine ⟨_, rfl, _, _, rfl, rfl, ⟨by decide, by decide, by decide⟩, _, _, rfl, rfl, _, rfl, ?_⟩
        generalize ns.getD i.toNat 0 = z
        refine ite2 (fun hz => ?_) (fun hz => ?_)
        · have hz : (10 : Int) ^ (18 : Int).toNat ≤ z := of_decide_eq_true hz
          have z0 : 0 ≤ z := Int.le_trans (by decide) hz
          refine ⟨_, rfl, _, rfl, _, _, rfl, rfl, hdiv _, _, rfl, st, _, _, 3, rfl, rfl, hl1, rfl, ?_⟩
          refine ⟨_, rfl, _, rfl, _, _, rfl, rfl, m0, ?_⟩
          rw [upd_upd]
          exact k (z % many) (i + 1) m (z / many) (Int.emod_nonneg _ (by omega)) (Int.emod_lt_of_pos _ m0) ⟨by omega, d.m0, d.m1, Int.ediv_nonneg z0 (by omega)⟩
        · refine ⟨_, rfl, st, _, _, 3, rfl, rfl, hl1, rfl, ?_⟩
          refine ⟨_, rfl, _, rfl, _, _, rfl, rfl, m0, ?_⟩
          rw [upd_upd]
          exact k (z % many) (i + 1) m 0 (Int.emod_nonneg _ (by omega)) (Int.emod_lt_of_pos _ m0) ⟨by omega, d.m0, d.m1, Int.le_refl _⟩
      · refine ⟨_, rfl, _, _, _, _, rfl, rfl, SqL.of hl1, rfl, _, _, rfl, rfl, wide_mul (a := 31) (b := 17) (by have := d.m0; have := d.m1; omega) (by decide) (by decide) (by decide) (by decide), _, _, rfl, rfl, _, _, rfl, rfl, (by show (0 : Int) < 2147483647; decide), _, rfl, st, _, _, 2, rfl, rfl, hl1, rfl, ?_⟩
        rw [upd_upd]
        have n0 := Int.emod_nonneg (m * 48271 + 11) (show (2147483647 : Int) ≠ 0 by decide)
        have n1 := Int.emod_lt_of_pos (m * 48271 + 11) (show (0 : Int) < 2147483647 by decide)
        have hl2 : (upd H st (.lst [.ref a, .int (i + 1), .int ((m * 48271 + 11) % 2147483647), .int c])) st = some (.lst [.ref a, .int (i + 1), .int ((m * 48271 + 11) % 2147483647), .int c]) := upd_same
        refine ⟨_, rfl, _, _, _, _, rfl, rfl, SqL.of hl2, rfl, _, _, rfl, rfl, wide_div (b := 3) (by decide) (by decide) (by decide) (by decide), _, rfl, _, _, rfl, rfl, m0, ?_⟩
        have i0 := d.i0
        exact k ((m * 48271 + 11) % 2147483647 / 7 % many) (i + 1) ((m * 48271 + 11) % 2147483647) c (Int.emod_nonneg _ (by omega)) (Int.emod_lt_of_pos _ m0) ⟨by omega, n0, n1, d.c0⟩
abbrev s_law_share : Stmt := top 21
theorem sc_law_share : FnScope ["_law_state", "_law_beats"] ["_law_state"] (defScope s_law_share) := ⟨rfl, rfl, rfl, by decide +kernel, rfl, by decide +kernel, by decide +kernel⟩
/-- _law_share(state): a new pair of beats and pulses -/
def spShare (K : PySem.W.Frag) : Sp := fun vs H Q _ => ∃ (st a : Addr) (ns : List Int), vs = [.ref st] ∧ SOk K a ns st H ∧
  ∀ (b p : Int) (t : Addr) (H' : Hp), 1 ≤ b → b ≤ 64 → 0 ≤ p → p ≤ b → H t = none → Keep st H H' → SOk K a ns st H' → H' t = some (.tup [.int b, .int p]) → Q (.ref t) H'
theorem ok_law_share {f : Addr} {fd : FuncData} (F : FunG K mg "_law_share" s_law_share f fd ["_law_state"]) (c_law_drawn : Cl P w K mg base CX0 1 "_law_drawn" (spDrawn K)) : FnOk P w K mg base CX0 2 f fd ["_law_state"] (spShare K) := by
  refine F.fn.ok sc_law_share (fun vs H Q E h => ?_) (fun cdv A outer s H vs Q E hr h => ?_)
  · obtain ⟨st, a, ns, rfl, _⟩ := h
    rfl
  · obtain ⟨st, a, ns, rfl, hs, k⟩ := h
    refine ⟨_, (pss_cons (ps_set (i := 1) sc_law_share.nd rfl (.inl rfl) (pe_op op_add pe_int (pe_cl c_law_drawn hr (by decide) (by rfl) (pa_cons (pv 0) (pa_cons (pe_ix (ixL K) (pe_lst (pa_cons pe_int (pa_cons pe_int (pa_cons pe_int pa_nil)))) (pe_cl c_law_drawn hr (by decide) (by rfl) (pa_cons (pv 0) (pa_cons pe_int pa_nil))) (fun _ _ => rfl)) pa_nil)))))
      (pss_one (ps_ret (pe_tup (pa_cons (pv 1) (pa_cons (pe_ix (ixL K) (pe_lst (pa_cons pe_int (pa_cons (pv 1) (pa_cons (pe_cl c_law_drawn hr (by decide) (by rfl) (pa_cons (pv 0) (pa_cons (pe_op op_add (pv 1) pe_int) pa_nil))) (pa_cons (pe_cl c_law_drawn hr (by decide) (by rfl) (pa_cons (pv 0) (pa_cons (pe_op op_add (pv 1) pe_int) pa_nil))) pa_nil))))) (pe_cl c_law_drawn hr (by decide) (by rfl) (pa_cons (pv 0) (pa_cons pe_int pa_nil))) (fun _ _ => rfl)) pa_nil)))))), ?_⟩
    -- beats = 1 + drawn(state, [6, 16, 64][drawn(state, 3)])
    refine ⟨_, rfl, (by show 3 ≤ sizeLine; decide), fun p1 hp1 => ?_⟩
    have s1 := hs.new (o := .lst [.int 6, .int 16, .int 64]) hp1
    refine ⟨_, rfl, st, a, ns, 3, rfl, s1, by decide, by decide, fun r i m c r0 r1 d => ?_⟩
    have s2 := s1.drawn d
    have n1 := hs.ne_of hp1
    have k2 : Keep st H (upd (upd H p1 (.lst [.int 6, .int 16, .int 64])) st (StO a i m c)) := ((Keep.refl st H).new hp1).atSt
    have hp2 : (upd (upd H p1 (.lst [.int 6, .int 16, .int 64])) st (StO a i m c)) p1 = some (.lst [.int 6, .int 16, .int 64]) := by rw [upd_ne n1, upd_same]
    generalize upd (upd H p1 (.lst [.int 6, .int 16, .int 64])) st (StO a i m c) = H2 at s2 k2 hp2
    have hat : ∃ v : Int, atI [V.int 6, V.int 16, V.int 64] r = some (.int v) ∧ 1 ≤ v ∧ v ≤ 64 := by
      rcases pick3 r0 r1 with e | e | e <;> subst e <;> exact ⟨_, rfl, by decide, by decide⟩
    obtain ⟨v, hv, v0, v1⟩ := hat
    refine ⟨_, _, _, _, rfl, rfl, SqL.of hp2, hv, st, a, ns, v, rfl, s2, by omega, Int.lt_of_le_of_lt v1 (by decide), fun r2 i2 m2 c2 r20 r21 d2 => ?_⟩
    have s3 := s2.drawn d2
    have k3 := k2.atSt (o := StO a i2 m2 c2)
    generalize upd H2 st (StO a i2 m2 c2) = H3 at s3 k3
    -- (beats, [0, beats, drawn(state, beats + 1), drawn(state, beats + 1)][drawn(state, 4)])
    refine ⟨_, _, rfl, rfl, _, rfl, _, rfl, _, rfl, _, rfl, _, _, rfl, rfl, st, a, ns, _, rfl, s3, by omega, Int.lt_of_le_of_lt (show 1 + r2 + 1 ≤ 66 by omega) (by decide), fun r4 i4 m4 c4 r40 r41 d4 => ?_⟩
    have s4 := s3.drawn d4
    have k4 := k3.atSt (o := StO a i4 m4 c4)
    generalize upd H3 st (StO a i4 m4 c4) = H4 at s4 k4
    refine ⟨_, rfl, _, rfl, _, _, rfl, rfl, st, a, ns, _, rfl, s4, by omega, Int.lt_of_le_of_lt (show 1 + r2 + 1 ≤ 66 by omega) (by decide), fun r5 i5 m5 c5 r50 r51 d5 => ?_⟩
    have s5 := s4.drawn d5
    have k5 := k4.atSt (o := StO a i5 m5 c5)
    generalize upd H4 st (StO a i5 m5 c5) = H5 at s5 k5
    refine ⟨(by show 4 ≤ sizeLine; decide), fun p6 hp6 => ?_⟩
    have s6 := s5.new (o := .lst [.int 0, .int (1 + r2), .int r4, .int r5]) hp6
    have k6 := k5.new (o := .lst [.int 0, .int (1 + r2), .int r4, .int r5]) hp6
    have n6 := s5.ne_of hp6
    refine ⟨_, rfl, st, a, ns, 4, rfl, s6, by decide, by decide, fun r7 i7 m7 c7 r70 r71 d7 => ?_⟩
    have s7 := s6.drawn d7
    have k7 := k6.atSt (o := StO a i7 m7 c7)
    have hp7 : (upd (upd H5 p6 (.lst [.int 0, .int (1 + r2), .int r4, .int r5])) st (StO a i7 m7 c7)) p6 = some (.lst [.int 0, .int (1 + r2), .int r4, .int r5]) := by rw [upd_ne n6, upd_same]
    generalize upd (upd H5 p6 (.lst [.int 0, .int (1 + r2), .int r4, .int r5])) st (StO a i7 m7 c7) = H7 at s7 k7 hp7
    have hat : ∃ v : Int, atI [V.int 0, V.int (1 + r2), V.int r4, V.int r5] r7 = some (.int v) ∧ 0 ≤ v ∧ v ≤ 1 + r2 := by
      rcases pick4 r70 r71 with e | e | e | e <;> subst e
      · exact ⟨_, rfl, by omega, by omega⟩
      · exact ⟨_, rfl, by omega, by omega⟩
      · exact ⟨_, rfl, by omega, by omega⟩
      · exact ⟨_, rfl, by omega, by omega⟩
    obtain ⟨q, hq, q0, q1⟩ := hat
    refine ⟨_, _, _, _, rfl, rfl, SqL.of hp7, hq, (by show 2 ≤ sizeLine; decide), fun t ht => ?_⟩
    refine k (1 + r2) q t _ (by omega) (by omega) q0 q1 ?_ (k7.new ht) (s7.new ht) upd_same
    cases e : H t with
    | none => rfl
    | some o =>
      have e2 := k7 t o (s7.ne_of ht) e
      rw [ht] at e2
      cases e2
abbrev s_law_even : Stmt := top 23
theorem sc_law_even : FnScope ["_law_beats", "_law_pulses", "_law_turn", "_law_left", "_law_found", "_law_k"] ["_law_beats", "_law_pulses", "_law_turn"] (defScope s_law_even) := ⟨rfl, rfl, rfl, by decide +kernel, rfl, by decide +kernel, by decide +kernel⟩
/-- _law_even(beats, pulses, turn): the even frame, a new list -/
def spLEven : Sp := fun vs H Q _ => ∃ b p t : Int, vs = [.int b, .int p, .int t] ∧ 0 < b ∧ b ≤ 64 ∧ 0 ≤ p ∧ p ≤ b ∧ t.natAbs < 2 ^ 300 ∧
  ∀ l, H l = none → Q (.ref l) (upd H l (.lst ((evL b p t).map V.int)))
theorem ok_law_even {f : Addr} {fd : FuncData} (F : FunG K mg "_law_even" s_law_even f fd ["_law_beats", "_law_pulses", "_law_turn"]) (T : Txt K mg) : FnOk P w K mg base CX0 1 f fd ["_law_beats", "_law_pulses", "_law_turn"] spLEven := by
  refine F.fn.ok sc_law_even (fun vs H Q E h => ?_) (fun cdv A outer s H vs Q E hr h => ?_)
  · obtain ⟨b, p, t, rfl, _⟩ := h
    rfl
  · obtain ⟨b, p, t, rfl, b0, b1, p0, p1, ht, k⟩ := h
    refine ⟨_, (pss_cons (ps_set (i := 3) sc_law_even.nd rfl (.inl rfl) (pe_op op_mod (pe_op op_mulW (pv 2) (pv 1)) (pv 0)))
      (pss_cons (ps_set (i := 4) sc_law_even.nd rfl (.inl rfl) (pe_lst pa_nil))
      (pss_cons (ps_for PassesOwn.never (by rfl) (pi_range1 (by rfl) T.b_range (pa_cons (pv 0) pa_nil)) (pg_name (i := 5) sc_law_even.nd rfl (.inl rfl)) (pss_cons (ps_set (i := 3) sc_law_even.nd rfl (.inl rfl) (pe_op op_add (pv 3) (pv 1)))
      (pss_cons (ps_expr (pe_bm PySem.F.plainAttrs_list PySem.F.slot_list_append PySem.F.type_list_append mt_append (pv 4) (pa_cons (pe_callTy call_int1 (by rfl) T.b_int (by decide +kernel) (pa_cons (pe_cmpR op_ge (pv 3) (pv 0) (nomark _)) pa_nil)) pa_nil)))
      (pss_one (ps_set (i := 3) sc_law_even.nd rfl (.inl rfl) (pe_op op_sub (pv 3) (pe_op op_mulW (pv 0) (pe_ix (ixL K) (pv 4) (pe_un un_neg pe_int) (fun _ _ => rfl)))))))))
      (pss_one (ps_ret (pv 4)))))), ?_⟩
    refine ⟨_, rfl, _, rfl, _, _, rfl, rfl, wide_mul (a := 300) (b := 7) ht (by omega) (by decide) (by decide) (by decide), _, rfl, _, _, rfl, rfl, b0, ?_⟩
    refine ⟨Nat.zero_le _, fun l hl => ?_⟩
    refine ⟨_, rfl, _, rfl, by omega, by omega, for_range (lo := 0) (n := b.toNat) (fun i σ H' => ∃ v : Option V, σ = [some (.int b), some (.int p), some (.int t), some (.int (evR b p t i)), some (.ref l), v] ∧ H' = upd H l (.lst (((List.range i).map (evB b p t)).map V.int)))
      ⟨none, by unfold evR; simp only [Int.natCast_zero, Int.zero_add]; rfl, rfl⟩ ?_ ?_⟩
    · rintro i σ H' hi ⟨v, rfl, rfl⟩
      refine ⟨_, rfl, _, rfl, _, _, rfl, rfl, ?_⟩
      have hL : upd H l (.lst (((List.range i).map (evB b p t)).map V.int)) l = some (.lst (((List.range i).map (evB b p t)).map V.int)) := upd_same
      refine ⟨_, rfl, .inl ⟨rfl, _, SqL.of hL⟩, _, rfl, _, rfl, _, _, rfl, rfl, .inr ⟨_, rfl, l, _, _, rfl, rfl, hL, small_of (m := 64) (by simp; omega), ?_⟩⟩
      rw [upd_upd]
      have e1 : (if decide (b ≤ evR b p t i + p) = true then (1 : Int) else 0) = evB b p t i := by
        rw [evB_eq b0 p0 p1]
        simp only [decide_eq_true_eq]
      rw [e1]
      have e2 : ((List.range i).map (evB b p t)).map V.int ++ [V.int (evB b p t i)] = ((List.range (i + 1)).map (evB b p t)).map V.int := by
        rw [List.range_succ, List.map_append, List.map_append]; rfl
      have hL2 : upd H l (.lst (((List.range i).map (evB b p t)).map V.int ++ [V.int (evB b p t i)])) l = some (.lst (((List.range i).map (evB b p t)).map V.int ++ [V.int (evB b p t i)])) := upd_same
      refine ⟨_, rfl, _, rfl, _, rfl, _, rfl, _, _, _, _, rfl, rfl, SqL.of hL2, atI_last _ _, _, _, rfl, rfl, wide_mul (a := 7) (b := 2) (by omega) (by rcases evB_01 b0 p0 p1 t i with e | e <;> rw [e] <;> decide) (by decide) (by decide) (by decide), _, _, rfl, rfl, ?_⟩
      refine ⟨some (.int (0 + (i : Int))), ?_, by rw [e2]⟩
      rw [evR_next b0 p0 p1]
      rfl
    · rintro σ H' ⟨v, rfl, rfl⟩
      exact ⟨_, rfl, k l hl⟩
end
end My

namespace My
open PySem PySem.Spec PyProof.Rows LamX L2
section
variable {P : Program} {w : World} {K : PySem.W.Frag} {mg : Str → Option Value} {base : Heap}
abbrev s_law_kind : Stmt := top 20
theorem sc_law_kind : FnScope ["_law_work", "e", "_law_kinds", "_law_words", "_law_word"] ["_law_work"] (defScope s_law_kind) := ⟨rfl, rfl, rfl, by decide +kernel, rfl, by decide +kernel, by decide +kernel⟩
/-- _law_kind's making of what it got: its answer, or BadText's name and place -/
def TKind (K : PySem.W.Frag) : (XK → Hp → VK → Prop) → Hp → VK → Prop := fun tl H Q =>
  tl (fun cls d H' => ∃ (dd : Addr) (n : Int), cls = .ref (He.ga K "BadText") ∧ d = some dd ∧ H' dd = some (.xd [("place", .int n)]) ∧ ∀ t H'', Same H' H'' → H'' t = some (.tup [.str "BadText", .int n]) → Q (.ref t) H'') H Q
theorem kind_gives {X : Cx} (T : Txt X.K X.mg) {g : Addr} {cdg : Value} {q : Str} : GivesTo X ["_law_work", "e", "_law_kinds", "_law_words", "_law_word"] "_law_kind" (defScope s_law_kind) g cdg (defBody s_law_kind) "_law_work" q (TKind X.K) := by
  intro f c' s H Q tl act hc h
  refine ⟨_, pss_one (ps_try_as (X := (cxOf C8.CX0 X.prog X.w X.K X.mg X.base ["_law_work", "e", "_law_kinds", "_law_words", "_law_word"] "_law_kind" (defScope s_law_kind) g cdg X.A X.stack s H C8.E0).nox) (i := 1) (c := .ref (He.ga X.K "PulseError"))
      (tb := fun W D σ H => ∃ Ech : XK, (∀ cls d σ' H', Ech cls d H' → W cls d σ' H') ∧ σ[0]? = some (some (.ref f)) ∧ H c' = some (CodeO c' q) ∧ tl Ech H D.rt)
      rfl rfl sc_law_kind.nd rfl (by rfl) ⟨rfl, by decide, .inl T.g_PulseError⟩ L2.takes0 (fun W pn xe tk _ => ?_) (fun a oe cls d pn hz hf => pss_len 5 (pss_cons (ps_set (i := 2) sc_law_kind.nd rfl (.inl rfl) (pe_lst (pa_cons (pe_callB (call_isD hz hf) (by rfl) T.b_isinstance (by decide +kernel) (pa_cons (pv 1) (pa_cons (pe_glob (v := .ref (He.ga X.K "BadFrame")) (by rfl) T.g_BadFrame rfl) pa_nil))) (pa_cons (pe_callB (call_isD hz hf) (by rfl) T.b_isinstance (by decide +kernel) (pa_cons (pv 1) (pa_cons (pe_glob (v := .ref (He.ga X.K "BadShare")) (by rfl) T.g_BadShare rfl) pa_nil))) (pa_cons (pe_callB (call_isD hz hf) (by rfl) T.b_isinstance (by decide +kernel) (pa_cons (pv 1) (pa_cons (pe_glob (v := .ref (He.ga X.K "BadWidth")) (by rfl) T.g_BadWidth rfl) pa_nil))) (pa_cons (pe_callB (call_isD hz hf) (by rfl) T.b_isinstance (by decide +kernel) (pa_cons (pv 1) (pa_cons (pe_glob (v := .ref (He.ga X.K "BadBegins")) (by rfl) T.g_BadBegins rfl) pa_nil))) pa_nil))))))
      (pss_cons (ps_set (i := 2) sc_law_kind.nd rfl (.inl rfl) (pe_op op_cat (pv 2) (pe_lst (pa_cons (pe_callB (call_isD hz hf) (by rfl) T.b_isinstance (by decide +kernel) (pa_cons (pv 1) (pa_cons (pe_glob (v := .ref (He.ga X.K "BadRuns")) (by rfl) T.g_BadRuns rfl) pa_nil))) (pa_cons (pe_callB (call_isD hz hf) (by rfl) T.b_isinstance (by decide +kernel) (pa_cons (pv 1) (pa_cons (pe_glob (v := .ref (He.ga X.K "NoRoom")) (by rfl) T.g_NoRoom rfl) pa_nil))) (pa_cons (pe_callB (call_isD hz hf) (by rfl) T.b_isinstance (by decide +kernel) (pa_cons (pv 1) (pa_cons (pe_glob (v := .ref (He.ga X.K "BadText")) (by rfl) T.g_BadText rfl) pa_nil))) pa_nil))))))
      (pss_cons (ps_set (i := 3) sc_law_kind.nd rfl (.inl rfl) (pe_lst (pa_cons pe_str (pa_cons pe_str (pa_cons pe_str (pa_cons pe_str (pa_cons pe_str (pa_cons pe_str (pa_cons pe_str pa_nil)))))))))
      (pss_cons (ps_if (PW.pt (pw_or (pt_cmpR op_ne (pe_bmK X.K PySem.F.plainAttrs_list PySem.F.slot_list_count PySem.F.type_list_count (mtCntK X.K) (pv 2) (pa_cons pe_bl pa_nil)) pe_int (nomark _)) (pw_or1 (pt_not (pt_val (pe_callB (call_isD hz hf) (by rfl) T.b_isinstance (by decide +kernel) (pa_cons (pv 1) (pa_cons (pe_bltn (v := .ty "ValueError") (u := .type "ValueError") (by rfl) T.b_ValueError (by decide +kernel) rfl) pa_nil)))))))) (pss_one (ps_ret pe_str)) pss_nil)
      (pss_cons (ps_set (i := 4) sc_law_kind.nd rfl (.inl rfl) (pe_ix (ixL X.K) (pv 3) (pe_bmK X.K PySem.F.plainAttrs_list PySem.F.slot_list_index PySem.F.type_list_index (mtIndexK X.K) (pv 2) (pa_cons pe_bl pa_nil)) (fun _ _ => rfl)))
      (pss_one (ps_ret (pe_ifExp (pt_cmpR op_eq (pv 4) pe_str (nomark _)) (pe_tup (pa_cons (pv 4) (pa_cons (pe_xfD T.bt_k.exc T.bt_n hz hf (pv 1)) pa_nil))) (pv 4))))))))))), ?_⟩
  · refine ⟨fun pins s' σ H' D I h' => ?_⟩
    obtain ⟨Ech, hW, h1, h2, h3⟩ := h'
    exact (pss_one (ps_ret (act W pn xe Ech _ _ tk hW))).run pins s' σ H' D I ⟨h1, h2, h3⟩
  · refine ⟨fun cls d H' => ∃ (dd : Addr) (n : Int), cls = .ref (He.ga X.K "BadText") ∧ d = some dd ∧ H' dd = some (.xd [("place", .int n)]) ∧ ∀ t H'', Same H' H'' → H'' t = some (.tup [.str "BadText", .int n]) → Q (.ref t) H'', ?_, rfl, hc, h⟩
    rintro cls d σ' H' ⟨dd, n, rfl, rfl, hdd, k⟩
    have E := T.bt_k
    refine ⟨true, E.pe, fun _ a ha hlen => ?_, fun z => nomatch z⟩
    rw [List.length_set] at hlen
    obtain ⟨v0, v1, v2, v3, v4, rfl⟩ := five hlen
    refine ⟨_, rfl, _, _, _, _, _, _, rfl, rfl, hdd, E.exc, rfl, (fun _ h => h), E.k0, _, rfl, _, _, _, _, _, _, rfl, rfl, hdd, E.exc, rfl, (fun _ h => h), E.k1, _, rfl, _, _, _, _, _, _, rfl, rfl, hdd, E.exc, rfl, (fun _ h => h), E.k2, _, rfl, _, _, _, _, _, _, rfl, rfl, hdd, E.exc, rfl, (fun _ h => h), E.k3, (by show 4 ≤ sizeLine; decide), fun p1 hp1 => ?_⟩
    have e1 : Same H' (upd H' p1 (.lst [.bl (decide (6 = 0)), .bl (decide (6 = 1)), .bl (decide (6 = 2)), .bl (decide (6 = 3))])) := Same.upd hp1
    have h1 : upd H' p1 (.lst [.bl (decide (6 = 0)), .bl (decide (6 = 1)), .bl (decide (6 = 2)), .bl (decide (6 = 3))]) p1 = some (.lst [.bl (decide (6 = 0)), .bl (decide (6 = 1)), .bl (decide (6 = 2)), .bl (decide (6 = 3))]) := upd_same
    generalize upd H' p1 (.lst [.bl (decide (6 = 0)), .bl (decide (6 = 1)), .bl (decide (6 = 2)), .bl (decide (6 = 3))]) = H1 at e1 h1
    refine ⟨_, rfl, _, rfl, _, _, _, _, _, _, rfl, rfl, (e1 _ _ hdd), E.exc, rfl, (fun _ h => h), E.k4, _, rfl, _, _, _, _, _, _, rfl, rfl, (e1 _ _ hdd), E.exc, rfl, (fun _ h => h), E.k5, _, rfl, _, _, _, _, _, _, rfl, rfl, (e1 _ _ hdd), E.exc, rfl, (fun _ h => h), E.k6, (by show 3 ≤ sizeLine; decide), fun p2 hp2 => ?_⟩
    have e2 : Same H' (upd H1 p2 (.lst [.bl (decide (6 = 4)), .bl (decide (6 = 5)), .bl (decide (6 = 6))])) := e1.new hp2
    have h12 : upd H1 p2 (.lst [.bl (decide (6 = 4)), .bl (decide (6 = 5)), .bl (decide (6 = 6))]) p1 = _ := (upd_ne (ne_of_none h1 hp2)).trans h1
    have h2 : upd H1 p2 (.lst [.bl (decide (6 = 4)), .bl (decide (6 = 5)), .bl (decide (6 = 6))]) p2 = some (.lst [.bl (decide (6 = 4)), .bl (decide (6 = 5)), .bl (decide (6 = 6))]) := upd_same
    generalize upd H1 p2 (.lst [.bl (decide (6 = 4)), .bl (decide (6 = 5)), .bl (decide (6 = 6))]) = H2 at e2 h12 h2
    refine ⟨_, _, _, _, rfl, rfl, h12, h2, (by show 7 ≤ sizeLine; decide), fun p3 hp3 => ?_⟩
    have e3 : Same H' (upd H2 p3 (.lst ([.bl (decide (6 = 0)), .bl (decide (6 = 1)), .bl (decide (6 = 2)), .bl (decide (6 = 3))] ++ [.bl (decide (6 = 4)), .bl (decide (6 = 5)), .bl (decide (6 = 6))]))) := e2.new hp3
    have h3 : upd H2 p3 (.lst ([.bl (decide (6 = 0)), .bl (decide (6 = 1)), .bl (decide (6 = 2)), .bl (decide (6 = 3))] ++ [.bl (decide (6 = 4)), .bl (decide (6 = 5)), .bl (decide (6 = 6))])) p3 = some (.lst ([.bl (decide (6 = 0)), .bl (decide (6 = 1)), .bl (decide (6 = 2)), .bl (decide (6 = 3))] ++ [.bl (decide (6 = 4)), .bl (decide (6 = 5)), .bl (decide (6 = 6))])) := upd_same
    generalize upd H2 p3 (.lst ([.bl (decide (6 = 0)), .bl (decide (6 = 1)), .bl (decide (6 = 2)), .bl (decide (6 = 3))] ++ [.bl (decide (6 = 4)), .bl (decide (6 = 5)), .bl (decide (6 = 6))])) = H3 at e3 h3
    refine ⟨(by show 7 ≤ sizeLine; decide), fun p4 hp4 => ?_⟩
    have e4 : Same H' (upd H3 p4 (.lst [V.str "BadFrame", V.str "BadShare", V.str "BadWidth", V.str "BadBegins", V.str "BadRuns", V.str "NoRoom", V.str "BadText"])) := e3.new hp4
    have h34 : upd H3 p4 (.lst [V.str "BadFrame", V.str "BadShare", V.str "BadWidth", V.str "BadBegins", V.str "BadRuns", V.str "NoRoom", V.str "BadText"]) p3 = _ := (upd_ne (ne_of_none h3 hp4)).trans h3
    have h4 : upd H3 p4 (.lst [V.str "BadFrame", V.str "BadShare", V.str "BadWidth", V.str "BadBegins", V.str "BadRuns", V.str "NoRoom", V.str "BadText"]) p4 = some (.lst [V.str "BadFrame", V.str "BadShare", V.str "BadWidth", V.str "BadBegins", V.str "BadRuns", V.str "NoRoom", V.str "BadText"]) := upd_same
    generalize upd H3 p4 (.lst [V.str "BadFrame", V.str "BadShare", V.str "BadWidth", V.str "BadBegins", V.str "BadRuns", V.str "NoRoom", V.str "BadText"]) = H4 at e4 h34 h4
    refine ⟨_, rfl, .inl ⟨rfl, _, SqL.of h34⟩, _, _, _, rfl, rfl, SqL.of h34, rfl, rfl, rfl, _, rfl, iteFe rfl ⟨_, rfl, _, _, _, _, _, _, rfl, rfl, (e4 _ _ hdd), E.exc, rfl, (fun _ h => h), E.ve, _, rfl, iteF ?_⟩⟩
    refine ⟨_, rfl, _, rfl, .inl ⟨rfl, _, SqL.of h34⟩, _, _, _, 6, _, rfl, rfl, SqL.of h34, rfl, rfl, rfl, rfl, noAhead [decide (6 = 0), decide (6 = 1), decide (6 = 2), decide (6 = 3), decide (6 = 4), decide (6 = 5), decide (6 = 6)] 6 (by decide), _, _, _, _, rfl, rfl, SqL.of h4, at_of (j := 6) rfl rfl, ?_⟩
    refine ⟨_, rfl, rfl, _, rfl, iteTe (by decide) ⟨_, rfl, _, rfl, rfl, rfl, dd, _, .int n, rfl, e4 _ _ hdd, (by rw [lookup_put, if_pos rfl]), (by show 2 ≤ sizeLine; decide), fun p5 hp5 => ?_⟩⟩
    exact k p5 _ (e4.new hp5) upd_same
end
end My

namespace My
open PySem PySem.Spec PyProof.Rows LamX L2
section
variable {P : Program} {w : World} {K : PySem.W.Frag} {mg : Str → Option Value} {base : Heap}
abbrev s_law_frame : Stmt := top 22
theorem sc_law_frame : FnScope ["_law_state", "_law_beats", "_law_pulses", "_law_often", "_law_k", "_law_found", "_law_turn", "_law_one", "_law_other", "_law_had"] ["_law_state"] (defScope s_law_frame) := ⟨rfl, rfl, rfl, by decide +kernel, rfl, by decide +kernel, by decide +kernel⟩
/-- _law_frame(state): some frame, a new list -/
def spFrame (K : PySem.W.Frag) : Sp := fun vs H Q _ => ∃ (st a : Addr) (ns : List Int), vs = [.ref st] ∧ SOk K a ns st H ∧
  ∀ (fs : List Int) (l : Addr) (H' : Hp), Frm fs → H l = none → Keep st H H' → SOk K a ns st H' → H' l = some (.lst (fs.map V.int)) → Q (.ref l) H'
theorem set_bit {fs : List Int} (h : ∀ f ∈ fs, f = 0 ∨ f = 1) {z : Int} (hz : z = 0 ∨ z = 1) (j : Nat) : ∀ f ∈ fs.set j z, f = 0 ∨ f = 1 := fun f hf => by
  rcases List.mem_or_eq_of_mem_set hf with m | e
  · exact h f m
  · rw [e]; exact hz
theorem ok_law_frame {f : Addr} {fd : FuncData} (F : FunG K mg "_law_frame" s_law_frame f fd ["_law_state"]) (T : Txt K mg) (c_law_drawn : Cl P w K mg base CX0 1 "_law_drawn" (spDrawn K)) (c_law_share : Cl P w K mg base CX0 2 "_law_share" (spShare K))
    (c_law_even : Cl P w K mg base CX0 1 "_law_even" spLEven) : FnOk P w K mg base CX0 3 f fd ["_law_state"] (spFrame K) := by
  refine F.fn.ok sc_law_frame (fun vs H Q E h => ?_) (fun cdv A outer s H vs Q E hr h => ?_)
  · obtain ⟨st, a, ns, rfl, _⟩ := h
    rfl
  · obtain ⟨st, a, ns, rfl, hs, k⟩ := h
    refine ⟨_, (pss_cons (ps_asg (pe_cl c_law_share hr (by decide) (by rfl) (pa_cons (pv 0) pa_nil)) (pg_tup (by rfl) (pgs_cons (pg_name (i := 1) sc_law_frame.nd rfl (.inl rfl)) (pgs_cons (pg_name (i := 2) sc_law_frame.nd rfl (.inl rfl)) pgs_nil))))
      (pss_cons (ps_if (pt_cmpR op_eq (pe_cl c_law_drawn hr (by decide) (by rfl) (pa_cons (pv 0) (pa_cons pe_int pa_nil))) pe_int (nomark _)) (pss_cons (ps_set (i := 3) sc_law_frame.nd rfl (.inr rfl) (pe_op op_add pe_int (pe_cl c_law_drawn hr (by decide) (by rfl) (pa_cons (pv 0) (pa_cons pe_int pa_nil)))))
      (pss_one (ps_ret (pe_lc (own := [("_law_k", 4)]) (g := gName 4) (tt := tYes) (by rfl) sc_law_frame.nd (pi_range1 (by rfl) T.b_range (pa_cons (pv 1) pa_nil)) (blkOk_by (own := [("_law_k", 4)]) (N := ["_law_state", "_law_beats", "_law_pulses", "_law_often", "_law_k", "_law_found", "_law_turn", "_law_one", "_law_other", "_law_had"]) (sc := defScope s_law_frame) (by decide +kernel)) (fun _ _ _ _ _ => (pg_name (i := 4) sc_law_frame.nd rfl (.inl rfl))) (fun _ _ _ _ _ => pts_nil) (fun _ _ _ _ _ => (pe_callTy call_int1 (by rfl) T.b_int (by decide +kernel) (pa_cons (pe_cmpR op_eq (pe_cl c_law_drawn hr (by decide) (by rfl) (pa_cons (pv 0) (pa_cons (pv 3) pa_nil))) pe_int (nomark _)) pa_nil))))))) pss_nil)
      (pss_cons (ps_set (i := 5) sc_law_frame.nd rfl (.inl rfl) (pe_cl c_law_even hr (by decide) (by rfl) (pa_cons (pv 1) (pa_cons (pv 2) (pa_cons (pe_cl c_law_drawn hr (by decide) (by rfl) (pa_cons (pv 0) (pa_cons (pv 1) pa_nil))) pa_nil)))))
      (pss_cons (ps_for PassesOwn.never (by rfl) (pi_range1 (by rfl) T.b_range (pa_cons (pe_cl c_law_drawn hr (by decide) (by rfl) (pa_cons (pv 0) (pa_cons pe_int pa_nil))) pa_nil)) (pg_name (i := 6) sc_law_frame.nd rfl (.inl rfl)) (pss_cons (ps_par (i := 7) (j := 8) (by rfl) sc_law_frame.nd rfl rfl (by decide) rfl rfl (pa_cons (pe_cl c_law_drawn hr (by decide) (by rfl) (pa_cons (pv 0) (pa_cons (pv 1) pa_nil))) (pa_cons (pe_cl c_law_drawn hr (by decide) (by rfl) (pa_cons (pv 0) (pa_cons (pv 1) pa_nil))) pa_nil)) (by rfl))
      (pss_cons (ps_set (i := 9) sc_law_frame.nd rfl (.inl rfl) (pe_ix (ixL K) (pv 5) (pv 7) (fun _ _ => rfl)))
      (pss_cons (ps_asg (pe_ix (ixL K) (pv 5) (pv 8) (fun _ _ => rfl)) (pg_sub (pv 5) (pv 7) set_list))
      (pss_one (ps_asg (pv 9) (pg_sub (pv 5) (pv 8) set_list)))))))
      (pss_one (ps_ret (pv 5))))))), ?_⟩
    refine ⟨_, rfl, st, a, ns, rfl, hs, fun b p t H1 b0 b1 p0 p1 ht k1 s1 ht1 => ⟨_, _, rfl, SqT.of ht1, rfl, ?_⟩⟩
    refine ⟨_, _, rfl, _, _, rfl, rfl, ?_⟩
    refine ⟨_, rfl, st, a, ns, 2, rfl, s1, by decide, by decide, fun r i2 m2 c2 r0 r1 d2 => ?_⟩
    have s2 := s1.drawn d2
    have k2 := k1.atSt (o := StO a i2 m2 c2)
    generalize upd H1 st (StO a i2 m2 c2) = H2 at s2 k2
    refine ⟨rfl, _, rfl, ite2 (fun hc => ?_) (fun hc => ?_)⟩
    · -- any frame
      refine ⟨_, rfl, st, a, ns, 4, rfl, s2, by decide, by decide, fun r3 i3 m3 c3 r30 r31 d3 => ?_⟩
      have s3 := s2.drawn d3
      have k3 := k2.atSt (o := StO a i3 m3 c3)
      generalize upd H2 st (StO a i3 m3 c3) = H3 at s3 k3
      refine ⟨_, _, rfl, rfl, ?_⟩
      refine ⟨_, rfl, _, rfl, by omega, by omega, fun D hD => ?_⟩
      have nD := s3.ne_of hD
      have hDn : H D = none := k3.free nD hD
      refine lc_range (lo := 0) (n := b.toNat) (fun i H' => SOk K a ns st H' ∧ Keep st H H' ∧ ∃ fs : List Int, fs.length = i ∧ (∀ f ∈ fs, f = 0 ∨ f = 1) ∧ H' D = some (.lst (fs.map V.int))) ⟨s3.new hD, k3.new hD, [], rfl, by simp, upd_same⟩ ?_ ?_
      · rintro i H' hi ⟨s4, k4, fs, hl, hb, hd⟩
        refine ⟨rfl, _, rfl, _, rfl, st, a, ns, _, rfl, s4, by omega, Int.lt_of_le_of_lt (show 2 + r3 ≤ 10 by omega) (by decide), fun r5 i5 m5 c5 r50 r51 d5 => ?_⟩
        have s5 := s4.drawn d5
        have k5 := k4.atSt (o := StO a i5 m5 c5)
        have hd5 : upd H' st (StO a i5 m5 c5) D = some (.lst (fs.map V.int)) := by rw [upd_ne nD]; exact hd
        generalize upd H' st (StO a i5 m5 c5) = H5 at s5 k5 hd5
        refine ⟨rfl, .inr ⟨_, rfl, _, hd5, small_of (m := 64) (by rw [List.length_map, hl]; omega), ?_⟩⟩
        refine ⟨s5.mutK hs k5 hDn, k5.mut hDn, fs ++ [if (decide (V.int r5 = V.int 0)) = true then 1 else 0], by rw [List.length_append, hl]; rfl, fun z hz => ?_, by rw [upd_same, List.map_append]; rfl⟩
        rcases List.mem_append.mp hz with m | m
        · exact hb z m
        · rw [List.mem_singleton.mp m]; split <;> simp
      · rintro H' ⟨s4, k4, fs, hl, hb, hd⟩
        exact k fs D H' ⟨by omega, by omega, hb⟩ hDn k4 s4 hd
    · -- a told one, beats exchanged
      refine ⟨_, rfl, _, rfl, _, rfl, _, rfl, st, a, ns, b, rfl, s2, by omega, Int.lt_of_le_of_lt b1 (by decide), fun r3 i3 m3 c3 r30 r31 d3 => ?_⟩
      have s3 := s2.drawn d3
      have k3 := k2.atSt (o := StO a i3 m3 c3)
      generalize upd H2 st (StO a i3 m3 c3) = H3 at s3 k3
      refine ⟨b, p, r3, rfl, by omega, b1, p0, p1, Nat.lt_of_lt_of_le (show r3.natAbs < 100 by omega) (by decide), fun l hl => ?_⟩
      have nl := s3.ne_of hl
      have hln : H l = none := k3.free nl hl
      have s4 := s3.new (o := .lst ((evL b p r3).map V.int)) hl
      have k4 := k3.new (o := .lst ((evL b p r3).map V.int)) hl
      have hl4 : upd H3 l (.lst ((evL b p r3).map V.int)) l = some (.lst ((evL b p r3).map V.int)) := upd_same
      generalize upd H3 l (.lst ((evL b p r3).map V.int)) = H4 at s4 k4 hl4
      have hfr := evL_frm b0 b1 p0 p1 r3
      have hfl : (evL b p r3).length = b.toNat := evL_len b p r3
      refine ⟨_, rfl, st, a, ns, 3, rfl, s4, by decide, by decide, fun r5 i5 m5 c5 r50 r51 d5 => ?_⟩
      have s5 := s4.drawn d5
      have k5 := k4.atSt (o := StO a i5 m5 c5)
      have hl5 : upd H4 st (StO a i5 m5 c5) l = some (.lst ((evL b p r3).map V.int)) := by rw [upd_ne nl]; exact hl4
      generalize upd H4 st (StO a i5 m5 c5) = H5 at s5 k5 hl5
      refine ⟨_, rfl, by omega, by omega, for_range (lo := 0) (n := r5.toNat) (fun i σ H' => (∃ v3 v4 v6 v7 v8 v9 : Option V, σ = [some (.ref st), some (.int b), some (.int p), v3, v4, some (.ref l), v6, v7, v8, v9]) ∧ SOk K a ns st H' ∧ Keep st H H' ∧ ∃ fs : List Int, fs.length = b.toNat ∧ (∀ f ∈ fs, f = 0 ∨ f = 1) ∧ H' l = some (.lst (fs.map V.int)))
        ⟨⟨_, _, _, _, _, _, rfl⟩, s5, k5, _, hfl, hfr.bit, hl5⟩ ?_ ?_⟩
      · rintro i σ H' hi ⟨⟨v3, v4, v6, v7, v8, v9, rfl⟩, s6, k6, fs, hfl6, hb6, hl6⟩
        refine ⟨_, rfl, _, rfl, st, a, ns, b, rfl, s6, by omega, Int.lt_of_le_of_lt b1 (by decide), fun r7 i7 m7 c7 r70 r71 d7 => ?_⟩
        have s7 := s6.drawn d7
        have k7 := k6.atSt (o := StO a i7 m7 c7)
        have hl7 : upd H' st (StO a i7 m7 c7) l = some (.lst (fs.map V.int)) := by rw [upd_ne nl]; exact hl6
        generalize upd H' st (StO a i7 m7 c7) = H7 at s7 k7 hl7
        refine ⟨_, rfl, _, rfl, st, a, ns, b, rfl, s7, by omega, Int.lt_of_le_of_lt b1 (by decide), fun r8 i8 m8 c8 r80 r81 d8 => ?_⟩
        have s8 := s7.drawn d8
        have k8 := k7.atSt (o := StO a i8 m8 c8)
        have hl8 : upd H7 st (StO a i8 m8 c8) l = some (.lst (fs.map V.int)) := by rw [upd_ne nl]; exact hl7
        generalize upd H7 st (StO a i8 m8 c8) = H8 at s8 k8 hl8
        refine ⟨_, _, rfl, ?_⟩
        have j7 : r7.toNat < fs.length := by omega
        have j8 : r8.toNat < fs.length := by omega
        have q7 : r7 = (r7.toNat : Int) := by omega
        have q8 : r8 = (r8.toNat : Int) := by omega
        have gb : ∀ j : Nat, fs.getD j 0 = 0 ∨ fs.getD j 0 = 1 := fun j => (Frm.getD (fs := fs) ⟨by omega, by omega, hb6⟩ j)
        have ix : ∀ {z : Int} {j : Nat} {n : Nat}, z = (j : Int) → j < n → ixN n z = some j := fun {z j n} e h => by
          subst e; unfold ixN; rw [if_pos (by omega), if_pos (by omega), Int.toNat_natCast]
        refine ⟨_, rfl, _, rfl, _, _, _, _, rfl, rfl, SqL.of hl8, atV q7 j7, ?_⟩
        refine ⟨_, rfl, _, rfl, _, _, _, _, rfl, rfl, SqL.of hl8, atV q8 j8, _, rfl, _, rfl, l, _, _, r7.toNat, rfl, rfl, hl8, ix q7 (by rw [List.length_map]; exact j7), ?_⟩
        have e9 : (fs.map V.int).set r7.toNat (.int (fs.getD r8.toNat 0)) = (fs.set r7.toNat (fs.getD r8.toNat 0)).map V.int := List.map_set.symm
        rw [e9]
        have s9 := s8.mutK (o := .lst ((fs.set r7.toNat (fs.getD r8.toNat 0)).map V.int)) hs k8 hln
        have k9 := k8.mut (o := .lst ((fs.set r7.toNat (fs.getD r8.toNat 0)).map V.int)) hln
        have hl9 : upd H8 l (.lst ((fs.set r7.toNat (fs.getD r8.toNat 0)).map V.int)) l = some (.lst ((fs.set r7.toNat (fs.getD r8.toNat 0)).map V.int)) := upd_same
        generalize upd H8 l (.lst ((fs.set r7.toNat (fs.getD r8.toNat 0)).map V.int)) = H9 at s9 k9 hl9
        refine ⟨_, rfl, _, rfl, _, rfl, l, _, _, r8.toNat, rfl, rfl, hl9, ix q8 (by rw [List.length_map, List.length_set]; exact j8), ?_⟩
        have e10 : ((fs.set r7.toNat (fs.getD r8.toNat 0)).map V.int).set r8.toNat (.int (fs.getD r7.toNat 0)) = ((fs.set r7.toNat (fs.getD r8.toNat 0)).set r8.toNat (fs.getD r7.toNat 0)).map V.int := List.map_set.symm
        rw [e10]
        exact ⟨⟨_, _, _, _, _, _, rfl⟩, s9.mutK hs k9 hln, k9.mut hln, _, by rw [List.length_set, List.length_set]; exact hfl6, set_bit (set_bit hb6 (gb _) _) (gb _) _, upd_same⟩
      · rintro σ H' ⟨⟨v3, v4, v6, v7, v8, v9, rfl⟩, s6, k6, fs, hfl6, hb6, hl6⟩
        exact ⟨_, rfl, k fs l H' ⟨by omega, by omega, hb6⟩ hln k6 s6 hl6⟩
abbrev s_need_frame : Stmt := top 11
theorem sc_need_frame : FnScope ["frame", "beat"] ["frame"] (defScope s_need_frame) := ⟨rfl, rfl, rfl, by decide +kernel, rfl, by decide +kernel, by decide +kernel⟩
/-- need_frame(frame), a good one -/
def spNeedFrame (K : PySem.W.Frag) : Sp := fun vs H Q _ => ∃ (l : Addr) (fs : List Int), vs = [.ref l] ∧ SqL K H l (fs.map V.int) ∧ Frm fs ∧ ∀ H', Same H H' → Q .non H'
theorem ok_need_frame {f : Addr} {fd : FuncData} (F : FunG K mg "need_frame" s_need_frame f fd ["frame"]) (T : Txt K mg) : FnOk P w K mg base CX0 1 f fd ["frame"] (spNeedFrame K) := by
  refine F.fn.ok sc_need_frame (fun vs H Q E h => ?_) (fun cdv A outer s H vs Q E hr h => ?_)
  · obtain ⟨l, fs, rfl, _⟩ := h
    rfl
  · obtain ⟨l, fs, rfl, hS, hf, k⟩ := h
    refine ⟨_, (pss_one (ps_if (PW.pt (pw_or (pt_not (pt_chain op_le op_le pe_int (pe_callB (clLen K) (by rfl) T.b_len (by decide +kernel) (pa_cons (pv 0) pa_nil)) (C8.pe_gc (by rfl) T.k_MOST_BEATS))) (pw_or1 (pt_cmpR (opNeD K hr.units) (pe_lc (own := [("beat", 1)]) (g := gName 1) (by rfl) sc_need_frame.nd (pi_list (pv 0)) (blkOk_by (own := [("beat", 1)]) (N := ["frame", "beat"]) (sc := defScope s_need_frame) (by decide +kernel)) (fun _ _ _ _ _ => (pg_name (i := 1) sc_need_frame.nd rfl (.inl rfl))) (fun _ _ _ _ _ => (pts_one (pt_cmpR (opNotInQ K) (pv 1) (pe_tup (pa_cons pe_int (pa_cons pe_int pa_nil))) (by rfl)))) (fun _ _ _ _ _ => (pv 1))) (pe_lst pa_nil) (nomark _))))) (pss_one ps_never) pss_nil)), ?_⟩
    have h0 := hf.pos
    have h1 := hf.le
    refine ⟨_, rfl, _, _, rfl, .inl hS, _, _, rfl, rfl, _, rfl, ?_⟩
    rw [decide_eq_true (show (1 : Int) ≤ ((fs.map V.int).length : Int) by rw [List.length_map]; omega)]
    refine iteT ⟨_, _, rfl, rfl, _, rfl, ?_⟩
    rw [decide_eq_true (show ((fs.map V.int).length : Int) ≤ 64 by rw [List.length_map]; omega)]
    refine iteF ⟨_, rfl, _, rfl, ⟨_, hS⟩, fun D hD => lc_list (K := K) (a := l) (xs := fs.map V.int) (fun i H' => Same H H' ∧ H' D = some (.lst [])) ⟨Same.upd hD, upd_same⟩ (fun i H' _ h => h.1.seq hS) ?_ ?_⟩
    · rintro i x H' hi ⟨e, hd⟩
      obtain ⟨z, hz, rfl⟩ := getV hi
      refine ⟨rfl, _, rfl, (by show 2 ≤ sizeLine; decide), fun p hp => ⟨_, _, rfl, .inr (SqT.of upd_same), rfl, rfl, _, rfl, ?_⟩⟩
      have hb : inV (.int z) [.int 0, .int 1] = true := by
        rcases hf.bit z (List.mem_of_getElem? hz) with e | e <;> subst e <;> rfl
      show (if (!inV (.int z) [.int 0, .int 1]) = true then _ else _)
      rw [hb]
      exact iteF ⟨e.new hp, by rw [upd_ne (ne_of_none hd hp)]; exact hd⟩
    · rintro H' ⟨e, hd⟩
      refine ⟨Nat.zero_le _, fun q hq => ⟨_, _, dp_nil (SqL.of (by rw [upd_ne (ne_of_none hd hq)]; exact hd)), dp_nil (SqL.of upd_same), dI_shaped _, dI_shaped _, _, rfl, ?_⟩⟩
      rw [dI_eqv]
      exact iteF (k _ (e.new hq))
abbrev s_written : Stmt := top 14
theorem sc_written : FnScope ["frame", "beat"] ["frame"] (defScope s_written) := ⟨rfl, rfl, rfl, by decide +kernel, rfl, by decide +kernel, by decide +kernel⟩
/-- written(frame), a good one: its signs -/
def spWritten (K : PySem.W.Frag) : Sp := fun vs H Q _ => ∃ (l : Addr) (fs : List Int), vs = [.ref l] ∧ SqL K H l (fs.map V.int) ∧ Frm fs ∧ ∀ H', Same H H' → Q (.str (wrS fs)) H'
theorem ok_written {f : Addr} {fd : FuncData} (F : FunG K mg "written" s_written f fd ["frame"]) (T : Txt K mg) (c_need_frame : Cl P w K mg base CX0 1 "need_frame" (spNeedFrame K)) : FnOk P w K mg base CX0 2 f fd ["frame"] (spWritten K) := by
  refine F.fn.ok sc_written (fun vs H Q E h => ?_) (fun cdv A outer s H vs Q E hr h => ?_)
  · obtain ⟨l, fs, rfl, _⟩ := h
    rfl
  · obtain ⟨l, fs, rfl, hS, hf, k⟩ := h
    refine ⟨_, (pss_cons (ps_expr (pe_cl c_need_frame hr (by decide) (by rfl) (pa_cons (pv 0) pa_nil)))
      (pss_one (ps_ret (pe_join pe_str (pe_lc (own := [("beat", 1)]) (g := gName 1) (tt := tYes) (by rfl) sc_written.nd (pi_list (pv 0)) (blkOk_by (own := [("beat", 1)]) (N := ["frame", "beat"]) (sc := defScope s_written) (by decide +kernel)) (fun _ _ _ _ _ => (pg_name (i := 1) sc_written.nd rfl (.inl rfl))) (fun _ _ _ _ _ => pts_nil) (fun _ _ _ _ _ => (pe_ix ix_str (C8.pe_gc (by rfl) T.k_SIGNS) (pv 1) (fun _ _ => rfl)))))))), ?_⟩
    refine ⟨_, rfl, l, fs, rfl, hS, hf, fun H1 e1 => ?_⟩
    refine ⟨⟨_, rfl⟩, _, rfl, _, rfl, ⟨_, e1.seq hS⟩, fun D hD => lc_list (K := K) (a := l) (xs := fs.map V.int) (fun i H' => Same H H' ∧ H' D = some (.lst (((fs.take i).map sgS).map V.str))) ⟨e1.new hD, upd_same⟩ (fun i H' _ h => h.1.seq hS) ?_ ?_⟩
    · rintro i x H' hi ⟨e, hd⟩
      obtain ⟨z, hz, rfl⟩ := getV hi
      have hDn := e1.free hD
      have hat : ∃ c, atI ((⟨#[46, 35]⟩ : Str).cps.toList) z = some c ∧ (⟨#[c]⟩ : Str) = sgS z := by
        rcases hf.bit z (List.mem_of_getElem? hz) with e | e <;> subst e <;> exact ⟨_, rfl, rfl⟩
      obtain ⟨c, hc1, hc2⟩ := hat
      refine ⟨rfl, _, rfl, _, _, _, rfl, rfl, (by show 2 ≤ sizeLine; decide), hc1, ?_⟩
      refine ⟨_, hd, small_of (m := 64) (by have := hf.le; simp; omega), e.mut hDn, ?_⟩
      rw [upd_same, List.take_succ, hz, hc2]
      simp
    · rintro H' ⟨e, hd⟩
      rw [List.length_map, List.take_length] at hd
      refine ⟨_, _, fs.map sgS, rfl, rfl, .inl (SqL.of hd), ?_, k H' e⟩
      have := hf.le
      rw [sg_sum, List.length_map]
      show fs.length + fs.length * 0 ≤ 16777216
      omega
abbrev s_BadText_init__ : Stmt := inClass (top 8) 0
theorem sc_BadText_init__ : FnScope ["self", "place"] ["self", "place"] (defScope s_BadText_init__) := ⟨rfl, rfl, rfl, by decide +kernel, rfl, by decide +kernel, by decide +kernel⟩
/-- BadText.__init__(self, place) -/
def spBtInit (K : PySem.W.Frag) : Sp := fun vs H Q _ => ∃ (a : Addr) (n : Int), vs = [.ref a, .int n] ∧ H a = some (exo a (He.ga K "BadText") none) ∧
  ∀ dx, H dx = none → dx ≠ a → Q .non (upd (upd H dx (exd dx [("place", .int n)])) a (exo a (He.ga K "BadText") (some dx)))
theorem ok_BadText_init {f : Addr} {fd : FuncData} (F : FunM K "__init__" "BadText.__init__" s_BadText_init__ f fd ["self", "place"]) (T : Txt K mg) : FnOk P w K mg base CX0 1 f fd ["self", "place"] (spBtInit K) := by
  refine F.fn.ok sc_BadText_init__ (fun vs H Q E h => ?_) (fun cdv A outer s H vs Q E hr h => ?_)
  · obtain ⟨a, n, rfl, _⟩ := h
    rfl
  · obtain ⟨a, n, rfl, ha, k⟩ := h
    refine ⟨_, (pss_cons (ps_expr (pe_baseinit T.bt_b (by rfl) (pa_cons (pv 0) (pa_cons pe_str pa_nil))))
      (pss_one (ps_ost (pv 0) (pv 1)))), ?_⟩
    refine ⟨_, rfl, a, _, _, rfl, (by show 1 ≤ 1000; decide), T.bt_o, ha, ?_⟩
    exact ⟨_, rfl, _, rfl, a, _, rfl, T.bt_o, T.bt_n, .inl ⟨ha, fun dx hdx ne => k dx hdx ne⟩⟩
theorem bt_end {H : Hp} {a dx : Addr} {x y z u : HO} (ha : H a = none) (hd : upd H a x dx = none) (ne : dx ≠ a) : Same H (upd (del (upd (upd (upd H a x) dx y) a z) a) dx u) ∧ H dx = none := by
  rw [upd_ne ne] at hd
  refine ⟨fun b o hb => ?_, hd⟩
  have n1 : b ≠ dx := ne_of_none hb hd
  have n2 : b ≠ a := ne_of_none hb ha
  rw [upd_ne n1, del_ne n2, upd_ne n2, upd_ne n1, upd_ne n2]
  exact hb
end
end My

namespace My
open PySem PySem.Spec PyProof.Rows LamX L2
section
variable {P : Program} {w : World} {K : PySem.W.Frag} {mg : Str → Option Value} {base : Heap}
abbrev s_read_frame : Stmt := top 15
theorem sc_read_frame : FnScope ["text", "found", "place", "sign"] ["text"] (defScope s_read_frame) := ⟨rfl, rfl, rfl, by decide +kernel, rfl, by decide +kernel, by decide +kernel⟩
/-- read_frame(text): its frame, or BadText with the place -/
def spRead (K : PySem.W.Frag) : Sp := fun vs H Q E => ∃ z : Str, vs = [.str z] ∧ z.cps.size ≤ 100000 ∧ (Gd z → ∀ p H', Same H H' → H p = none → H' p = some (.lst ((bitsS z).map V.int)) → Q (.ref p) H') ∧
  ∀ n : Nat, Bd z n → ∀ dd H', Same H H' → H dd = none → H' dd = some (.xd [("place", .int (n : Nat))]) → E (.ref (He.ga K "BadText")) (some dd) H'
theorem ok_read_frame {f : Addr} {fd : FuncData} (F : FunG K mg "read_frame" s_read_frame f fd ["text"]) (T : Txt K mg) (c_BadText : BtC P w K mg base 1 (spBtInit K)) : FnOk P w K mg base (L2.CX P w) 3 f fd ["text"] (spRead K) := by
  refine F.fn.okX sc_read_frame (fun vs H Q E h => ?_) (fun cdv A outer s H vs Q E hr h => ?_)
  · obtain ⟨z, rfl, _⟩ := h
    rfl
  · obtain ⟨z, rfl, hl, kg, kb⟩ := h
    have es : (".#" : Str) = ⟨#[46, 35]⟩ := by decide +kernel
    refine ⟨_, (pss_cons (ps_if (pt_cmpR op_eq (pv 0) pe_str (nomark _)) (pss_one (ps_raise (by rfl) (takes_of rfl rfl rfl rfl) (pmk_bt c_BadText hr (by decide) (by rfl) (pa_cons pe_int pa_nil)))) pss_nil)
      (pss_cons (ps_set (i := 1) sc_read_frame.nd rfl (.inl rfl) (pe_lst pa_nil))
      (pss_cons (ps_for (passes_of rfl) (by rfl) (pi_enumS (by rfl) T.b_enumerate (pa_cons (pv 0) pa_nil)) (pg_tup (by rfl) (pgs_cons (pg_name (i := 2) sc_read_frame.nd rfl (.inl rfl)) (pgs_cons (pg_name (i := 3) sc_read_frame.nd rfl (.inl rfl)) pgs_nil))) (pss_cons (ps_if (PW.pt (pw_or (pt_cmpR op_eq (pv 2) (C8.pe_gc (by rfl) T.k_MOST_BEATS) (nomark _)) (pw_or1 (pt_cmpR op_notIn_sign (pv 3) (C8.pe_gc (by rfl) T.k_SIGNS) (by rfl))))) (pss_one (ps_raise (by rfl) (takes_of rfl rfl rfl rfl) (pmk_bt c_BadText hr (by decide) (by rfl) (pa_cons (pv 2) pa_nil)))) pss_nil)
      (pss_one (ps_expr (pe_bm PySem.F.plainAttrs_list PySem.F.slot_list_append PySem.F.type_list_append mt_append (pv 1) (pa_cons (pe_bmS PySem.F.plainAttrs_str PySem.F.slot_str_index PySem.F.type_str_index (mt_indexX rfl (takes_of rfl rfl rfl rfl)) (C8.pe_gc (by rfl) T.k_SIGNS) (pa_cons (pv 3) pa_nil)) pa_nil))))))
      (PSs.nox (pss_one (ps_ret (pv 1))))))), ?_⟩
    refine ⟨_, rfl, rfl, _, rfl, ?_⟩
    by_cases hz : z = ⟨#[]⟩
    · refine iteTe (decide_eq_true (congrArg V.str hz)) ⟨by decide, fun a ha => ⟨a, 0, rfl, upd_same, fun dx hdx ne => ?_⟩⟩
      obtain ⟨e1, e2⟩ := bt_end (y := exd dx [("place", .int 0)]) (z := exo a (He.ga K "BadText") (some dx)) (u := .xd [("place", .int 0)]) ha hdx ne
      refine ⟨rfl, dx, [("place", .int 0)], upd_same, (by rw [upd_ne ne]; exact upd_same), e2, ?_⟩
      exact kb 0 (.inl ⟨by rw [hz]; rfl, rfl⟩) dx _ e1 e2 upd_same
    · refine iteFe (decide_eq_false fun q => hz (V.str.inj q)) ?_
      have h0 : 1 ≤ z.cps.size := by
        rcases Nat.eq_zero_or_pos z.cps.size with q | q
        · refine absurd ?_ hz
          obtain ⟨cs⟩ := z
          congr
          exact Array.eq_empty_of_size_eq_zero q
        · exact q
      refine ⟨(by show 0 ≤ sizeLine; decide), fun p hp => ?_⟩
      have e0 : Same H (upd H p (.lst [])) := Same.upd hp
      have hp0 : upd H p (.lst []) p = some (.lst []) := upd_same
      generalize upd H p (.lst []) = H0 at e0 hp0
      refine ⟨_, rfl, z, rfl, for_it walk_enumS (fun i σ H' => (∃ v2 v3 : Option V, σ = [some (.str z), some (.ref p), v2, v3]) ∧ Same H H' ∧ H' p = some (.lst (((z.cps.toList.take i).map bitC).map V.int)) ∧ (∀ m c : Nat, m < i → z.cps[m]? = some c → okC c) ∧ i ≤ 64)
        ⟨⟨none, none, rfl⟩, e0, hp0, fun m c hm => absurd hm (Nat.not_lt_zero m), Nat.zero_le _⟩ (fun _ _ _ _ _ => trivial) ?_ ?_⟩
      · rintro i v σ H1 H2 hi ⟨⟨v2, v3, rfl⟩, e1, hp1, hg, hi64⟩ ⟨t, x1, y1, rfl, ht, rfl, q1, q2⟩
        obtain rfl : x1 = V.int (i : Nat) := (Option.some.inj q1).symm
        obtain ⟨c, hc, rfl⟩ := Option.map_eq_some_iff.mp q2
        have e2 : Same H (upd H1 t (.tup [.int (i : Nat), .str ⟨#[c]⟩])) := e1.new ht
        have hp2 : upd H1 t (.tup [.int (i : Nat), .str ⟨#[c]⟩]) p = some (.lst (((z.cps.toList.take i).map bitC).map V.int)) := by rw [upd_ne (ne_of_none hp1 ht)]; exact hp1
        refine ⟨_, _, rfl, SqT.of upd_same, rfl, _, _, rfl, _, _, rfl, rfl, ?_⟩
        generalize upd H1 t (.tup [.int (i : Nat), .str ⟨#[c]⟩]) = H2 at e2 hp2
        have bad : Bd z i → ∀ a, H2 a = none → ∀ dx, upd H2 a (exo a (He.ga K "BadText") none) dx = none → dx ≠ a → E (.ref (He.ga K "BadText")) (some dx) (upd (del (upd (upd (upd H2 a (exo a (He.ga K "BadText") none)) dx (exd dx [("place", .int (i : Nat))])) a (exo a (He.ga K "BadText") (some dx))) a) dx (.xd [("place", .int (i : Nat))])) := fun b a ha dx hdx ne => by
          obtain ⟨e3, e4⟩ := bt_end (y := exd dx [("place", .int (i : Nat))]) (z := exo a (He.ga K "BadText") (some dx)) (u := .xd [("place", .int (i : Nat))]) ha hdx ne
          exact kb i b dx _ (e2.trans e3) (e2.free e4) upd_same
        refine ⟨_, rfl, rfl, _, rfl, ?_⟩
        by_cases h64 : i = 64
        · subst h64
          refine iteTe (decide_eq_true rfl) (iteT ⟨_, rfl, by decide, fun a ha => ⟨a, 64, rfl, upd_same, fun dx hdx ne => ⟨rfl, dx, _, upd_same, (by rw [upd_ne ne]; exact upd_same), (by rw [upd_ne ne] at hdx; exact hdx), bad (.inr ⟨hi, hi64, hg, .inl rfl⟩) a ha dx hdx ne⟩⟩⟩)
        refine iteFe (decide_eq_false fun q => h64 (Int.ofNat.inj (V.int.inj q))) ⟨_, rfl, _, _, rfl, rfl, _, rfl, ?_⟩
        by_cases hc2 : okC c
        · have hm : c ∈ (".#" : Str).cps.toList := by
            rw [es]
            rcases hc2 with q | q <;> subst q <;> simp
          refine iteFe (by rw [decide_eq_true hm]; rfl) ?_
          have hx : ∃ k : Nat, Txt.index0 (".#" : Str) ⟨#[c]⟩ = some k ∧ (k : Int) = bitC c := by
            rcases hc2 with q | q <;> subst q
            · exact ⟨0, by decide +kernel, rfl⟩
            · exact ⟨1, by decide +kernel, rfl⟩
          obtain ⟨k, hk1, hk2⟩ := hx
          refine ⟨_, rfl, .inl ⟨rfl, _, SqL.of hp2⟩, rfl, _, rfl, _, _, rfl, rfl, fun k' hk' => ?_, fun q => absurd (q.symm.trans hk1) (fun z => nomatch z)⟩
          obtain rfl : k = k' := Option.some.inj (hk1.symm.trans hk')
          refine ⟨p, _, _, rfl, rfl, hp2, small_of (m := 100000) (by simp; omega), ?_⟩
          refine ⟨⟨_, _, rfl⟩, e2.mut hp, ?_, fun m d hm hd => ?_, by omega⟩
          · rw [upd_same, hk2, List.take_succ, Array.getElem?_toList, hc]
            simp
          · rcases Nat.lt_succ_iff_lt_or_eq.mp hm with l | l
            · exact hg m d l hd
            · subst l; rw [hc] at hd; cases hd; exact hc2
        · have hm : ¬ c ∈ (".#" : Str).cps.toList := fun q => hc2 (by
            rw [es] at q
            simp at q
            exact q)
          refine iteTe (by rw [decide_eq_false hm]; rfl) ?_
          refine ⟨_, rfl, (by show 1 ≤ 1000; decide), fun a ha => ⟨a, (i : Nat), rfl, upd_same, fun dx hdx ne => ⟨rfl, dx, _, upd_same, (by rw [upd_ne ne]; exact upd_same), (by rw [upd_ne ne] at hdx; exact hdx), bad (.inr ⟨hi, hi64, hg, .inr ⟨c, hc, hc2⟩⟩) a ha dx hdx ne⟩⟩⟩
      · rintro σ H1 ⟨⟨v2, v3, rfl⟩, e1, hp1, hg, hi64⟩
        refine ⟨_, rfl, kg ⟨h0, hi64, fun i c e => hg i c (Array.getElem?_eq_some_iff.mp e).1 e⟩ p H1 e1 hp ?_⟩
        rw [hp1]
        unfold bitsS
        rw [List.take_of_length_le (by rw [Array.length_toList]; exact Nat.le_refl _)]
abbrev s_law_read : Stmt := top 24
theorem sc_law_read : FnScope ["_law_text", "_law_place", "_law_sign"] ["_law_text"] (defScope s_law_read) := ⟨rfl, rfl, rfl, by decide +kernel, rfl, by decide +kernel, by decide +kernel⟩
/-- _law_read(text): the frame, or the refusal -/
def spLRead : Sp := fun vs H Q _ => ∃ z : Str, vs = [.str z] ∧ z.cps.size ≤ 100000 ∧ (Gd z → ∀ p H', Same H H' → H' p = some (.lst ((bitsS z).map V.int)) → Q (.ref p) H') ∧
  ∀ n : Nat, Bd z n → ∀ p H', Same H H' → H' p = some (.tup [.str "BadText", .int (n : Nat)]) → Q (.ref p) H'
theorem ok_law_read {f : Addr} {fd : FuncData} (F : FunG K mg "_law_read" s_law_read f fd ["_law_text"]) (T : Txt K mg) : FnOk P w K mg base CX0 1 f fd ["_law_text"] spLRead := by
  refine F.fn.ok sc_law_read (fun vs H Q E h => ?_) (fun cdv A outer s H vs Q E hr h => ?_)
  · obtain ⟨z, rfl, _⟩ := h
    rfl
  · obtain ⟨z, rfl, hl, kg, kb⟩ := h
    have hsz : z.length ≤ sizeLine := by
      show z.cps.size ≤ sizeLine
      rw [sizeLine_eq]; omega
    refine ⟨_, (pss_cons (ps_for PassesOwn.never (by rfl) (pi_range1 (by rfl) T.b_range (pa_cons (pe_callB call_len_str (by rfl) T.b_len (by decide +kernel) (pa_cons (pv 0) pa_nil)) pa_nil)) (pg_name (i := 1) sc_law_read.nd rfl (.inl rfl)) (pss_one (ps_if (PW.pt (pw_or (pt_cmpR op_eq (pv 1) pe_int (nomark _)) (pw_or1 (pt_cmpR (opNotInQ K) (pe_ix ix_str (pv 0) (pv 1) (fun _ _ => rfl)) (pe_tup (pa_cons pe_str (pa_cons pe_str pa_nil))) (by rfl))))) (pss_one (ps_ret (pe_tup (pa_cons pe_str (pa_cons (pv 1) pa_nil))))) pss_nil)))
      (pss_one (ps_ret (pe_ifExp (pt_cmpR op_ne (pv 0) pe_str (nomark _)) (pe_lc (own := [("_law_sign", 2)]) (g := gName 2) (tt := tYes) (by rfl) sc_law_read.nd (pi_str (pv 0)) (blkOk_by (own := [("_law_sign", 2)]) (N := ["_law_text", "_law_place", "_law_sign"]) (sc := defScope s_law_read) (by decide +kernel)) (fun _ _ _ _ _ => (pg_name (i := 2) sc_law_read.nd rfl (.inl rfl))) (fun _ _ _ _ _ => pts_nil) (fun _ _ _ _ _ => (pe_callTy call_int1 (by rfl) T.b_int (by decide +kernel) (pa_cons (pe_cmpR op_eq (pv 2) pe_str (nomark _)) pa_nil)))) (pe_tup (pa_cons pe_str (pa_cons pe_int pa_nil))))))), ?_⟩
    refine ⟨_, rfl, _, rfl, hsz, _, rfl, (by show -(2 ^ 62) ≤ (z.cps.size : Int); omega), (by show (z.cps.size : Int) < 2 ^ 62; omega), for_range (lo := 0) (n := z.cps.size) (fun i σ H' => (∃ v1 v2 : Option V, σ = [some (.str z), v1, v2]) ∧ Same H H' ∧ (∀ m c : Nat, m < i → z.cps[m]? = some c → okC c) ∧ i ≤ 64)
      ⟨⟨none, none, rfl⟩, Same.refl H, fun m c hm => absurd hm (Nat.not_lt_zero m), Nat.zero_le _⟩ ?_ ?_⟩
    · rintro i σ H1 hi ⟨⟨v1, v2, rfl⟩, e1, hg, hi64⟩
      refine ⟨_, rfl, rfl, _, rfl, ?_⟩
      by_cases h64 : i = 64
      · subst h64
        refine iteTe (decide_eq_true rfl) (iteT ⟨_, rfl, (by show 2 ≤ sizeLine; decide), fun p hp => kb 64 (.inr ⟨hi, hi64, hg, .inl rfl⟩) p _ (e1.new hp) upd_same⟩)
      refine iteFe (decide_eq_false fun q => h64 (by have := V.int.inj q; omega)) ?_
      have hc : z.cps[i]? = some z.cps[i] := Array.getElem?_eq_getElem hi
      generalize z.cps[i] = c at hc
      refine ⟨_, rfl, _, rfl, _, _, _, rfl, rfl, hsz, at_nat (i := i) (by omega) (by rw [Array.getElem?_toList]; exact hc), (by show 2 ≤ sizeLine; decide), fun p hp => ⟨_, _, rfl, .inr (SqT.of upd_same), rfl, rfl, _, rfl, ?_⟩⟩
      have e2 : Same H (upd H1 p (.tup [.str "#", .str "."])) := e1.new hp
      generalize upd H1 p (.tup [.str "#", .str "."]) = H2 at e2
      by_cases hc2 : okC c
      · have hb : inV (.str ⟨#[c]⟩) [.str "#", .str "."] = true := by
          rcases hc2 with q | q <;> subst q <;> decide +kernel
        refine iteFe (c := !inV (.str ⟨#[c]⟩) [.str "#", .str "."]) (by rw [hb]; rfl) ?_
        refine ⟨⟨_, _, rfl⟩, e2, fun m d hm hd => ?_, by omega⟩
        rcases Nat.lt_succ_iff_lt_or_eq.mp hm with l | l
        · exact hg m d l hd
        · subst l; rw [hc] at hd; cases hd; exact hc2
      · have hb : inV (.str ⟨#[c]⟩) [.str "#", .str "."] = false := by
          have n1 : (("#" : Str) == ⟨#[c]⟩) = false := beq_eq_false_iff_ne.mpr fun q => hc2 (.inr (by
            rw [show ("#" : Str) = ⟨#[35]⟩ by decide +kernel] at q
            simp at q
            exact q.symm))
          have n2 : (("." : Str) == ⟨#[c]⟩) = false := beq_eq_false_iff_ne.mpr fun q => hc2 (.inl (by
            rw [show ("." : Str) = ⟨#[46]⟩ by decide +kernel] at q
            simp at q
            exact q.symm))
          show ((("#" : Str) == ⟨#[c]⟩) || ((("." : Str) == ⟨#[c]⟩) || false)) = false
          rw [n1, n2]
          rfl
        refine iteTe (c := !inV (.str ⟨#[c]⟩) [.str "#", .str "."]) (by rw [hb]; rfl) ?_
        rw [Int.zero_add]
        exact ⟨_, rfl, (by show 2 ≤ sizeLine; decide), fun p hp => kb i (.inr ⟨hi, hi64, hg, .inr ⟨c, hc, hc2⟩⟩) p _ (e2.new hp) upd_same⟩
    · rintro σ H1 ⟨⟨v1, v2, rfl⟩, e1, hg, hi64⟩
      refine ⟨_, rfl, rfl, _, rfl, ?_⟩
      by_cases hz : z = ("" : Str)
      · subst hz
        refine iteFe (by decide +kernel) ⟨(by show 2 ≤ sizeLine; decide), fun p hp => kb 0 (.inl ⟨rfl, rfl⟩) p _ (e1.new hp) upd_same⟩
      · have h0 : 1 ≤ z.cps.size := by
          rcases Nat.eq_zero_or_pos z.cps.size with q | q
          · refine absurd ?_ hz
            obtain ⟨cs⟩ := z
            have q' : cs = #[] := Array.eq_empty_of_size_eq_zero q
            rw [q']
            rfl
          · exact q
        refine iteTe (c := !decide (V.str z = V.str "")) (by rw [decide_eq_false fun q => hz (V.str.inj q)]; rfl) ?_
        refine ⟨_, rfl, _, rfl, fun D hD => lc_it walk_str (fun i H' => Same H1 H' ∧ H' D = some (.lst (((z.cps.toList.take i).map bitC).map V.int))) ⟨Same.upd hD, upd_same⟩ (fun _ _ _ _ => trivial) ?_ ?_⟩
        · rintro i x H2 H3 hi ⟨e2, hd⟩ ⟨rfl, c, hc, rfl⟩
          refine ⟨rfl, _, rfl, rfl, .inr ⟨_, rfl, ?_⟩⟩
          refine ⟨_, hd, small_of (m := 100000) (by simp; omega), e2.mut hD, ?_⟩
          have e5 : (if decide (V.str ⟨#[c]⟩ = V.str "#") = true then (1 : Int) else 0) = bitC c := by
            unfold bitC
            rw [show ("#" : Str) = ⟨#[35]⟩ by decide +kernel]
            by_cases q : c = 35
            · subst q; rfl
            · rw [if_neg q, if_neg]
              intro h
              have h2 := V.str.inj (of_decide_eq_true h)
              simp at h2
              exact q h2
          rw [upd_same, e5, List.take_succ, Array.getElem?_toList, hc]
          simp
        · rintro H2 ⟨e2, hd⟩
          rw [List.take_of_length_le (by rw [Array.length_toList]; exact Nat.le_refl _)] at hd
          exact kg ⟨h0, hi64, fun i c e => hg i c (Array.getElem?_eq_some_iff.mp e).1 e⟩ D H2 (e1.trans e2) hd
abbrev s_law_same : Stmt := top 19
theorem sc_law_same : FnScope ["_law_found", "_law_due", "_law_k"] ["_law_found", "_law_due"] (defScope s_law_same) := ⟨rfl, rfl, rfl, by decide +kernel, rfl, by decide +kernel, by decide +kernel⟩
/-- the same data, at most so deep -/
inductive SameD (H : Hp) : Nat → V → V → Prop
  | non (n : Nat) : SameD H n .non .non
  | bl (n : Nat) (b : Bool) : SameD H n (.bl b) (.bl b)
  | int (n : Nat) (i : Int) : SameD H n (.int i) (.int i)
  | str (n : Nat) (x : Str) : SameD H n (.str x) (.str x)
  | lst (n : Nat) (a b : Addr) (xs ys : List V) : H a = some (.lst xs) → H b = some (.lst ys) → xs.length = ys.length → xs.length ≤ 1000 → (∀ (i : Nat) x y, xs[i]? = some x → ys[i]? = some y → SameD H n x y) → SameD H (n + 1) (.ref a) (.ref b)
  | tup (n : Nat) (a b : Addr) (xs ys : List V) : H a = some (.tup xs) → H b = some (.tup ys) → xs.length = ys.length → xs.length ≤ 1000 → (∀ (i : Nat) x y, xs[i]? = some x → ys[i]? = some y → SameD H n x y) → SameD H (n + 1) (.ref a) (.ref b)
theorem SameD.same {H H' : Hp} (e : Same H H') {n : Nat} {x y : V} (h : SameD H n x y) : SameD H' n x y := by
  induction h with
  | non n => exact .non n
  | bl n b => exact .bl n b
  | int n i => exact .int n i
  | str n x => exact .str n x
  | lst n a b xs ys ha hb hl hm hi ih => exact .lst n a b xs ys (e _ _ ha) (e _ _ hb) hl hm ih
  | tup n a b xs ys ha hb hl hm hi ih => exact .tup n a b xs ys (e _ _ ha) (e _ _ hb) hl hm ih
theorem SameD.ints {H : Hp} {a b : Addr} {ns : List Int} (ha : H a = some (.lst (ns.map V.int))) (hb : H b = some (.lst (ns.map V.int))) (hl : ns.length ≤ 1000) (n : Nat) : SameD H (n + 1) (.ref a) (.ref b) :=
  .lst n a b _ _ ha hb rfl (by rw [List.length_map]; exact hl) fun i x y h1 h2 => by
    rw [h1] at h2; cases h2
    obtain ⟨z, _, rfl⟩ := getV h1
    exact .int n z
/-- _law_same(found, due) of the same: True -/
def spSame (n : Nat) : Sp := fun vs H Q _ => ∃ x y : V, vs = [x, y] ∧ SameD H n x y ∧ ∀ H', Same H H' → Q (.bl true) H'
def spSameR : Nat → Sp
  | 0 => fun _ _ _ _ => False
  | n + 1 => spSame n
theorem cls_tl : Paired ClsV [V.ty "tuple", V.ty "list"] [Value.type "tuple", Value.type "list"] := .cons (.ty _) (.cons (.ty _) .nil)
theorem kitTL {K : PySem.W.Frag} {t : String} {b1 b2 : Bool} (h1 : kitB t "tuple" = some b1) (h2 : kitB t "list" = some b2) : PySem.W.kitAny K (.type t) [.type "tuple", .type "list"] = some (b1 || b2) := by
  refine kitAny_cons (kit_ty h1) (fun e => ?_) (fun e => by rw [e] <;> rfl)
  rw [e, Bool.false_or]
  refine kitAny_cons (kit_ty h2) (fun e => ?_) (fun e => by rw [e] <;> rfl)
  rw [e]
  exact kitAny_nil
theorem and_case {c : Prop} [Decidable c] {A B : Prop} (hc : ¬ c) (h : B) : if (decide c) = true then A else B := by
  rw [decide_eq_false hc]; exact iteF h
theorem same_mk {f : Addr} {fd : FuncData} (F : FunG K mg "_law_same" s_law_same f fd ["_law_found", "_law_due"]) (T : Txt K mg) (k n : Nat) (c_law_same : Cl P w K mg base CX0 k "_law_same" (spSameR n)) :
    FnOk P w K mg base CX0 (k + 1) f fd ["_law_found", "_law_due"] (spSame n) := by
  refine F.fn.ok sc_law_same (fun vs H Q E h => ?_) (fun cdv A outer s H vs Q E hr h => ?_)
  · obtain ⟨x, y, rfl, _⟩ := h
    rfl
  · obtain ⟨x, y, rfl, hs, q⟩ := h
    refine ⟨_, (pss_cons (ps_if (pt_val (pe_callB call_isiT (by rfl) T.b_isinstance (by decide +kernel) (pa_cons (pv 1) (pa_cons (pe_tup (pa_cons (pe_bltn (v := .ty "tuple") (u := .type "tuple") (by rfl) T.b_tuple (by decide +kernel) rfl) (pa_cons (pe_bltn (v := .ty "list") (u := .type "list") (by rfl) T.b_list (by decide +kernel) rfl) pa_nil))) pa_nil)))) (pss_cons (ps_if (PW.pt (pw_or (pt_not (pt_val (pe_callB call_isiT (by rfl) T.b_isinstance (by decide +kernel) (pa_cons (pv 0) (pa_cons (pe_tup (pa_cons (pe_bltn (v := .ty "tuple") (u := .type "tuple") (by rfl) T.b_tuple (by decide +kernel) rfl) (pa_cons (pe_bltn (v := .ty "list") (u := .type "list") (by rfl) T.b_list (by decide +kernel) rfl) pa_nil))) pa_nil))))) (pw_or1 (pt_cmpR op_ne (pe_callB call_isi (by rfl) T.b_isinstance (by decide +kernel) (pa_cons (pv 0) (pa_cons (pe_bltn (v := .ty "list") (u := .type "list") (by rfl) T.b_list (by decide +kernel) rfl) pa_nil))) (pe_callB call_isi (by rfl) T.b_isinstance (by decide +kernel) (pa_cons (pv 1) (pa_cons (pe_bltn (v := .ty "list") (u := .type "list") (by rfl) T.b_list (by decide +kernel) rfl) pa_nil))) (nomark _))))) (pss_one (ps_ret pe_bl)) pss_nil)
      (pss_cons (ps_if (pt_cmpR op_ne (pe_callB (clLen K) (by rfl) T.b_len (by decide +kernel) (pa_cons (pv 0) pa_nil)) (pe_callB (clLen K) (by rfl) T.b_len (by decide +kernel) (pa_cons (pv 1) pa_nil)) (nomark _)) (pss_one (ps_ret pe_bl)) pss_nil)
      (pss_one (ps_ret (pe_cmpR (opEqD K hr.units) (pe_lc (own := [("_law_k", 2)]) (g := gName 2) (by rfl) sc_law_same.nd (pi_range1 (by rfl) T.b_range (pa_cons (pe_callB (clLen K) (by rfl) T.b_len (by decide +kernel) (pa_cons (pv 1) pa_nil)) pa_nil)) (blkOk_by (own := [("_law_k", 2)]) (N := ["_law_found", "_law_due", "_law_k"]) (sc := defScope s_law_same) (by decide +kernel)) (fun _ _ _ _ _ => (pg_name (i := 2) sc_law_same.nd rfl (.inl rfl))) (fun _ _ _ _ _ => (pts_one (pt_not (pt_val (pe_cl c_law_same hr (Nat.le_refl _) (by rfl) (pa_cons (pe_ix (ixQ K) (pv 0) (pv 2) (fun _ _ => rfl)) (pa_cons (pe_ix (ixQ K) (pv 1) (pv 2) (fun _ _ => rfl)) pa_nil))))))) (fun _ _ _ _ _ => (pv 2))) (pe_lst pa_nil) (nomark _)))))) pss_nil)
      (pss_cons (ps_if (pt_cmpR op_isN (pv 1) pe_non (nomark _)) (pss_one (ps_ret (pe_cmpR op_isN (pv 0) pe_non (nomark _)))) pss_nil)
      (pss_cons (ps_if (pt_val (pe_callB call_isi (by rfl) T.b_isinstance (by decide +kernel) (pa_cons (pv 1) (pa_cons (pe_bltn (v := .ty "str") (u := .type "str") (by rfl) T.b_str (by decide +kernel) rfl) pa_nil)))) (pss_one (ps_ret (pe_and (pe_callB call_isi (by rfl) T.b_isinstance (by decide +kernel) (pa_cons (pv 0) (pa_cons (pe_bltn (v := .ty "str") (u := .type "str") (by rfl) T.b_str (by decide +kernel) rfl) pa_nil))) (pe_one (pe_cmpR op_eq (pv 0) (pv 1) (nomark _)))))) pss_nil)
      (pss_cons (ps_if (PW.pt (pw_or (pt_val (pe_callB call_isi (by rfl) T.b_isinstance (by decide +kernel) (pa_cons (pv 1) (pa_cons (pe_bltn (v := .ty "bool") (u := .type "bool") (by rfl) T.b_bool (by decide +kernel) rfl) pa_nil)))) (pw_or1 (pt_val (pe_callB call_isi (by rfl) T.b_isinstance (by decide +kernel) (pa_cons (pv 0) (pa_cons (pe_bltn (v := .ty "bool") (u := .type "bool") (by rfl) T.b_bool (by decide +kernel) rfl) pa_nil))))))) (pss_one (ps_ret (pe_and (pe_callB call_isi (by rfl) T.b_isinstance (by decide +kernel) (pa_cons (pv 1) (pa_cons (pe_bltn (v := .ty "bool") (u := .type "bool") (by rfl) T.b_bool (by decide +kernel) rfl) pa_nil))) (pe_and (pe_callB call_isi (by rfl) T.b_isinstance (by decide +kernel) (pa_cons (pv 0) (pa_cons (pe_bltn (v := .ty "bool") (u := .type "bool") (by rfl) T.b_bool (by decide +kernel) rfl) pa_nil))) (pe_one (pe_cmpR op_eq (pv 0) (pv 1) (nomark _))))))) pss_nil)
      (pss_one (ps_ret (pe_and (pe_callB call_isi (by rfl) T.b_isinstance (by decide +kernel) (pa_cons (pv 0) (pa_cons (pe_bltn (v := .ty "int") (u := .type "int") (by rfl) T.b_int (by decide +kernel) rfl) pa_nil))) (pe_one (pe_cmpR op_eq (pv 0) (pv 1) (nomark _)))))))))), ?_⟩
    have two : (2 : Nat) ≤ sizeLine := by decide
    cases hs with
    | non =>
      refine ⟨_, rfl, two, fun p hp => ⟨_, _, _, _, _, _, rfl, upd_same, cls_tl, (.base .non), kitTL (by decide +kernel : kitB "NoneType" "tuple" = some false) (by decide +kernel : kitB "NoneType" "list" = some false), _, rfl, iteF ?_⟩⟩
      refine ⟨_, rfl, rfl, _, rfl, iteT ?_⟩
      exact ⟨_, rfl, rfl, q _ (Same.upd hp)⟩
    | bl _ b =>
      refine ⟨_, rfl, two, fun p hp => ⟨_, _, _, _, _, _, rfl, upd_same, cls_tl, (.base (.bl b)), kitTL (by decide +kernel : kitB "bool" "tuple" = some false) (by decide +kernel : kitB "bool" "list" = some false), _, rfl, iteF ?_⟩⟩
      refine ⟨_, rfl, rfl, _, rfl, and_case (fun z => V.noConfusion z) ?_⟩
      refine ⟨_, rfl, _, _, _, _, _, rfl, .ty _, (.base (.bl b)), kit_ty (by decide +kernel : kitB "bool" "str" = some false), _, rfl, iteF ?_⟩
      refine ⟨_, rfl, _, _, _, _, _, rfl, .ty _, (.base (.bl b)), kit_ty (by decide +kernel : kitB "bool" "bool" = some true), _, rfl, iteT (iteT ?_)⟩
      refine ⟨_, rfl, _, _, _, _, _, rfl, .ty _, (.base (.bl b)), kit_ty (by decide +kernel : kitB "bool" "bool" = some true), _, rfl, iteT ?_⟩
      refine ⟨_, rfl, _, _, _, _, _, rfl, .ty _, (.base (.bl b)), kit_ty (by decide +kernel : kitB "bool" "bool" = some true), _, rfl, iteT ?_⟩
      refine ⟨_, rfl, _, rfl, rfl, ?_⟩
      rw [decide_eq_true rfl]
      exact q _ (Same.upd hp)
    | int _ i =>
      refine ⟨_, rfl, two, fun p hp => ⟨_, _, _, _, _, _, rfl, upd_same, cls_tl, (.base (.int i)), kitTL (by decide +kernel : kitB "int" "tuple" = some false) (by decide +kernel : kitB "int" "list" = some false), _, rfl, iteF ?_⟩⟩
      refine ⟨_, rfl, rfl, _, rfl, and_case (fun z => V.noConfusion z) ?_⟩
      refine ⟨_, rfl, _, _, _, _, _, rfl, .ty _, (.base (.int i)), kit_ty (by decide +kernel : kitB "int" "str" = some false), _, rfl, iteF ?_⟩
      refine ⟨_, rfl, _, _, _, _, _, rfl, .ty _, (.base (.int i)), kit_ty (by decide +kernel : kitB "int" "bool" = some false), _, rfl, iteF ?_⟩
      refine ⟨_, rfl, _, _, _, _, _, rfl, .ty _, (.base (.int i)), kit_ty (by decide +kernel : kitB "int" "bool" = some false), _, rfl, iteF ?_⟩
      refine ⟨_, rfl, _, _, _, _, _, rfl, .ty _, (.base (.int i)), kit_ty (by decide +kernel : kitB "int" "int" = some true), _, rfl, iteT ?_⟩
      refine ⟨_, rfl, _, rfl, rfl, ?_⟩
      rw [decide_eq_true rfl]
      exact q _ (Same.upd hp)
    | str _ x =>
      refine ⟨_, rfl, two, fun p hp => ⟨_, _, _, _, _, _, rfl, upd_same, cls_tl, (.base (.str x)), kitTL (by decide +kernel : kitB "str" "tuple" = some false) (by decide +kernel : kitB "str" "list" = some false), _, rfl, iteF ?_⟩⟩
      refine ⟨_, rfl, rfl, _, rfl, and_case (fun z => V.noConfusion z) ?_⟩
      refine ⟨_, rfl, _, _, _, _, _, rfl, .ty _, (.base (.str x)), kit_ty (by decide +kernel : kitB "str" "str" = some true), _, rfl, iteT ?_⟩
      refine ⟨_, rfl, _, _, _, _, _, rfl, .ty _, (.base (.str x)), kit_ty (by decide +kernel : kitB "str" "str" = some true), _, rfl, iteT ?_⟩
      refine ⟨_, rfl, _, rfl, rfl, ?_⟩
      rw [decide_eq_true rfl]
      exact q _ (Same.upd hp)
    | lst n a b xs ys ha hb hl hm hi =>
      refine ⟨_, rfl, two, fun p hp => ?_⟩
      have e1 : Same H (upd H p (.tup [.ty "tuple", .ty "list"])) := Same.upd hp
      have hT1 : upd H p (.tup [.ty "tuple", .ty "list"]) p = some (.tup [.ty "tuple", .ty "list"]) := upd_same
      generalize upd H p (.tup [.ty "tuple", .ty "list"]) = H1 at e1 hT1
      refine ⟨_, _, _, _, _, _, rfl, hT1, cls_tl, (.base (.lst (e1 _ _ hb))), kitTL (by decide +kernel : kitB "list" "tuple" = some false) (by decide +kernel : kitB "list" "list" = some true), _, rfl, iteT ?_⟩
      refine ⟨_, rfl, two, fun p2 hp2 => ?_⟩
      have e2 : Same H (upd H1 p2 (.tup [.ty "tuple", .ty "list"])) := e1.new hp2
      have hT2 : upd H1 p2 (.tup [.ty "tuple", .ty "list"]) p2 = some (.tup [.ty "tuple", .ty "list"]) := upd_same
      generalize upd H1 p2 (.tup [.ty "tuple", .ty "list"]) = H2 at e2 hT2
      refine ⟨_, _, _, _, _, _, rfl, hT2, cls_tl, (.base (.lst (e2 _ _ ha))), kitTL (by decide +kernel : kitB "list" "tuple" = some false) (by decide +kernel : kitB "list" "list" = some true), _, rfl, iteF ?_⟩
      refine ⟨_, rfl, _, _, _, _, _, rfl, .ty _, (.base (.lst (e2 _ _ ha))), kit_ty (by decide +kernel : kitB "list" "list" = some true), _, rfl, _, _, _, _, _, rfl, .ty _, (.base (.lst (e2 _ _ hb))), kit_ty (by decide +kernel : kitB "list" "list" = some true), rfl, _, rfl, iteNS rfl ?_⟩
      refine ⟨_, rfl, _, _, rfl, .inl (SqL.of (e2 _ _ ha)), _, rfl, _, _, rfl, .inl (SqL.of (e2 _ _ hb)), rfl, _, rfl, iteNS (by rw [hl]) ?_⟩
      refine ⟨_, rfl, _, _, rfl, .inl (SqL.of (e2 _ _ hb)), _, rfl, by omega, by omega, fun D hD => lc_range (lo := 0) (n := (ys.length : Int).toNat) (fun i H' => Same H2 H' ∧ H' D = some (.lst [])) ⟨Same.upd hD, upd_same⟩ ?_ ?_⟩
      · rintro i H' hi' ⟨e3, hD'⟩
        have hy : i < ys.length := by omega
        have hx : i < xs.length := by omega
        have hs := hi i _ _ (List.getElem?_eq_getElem hx) (List.getElem?_eq_getElem hy)
        refine ⟨rfl, _, rfl, _, rfl, .inl ⟨_, _, _, _, rfl, rfl, SqL.of (e3 _ _ (e2 _ _ ha)), at_of (by omega) (List.getElem?_eq_getElem hx), ?_⟩⟩
        refine ⟨_, rfl, _, rfl, .inl ⟨_, _, _, _, rfl, rfl, SqL.of (e3 _ _ (e2 _ _ hb)), at_of (by omega) (List.getElem?_eq_getElem hy), ?_⟩⟩
        exact ⟨_, _, rfl, hs.same (e2.trans e3), fun H4 e4 => ⟨_, rfl, iteF ⟨e3.trans e4, e4 _ _ hD'⟩⟩⟩
      · rintro H' ⟨e3, hD'⟩
        refine ⟨Nat.zero_le _, fun e he => ⟨_, _, .lst (SqL.of (by rw [upd_ne (ne_of_none hD' he)]; exact hD')) .nil, .lst (SqL.of upd_same) .nil, rfl, rfl, ?_⟩⟩
        exact q _ ((e2.trans e3).new he)
    | tup n a b xs ys ha hb hl hm hi =>
      refine ⟨_, rfl, two, fun p hp => ?_⟩
      have e1 : Same H (upd H p (.tup [.ty "tuple", .ty "list"])) := Same.upd hp
      have hT1 : upd H p (.tup [.ty "tuple", .ty "list"]) p = some (.tup [.ty "tuple", .ty "list"]) := upd_same
      generalize upd H p (.tup [.ty "tuple", .ty "list"]) = H1 at e1 hT1
      refine ⟨_, _, _, _, _, _, rfl, hT1, cls_tl, (.base (.tup (e1 _ _ hb))), kitTL (by decide +kernel : kitB "tuple" "tuple" = some true) (by decide +kernel : kitB "tuple" "list" = some false), _, rfl, iteT ?_⟩
      refine ⟨_, rfl, two, fun p2 hp2 => ?_⟩
      have e2 : Same H (upd H1 p2 (.tup [.ty "tuple", .ty "list"])) := e1.new hp2
      have hT2 : upd H1 p2 (.tup [.ty "tuple", .ty "list"]) p2 = some (.tup [.ty "tuple", .ty "list"]) := upd_same
      generalize upd H1 p2 (.tup [.ty "tuple", .ty "list"]) = H2 at e2 hT2
      refine ⟨_, _, _, _, _, _, rfl, hT2, cls_tl, (.base (.tup (e2 _ _ ha))), kitTL (by decide +kernel : kitB "tuple" "tuple" = some true) (by decide +kernel : kitB "tuple" "list" = some false), _, rfl, iteF ?_⟩
      refine ⟨_, rfl, _, _, _, _, _, rfl, .ty _, (.base (.tup (e2 _ _ ha))), kit_ty (by decide +kernel : kitB "tuple" "list" = some false), _, rfl, _, _, _, _, _, rfl, .ty _, (.base (.tup (e2 _ _ hb))), kit_ty (by decide +kernel : kitB "tuple" "list" = some false), rfl, _, rfl, iteNS rfl ?_⟩
      refine ⟨_, rfl, _, _, rfl, .inr (SqT.of (e2 _ _ ha)), _, rfl, _, _, rfl, .inr (SqT.of (e2 _ _ hb)), rfl, _, rfl, iteNS (by rw [hl]) ?_⟩
      refine ⟨_, rfl, _, _, rfl, .inr (SqT.of (e2 _ _ hb)), _, rfl, by omega, by omega, fun D hD => lc_range (lo := 0) (n := (ys.length : Int).toNat) (fun i H' => Same H2 H' ∧ H' D = some (.lst [])) ⟨Same.upd hD, upd_same⟩ ?_ ?_⟩
      · rintro i H' hi' ⟨e3, hD'⟩
        have hy : i < ys.length := by omega
        have hx : i < xs.length := by omega
        have hs := hi i _ _ (List.getElem?_eq_getElem hx) (List.getElem?_eq_getElem hy)
        refine ⟨rfl, _, rfl, _, rfl, .inr (.inl ⟨_, _, _, _, rfl, rfl, SqT.of (e3 _ _ (e2 _ _ ha)), at_of (by omega) (List.getElem?_eq_getElem hx), ?_⟩)⟩
        refine ⟨_, rfl, _, rfl, .inr (.inl ⟨_, _, _, _, rfl, rfl, SqT.of (e3 _ _ (e2 _ _ hb)), at_of (by omega) (List.getElem?_eq_getElem hy), ?_⟩)⟩
        exact ⟨_, _, rfl, hs.same (e2.trans e3), fun H4 e4 => ⟨_, rfl, iteF ⟨e3.trans e4, e4 _ _ hD'⟩⟩⟩
      · rintro H' ⟨e3, hD'⟩
        refine ⟨Nat.zero_le _, fun e he => ⟨_, _, .lst (SqL.of (by rw [upd_ne (ne_of_none hD' he)]; exact hD')) .nil, .lst (SqL.of upd_same) .nil, rfl, rfl, ?_⟩⟩
        exact q _ ((e2.trans e3).new he)
theorem ok_law_same {f : Addr} {fd : FuncData} (F : FunG K mg "_law_same" s_law_same f fd ["_law_found", "_law_due"]) (T : Txt K mg) : ∀ n : Nat, FnOk P w K mg base CX0 (n + 1) f fd ["_law_found", "_law_due"] (spSame n)
  | 0 => same_mk F T 0 0 (F.cl ⟨fun _ _ _ _ z => z.elim, fun _ _ _ _ _ _ _ _ _ _ _ _ _ z => z.elim⟩)
  | n + 1 => same_mk F T (n + 1) (n + 1) (F.cl (ok_law_same F T n))
end
end My

namespace My
open PySem PySem.Spec PyProof.Rows LamX L2
section
variable {P : Program} {w : World} {K : PySem.W.Frag} {mg : Str → Option Value} {base : Heap}
abbrev s_law : Stmt := top 25
theorem sc_law : FnScope ["_law_script", "_law_state", "_law_turn", "_law_frame_here", "_law_beat", "_law_text", "_law_handed", "_law_again", "_law_found", "_law_change", "_law_at", "_law_sign", "_law_way"] ["_law_script"] (defScope s_law) := ⟨rfl, rfl, rfl, by decide +kernel, rfl, by decide +kernel, by decide +kernel⟩
def spLaw (K : PySem.W.Frag) (Pt : Addr) : Sp := fun vs H Q _ => ∃ (a : Addr) (ns : List Int), vs = [.ref a] ∧ SqL K H a (ns.map V.int) ∧ ns.length ≤ 63 ∧ H Pt = some (.tbl #[]) ∧ ∀ H', Q (.bl true) H'
theorem ok_law {f : Addr} {oc : Value} {od : Option Addr} {dV kV doc pm : Value} {an : Option Addr} {ct : Value} {osl : Array (Option Value)} {c Pt : Addr} (lk : K.lookup f = some ⟨oc, od, .func (PySem.W.fnOf "law" "law" (defArgs s_law) (defBody s_law) (defScope s_law) dV kV doc pm an (.ref c) ct), osl⟩) (hcd : PySem.W.codeIn K (.ref c) "law" = true) (T : Txt K mg) (TB : TabB base mg c Pt)
    {g : Addr} {fdk : FuncData} (GK : FunG K mg "_law_kind" s_law_kind g fdk ["_law_work"]) (c_law_start : Cl P w K mg base CX0 1 "_law_start" (spStart K)) (c_law_drawn : Cl P w K mg base CX0 1 "_law_drawn" (spDrawn K)) (c_law_frame : Cl P w K mg base CX0 3 "_law_frame" (spFrame K)) (c_written : Cl P w K mg base CX0 2 "written" (spWritten K))
    (c_read_frame : Cl P w K mg base (L2.CX P w) 3 "read_frame" (spRead K)) (c_law_same : Cl P w K mg base CX0 3 "_law_same" (spSame 2)) (c_law_read : Cl P w K mg base CX0 1 "_law_read" spLRead) (eBT : ErrK K "BadText" 6) :
    FnOk P w K mg base CX0 (5 + 1) f (PySem.W.fnOf "law" "law" (defArgs s_law) (defBody s_law) (defScope s_law) dV kV doc pm an (.ref c) ct) ["_law_script"] (spLaw K Pt) := by
  obtain ⟨ock, odk, kVk, dock, pmk, ank, cdvk, ctk, oslk, rfl, lkK, hcK⟩ := GK.fn.ex
  refine fn_of lk hcd sc_law (fun vs H Q E h => ?_) (fun A outer s H vs Q E hr h => ?_)
  · obtain ⟨a, ns, rfl, _⟩ := h
    rfl
  · obtain ⟨a, ns, rfl, hS, hlen, hPt, k⟩ := h
    refine ⟨_, PSs.nox (pss_cons (ps_set (i := 1) sc_law.nd rfl (.inl rfl) (pe_cl c_law_start hr (by decide) (by rfl) (pa_cons (pv 0) pa_nil)))
      (pss_cons (ps_for PassesOwn.never (by rfl) (pi_range1 (by rfl) T.b_range (pa_cons pe_int pa_nil)) (pg_name (i := 2) sc_law.nd rfl (.inl rfl)) (pss_cons (ps_set (i := 3) sc_law.nd rfl (.inl rfl) (pe_cl c_law_frame hr (by decide) (by rfl) (pa_cons (pv 1) pa_nil)))
      (pss_cons (ps_set (i := 5) sc_law.nd rfl (.inr rfl) (pe_join pe_str (pe_lc (own := [("_law_beat", 4)]) (g := gName 4) (tt := tYes) (by rfl) sc_law.nd (pi_list (pv 3)) (blkOk_by (own := [("_law_beat", 4)]) (N := ["_law_script", "_law_state", "_law_turn", "_law_frame_here", "_law_beat", "_law_text", "_law_handed", "_law_again", "_law_found", "_law_change", "_law_at", "_law_sign", "_law_way"]) (sc := defScope s_law) (by decide +kernel)) (fun _ _ _ _ _ => (pg_name (i := 4) sc_law.nd rfl (.inl rfl))) (fun _ _ _ _ _ => pts_nil) (fun _ _ _ _ _ => (pe_ix (ixL K) (pe_lst (pa_cons pe_str (pa_cons pe_str pa_nil))) (pv 4) (fun _ _ => rfl))))))
      (pss_cons (ps_set (i := 6) sc_law.nd rfl (.inl rfl) (pe_callTy (clList K) (by rfl) T.b_list (by decide +kernel) (pa_cons (pv 3) pa_nil)))
      (pss_cons (ps_if (PW.pt (pw_or (pt_not (pt_val (pe_cl c_law_same hr (by decide) (by rfl) (pa_cons (pe_cl c_written hr (by decide) (by rfl) (pa_cons (pv 6) pa_nil)) (pa_cons (pv 5) pa_nil))))) (pw_or1 (pt_cmpR (opNeD K hr.units) (pv 6) (pv 3) (nomark _))))) (pss_one (ps_ret pe_bl)) pss_nil)
      (pss_cons (ps_for PassesOwn.never (by rfl) (pi_range1 (by rfl) T.b_range (pa_cons pe_int pa_nil)) (pg_name (i := 7) sc_law.nd rfl (.inl rfl)) (pss_cons (ps_set (i := 8) sc_law.nd rfl (.inl rfl) (pe_clG c_read_frame hr (by decide) (by rfl) (pa_cons (pv 5) pa_nil)))
      (pss_cons (ps_if (pt_not (pt_val (pe_cl c_law_same hr (by decide) (by rfl) (pa_cons (pv 8) (pa_cons (pv 3) pa_nil))))) (pss_one (ps_ret pe_bl)) pss_nil)
      (pss_one (ps_expr (pe_bm PySem.F.plainAttrs_list PySem.F.slot_list_append PySem.F.type_list_append mt_append (pv 8) (pa_cons pe_int pa_nil)))))))
      (pss_cons (ps_if (pt_cmpR op_eq (pe_cl c_law_drawn hr (by decide) (by rfl) (pa_cons (pv 1) (pa_cons pe_int pa_nil))) pe_int (nomark _)) (pss_one (ps_set (i := 5) sc_law.nd rfl (.inr rfl) (pe_ix (ixL K) (pe_lst (pa_cons pe_str (pa_cons (pe_slice sl_str (pe_op op_mulS (pv 5) pe_int) po_none (po_some (pe_op op_add pe_int (pe_cl c_law_drawn hr (by decide) (by rfl) (pa_cons (pv 1) (pa_cons pe_int pa_nil)))))) pa_nil))) (pe_cl c_law_drawn hr (by decide) (by rfl) (pa_cons (pv 1) (pa_cons pe_int pa_nil))) (fun _ _ => rfl)))) pss_nil)
      (pss_cons (ps_for PassesOwn.never (by rfl) (pi_range1 (by rfl) T.b_range (pa_cons (pe_cl c_law_drawn hr (by decide) (by rfl) (pa_cons (pv 1) (pa_cons pe_int pa_nil))) pa_nil)) (pg_name (i := 9) sc_law.nd rfl (.inl rfl)) (pss_cons (ps_set (i := 10) sc_law.nd rfl (.inl rfl) (pe_cl c_law_drawn hr (by decide) (by rfl) (pa_cons (pv 1) (pa_cons (pe_op op_add (pe_callB call_len_str (by rfl) T.b_len (by decide +kernel) (pa_cons (pv 5) pa_nil)) pe_int) pa_nil))))
      (pss_cons (ps_set (i := 11) sc_law.nd rfl (.inl rfl) (pe_ix ix_str pe_str (pe_cl c_law_drawn hr (by decide) (by rfl) (pa_cons (pv 1) (pa_cons pe_int pa_nil))) (fun _ _ => rfl)))
      (pss_cons (ps_set (i := 12) sc_law.nd rfl (.inl rfl) (pe_cl c_law_drawn hr (by decide) (by rfl) (pa_cons (pv 1) (pa_cons pe_int pa_nil))))
      (pss_one (ps_set (i := 5) sc_law.nd rfl (.inr rfl) (pe_op op_add_str (pe_op op_add_str (pe_slice sl_str (pv 5) po_none (po_some (pv 10))) (pe_ix (ixL K) (pe_lst (pa_cons (pv 11) (pa_cons pe_str (pa_cons (pv 11) pa_nil)))) (pv 12) (fun _ _ => rfl))) (pe_slice sl_str (pv 5) (po_some (pe_op op_add (pv 10) (pe_callTy call_int1 (by rfl) T.b_int (by decide +kernel) (pa_cons (pe_cmpR op_gt (pv 12) pe_int (nomark _)) pa_nil)))) po_none))))))))
      (pss_one (ps_if (pt_not (pt_val (pe_cl c_law_same hr (by decide) (by rfl) (pa_cons (pe_lamcall (T := [(Pt, lamQ)]) (k := 3) (P := Pt) (by rfl) GK.mgf GK.fn.kp lkK hcK GK.b sc_law_kind rfl (.inl rfl) (kind_gives T) TB rfl List.mem_cons_self (fun p hp _ => by rw [List.mem_singleton] at hp; subst hp; rfl) (hr.mono (by decide)) (lamS_by (sc := defScope s_law) (by decide +kernel)) rfl (fun _ _ _ _ _ => rfl) (fun A outer s H E f c2 hr => (pe_clT c_read_frame hr (by decide) (passes_call (takes_of rfl rfl rfl rfl) (fun _ _ _ _ h => h)) (by rfl) (pa_cons (pv 5) pa_nil)))) (pa_cons (pe_cl c_law_read hr (by decide) (by rfl) (pa_cons (pv 5) pa_nil)) pa_nil))))) (pss_one (ps_ret pe_bl)) pss_nil))))))))))
      (pss_one (ps_ret pe_bl)))), ?_⟩
    have hSm := noTab_sq hS
    have tb0 : Tabs [(Pt, lamQ)] H := fun p hp => by rw [List.mem_singleton] at hp; subst hp; exact TabS.nil hPt
    refine ⟨_, rfl, a, ns, rfl, hS, fun st m0 hst d0 => ?_⟩
    have hstm := noTab_none hst
    have s0 : SOk K a ns st (upd H st (StO a 0 m0 0)) := SOk.make hlen hS hst d0
    have e0 : Same (noTab H) (upd H st (StO a 0 m0 0)) := (noTab_same H).new hst
    have t0 : Tabs [(Pt, lamQ)] (upd H st (StO a 0 m0 0)) := tabs_same tb0 (Same.upd hst)
    generalize upd H st (StO a 0 m0 0) = H0 at s0 e0 t0
    refine ⟨_, rfl, by decide, by decide, for_range (lo := 0) (n := 8) (fun i σ H' => (∃ v2 v3 v4 v5 v6 v7 v8 v9 v10 v11 v12 : Option V, σ = [some (.ref a), some (.ref st), v2, v3, v4, v5, v6, v7, v8, v9, v10, v11, v12]) ∧ SOk K a ns st H' ∧ Same (noTab H) H' ∧ Tabs [(Pt, lamQ)] H')
      ⟨⟨none, none, none, none, none, none, none, none, none, none, none, rfl⟩, s0, e0, t0⟩ ?_ ?_⟩
    · rintro i σ H1 hi ⟨⟨v2, v3, v4, v5, v6, v7, v8, v9, v10, v11, v12, rfl⟩, s1, e1, t1⟩
      refine ⟨_, rfl, st, a, ns, rfl, s1, fun fs l H2 hf hl k2 s2 hl2 => ?_⟩
      have e2 : Same (noTab H) H2 := e1.keepAll hstm k2
      have t2 := s1.tabs t1 k2
      have h0 := hf.pos
      have h64 := hf.le
      have hfl : (fs.map V.int).length = fs.length := List.length_map _
      have nls : l ≠ st := s1.ne_of hl
      refine ⟨⟨_, rfl⟩, _, rfl, _, rfl, ⟨_, SqL.of hl2⟩, fun D hD => lc_list (K := K) (a := l) (xs := fs.map V.int) (fun i H' => Same H2 H' ∧ H' D = some (.lst (((fs.take i).map sgS).map V.str))) ⟨Same.upd hD, upd_same⟩ (fun i H' _ h => h.1.seq (SqL.of hl2)) ?_ ?_⟩
      · rintro j x H' hj ⟨ej, hd⟩
        obtain ⟨z, hz, rfl⟩ := getV hj
        refine ⟨rfl, (by show 2 ≤ sizeLine; decide), fun p hp => ?_⟩
        have hat : atI [V.str ".", V.str "#"] z = some (.str (sgS z)) := by
          rcases hf.bit z (List.mem_of_getElem? hz) with q | q <;> subst q <;> rfl
        refine ⟨_, rfl, _, _, _, _, rfl, rfl, SqL.of upd_same, hat, ?_⟩
        refine ⟨_, (by rw [upd_ne (ne_of_none hd hp)]; exact hd), small_of (m := 64) (by simp; omega), (ej.new hp).mut hD, ?_⟩
        rw [upd_same, List.take_succ, hz]
        simp
      rintro H3 ⟨e3a, hd⟩
      rw [List.length_map, List.take_length] at hd
      have s3 := s2.same e3a
      have e3 := e2.trans e3a
      have t3 := tabs_same t2 e3a
      have hl3 := e3a _ _ hl2
      refine ⟨_, _, fs.map sgS, rfl, rfl, .inl (SqL.of hd), (by rw [sg_sum, List.length_map]; show fs.length + fs.length * 0 ≤ 16777216; omega), ?_⟩
      refine ⟨_, rfl, _, _, rfl, .inl (SqL.of hl3), fun hn hhn => ?_⟩
      have s4 := s3.new (o := .lst (fs.map V.int)) hhn
      have e4 := e3.new (o := .lst (fs.map V.int)) hhn
      have t4 := tabs_same t3 (Same.upd (o := .lst (fs.map V.int)) hhn)
      have hl4 : upd H3 hn (.lst (fs.map V.int)) l = some (.lst (fs.map V.int)) := by rw [upd_ne (ne_of_none hl3 hhn)]; exact hl3
      have hh4 : upd H3 hn (.lst (fs.map V.int)) hn = some (.lst (fs.map V.int)) := upd_same
      generalize upd H3 hn (.lst (fs.map V.int)) = H4 at s4 e4 t4 hl4 hh4
      refine ⟨_, rfl, hn, fs, rfl, SqL.of hh4, hf, fun H5 e5 => ⟨_, rfl, _, _, rfl, SameD.str 2 _, fun H6 e6 => ⟨_, rfl, iteF ?_⟩⟩⟩
      have e46 := e5.trans e6
      have s6 := s4.same e46
      have e6' := e4.trans e46
      have t6 := tabs_same t4 e46
      have hl6 := e46 _ _ hl4
      have hh6 := e46 _ _ hh4
      refine ⟨_, rfl, _, rfl, _, _, dp_ints (SqL.of hh6), dp_ints (SqL.of hl6), dI_shaped _, dI_shaped _, _, rfl, ?_⟩
      refine iteFe (by rw [dI_eqv, decide_eq_true rfl]; rfl) ?_
      have gd := wrS_gd hf
      have zsz := wrS_size fs
      have zbits := bits_wrS hf
      refine ⟨_, rfl, by decide, by decide, for_range (lo := 0) (n := 2) (fun j σ H' => (∃ v7 v8 : Option V, σ = [some (.ref a), some (.ref st), some (.int (0 + (i : Int))), some (.ref l), v4, some (.str (wrS fs)), some (.ref hn), v7, v8, v9, v10, v11, v12]) ∧ SOk K a ns st H' ∧ Same (noTab H) H' ∧ Tabs [(Pt, lamQ)] H' ∧ H' l = some (.lst (fs.map V.int)))
        ⟨⟨v7, v8, rfl⟩, s6, e6', t6, hl6⟩ ?_ ?_⟩
      · rintro j σ H7 hj ⟨⟨v7, v8, rfl⟩, s7, e7, t7, hl7⟩
        refine ⟨_, rfl, wrS fs, rfl, (by omega), (fun _ p H8 e8 hp hp8 => ?_), fun n b => (gd_bd gd b).elim⟩
        rw [zbits] at hp8
        have hl8 := e8 _ _ hl7
        have s8 := s7.same e8
        have t8 := tabs_same t7 e8
        have hsame : SameD H8 2 (.ref p) (.ref l) := .lst 1 p l _ _ hp8 hl8 rfl (by rw [hfl]; omega) fun j x y x1 x2 => by
          rw [x1] at x2; cases x2
          obtain ⟨z, _, rfl⟩ := getV x1
          exact .int 1 _
        refine ⟨_, rfl, _, rfl, _, _, rfl, hsame, fun H9 e9 => ⟨_, rfl, iteF ?_⟩⟩
        have hp9 := e9 _ _ hp8
        have e79 := e8.trans e9
        have s9 := s7.same e79
        have t9 := tabs_same t7 e79
        have e9' := e7.trans e79
        have hl9 := e79 _ _ hl7
        have npl : l ≠ p := ne_of_none hl7 hp
        refine ⟨_, rfl, .inl ⟨rfl, _, SqL.of hp9⟩, p, _, _, rfl, rfl, hp9, small_of (m := 64) (by rw [hfl]; omega), ?_⟩
        exact ⟨⟨_, _, rfl⟩, s9.mutK s7 e79.keep hp, e7.trans (e79.mut hp), tabs_keepL t9 hp9, by rw [upd_ne npl]; exact hl9⟩
      · rintro σ H7 ⟨⟨v7, v8, rfl⟩, s7, e7, t7, hl7⟩
        refine ⟨_, rfl, st, a, ns, 5, rfl, s7, by decide, by decide, fun r ib mb cb r0 r1 db => ⟨rfl, _, rfl, ?_⟩⟩
        have s8 := s7.drawn db
        have k8 : Keep st H7 (upd H7 st (StO a ib mb cb)) := (Keep.refl st H7).atSt
        generalize upd H7 st (StO a ib mb cb) = H8 at s8 k8
        have e8 := e7.keepAll hstm k8
        have t8 := s7.tabs t7 k8
        by_cases c4 : V.int r = V.int 4
        · refine iteTe (decide_eq_true c4) ⟨_, rfl, _, _, rfl, rfl, by decide, by decide, (by show (wrS fs).cps.size ≤ 10000; omega), fun z hz => ?_⟩
          have hz : z.cps.size ≤ (wrS fs).cps.size * 70 := hz
          refine ⟨_, rfl, st, a, ns, 4, rfl, s8, by decide, by decide, fun u ic mc cc u0 u1 dc => ⟨_, _, rfl, rfl, _, rfl, _, rfl, small_le (m := 100000) (by show z.cps.size ≤ _; omega), (by show 2 ≤ sizeLine; decide), fun p9 hp9 => ?_⟩⟩
          have hcz : (cutS z none (some (63 + u))).cps.size ≤ z.cps.size := cutS_length z none (some (63 + u))
          have s9 := s8.drawn dc
          have k9 : Keep st H7 (upd H8 st (StO a ic mc cc)) := k8.atSt
          generalize upd H8 st (StO a ic mc cc) = H9 at s9 k9 hp9
          have s10 := s9.new (o := .lst [.str "", .str (cutS z none (some (63 + u)))]) hp9
          have k10 := k9.new (o := .lst [.str "", .str (cutS z none (some (63 + u)))]) hp9
          have h10 : upd H9 p9 (.lst [.str "", .str (cutS z none (some (63 + u)))]) p9 = some (.lst [.str "", .str (cutS z none (some (63 + u)))]) := upd_same
          have np : p9 ≠ st := s9.ne_of hp9
          generalize upd H9 p9 (.lst [.str "", .str (cutS z none (some (63 + u)))]) = H10 at s10 k10 h10
          refine ⟨_, rfl, st, a, ns, 2, rfl, s10, by decide, by decide, fun x id md cd x0 x1 dd => ?_⟩
          have s11 := s10.drawn dd
          have k11 : Keep st H7 (upd H10 st (StO a id md cd)) := k10.atSt
          have h11 : upd H10 st (StO a id md cd) p9 = _ := (upd_ne np).trans h10
          generalize upd H10 st (StO a id md cd) = Hc at s11 k11 h11
          have hat : ∃ zc : Str, atI [V.str "", V.str (cutS z none (some (63 + u)))] x = some (.str zc) ∧ zc.cps.size ≤ 4480 := by
            have : x = 0 ∨ x = 1 := by omega
            rcases this with q | q <;> subst q
            · exact ⟨_, rfl, by decide⟩
            · exact ⟨_, rfl, by omega⟩
          obtain ⟨zc, hzc, hzl⟩ := hat
          refine ⟨_, _, _, _, rfl, rfl, SqL.of h11, hzc, ?_⟩
          have ec : Same (noTab H) Hc := e7.keepAll hstm k11
          have tc := s7.tabs t7 k11
          have sc := s11
          refine ⟨_, rfl, st, a, ns, 3, rfl, sc, by decide, by decide, fun r2 ie me ce r20 r21 de => ?_⟩
          have sd := sc.drawn de
          have kd : Keep st Hc (upd Hc st (StO a ie me ce)) := (Keep.refl st Hc).atSt
          generalize upd Hc st (StO a ie me ce) = Hd at sd kd
          have ed : Same (noTab H) Hd := ec.keepAll hstm kd
          have td := sc.tabs tc kd
          obtain ⟨n2, rfl⟩ := Int.eq_ofNat_of_zero_le r20
          refine ⟨_, rfl, (by show -(2 ^ 62) ≤ (n2 : Int); omega), (by show (n2 : Int) < 2 ^ 62; omega), for_range (lo := 0) (n := n2) (fun j σ H' => (∃ (z : Str) (v9 v10 v11 v12 : Option V), σ = [some (.ref a), some (.ref st), some (.int (0 + (i : Int))), some (.ref l), v4, some (.str z), some (.ref hn), v7, v8, v9, v10, v11, v12] ∧ z.cps.size + 1 ≤ 5000 * 2 ^ j) ∧ SOk K a ns st H' ∧ Same (noTab H) H' ∧ Tabs [(Pt, lamQ)] H')
            ⟨⟨zc, v9, v10, v11, v12, rfl, by omega⟩, sd, ed, td⟩ ?_ ?_⟩
          · rintro j σ He hj ⟨⟨z, v9, v10, v11, v12, rfl, hz⟩, se, ee, te⟩
            have hz2 : z.cps.size + 1 ≤ 20000 := by
              have : j = 0 ∨ j = 1 ∨ j = 2 := by omega
              rcases this with q | q | q <;> subst q <;> omega
            have hzs : z.length ≤ sizeLine := small_le (m := 100000) (by show z.cps.size ≤ _; omega)
            refine ⟨_, rfl, _, rfl, _, rfl, hzs, _, _, rfl, rfl, st, a, ns, _, rfl, se, (by show (0 : Int) < (z.cps.size : Int) + 1; omega), (by show (z.cps.size : Int) + 1 < _; omega), fun at_ if_ mf cf f0 f1 df => ?_⟩
            have sf := se.drawn df
            have kf : Keep st He (upd He st (StO a if_ mf cf)) := (Keep.refl st He).atSt
            generalize upd He st (StO a if_ mf cf) = Hf at sf kf
            refine ⟨_, rfl, st, a, ns, 13, rfl, sf, by decide, by decide, fun sg ig mg' cg g0 g1 dg => ?_⟩
            have sg' := sf.drawn dg
            have kg : Keep st He (upd Hf st (StO a ig mg' cg)) := kf.atSt
            generalize upd Hf st (StO a ig mg' cg) = Hg at sg' kg
            obtain ⟨cc, hcc⟩ := at_ex (xs := (".#.# 01-_xX~!" : Str).cps.toList) g0 (by show sg < 13; exact g1)
            refine ⟨_, _, _, rfl, rfl, (by show 13 ≤ sizeLine; decide), hcc, ?_⟩
            refine ⟨_, rfl, st, a, ns, 3, rfl, sg', by decide, by decide, fun way ih mh ch h0' h1' dh => ?_⟩
            have sh := sg'.drawn dh
            have kh : Keep st He (upd Hg st (StO a ih mh ch)) := kg.atSt
            generalize upd Hg st (StO a ih mh ch) = Hh at sh kh
            refine ⟨_, rfl, _, rfl, _, rfl, _, rfl, hzs, _, rfl, _, rfl, (by show 3 ≤ sizeLine; decide), fun pi hpi => ?_⟩
            have si := sh.new (o := .lst [.str ⟨#[cc]⟩, .str "", .str ⟨#[cc]⟩]) hpi
            have ki := kh.new (o := .lst [.str ⟨#[cc]⟩, .str "", .str ⟨#[cc]⟩]) hpi
            have hi2 : upd Hh pi (.lst [.str ⟨#[cc]⟩, .str "", .str ⟨#[cc]⟩]) pi = some (.lst [.str ⟨#[cc]⟩, .str "", .str ⟨#[cc]⟩]) := upd_same
            generalize upd Hh pi (.lst [.str ⟨#[cc]⟩, .str "", .str ⟨#[cc]⟩]) = Hi at si ki hi2
            have hat : ∃ y : Str, atI [V.str ⟨#[cc]⟩, V.str "", V.str ⟨#[cc]⟩] way = some (.str y) ∧ y.cps.size ≤ 1 := by
              rcases pick3 h0' h1' with q | q | q <;> subst q
              · exact ⟨_, rfl, Nat.le_refl _⟩
              · exact ⟨_, rfl, by decide⟩
              · exact ⟨_, rfl, Nat.le_refl _⟩
            obtain ⟨y, hy, hy1⟩ := hat
            have c1 : (cutS z none (some at_)).cps.size ≤ z.cps.size := cutS_length z none (some at_)
            refine ⟨_, rfl, _, _, _, _, rfl, rfl, SqL.of hi2, hy, _, _, rfl, rfl, small_le (m := 100000) (by show (cutS z none (some at_)).cps.size + y.cps.size ≤ _; omega), ?_⟩
            refine ⟨_, rfl, _, rfl, _, rfl, _, _, rfl, rfl, .inr ⟨_, rfl, ?_⟩⟩
            generalize hlo : (if decide (0 < way) = true then (1 : Int) else 0) = w1
            refine ⟨_, _, rfl, rfl, _, rfl, _, rfl, hzs, ?_⟩
            have c2 : (cutS z (some (at_ + w1)) none).cps.size ≤ z.cps.size := cutS_length z (some (at_ + w1)) none
            have c3 : (cutS z none (some at_) ++ y).cps.size = (cutS z none (some at_)).cps.size + y.cps.size := Array.size_append ..
            refine ⟨_, _, rfl, rfl, small_le (m := 100000) (by show (cutS z none (some at_) ++ y).cps.size + (cutS z (some (at_ + w1)) none).cps.size ≤ _; omega), ?_⟩
            have c4 : (cutS z none (some at_) ++ y ++ cutS z (some (at_ + w1)) none).cps.size = (cutS z none (some at_) ++ y).cps.size + (cutS z (some (at_ + w1)) none).cps.size := Array.size_append ..
            exact ⟨⟨_, _, _, _, _, rfl, by rw [Nat.pow_succ]; omega⟩, si, ee.keepAll hstm ki, se.tabs te ki⟩
          · rintro σ He ⟨⟨z, v9, v10, v11, v12, rfl, hz⟩, se, ee, te⟩
            have hz2 : z.cps.size ≤ 100000 := by
              have : n2 = 0 ∨ n2 = 1 ∨ n2 = 2 := by omega
              rcases this with q | q | q <;> subst q <;> omega
            refine ⟨te, fun H8 eN tN => ?_⟩
            have s8 := se.extN hSm hstm ee eN
            have e8 := extN_same ee eN
            refine ⟨_, rfl, z, rfl, hz2, ?_, ?_⟩
            · intro g p H9 e9 hp hp9
              refine ⟨_, rfl, z, rfl, hz2, fun _ q Hx ex hq => ?_, fun n b => (gd_bd g b).elim⟩
              have hpx := ex _ _ hp9
              have hsame : SameD Hx 2 (.ref p) (.ref q) := .lst 1 p q _ _ hpx hq rfl (by have := g.2.1; unfold bitsS; simp; omega) fun j x y x1 x2 => by
                rw [x1] at x2; cases x2
                obtain ⟨z, _, rfl⟩ := getV x1
                exact .int 1 _
              refine ⟨_, _, rfl, hsame, fun Hy ey => ⟨_, rfl, iteF ?_⟩⟩
              have ey' := (e9.trans ex).trans ey
              exact ⟨⟨_, _, _, _, _, _, _, _, _, _, _, rfl⟩, s8.same ey', e8.trans ey', tabs_same tN ey'⟩
            · intro n b dd H9 e9 hdd hat
              refine ⟨dd, (n : Nat), rfl, rfl, hat, fun t Ha ea hta => ?_⟩
              refine ⟨_, rfl, z, rfl, hz2, fun g => (gd_bd g b).elim, fun m b2 q Hx ex hq => ?_⟩
              obtain rfl := bd_bd b b2
              have hsame : SameD Hx 2 (.ref t) (.ref q) := .tup 1 t q _ _ (ex _ _ hta) hq rfl (by show 2 ≤ 1000; decide) fun j x y x1 x2 => by
                rw [x1] at x2; cases x2
                match j, x1 with
                | 0, x1 => cases x1; exact .str 1 _
                | 1, x1 => cases x1; exact .int 1 _
                | j + 2, x1 => cases x1
              refine ⟨_, _, rfl, hsame, fun Hy ey => ⟨_, rfl, iteF ?_⟩⟩
              have ey' := ((e9.trans ea).trans ex).trans ey
              exact ⟨⟨_, _, _, _, _, _, _, _, _, _, _, rfl⟩, s8.same ey', e8.trans ey', tabs_same tN ey'⟩
        · refine iteFe (decide_eq_false c4) ?_
          have ec := e8
          have tc := t8
          have sc := s8
          generalize H8 = Hc at ec tc sc
          have hzl : (wrS fs).cps.size ≤ 4480 := by omega
          refine ⟨_, rfl, st, a, ns, 3, rfl, sc, by decide, by decide, fun r2 ie me ce r20 r21 de => ?_⟩
          have sd := sc.drawn de
          have kd : Keep st Hc (upd Hc st (StO a ie me ce)) := (Keep.refl st Hc).atSt
          generalize upd Hc st (StO a ie me ce) = Hd at sd kd
          have ed : Same (noTab H) Hd := ec.keepAll hstm kd
          have td := sc.tabs tc kd
          obtain ⟨n2, rfl⟩ := Int.eq_ofNat_of_zero_le r20
          refine ⟨_, rfl, (by show -(2 ^ 62) ≤ (n2 : Int); omega), (by show (n2 : Int) < 2 ^ 62; omega), for_range (lo := 0) (n := n2) (fun j σ H' => (∃ (z : Str) (v9 v10 v11 v12 : Option V), σ = [some (.ref a), some (.ref st), some (.int (0 + (i : Int))), some (.ref l), v4, some (.str z), some (.ref hn), v7, v8, v9, v10, v11, v12] ∧ z.cps.size + 1 ≤ 5000 * 2 ^ j) ∧ SOk K a ns st H' ∧ Same (noTab H) H' ∧ Tabs [(Pt, lamQ)] H')
            ⟨⟨wrS fs, v9, v10, v11, v12, rfl, by omega⟩, sd, ed, td⟩ ?_ ?_⟩
          · rintro j σ He hj ⟨⟨z, v9, v10, v11, v12, rfl, hz⟩, se, ee, te⟩
            have hz2 : z.cps.size + 1 ≤ 20000 := by
              have : j = 0 ∨ j = 1 ∨ j = 2 := by omega
              rcases this with q | q | q <;> subst q <;> omega
            have hzs : z.length ≤ sizeLine := small_le (m := 100000) (by show z.cps.size ≤ _; omega)
            refine ⟨_, rfl, _, rfl, _, rfl, hzs, _, _, rfl, rfl, st, a, ns, _, rfl, se, (by show (0 : Int) < (z.cps.size : Int) + 1; omega), (by show (z.cps.size : Int) + 1 < _; omega), fun at_ if_ mf cf f0 f1 df => ?_⟩
            have sf := se.drawn df
            have kf : Keep st He (upd He st (StO a if_ mf cf)) := (Keep.refl st He).atSt
            generalize upd He st (StO a if_ mf cf) = Hf at sf kf
            refine ⟨_, rfl, st, a, ns, 13, rfl, sf, by decide, by decide, fun sg ig mg' cg g0 g1 dg => ?_⟩
            have sg' := sf.drawn dg
            have kg : Keep st He (upd Hf st (StO a ig mg' cg)) := kf.atSt
            generalize upd Hf st (StO a ig mg' cg) = Hg at sg' kg
            obtain ⟨cc, hcc⟩ := at_ex (xs := (".#.# 01-_xX~!" : Str).cps.toList) g0 (by show sg < 13; exact g1)
            refine ⟨_, _, _, rfl, rfl, (by show 13 ≤ sizeLine; decide), hcc, ?_⟩
            refine ⟨_, rfl, st, a, ns, 3, rfl, sg', by decide, by decide, fun way ih mh ch h0' h1' dh => ?_⟩
            have sh := sg'.drawn dh
            have kh : Keep st He (upd Hg st (StO a ih mh ch)) := kg.atSt
            generalize upd Hg st (StO a ih mh ch) = Hh at sh kh
            refine ⟨_, rfl, _, rfl, _, rfl, _, rfl, hzs, _, rfl, _, rfl, (by show 3 ≤ sizeLine; decide), fun pi hpi => ?_⟩
            have si := sh.new (o := .lst [.str ⟨#[cc]⟩, .str "", .str ⟨#[cc]⟩]) hpi
            have ki := kh.new (o := .lst [.str ⟨#[cc]⟩, .str "", .str ⟨#[cc]⟩]) hpi
            have hi2 : upd Hh pi (.lst [.str ⟨#[cc]⟩, .str "", .str ⟨#[cc]⟩]) pi = some (.lst [.str ⟨#[cc]⟩, .str "", .str ⟨#[cc]⟩]) := upd_same
            generalize upd Hh pi (.lst [.str ⟨#[cc]⟩, .str "", .str ⟨#[cc]⟩]) = Hi at si ki hi2
            have hat : ∃ y : Str, atI [V.str ⟨#[cc]⟩, V.str "", V.str ⟨#[cc]⟩] way = some (.str y) ∧ y.cps.size ≤ 1 := by
              rcases pick3 h0' h1' with q | q | q <;> subst q
              · exact ⟨_, rfl, Nat.le_refl _⟩
              · exact ⟨_, rfl, by decide⟩
              · exact ⟨_, rfl, Nat.le_refl _⟩
            obtain ⟨y, hy, hy1⟩ := hat
            have c1 : (cutS z none (some at_)).cps.size ≤ z.cps.size := cutS_length z none (some at_)
            refine ⟨_, rfl, _, _, _, _, rfl, rfl, SqL.of hi2, hy, _, _, rfl, rfl, small_le (m := 100000) (by show (cutS z none (some at_)).cps.size + y.cps.size ≤ _; omega), ?_⟩
            refine ⟨_, rfl, _, rfl, _, rfl, _, _, rfl, rfl, .inr ⟨_, rfl, ?_⟩⟩
            generalize hlo : (if decide (0 < way) = true then (1 : Int) else 0) = w1
            refine ⟨_, _, rfl, rfl, _, rfl, _, rfl, hzs, ?_⟩
            have c2 : (cutS z (some (at_ + w1)) none).cps.size ≤ z.cps.size := cutS_length z (some (at_ + w1)) none
            have c3 : (cutS z none (some at_) ++ y).cps.size = (cutS z none (some at_)).cps.size + y.cps.size := Array.size_append ..
            refine ⟨_, _, rfl, rfl, small_le (m := 100000) (by show (cutS z none (some at_) ++ y).cps.size + (cutS z (some (at_ + w1)) none).cps.size ≤ _; omega), ?_⟩
            have c4 : (cutS z none (some at_) ++ y ++ cutS z (some (at_ + w1)) none).cps.size = (cutS z none (some at_) ++ y).cps.size + (cutS z (some (at_ + w1)) none).cps.size := Array.size_append ..
            exact ⟨⟨_, _, _, _, _, rfl, by rw [Nat.pow_succ]; omega⟩, si, ee.keepAll hstm ki, se.tabs te ki⟩
          · rintro σ He ⟨⟨z, v9, v10, v11, v12, rfl, hz⟩, se, ee, te⟩
            have hz2 : z.cps.size ≤ 100000 := by
              have : n2 = 0 ∨ n2 = 1 ∨ n2 = 2 := by omega
              rcases this with q | q | q <;> subst q <;> omega
            refine ⟨te, fun H8 eN tN => ?_⟩
            have s8 := se.extN hSm hstm ee eN
            have e8 := extN_same ee eN
            refine ⟨_, rfl, z, rfl, hz2, ?_, ?_⟩
            · intro g p H9 e9 hp hp9
              refine ⟨_, rfl, z, rfl, hz2, fun _ q Hx ex hq => ?_, fun n b => (gd_bd g b).elim⟩
              have hpx := ex _ _ hp9
              have hsame : SameD Hx 2 (.ref p) (.ref q) := .lst 1 p q _ _ hpx hq rfl (by have := g.2.1; unfold bitsS; simp; omega) fun j x y x1 x2 => by
                rw [x1] at x2; cases x2
                obtain ⟨z, _, rfl⟩ := getV x1
                exact .int 1 _
              refine ⟨_, _, rfl, hsame, fun Hy ey => ⟨_, rfl, iteF ?_⟩⟩
              have ey' := (e9.trans ex).trans ey
              exact ⟨⟨_, _, _, _, _, _, _, _, _, _, _, rfl⟩, s8.same ey', e8.trans ey', tabs_same tN ey'⟩
            · intro n b dd H9 e9 hdd hat
              refine ⟨dd, (n : Nat), rfl, rfl, hat, fun t Ha ea hta => ?_⟩
              refine ⟨_, rfl, z, rfl, hz2, fun g => (gd_bd g b).elim, fun m b2 q Hx ex hq => ?_⟩
              obtain rfl := bd_bd b b2
              have hsame : SameD Hx 2 (.ref t) (.ref q) := .tup 1 t q _ _ (ex _ _ hta) hq rfl (by show 2 ≤ 1000; decide) fun j x y x1 x2 => by
                rw [x1] at x2; cases x2
                match j, x1 with
                | 0, x1 => cases x1; exact .str 1 _
                | 1, x1 => cases x1; exact .int 1 _
                | j + 2, x1 => cases x1
              refine ⟨_, _, rfl, hsame, fun Hy ey => ⟨_, rfl, iteF ?_⟩⟩
              have ey' := ((e9.trans ea).trans ex).trans ey
              exact ⟨⟨_, _, _, _, _, _, _, _, _, _, _, rfl⟩, s8.same ey', e8.trans ey', tabs_same tN ey'⟩
    · rintro σ H1 ⟨_, s1, e1, t1⟩
      exact k _
end
end My

namespace My
open PySem PySem.Spec PyProof.Rows LamX L2
def dd_law_start : He.DefD := ⟨("_law_start", none), "_law_start", "_law_start", defArgs s_law_start, defBody s_law_start, defScope s_law_start, [], []⟩
def dd_law_drawn : He.DefD := ⟨("_law_drawn", none), "_law_drawn", "_law_drawn", defArgs s_law_drawn, defBody s_law_drawn, defScope s_law_drawn, [], []⟩
def dd_law_share : He.DefD := ⟨("_law_share", none), "_law_share", "_law_share", defArgs s_law_share, defBody s_law_share, defScope s_law_share, [], []⟩
def dd_law_even : He.DefD := ⟨("_law_even", none), "_law_even", "_law_even", defArgs s_law_even, defBody s_law_even, defScope s_law_even, [], []⟩
def dd_law_kind : He.DefD := ⟨("_law_kind", none), "_law_kind", "_law_kind", defArgs s_law_kind, defBody s_law_kind, defScope s_law_kind, [], []⟩
def dd_law_frame : He.DefD := ⟨("_law_frame", none), "_law_frame", "_law_frame", defArgs s_law_frame, defBody s_law_frame, defScope s_law_frame, [], []⟩
def dd_need_frame : He.DefD := ⟨("need_frame", none), "need_frame", "need_frame", defArgs s_need_frame, defBody s_need_frame, defScope s_need_frame, [], []⟩
def dd_written : He.DefD := ⟨("written", none), "written", "written", defArgs s_written, defBody s_written, defScope s_written, [], []⟩
def dd_BadText___init__ : He.DefD := ⟨("BadText", some "__init__"), "__init__", "BadText.__init__", defArgs s_BadText_init__, defBody s_BadText_init__, defScope s_BadText_init__, [], []⟩
def dd_read_frame : He.DefD := ⟨("read_frame", none), "read_frame", "read_frame", defArgs s_read_frame, defBody s_read_frame, defScope s_read_frame, [], []⟩
def dd_law_read : He.DefD := ⟨("_law_read", none), "_law_read", "_law_read", defArgs s_law_read, defBody s_law_read, defScope s_law_read, [], []⟩
def dd_law_same : He.DefD := ⟨("_law_same", none), "_law_same", "_law_same", defArgs s_law_same, defBody s_law_same, defScope s_law_same, [], []⟩
def dd_law : He.DefD := ⟨("law", none), "law", "law", defArgs s_law, defBody s_law, defScope s_law, [], []⟩
def hfn : List He.DefD := [dd_law_start, dd_law_drawn, dd_law_share, dd_law_even, dd_law_kind, dd_law_frame, dd_need_frame, dd_written, dd_BadText___init__, dd_read_frame, dd_law_read, dd_law_same, dd_law]
def hfa : List He.Fa := [.glo "_law_start", .glo "_law_drawn", .glo "_law_share", .glo "_law_even", .glo "_law_kind", .glo "_law_frame", .glo "need_frame", .glo "written", .glo "read_frame", .glo "_law_read", .glo "_law_same", .glo "law", .glo "BadBegins", .glo "BadFrame", .glo "BadRuns", .glo "BadShare", .glo "BadText", .glo "BadWidth", .glo "NoRoom", .glo "PulseError", .meth "BadText" "__init__", .exm "BadText" "PulseError" true, .int "MOST_BEATS" 64, .str "SIGNS" ".#", .free "ValueError", .free "bool", .free "enumerate", .free "int", .free "isinstance", .free "len", .free "list", .free "range", .free "str", .free "tuple"]
def exL (K : PySem.W.Frag) : List Bool := [decide (PySem.W.specialIn K (.builtin "object.__class__") "__get__" = some (some (.builtin "getset_descriptor.__get__"))),
  decide (PySem.W.takesIn K (.builtin "object.__class__") = some true),
  decide (PySem.W.findIn K (.ref (He.ga K "BadText")) "__getattribute__" = some (some (.builtin "BaseException.__getattribute__"))),
  decide (PySem.W.findIn K (.ref (He.ga K "BadText")) "__getattr__" = some none),
  decide (PySem.W.subIn K (.ref (He.ga K "BadText")) (.type "BaseException") = some true),
  PySem.W.hasDictIn K (He.ga K "BadText"),
  decide (PySem.W.findIn K (.ref (He.ga K "BadText")) "__class__" = some (some (.builtin "object.__class__"))),
  decide (PySem.W.mroIn K (He.ga K "BadText") (.type "object") = some true),
  decide (PySem.W.kitOne K (.ref (He.ga K "BadText")) (.ref (He.ga K "BadFrame")) = some (decide (6 = 0))),
  decide (PySem.W.kitOne K (.ref (He.ga K "BadText")) (.ref (He.ga K "BadShare")) = some (decide (6 = 1))),
  decide (PySem.W.kitOne K (.ref (He.ga K "BadText")) (.ref (He.ga K "BadWidth")) = some (decide (6 = 2))),
  decide (PySem.W.kitOne K (.ref (He.ga K "BadText")) (.ref (He.ga K "BadBegins")) = some (decide (6 = 3))),
  decide (PySem.W.kitOne K (.ref (He.ga K "BadText")) (.ref (He.ga K "BadRuns")) = some (decide (6 = 4))),
  decide (PySem.W.kitOne K (.ref (He.ga K "BadText")) (.ref (He.ga K "NoRoom")) = some (decide (6 = 5))),
  decide (PySem.W.kitOne K (.ref (He.ga K "BadText")) (.ref (He.ga K "BadText")) = some (decide (6 = 6))),
  decide (PySem.W.kitOne K (.ref (He.ga K "BadText")) (.type "ValueError") = some true),
  oexB K (He.ga K "BadText"),
  decide (PySem.W.findIn K (.ref (He.ga K "BadText")) "__setattr__" = some (some (.builtin "object.__setattr__"))),
  decide (PySem.W.subIn K (.ref (He.ga K "BadText")) (.type "BaseException") = some true),
  decide (PySem.W.typeIn K (.ref (He.ga K "BadText")) = some (.type "type")),
  PySem.W.keepIn K (.ref (He.ga K "BadText")),
  decide (PySem.W.findIn K (.ref (He.ga K "BadText")) "place" = some none),
  decide (PySem.W.specialIn K (.ref (He.ga K "PulseError")) "__getattribute__" = some (some (.builtin "type.__getattribute__"))),
  PySem.W.readsIn K (He.ga K "PulseError") (.type "type"),
  isVeInit (PySem.W.findCls K (.ref (He.ga K "PulseError")) (.type "type") "__init__")]
def hex (K : PySem.W.Frag) : Bool := (exL K).all id
theorem hex_at {K : PySem.W.Frag} (h : hex K = true) (i : Nat) {b : Bool} (e : (exL K)[i]? = some b := by rfl) : b = true := List.all_eq_true.mp h b (List.mem_of_getElem? e)
abbrev hR : PySem.W.OpenRow := PySem.W.OpenLaw.row PySem.Challenge.rw_pulseshare_k14_written_and_read
def tfY : List He.Defn := [("law", none)]
def asY (g : Addr → Option Obj) : List Addr := cStatics :: He.asD g 4
def obY (g : Addr → Option Obj) : He.AlX := (He.obsT hfa hfn [] (He.frT g (asY g)), hex (He.frT g (asY g)) && He.tabsB g tfY (He.frT g (asY g)))
theorem saysY {w : World} {h : Heap} (e : obY h.get? = He.valX hfn [] w) : He.SaysX hfa hfn [] tfY hex w h (He.frT h.get? (asY h.get?)) := by
  have a1 : He.obsT hfa hfn [] (He.frT h.get? (asY h.get?)) = He.valT hfn [] w := congrArg Prod.fst e
  have a2 : (hex (He.frT h.get? (asY h.get?)) && He.tabsB h.get? tfY (He.frT h.get? (asY h.get?))) = true := congrArg Prod.snd e
  rw [Bool.and_eq_true] at a2
  have tab : ∀ p ∈ tfY, PySem.W.codeHdIn (He.frT h.get? (asY h.get?)) (He.cT (He.frT h.get? (asY h.get?)) p).1 (He.cT (He.frT h.get? (asY h.get?)) p).2 = true ∧ ∃ o, h.get? (He.cT (He.frT h.get? (asY h.get?)) p).2 = some o ∧ He.emptyTab o = true := fun p hp => by
    have q := List.all_eq_true.mp a2.2 p hp
    rw [Bool.and_eq_true] at q
    refine ⟨q.1, ?_⟩
    have q2 := q.2
    generalize h.get? (He.cT (He.frT h.get? (asY h.get?)) p).2 = u at q2
    cases u with
    | some o => exact ⟨o, rfl, q2⟩
    | none => cases q2
  refine { t := a1, more := a2.1, hd := fun p hp => (tab p hp).1, out := fun p hp => ?_, empty := fun p hp => ?_ }
  · obtain ⟨_, o, h1, h2⟩ := tab p hp
    exact He.frT_none h1 h2
  · obtain ⟨_, o, h1, h2⟩ := tab p hp
    rw [h1, He.emptyTab_eq h2]
def hkk : PySem.W.Hook where
  α := He.AlX
  obs := fun s => obY s.heap.get?
  val := fun w => He.valX hfn [] w
  says := fun w h => ∃ K : PySem.W.Frag, K.In h ∧ He.SaysX hfa hfn [] tfY hex w h K
  of := fun _ _ e => ⟨_, He.frT_in, saysY e⟩
  keeps := fun _ _ _ ⟨K, h1, c⟩ k => ⟨K, PySem.W.Frag.In.keeps h1 k, ⟨c.t, c.more, c.hd, c.out, fun p hp => k _ _ (c.empty p hp)⟩⟩
def hob (s : PySem.W.SharedT) : He.AlX := obY (HandSHeadRun.getT s)
theorem hob_eq (s : PySem.W.SharedT) : hob s = hkk.obs s.abs := congrArg obY (funext (HandSHeadRun.getT_eq s))
theorem hrun (w : World) : HandSHeadRun.RunEq hR (PySem.W.view hR.prog [25]) hkk hob 4000 ["PulseError", "BadFrame", "BadShare", "BadWidth", "BadBegins", "BadRuns", "NoRoom", "BadText", "MOST_BEATS", "need_frame", "SIGNS", "written", "read_frame", "_law_start", "_law_drawn", "_law_same", "_law_kind", "_law_share", "_law_frame", "_law_even", "_law_read"] w := by
  intro os
  kernel_rfl
theorem fun_of_D {K : PySem.W.Frag} {x q : Str} {st : Stmt} {f : Addr} {fd : FuncData} (F : FunD K x q (defArgs st) (defBody st) (defScope st) [] [] f fd) : Fun K x q st f fd := by
  obtain ⟨oc, od, dV, kV, doc, pm, an, cdv, ct, osl, e, lk, hcd, hD, hK⟩ := F.ex
  rcases hD with ⟨_, e2⟩ | ⟨e2, _⟩
  · subst e2
    exact ⟨⟨oc, od, kV, doc, pm, an, cdv, ct, osl, e, lk, hcd⟩, F.kp⟩
  · exact absurd rfl e2
theorem facts {l : PySem.W.OpenLaw} {w : World} {K : PySem.W.Frag} {h : Heap} {mg : Str → Option Value} {fa : Addr} (KX : K.In h) (G : h.Ns mainGlobals mg) (hmg : mg ("law" : Str) = some (.ref fa)) (c : He.SaysX hfa hfn [] [("law", none)] hex w h K) : LawAtS l w K CX0 6 63 "_law_script" mg fa h := by
  obtain ⟨fd_law_start, FD_law_start⟩ := c.t.d.def_ 0 (d := dd_law_start) rfl
  have G_law_start : FunG K mg "_law_start" s_law_start (He.ga K "_law_start") fd_law_start ["_law_script"] := ⟨fun_of_D FD_law_start, He.glo_ok KX G (c.t.d.fact 0 (f := .glo "_law_start") rfl), FunD.bindsN (ps := ["_law_script"]) FD_law_start fun _ _ _ _ _ _ us hl => match us, hl with | [_], _ => rfl⟩
  obtain ⟨fd_law_drawn, FD_law_drawn⟩ := c.t.d.def_ 1 (d := dd_law_drawn) rfl
  have G_law_drawn : FunG K mg "_law_drawn" s_law_drawn (He.ga K "_law_drawn") fd_law_drawn ["_law_state", "_law_many"] := ⟨fun_of_D FD_law_drawn, He.glo_ok KX G (c.t.d.fact 1 (f := .glo "_law_drawn") rfl), FunD.bindsN (ps := ["_law_state", "_law_many"]) FD_law_drawn fun _ _ _ _ _ _ us hl => match us, hl with | [_, _], _ => rfl⟩
  obtain ⟨fd_law_share, FD_law_share⟩ := c.t.d.def_ 2 (d := dd_law_share) rfl
  have G_law_share : FunG K mg "_law_share" s_law_share (He.ga K "_law_share") fd_law_share ["_law_state"] := ⟨fun_of_D FD_law_share, He.glo_ok KX G (c.t.d.fact 2 (f := .glo "_law_share") rfl), FunD.bindsN (ps := ["_law_state"]) FD_law_share fun _ _ _ _ _ _ us hl => match us, hl with | [_], _ => rfl⟩
  obtain ⟨fd_law_even, FD_law_even⟩ := c.t.d.def_ 3 (d := dd_law_even) rfl
  have G_law_even : FunG K mg "_law_even" s_law_even (He.ga K "_law_even") fd_law_even ["_law_beats", "_law_pulses", "_law_turn"] := ⟨fun_of_D FD_law_even, He.glo_ok KX G (c.t.d.fact 3 (f := .glo "_law_even") rfl), FunD.bindsN (ps := ["_law_beats", "_law_pulses", "_law_turn"]) FD_law_even fun _ _ _ _ _ _ us hl => match us, hl with | [_, _, _], _ => rfl⟩
  obtain ⟨fd_law_kind, FD_law_kind⟩ := c.t.d.def_ 4 (d := dd_law_kind) rfl
  have G_law_kind : FunG K mg "_law_kind" s_law_kind (He.ga K "_law_kind") fd_law_kind ["_law_work"] := ⟨fun_of_D FD_law_kind, He.glo_ok KX G (c.t.d.fact 4 (f := .glo "_law_kind") rfl), FunD.bindsN (ps := ["_law_work"]) FD_law_kind fun _ _ _ _ _ _ us hl => match us, hl with | [_], _ => rfl⟩
  obtain ⟨fd_law_frame, FD_law_frame⟩ := c.t.d.def_ 5 (d := dd_law_frame) rfl
  have G_law_frame : FunG K mg "_law_frame" s_law_frame (He.ga K "_law_frame") fd_law_frame ["_law_state"] := ⟨fun_of_D FD_law_frame, He.glo_ok KX G (c.t.d.fact 5 (f := .glo "_law_frame") rfl), FunD.bindsN (ps := ["_law_state"]) FD_law_frame fun _ _ _ _ _ _ us hl => match us, hl with | [_], _ => rfl⟩
  obtain ⟨fd_need_frame, FD_need_frame⟩ := c.t.d.def_ 6 (d := dd_need_frame) rfl
  have G_need_frame : FunG K mg "need_frame" s_need_frame (He.ga K "need_frame") fd_need_frame ["frame"] := ⟨fun_of_D FD_need_frame, He.glo_ok KX G (c.t.d.fact 6 (f := .glo "need_frame") rfl), FunD.bindsN (ps := ["frame"]) FD_need_frame fun _ _ _ _ _ _ us hl => match us, hl with | [_], _ => rfl⟩
  obtain ⟨fd_written, FD_written⟩ := c.t.d.def_ 7 (d := dd_written) rfl
  have G_written : FunG K mg "written" s_written (He.ga K "written") fd_written ["frame"] := ⟨fun_of_D FD_written, He.glo_ok KX G (c.t.d.fact 7 (f := .glo "written") rfl), FunD.bindsN (ps := ["frame"]) FD_written fun _ _ _ _ _ _ us hl => match us, hl with | [_], _ => rfl⟩
  obtain ⟨fd_BadText___init__, FD_BadText___init__⟩ := c.t.d.def_ 8 (d := dd_BadText___init__) rfl
  have G_BadText___init__ : FunM K "__init__" "BadText.__init__" s_BadText_init__ (He.ma K (He.ga K "BadText") "__init__") fd_BadText___init__ ["self", "place"] := ⟨fun_of_D FD_BadText___init__, FunD.bindsN (ps := ["self", "place"]) FD_BadText___init__ fun _ _ _ _ _ _ us hl => match us, hl with | [_, _], _ => rfl⟩
  have M_BadText___init__ := He.meth_ok (c.t.d.fact 20 (f := .meth "BadText" "__init__") rfl)
  obtain ⟨fd_read_frame, FD_read_frame⟩ := c.t.d.def_ 9 (d := dd_read_frame) rfl
  have G_read_frame : FunG K mg "read_frame" s_read_frame (He.ga K "read_frame") fd_read_frame ["text"] := ⟨fun_of_D FD_read_frame, He.glo_ok KX G (c.t.d.fact 8 (f := .glo "read_frame") rfl), FunD.bindsN (ps := ["text"]) FD_read_frame fun _ _ _ _ _ _ us hl => match us, hl with | [_], _ => rfl⟩
  obtain ⟨fd_law_read, FD_law_read⟩ := c.t.d.def_ 10 (d := dd_law_read) rfl
  have G_law_read : FunG K mg "_law_read" s_law_read (He.ga K "_law_read") fd_law_read ["_law_text"] := ⟨fun_of_D FD_law_read, He.glo_ok KX G (c.t.d.fact 9 (f := .glo "_law_read") rfl), FunD.bindsN (ps := ["_law_text"]) FD_law_read fun _ _ _ _ _ _ us hl => match us, hl with | [_], _ => rfl⟩
  obtain ⟨fd_law_same, FD_law_same⟩ := c.t.d.def_ 11 (d := dd_law_same) rfl
  have G_law_same : FunG K mg "_law_same" s_law_same (He.ga K "_law_same") fd_law_same ["_law_found", "_law_due"] := ⟨fun_of_D FD_law_same, He.glo_ok KX G (c.t.d.fact 10 (f := .glo "_law_same") rfl), FunD.bindsN (ps := ["_law_found", "_law_due"]) FD_law_same fun _ _ _ _ _ _ us hl => match us, hl with | [_, _], _ => rfl⟩
  obtain ⟨fd_law, FD_law⟩ := c.t.d.def_ 12 (d := dd_law) rfl
  have e := hmg.symm.trans (He.glo_ok KX G (c.t.d.fact 11 (f := .glo "law") rfl))
  cases e
  have bA := FunD.bindsA (ps := ["_law_script"]) FD_law fun _ _ _ _ _ _ us hl => match us, hl with | [_], _ => rfl
  obtain ⟨oc, od, kV, doc, pm, an, cdv, ct, osl, rfl, lk, hcd⟩ := (fun_of_D (st := s_law) FD_law).ex
  obtain ⟨c0, rfl⟩ := He.codeIn_ref hcd
  have ec : He.codeOf K ("law", none) = c0 := He.codeOf_eq lk rfl
  have h1 := c.hd ("law", none) List.mem_cons_self
  have h2 := c.out ("law", none) List.mem_cons_self
  have h3 := c.empty ("law", none) List.mem_cons_self
  unfold He.cT at h1 h2 h3
  rw [ec] at h1 h2 h3
  dsimp only at h1 h2 h3
  generalize He.tabOf K c0 = Pt at h1 h2 h3
  have e_BadText : ErrK K "BadText" 6 := ⟨⟨of_decide_eq_true (hex_at c.more 2), of_decide_eq_true (hex_at c.more 3), of_decide_eq_true (hex_at c.more 4), hex_at c.more 5, of_decide_eq_true (hex_at c.more 6), of_decide_eq_true (hex_at c.more 0), of_decide_eq_true (hex_at c.more 1), of_decide_eq_true (hex_at c.more 7)⟩, He.exm_ok (c.t.d.fact 21 (f := .exm "BadText" "PulseError" true) rfl), of_decide_eq_true (hex_at c.more 8), of_decide_eq_true (hex_at c.more 9), of_decide_eq_true (hex_at c.more 10), of_decide_eq_true (hex_at c.more 11), of_decide_eq_true (hex_at c.more 12), of_decide_eq_true (hex_at c.more 13), of_decide_eq_true (hex_at c.more 14), of_decide_eq_true (hex_at c.more 15), by decide, rfl⟩
  have T : Txt K mg := ⟨He.glo_ok KX G (c.t.d.fact 12 (f := .glo "BadBegins") rfl),
    He.glo_ok KX G (c.t.d.fact 13 (f := .glo "BadFrame") rfl),
    He.glo_ok KX G (c.t.d.fact 14 (f := .glo "BadRuns") rfl),
    He.glo_ok KX G (c.t.d.fact 15 (f := .glo "BadShare") rfl),
    He.glo_ok KX G (c.t.d.fact 16 (f := .glo "BadText") rfl),
    He.glo_ok KX G (c.t.d.fact 17 (f := .glo "BadWidth") rfl),
    (by obtain ⟨t, e⟩ := He.int_ok KX G (c.t.d.fact 22 (f := .int "MOST_BEATS" 64) rfl); exact ⟨_, e, t, rfl⟩),
    He.glo_ok KX G (c.t.d.fact 18 (f := .glo "NoRoom") rfl),
    He.glo_ok KX G (c.t.d.fact 19 (f := .glo "PulseError") rfl),
    (by obtain ⟨t, e⟩ := He.str_ok KX G (c.t.d.fact 23 (f := .str "SIGNS" ".#") rfl); exact ⟨_, e, t, rfl⟩),
    He.free_ok KX G (c.t.d.fact 24 (f := .free "ValueError") rfl),
    He.free_ok KX G (c.t.d.fact 25 (f := .free "bool") rfl),
    He.free_ok KX G (c.t.d.fact 26 (f := .free "enumerate") rfl),
    He.free_ok KX G (c.t.d.fact 27 (f := .free "int") rfl),
    He.free_ok KX G (c.t.d.fact 28 (f := .free "isinstance") rfl),
    He.free_ok KX G (c.t.d.fact 29 (f := .free "len") rfl),
    He.free_ok KX G (c.t.d.fact 30 (f := .free "list") rfl),
    He.free_ok KX G (c.t.d.fact 31 (f := .free "range") rfl),
    He.free_ok KX G (c.t.d.fact 32 (f := .free "str") rfl),
    He.free_ok KX G (c.t.d.fact 33 (f := .free "tuple") rfl),
    ⟨oexB_ok (hex_at c.more 16), of_decide_eq_true (hex_at c.more 17), of_decide_eq_true (hex_at c.more 18), of_decide_eq_true (hex_at c.more 19), hex_at c.more 20⟩,
    of_decide_eq_true (hex_at c.more 21),
    ⟨He.glo_ok KX G (c.t.d.fact 19 (f := .glo "PulseError") rfl), of_decide_eq_true (hex_at c.more 22), hex_at c.more 23, isVeInit_ok (hex_at c.more 24)⟩,
    e_BadText⟩
  refine ⟨_, [(c0, Pt)], spLaw K Pt, fun p hp => ?_, fun p hp => ?_, fun p hp => ?_, fun s v => bA s [v] rfl, fun H a ns hl _ hT hS => ⟨a, ns, rfl, hS, hl, hT _ List.mem_cons_self, fun _ => rfl⟩, fun base KB GB TBs => ?_⟩
  · rw [List.mem_singleton] at hp; subst hp; exact h3
  · rw [List.mem_singleton] at hp; subst hp; exact h2
  · rw [List.mem_singleton] at hp; subst hp; exact PySem.W.codeHd_of_K KX h1
  · have TB := TBs (c0, Pt) List.mem_cons_self
    have c_law_start := G_law_start.clX (ok_law_start (P := l.prog) (w := w) (base := base) G_law_start )
    have c_law_drawn := G_law_drawn.clX (ok_law_drawn (P := l.prog) (w := w) (base := base) G_law_drawn T)
    have c_law_share := G_law_share.clX (ok_law_share (P := l.prog) (w := w) (base := base) G_law_share c_law_drawn)
    have c_law_even := G_law_even.clX (ok_law_even (P := l.prog) (w := w) (base := base) G_law_even T)
    have c_law_frame := G_law_frame.clX (ok_law_frame (P := l.prog) (w := w) (base := base) G_law_frame T c_law_drawn c_law_share c_law_even)
    have c_need_frame := G_need_frame.clX (ok_need_frame (P := l.prog) (w := w) (base := base) G_need_frame T)
    have c_written := G_written.clX (ok_written (P := l.prog) (w := w) (base := base) G_written T c_need_frame)
    have c_BadText : BtC l.prog w K mg base 1 (spBtInit K) := ⟨_, _, _, T.bt_o, M_BadText___init__.at_, eq_of_beq M_BadText___init__.fn, ok_BadText_init (P := l.prog) (w := w) (base := base) G_BadText___init__ T, G_BadText___init__.b, He.glo_ok KX G (c.t.d.fact 16 (f := .glo "BadText") rfl)⟩
    have c_read_frame := G_read_frame.clX (ok_read_frame (P := l.prog) (w := w) (base := base) G_read_frame T c_BadText)
    have c_law_read := G_law_read.clX (ok_law_read (P := l.prog) (w := w) (base := base) G_law_read T)
    have c_law_same := G_law_same.clX (ok_law_same (P := l.prog) (w := w) (base := base) G_law_same T 2)
    exact ok_law (P := l.prog) (w := w) (base := base) lk hcd T TB G_law_kind c_law_start c_law_drawn c_law_frame c_written c_read_frame c_law_same c_law_read e_BadText
end My
open PySem PySem.W PySem.Calls PyProof.Rows
theorem PySem.Challenge.cw_pulseshare_k14_written_and_read_holds : PySem.Challenge.rw_pulseshare_k14_written_and_read.Holds := by
  w_on; o_law
  refine HandSHeadRun.head_any (r := OpenLaw.row PySem.Challenge.rw_pulseshare_k14_written_and_read) (q := view (OpenLaw.row PySem.Challenge.rw_pulseshare_k14_written_and_read).prog [25]) (H := My.hkk) (ob := My.hob) (M := 4000) (loose := ["PulseError", "BadFrame", "BadShare", "BadWidth", "BadBegins", "BadRuns", "NoRoom", "BadText", "MOST_BEATS", "need_frame", "SIGNS", "written", "read_frame", "_law_start", "_law_drawn", "_law_same", "_law_kind", "_law_share", "_law_frame", "_law_even", "_law_read"]) (d := HandSHeadRun.topDef (OpenLaw.row PySem.Challenge.rw_pulseshare_k14_written_and_read).prog 25) (kwd := []) My.hob_eq
    (by kernel_rfl) (fun s => by kernel_rfl) My.hrun (by kernel_rfl) (by kernel_rfl) (by kernel_rfl) (by rfl) (by first | assumption | decide +kernel) (by decide +kernel) ⟨rfl, rfl, rfl, rfl, rfl, by decide +kernel⟩ ?hw ?hc
  case hw => w_witness2
  case hc =>
    refine LamX.walk_ofTsE (l := PySem.Challenge.rw_pulseshare_k14_written_and_read) (n := 63) (k := 6) (x := "_law_script") (CX := fun _ => L2.CX0) rfl (by decide) (by kernel_rfl) ⟨rfl, by decide, by decide⟩ ?F (fun _ _ _ _ _ z => z)
    intro w mg fa h Y G hmg0
    obtain ⟨K, KX, c⟩ := Y
    have hmg : mg ("law" : PySem.Str) = some (.ref fa) := by
      have e : (HandSHeadRun.topDef (OpenLaw.row PySem.Challenge.rw_pulseshare_k14_written_and_read).prog 25).name = ("law" : PySem.Str) := by kernel_rfl
      rw [← e]
      exact hmg0
    exact ⟨K, KX, My.facts KX G hmg c⟩
