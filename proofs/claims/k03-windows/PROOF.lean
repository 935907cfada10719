import PyProof.Rows.All
import Wide.All
import OpenK.AllK
import Wide.FinOn
import HandS.ForMost
import HandS.Wide
import HandS.WideBits
import HandS.IsInst
import HandS.Codes
import KE.KStateDown
import HandS.ExcIs
import HandS.WordsExc
import HandS.Defaults
import HandS.Head0
import HandS.Head1
import HandS.Head2
import HandS.HeadEnd
import HandS.HeadHook1
import HandS.HeadHook2
import HandS.HeadHook3
import HandS.HeadHook4
import HandS.HeadWalk
import HandS.EndTab
import HandS.Lambda
import PySem.Challenge.RW_pulseshare_k03_windows
set_option Elab.async false
set_option linter.all false
set_option maxRecDepth 100000
set_option maxHeartbeats 4000000
namespace My
open PySem PySem.Spec PyProof.Rows LamX L2
def top (i : Nat) : Stmt := PySem.Challenge.pw_pulseshare_k03_windows.main.body.getD i (.Pass ⟨0, 0, 0, 0⟩)
/-! ### calls in short -/
/-- a def of the text, where it stands, and how its arguments bind -/
structure FunG (K : PySem.W.Frag) (mg : Str → Option Value) (x : Str) (st : Stmt) (f : Addr) (fd : FuncData) (ps : List Str) : Prop where
  fn : Fun K x x st f fd
  mgf : mg x = some (.ref f)
  b : Binds K fd ps []
/-- a def that may be called by its name -/
structure Cl (P : Program) (w : World) (K : PySem.W.Frag) (mg : Str → Option Value) (base : Heap) (CX : CXT) (k : Nat) (x : Str) (sp : Sp) : Prop where
  ex : ∃ (f : Addr) (fd : FuncData) (ps : List Str), FnOk P w K mg base CX k f fd ps sp ∧ mg x = some (.ref f) ∧ PySem.W.keepIn K (.ref f) = true ∧ Binds K fd ps []
theorem FunG.cl {P : Program} {w : World} {K : PySem.W.Frag} {mg : Str → Option Value} {base : Heap} {CX : CXT} {k : Nat} {x : Str} {st : Stmt} {f : Addr} {fd : FuncData} {ps : List Str} {sp : Sp} (F : FunG K mg x st f fd ps) (h : FnOk P w K mg base CX k f fd ps sp) :
    Cl P w K mg base CX k x sp := ⟨f, fd, ps, h, F.mgf, F.fn.kp, F.b⟩
section
variable {X : Cx} {k j : Nat} {x : Str} {p pos : Pos} {e : Expr} {es : List Expr} {t : TA} {sp : Sp}
theorem pe_cl (c : Cl X.prog X.w X.K X.mg X.base CX0 k x sp) (hr : Room j X.A) (hk : k ≤ j) (hg : Gl X x) (ha : PA X (e :: es) t)
    (hdb : (x == ("__debug__" : Str)) = false := by decide) (he : starEach (e :: es) X.env = (false, eval e X.env) :: starEach es X.env := by rfl) (hpl : (backTo pos (starEach es X.env)).any (·.1) = false := by rfl) :
    PE X (.Call (.Name x p) (e :: es) [] pos) (tCall sp [] E0 t) := by
  obtain ⟨f, fd, ps, F, hm, kp, b⟩ := c.ex
  exact pe_call F (hr.mono hk) hg hm kp b .nil pass0 ha hdb he hpl
end
/-! ### words -/
theorem iteFe {c : Bool} {A B : Prop} (h : c = false) (k : B) : if c = true then A else B := by
  subst h; exact iteF k
theorem iteTe {c : Bool} {A B : Prop} (h : c = true) (k : A) : if c = true then A else B := by
  subst h; exact iteT k
theorem iteJoin {c : Bool} {A B R : Prop} (hA : c = true → R → A) (hB : c = false → R → B) (r : R) : if c = true then A else B := by
  cases c with
  | true => exact iteT (hA rfl r)
  | false => exact iteF (hB rfl r)
theorem neqF {x y : V} (h : x = y) : (!decide (x = y)) = false := by rw [decide_eq_true h]; rfl
/-! ### rules with the written part said (within a comprehension's block it can't be found by unification) -/
section
variable (K : PySem.W.Frag) {X : Cx}
theorem ixL (h : X.K = K := by rfl) : IxR X (rIxL K) := h ▸ ix_list
theorem ixT (h : X.K = K := by rfl) : IxR X (rIxT K) := h ▸ ix_tup
theorem ixQ (h : X.K = K := by rfl) : IxR X (rIx K) := h ▸ ix_seq
theorem slL (h : X.K = K := by rfl) : SlR X (rSlL K) := h ▸ sl_list
theorem opEqD (hu : X.A.units + 64 < cLine) (h : X.K = K := by rfl) : OpR X (compareOp .Eq) (rEqD K) := h ▸ op_eqD hu
theorem opNeD (hu : X.A.units + 64 < cLine) (h : X.K = K := by rfl) : OpR X (compareOp .NotEq) (rNeD K) := h ▸ op_neD hu
theorem opInQ (h : X.K = K := by rfl) : OpR X (compareOp .In) (rIn K false) := h ▸ op_in_seq
theorem opNotInQ (h : X.K = K := by rfl) : OpR X (compareOp .NotIn) (rIn K true) := h ▸ op_notIn_seq
theorem piListK {tg l : Expr} {tl : TE} (hl : PE X l tl) (h : X.K = K := by rfl) : PI X tg l (iList K tl) := h ▸ pi_list hl
theorem clLen (h : X.K = K := by rfl) : CallR X (.builtin "len") (fun xs H Q => ∃ p ys, xs = [.ref p] ∧ (SqL K H p ys ∨ SqT K H p ys) ∧ Q (.int ys.length) H) := h ▸ call_len_seq
theorem clList (h : X.K = K := by rfl) : CallR X (.type "list") (fun xs H Q => ∃ p ys, xs = [.ref p] ∧ (SqL K H p ys ∨ SqT K H p ys) ∧ ∀ l, H l = none → Q (.ref l) (upd H l (.lst ys))) := h ▸ call_list_of
theorem clSum (hc : X.calm = true) (h : X.K = K := by rfl) : CallR X (.builtin "sum") (rSum K) := h ▸ cr_sum hc
theorem clMax (hc : X.calm = true) (h : X.K = K := by rfl) : CallR X (.builtin "max") (rMax K) := h ▸ cr_max hc
theorem clMin (hc : X.calm = true) (h : X.K = K := by rfl) : CallR X (.builtin "min") (rMin K) := h ▸ cr_min hc
end
theorem units1 {n : Nat} (h : n + 64 < cLine) : n + 1 < cLine := by omega
/-! ### the drawing state -/
/-- [script, cells begun, mixed, left of a cell] -/
def StO (a : Addr) (i m c : Int) : HO := .lst [.ref a, .int i, .int m, .int c]
structure Drw (i m c : Int) : Prop where
  i0 : 0 ≤ i
  m0 : 0 ≤ m
  m1 : m < 2147483647
  c0 : 0 ≤ c
/-- all but the state is kept -/
def Keep (st : Addr) (H H' : Hp) : Prop := ∀ b o, b ≠ st → H b = some o → H' b = some o
/-- the state at st is good: its script is the list at a of the ints ns -/
structure SOk (K : PySem.W.Frag) (a : Addr) (ns : List Int) (st : Addr) (H : Hp) : Prop where
  len : ns.length ≤ 63
  sq : ∀ H', Keep st H H' → SqL K H' a (ns.map V.int)
  at_ : ∃ i m c, Drw i m c ∧ H st = some (StO a i m c)
section
variable {K : PySem.W.Frag} {a st p : Addr} {ns : List Int} {H H1 H2 : Hp} {o u : HO} {xs : List V}
theorem Keep.refl (st : Addr) (H : Hp) : Keep st H H := fun _ _ _ h => h
theorem Keep.trans (h : Keep st H H1) (h' : Keep st H1 H2) : Keep st H H2 := fun b o hb e => h' b o hb (h b o hb e)
theorem Keep.new (h : Keep st H H1) (hp : H1 p = none) : Keep st H (upd H1 p o) := fun b u hb e => by
  rw [upd_ne (ne_of_none (h b u hb e) hp)]; exact h b u hb e
theorem Keep.mut (h : Keep st H H1) (hp : H p = none) : Keep st H (upd H1 p o) := fun b u hb e => by
  rw [upd_ne (ne_of_none e hp)]; exact h b u hb e
theorem Keep.atSt (h : Keep st H H1) : Keep st H (upd H1 st o) := fun b u hb e => by
  rw [upd_ne hb]; exact h b u hb e
theorem Keep.free (h : Keep st H H1) (hp : p ≠ st) (e : H1 p = none) : H p = none := by
  cases q : H p with
  | none => rfl
  | some o => rw [h p o hp q] at e; cases e
theorem _root_.L2.Same.keep (h : Same H H1) : Keep st H H1 := fun b u _ e => h b u e
theorem _root_.L2.Same.new (h : Same H H1) (hp : H1 p = none) : Same H (upd H1 p o) := fun b u e => by
  rw [upd_ne (ne_of_none (h b u e) hp)]; exact h b u e
theorem _root_.L2.Same.mut (h : Same H H1) (hp : H p = none) : Same H (upd H1 p o) := fun b u e => by
  rw [upd_ne (ne_of_none e hp)]; exact h b u e
theorem _root_.L2.Same.upd (hp : H p = none) : Same H (upd H p o) := (Same.refl H).new hp
/-- the base heap, in which the state does not stand, is kept -/
theorem _root_.L2.Same.keepAll (h : Same H H1) (hst : H st = none) (k : Keep st H1 H2) : Same H H2 := fun b u e => k b u (ne_of_none e hst) (h b u e)
theorem SOk.now (s : SOk K a ns st H) : SqL K H a (ns.map V.int) := s.sq H (Keep.refl st H)
/-- a script that stood in H stands where all but the state is kept -/
theorem SOk.keep (s : SOk K a ns st H) (k : Keep st H H1) {i m c : Int} (d : Drw i m c) (h : H1 st = some (StO a i m c)) : SOk K a ns st H1 := ⟨s.len, fun H' k' => s.sq H' (k.trans k'), i, m, c, d, h⟩
theorem SOk.same (s : SOk K a ns st H) (k : Same H H1) : SOk K a ns st H1 := by
  obtain ⟨i, m, c, d, h⟩ := s.at_
  exact s.keep k.keep d (k _ _ h)
theorem SOk.new (s : SOk K a ns st H) (hp : H p = none) : SOk K a ns st (L2.upd H p o) := s.same (Same.upd hp)
/-- the state's making -/
theorem SOk.make (hl : ns.length ≤ 63) (hq : SqL K H a (ns.map V.int)) (hst : H st = none) {i m c : Int} (d : Drw i m c) : SOk K a ns st (L2.upd H st (StO a i m c)) :=
  ⟨hl, fun _ k' => ((Same.upd hst).keepAll hst k').seq hq, i, m, c, d, upd_same⟩
/-- a list that did not stand in the base heap H0 is changed -/
theorem SOk.mut {H0 : Hp} (s : SOk K a ns st H) (hq : SqL K H0 a (ns.map V.int)) (hst : H0 st = none) (k : Same H0 H) (hp : H0 p = none) (hps : p ≠ st) : SOk K a ns st (L2.upd H p o) := by
  obtain ⟨i, m, c, d, h⟩ := s.at_
  exact ⟨s.len, fun _ k' => ((k.mut hp).keepAll hst k').seq hq, i, m, c, d, by rw [upd_ne hps.symm]; exact h⟩
theorem SOk.ne_of (s : SOk K a ns st H) (hp : H p = none) : p ≠ st := by
  obtain ⟨i, m, c, d, h⟩ := s.at_
  exact (ne_of_none h hp).symm
/-- .. that did not stand in a heap with a good state -/
theorem SOk.mutK {H0 : Hp} (s : SOk K a ns st H) (s0 : SOk K a ns st H0) (k : Keep st H0 H) (hp : H0 p = none) : SOk K a ns st (L2.upd H p o) := by
  obtain ⟨i, m, c, d, h⟩ := s.at_
  have hps : p ≠ st := s0.ne_of hp
  exact ⟨s.len, fun H' k' => s0.sq H' ((k.mut hp).trans k'), i, m, c, d, by rw [upd_ne hps.symm]; exact h⟩
end
/-! ### lists of ints -/
theorem getV {ns : List Int} {i : Nat} {y : V} (h : (ns.map V.int)[i]? = some y) : ∃ z, ns[i]? = some z ∧ y = V.int z := by
  rw [List.getElem?_map] at h
  cases e : ns[i]? with
  | none => rw [e] at h; cases h
  | some z => rw [e] at h; exact ⟨z, rfl, (Option.some.inj h).symm⟩
theorem atV {ns : List Int} {z : Int} {j : Nat} (e : z = (j : Int)) (h : j < ns.length) : atI (ns.map V.int) z = some (V.int (ns.getD j 0)) := by
  refine at_of e ?_
  rw [List.getElem?_map, List.getElem?_eq_getElem h]
  simp [List.getD, List.getElem?_eq_getElem h]
theorem small_of {n m : Nat} (h : n ≤ m) (hm : m < 16000000 := by decide) : n < sizeLine := by rw [sizeLine_eq]; omega
theorem small_le {n m : Nat} (h : n ≤ m) (hm : m < 16000000 := by decide) : n ≤ sizeLine := by rw [sizeLine_eq]; omega
theorem nat_pow {z : Int} {n : Nat} (h0 : 0 ≤ z) (h1 : z < 2 ^ n) : z.natAbs < 2 ^ n := by
  have e : ((2 ^ n : Nat) : Int) = (2 : Int) ^ n := by simp
  omega
theorem pick3 {r : Int} (h0 : 0 ≤ r) (h1 : r < 3) : r = 0 ∨ r = 1 ∨ r = 2 := by omega
theorem pick4 {r : Int} (h0 : 0 ≤ r) (h1 : r < 4) : r = 0 ∨ r = 1 ∨ r = 2 ∨ r = 3 := by omega
theorem pick5 {r : Int} (h0 : 0 ≤ r) (h1 : r < 5) : r = 0 ∨ r = 1 ∨ r = 2 ∨ r = 3 ∨ r = 4 := by omega
/-! ### even frames -/
/-- beat k of the even frame of a share by a turn -/
def evB (b p t : Int) (k : Nat) : Int := ((k : Int) + 1 + t) * p / b - ((k : Int) + t) * p / b
def evL (b p t : Int) : List Int := (List.range b.toNat).map (evB b p t)
theorem evL_len (b p t : Int) : (evL b p t).length = b.toNat := by simp [evL]
/-- what is left beside wholes ahead of beat k -/
def evR (b p t : Int) (k : Nat) : Int := ((k : Int) + t) * p % b
theorem evR_range {b : Int} (hb : 0 < b) (p t : Int) (k : Nat) : 0 ≤ evR b p t k ∧ evR b p t k < b := ⟨Int.emod_nonneg _ (by omega), Int.emod_lt_of_pos _ hb⟩
theorem ev_step (b p t : Int) (k : Nat) : ((k : Int) + 1 + t) * p = ((k : Int) + t) * p + p := by
  rw [show (k : Int) + 1 + t = ((k : Int) + t) + 1 by omega, Int.add_mul, Int.one_mul]
/-- the beat by what is left -/
theorem evB_eq {b p : Int} (hb : 0 < b) (h0 : 0 ≤ p) (h1 : p ≤ b) (t : Int) (k : Nat) : evB b p t k = if b ≤ evR b p t k + p then 1 else 0 := by
  unfold evB evR
  rw [ev_step b]
  generalize ((k : Int) + t) * p = z
  have e := Int.mul_ediv_add_emod z b
  have r0 := Int.emod_nonneg z (show b ≠ 0 by omega)
  have r1 := Int.emod_lt_of_pos z hb
  have q : z + p = (z % b + p) + z / b * b := by rw [Int.mul_comm]; omega
  rw [q, Int.add_mul_ediv_right _ _ (show b ≠ 0 by omega)]
  by_cases c : b ≤ z % b + p
  · rw [if_pos c]
    have : (z % b + p) / b = 1 := by
      have e1 : z % b + p = (z % b + p - b) + 1 * b := by omega
      rw [e1, Int.add_mul_ediv_right _ _ (show b ≠ 0 by omega), Int.ediv_eq_zero_of_lt (by omega) (by omega)]
      omega
    omega
  · rw [if_neg c, Int.ediv_eq_zero_of_lt (by omega) (by omega)]
    omega
theorem evR_next {b p : Int} (hb : 0 < b) (h0 : 0 ≤ p) (h1 : p ≤ b) (t : Int) (k : Nat) : evR b p t (k + 1) = evR b p t k + p - b * evB b p t k := by
  rw [evB_eq hb h0 h1]
  unfold evR
  have e0 : (((k + 1 : Nat) : Int) + t) * p = ((k : Int) + t) * p + p := by
    have e1 : (((k + 1 : Nat) : Int) + t) = (k : Int) + 1 + t := by omega
    rw [e1, ev_step b]
  rw [e0]
  generalize ((k : Int) + t) * p = z
  have e := Int.mul_ediv_add_emod z b
  have r0 := Int.emod_nonneg z (show b ≠ 0 by omega)
  have r1 := Int.emod_lt_of_pos z hb
  have q : z + p = (z % b + p) + z / b * b := by rw [Int.mul_comm]; omega
  rw [q, Int.add_mul_emod_self_right]
  by_cases c : b ≤ z % b + p
  · rw [if_pos c]
    have e1 : z % b + p = (z % b + p - b) + 1 * b := by omega
    rw [e1, Int.add_mul_emod_self_right]
    by_cases c2 : z % b + p - b < b
    · rw [Int.emod_eq_of_lt (by omega) c2]; omega
    · omega
  · rw [if_neg c, Int.emod_eq_of_lt (by omega) (by omega)]; omega
theorem evB_01 {b p : Int} (hb : 0 < b) (h0 : 0 ≤ p) (h1 : p ≤ b) (t : Int) (k : Nat) : evB b p t k = 0 ∨ evB b p t k = 1 := by
  rw [evB_eq hb h0 h1]; split <;> simp
theorem evL_get {b p t : Int} {k : Nat} (h : k < b.toNat) : (evL b p t)[k]? = some (evB b p t k) := by
  unfold evL; simp [h]
theorem evL_take_sum (b p t : Int) : ∀ n : Nat, (((List.range n).map (evB b p t)).sum : Int) = ((n : Int) + t) * p / b - t * p / b
  | 0 => by simp
  | n + 1 => by
    rw [List.range_succ, List.map_append, List.sum_append, evL_take_sum b p t n]
    simp only [List.map_cons, List.map_nil, List.sum_cons, List.sum_nil, evB]
    have : (((n + 1 : Nat) : Int) + t) = (n : Int) + 1 + t := by omega
    rw [this]; omega
theorem evL_sum {b : Int} (hb : 0 < b) (p t : Int) : (evL b p t).sum = p := by
  unfold evL
  rw [evL_take_sum, Int.toNat_of_nonneg (by omega), Int.add_mul, Int.add_comm, Int.mul_comm b p, Int.add_mul_ediv_right _ _ (show b ≠ 0 by omega)]
  omega
/-! ### windows of frames -/
/-- beat k of a frame that goes round -/
def cyc (fs : List Int) (k : Nat) : Int := fs.getD (k % fs.length) 0
/-- the first k beats together, going round -/
def psum (fs : List Int) : Nat → Int
  | 0 => 0
  | k + 1 => psum fs k + cyc fs k
/-- how many are on in the window of w beats from k on -/
def win (fs : List Int) (w k : Nat) : Int := psum fs (k + w) - psum fs k
theorem cyc_add (fs : List Int) (k : Nat) : cyc fs (k + fs.length) = cyc fs k := by simp [cyc]
theorem cyc_lt {fs : List Int} {k : Nat} (h : k < fs.length) : cyc fs k = fs.getD k 0 := by simp [cyc, Nat.mod_eq_of_lt h]
theorem psum_take (fs : List Int) : ∀ k, k ≤ fs.length → psum fs k = (fs.take k).sum
  | 0, _ => by simp [psum]
  | k + 1, h => by
    have hk : k < fs.length := by omega
    rw [psum, psum_take fs k (by omega), cyc_lt hk, List.take_succ_eq_append_getElem hk, List.sum_append]
    simp [List.getD, List.getElem?_eq_getElem hk]
theorem psum_len (fs : List Int) : psum fs fs.length = fs.sum := by rw [psum_take fs _ (Nat.le_refl _), List.take_length]
theorem psum_add_len (fs : List Int) : ∀ k, psum fs (k + fs.length) = psum fs k + fs.sum
  | 0 => by rw [Nat.zero_add, psum_len]; simp [psum]
  | k + 1 => by
    rw [show k + 1 + fs.length = (k + fs.length) + 1 by omega, psum, psum_add_len fs k, cyc_add, psum]; omega
theorem psum_mul (fs : List Int) (r : Nat) : ∀ q : Nat, psum fs (q * fs.length + r) = fs.sum * q + psum fs r
  | 0 => by simp
  | q + 1 => by
    rw [show (q + 1) * fs.length + r = (q * fs.length + r) + fs.length by rw [Nat.add_mul]; omega, psum_add_len, psum_mul fs r q, Int.natCast_add, Int.mul_add]; simp; omega
theorem win_zero (fs : List Int) (w : Nat) : win fs w 0 = psum fs w := by simp [win, psum]
theorem win_next (fs : List Int) (w k : Nat) : win fs w (k + 1) = win fs w k - cyc fs k + cyc fs (k + w) := by
  unfold win
  rw [show k + 1 + w = (k + w) + 1 by omega, psum, psum]; omega
theorem win_first {fs : List Int} (w : Nat) : fs.sum * ((w / fs.length : Nat) : Int) + (fs.take (w % fs.length)).sum = win fs w 0 := by
  rw [win_zero]
  by_cases hn : fs.length = 0
  · have : fs = [] := List.eq_nil_of_length_eq_zero hn
    subst this
    have z : ∀ k, psum [] k = 0 := fun k => by
      induction k with
      | zero => rfl
      | succ k ih => rw [psum, ih]; simp [cyc]
    simp [z]
  · have e : w = (w / fs.length) * fs.length + w % fs.length := by rw [Nat.mul_comm]; exact (Nat.div_add_mod w fs.length).symm
    have hr : w % fs.length ≤ fs.length := Nat.le_of_lt (Nat.mod_lt _ (by omega))
    have h1 := psum_mul fs (w % fs.length) (w / fs.length)
    rw [← e] at h1
    rw [h1, psum_take fs _ hr]
theorem win_round (fs : List Int) (w k : Nat) : win fs w (k + fs.length) = win fs w k := by
  unfold win
  rw [show k + fs.length + w = (k + w) + fs.length by omega, psum_add_len, psum_add_len]; omega
theorem win_mod {fs : List Int} (w : Nat) : ∀ k, win fs w k = win fs w (k % fs.length) := by
  intro k
  have e := Nat.div_add_mod k fs.length
  have h : ∀ q r, win fs w (q * fs.length + r) = win fs w r := fun q r => by
    induction q with
    | zero => simp
    | succ q ih => rw [show (q + 1) * fs.length + r = (q * fs.length + r) + fs.length by rw [Nat.add_mul]; omega, win_round, ih]
  conv => lhs; rw [← e, Nat.mul_comm]
  exact h _ _
/-- all windows of a width -/
def wins (fs : List Int) (w : Nat) : List Int := (List.range fs.length).map (win fs w)
theorem wins_len (fs : List Int) (w : Nat) : (wins fs w).length = fs.length := by simp [wins]
theorem mem_wins {fs : List Int} {w : Nat} {x : Int} : x ∈ wins fs w ↔ ∃ k, k < fs.length ∧ win fs w k = x := by simp [wins]
theorem win_mem {fs : List Int} (h : 0 < fs.length) (w k : Nat) : win fs w k ∈ wins fs w := by
  rw [win_mod]
  exact mem_wins.mpr ⟨_, Nat.mod_lt _ h, rfl⟩
/-! sums over a round -/
def tsum (f : Nat → Int) (n : Nat) : Int := ((List.range n).map f).sum
theorem tsum_zero (f : Nat → Int) : tsum f 0 = 0 := rfl
theorem tsum_succ (f : Nat → Int) (n : Nat) : tsum f (n + 1) = tsum f n + f n := by
  unfold tsum; rw [List.range_succ, List.map_append, List.sum_append]; simp
theorem tsum_add (f g : Nat → Int) : ∀ n, tsum (fun k => f k + g k) n = tsum f n + tsum g n
  | 0 => rfl
  | n + 1 => by rw [tsum_succ, tsum_succ, tsum_succ, tsum_add f g n]; omega
theorem tsum_le {f g : Nat → Int} : ∀ n, (∀ k, k < n → f k ≤ g k) → tsum f n ≤ tsum g n
  | 0, _ => Int.le_refl _
  | n + 1, h => by
    rw [tsum_succ, tsum_succ]
    have := tsum_le n fun k hk => h k (by omega)
    have := h n (by omega)
    omega
theorem tsum_lt {f g : Nat → Int} : ∀ n, (∀ k, k < n → f k ≤ g k) → (∃ k, k < n ∧ f k < g k) → tsum f n < tsum g n
  | 0, _, ⟨k, hk, _⟩ => by omega
  | n + 1, h, ⟨k, hk, hl⟩ => by
    rw [tsum_succ, tsum_succ]
    have h1 := h n (by omega)
    by_cases e : k = n
    · subst e
      have := tsum_le k fun j hj => h j (by omega)
      omega
    · have := tsum_lt n (fun j hj => h j (by omega)) ⟨k, by omega, hl⟩
      omega
theorem tsum_const (c : Int) : ∀ n : Nat, tsum (fun _ => c) n = n * c
  | 0 => by simp [tsum_zero]
  | n + 1 => by rw [tsum_succ, tsum_const c n, Int.natCast_add, Int.add_mul]; simp
theorem tsum_congr {f g : Nat → Int} (n : Nat) (h : ∀ k, k < n → f k = g k) : tsum f n = tsum g n := by
  have h1 := tsum_le n fun k hk => Int.le_of_eq (h k hk)
  have h2 := tsum_le n fun k hk => Int.le_of_eq (h k hk).symm
  omega
theorem psum_tsum (fs : List Int) : ∀ k, psum fs k = tsum (cyc fs) k
  | 0 => rfl
  | k + 1 => by rw [psum, tsum_succ, psum_tsum fs k]
theorem tsum_shift (fs : List Int) : ∀ d, tsum (fun k => cyc fs (k + d)) fs.length = fs.sum := by
  intro d
  have h : ∀ n, tsum (fun k => cyc fs (k + d)) n = psum fs (n + d) - psum fs d := fun n => by
    induction n with
    | zero => simp [tsum_zero]
    | succ n ih => rw [tsum_succ, ih, show n + 1 + d = (n + d) + 1 by omega, psum]; omega
  rw [h, Nat.add_comm, psum_add_len]; omega
/-- all windows of a width together -/
theorem wins_sum (fs : List Int) : ∀ w : Nat, tsum (win fs w) fs.length = w * fs.sum
  | 0 => by
    have h : tsum (win fs 0) fs.length = tsum (fun _ => (0 : Int)) fs.length := tsum_congr _ fun k _ => by simp [win]
    rw [h, tsum_const]; simp
  | w + 1 => by
    have h : tsum (win fs (w + 1)) fs.length = tsum (fun k => win fs w k + cyc fs (k + w)) fs.length := tsum_congr _ fun k _ => by
      unfold win
      rw [show k + (w + 1) = (k + w) + 1 by omega, psum]; omega
    rw [h, tsum_add, wins_sum fs w, tsum_shift, Int.natCast_add, Int.add_mul]; simp
/-! ### spread -/
/-- windows of each width up to the beats are at most one apart -/
def Spread (fs : List Int) : Prop := ∀ w, 1 ≤ w → w ≤ fs.length → ∀ i j, i < fs.length → j < fs.length → win fs w i - win fs w j ≤ 1
theorem Spread.near {fs : List Int} (h : Spread fs) (h0 : 0 < fs.length) (w i : Nat) (hw : w ≤ fs.length) : (fs.length : Int) * win fs w i - w * fs.sum < fs.length ∧ -(fs.length : Int) < (fs.length : Int) * win fs w i - w * fs.sum := by
  rcases Nat.eq_zero_or_pos w with e | hw0
  · subst e
    have : win fs 0 i = 0 := by simp [win]
    rw [this]; simp; omega
  rw [win_mod]
  have hi : i % fs.length < fs.length := Nat.mod_lt _ h0
  generalize i % fs.length = k at hi
  have s := wins_sum fs w
  have up : tsum (win fs w) fs.length < tsum (fun _ => win fs w k + 1) fs.length := tsum_lt _ (fun j hj => by have := h w hw0 hw j k hj hi; omega) ⟨k, hi, by omega⟩
  have dn : tsum (fun _ => win fs w k - 1) fs.length < tsum (win fs w) fs.length := tsum_lt _ (fun j hj => by have := h w hw0 hw k j hi hj; omega) ⟨k, hi, by omega⟩
  rw [tsum_const] at up dn
  rw [s] at up dn
  rw [Int.mul_add] at up
  rw [Int.mul_sub] at dn
  constructor <;> omega
/-- the least, the greatest of finitely many -/
theorem exists_max (f : Nat → Int) : ∀ n, 0 < n → ∃ k, k < n ∧ ∀ j, j < n → f j ≤ f k
  | 1, _ => ⟨0, by omega, fun j hj => by have : j = 0 := by omega
                                         subst this; exact Int.le_refl _⟩
  | n + 2, _ => by
    obtain ⟨k, hk, h⟩ := exists_max f (n + 1) (by omega)
    by_cases c : f k ≤ f (n + 1)
    · refine ⟨n + 1, by omega, fun j hj => ?_⟩
      by_cases e : j = n + 1
      · subst e; exact Int.le_refl _
      · exact Int.le_trans (h j (by omega)) c
    · refine ⟨k, by omega, fun j hj => ?_⟩
      by_cases e : j = n + 1
      · subst e; omega
      · exact h j (by omega)
/-- a spread frame is an even one -/
theorem Spread.even {fs : List Int} (h : Spread fs) (h0 : 0 < fs.length) : ∃ t : Nat, t < fs.length ∧ evL (fs.length : Int) fs.sum (t : Int) = fs := by
  obtain ⟨k0, hk0, hmax⟩ := exists_max (fun k => (fs.length : Int) * psum fs k - k * fs.sum) fs.length h0
  -- the greatest lies less than the beats above any
  have key : ∀ k, (fs.length : Int) * psum fs k - k * fs.sum ≤ (fs.length : Int) * psum fs k0 - k0 * fs.sum ∧ (fs.length : Int) * psum fs k0 - k0 * fs.sum < (fs.length : Int) * psum fs k - k * fs.sum + fs.length := by
    have base : ∀ k, k < fs.length → (fs.length : Int) * psum fs k - k * fs.sum ≤ (fs.length : Int) * psum fs k0 - k0 * fs.sum ∧ (fs.length : Int) * psum fs k0 - k0 * fs.sum < (fs.length : Int) * psum fs k - k * fs.sum + fs.length := by
      intro k hk
      refine ⟨hmax k hk, ?_⟩
      by_cases c : k ≤ k0
      · obtain ⟨d, rfl⟩ : ∃ d, k0 = k + d := ⟨k0 - k, by omega⟩
        have n := (h.near h0 d k (by omega)).1
        unfold win at n
        rw [Int.mul_sub] at n
        rw [Int.natCast_add, Int.add_mul]
        omega
      · obtain ⟨d, rfl⟩ : ∃ d, k = k0 + d := ⟨k - k0, by omega⟩
        have n := (h.near h0 d k0 (by omega)).2
        unfold win at n
        rw [Int.mul_sub] at n
        rw [Int.natCast_add, Int.add_mul]
        omega
    intro k
    have e := Nat.div_add_mod k fs.length
    have hk := base (k % fs.length) (Nat.mod_lt _ h0)
    have h1 := psum_mul fs (k % fs.length) (k / fs.length)
    rw [Nat.mul_comm, ] at e
    rw [e] at h1
    have e2 : (k : Int) = (k / fs.length : Nat) * (fs.length : Int) + (k % fs.length : Nat) := by
      have := congrArg (fun z : Nat => (z : Int)) e
      simp only [Int.natCast_add, Int.natCast_mul] at this
      omega
    have e3 : (fs.length : Int) * psum fs k - k * fs.sum = (fs.length : Int) * psum fs (k % fs.length) - (k % fs.length : Nat) * fs.sum := by
      rw [h1]
      have : (k : Int) * fs.sum = (k / fs.length : Nat) * (fs.length : Int) * fs.sum + (k % fs.length : Nat) * fs.sum := by
        rw [← Int.add_mul]; congr 1
      rw [this, Int.mul_add, show (fs.length : Int) * (fs.sum * ((k / fs.length : Nat) : Int)) = ((k / fs.length : Nat) : Int) * (fs.length : Int) * fs.sum by
        rw [Int.mul_comm fs.sum, ← Int.mul_assoc, Int.mul_comm (fs.length : Int)]]
      omega
    rw [e3]; exact hk
  -- so the sums are floors
  have floor : ∀ k : Nat, psum fs k = ((k : Int) - k0) * fs.sum / fs.length + psum fs k0 := by
    intro k
    obtain ⟨a, b⟩ := key k
    have hn : (0 : Int) < fs.length := by omega
    have e : ((k : Int) - k0) * fs.sum = (fs.length : Int) * (psum fs k - psum fs k0) + (((fs.length : Int) * psum fs k0 - k0 * fs.sum) - ((fs.length : Int) * psum fs k - k * fs.sum)) := by
      rw [Int.sub_mul, Int.mul_sub]; omega
    rw [e, Int.add_comm ((fs.length : Int) * _), Int.add_mul_ediv_left _ _ (by omega), Int.ediv_eq_zero_of_lt (by omega) (by omega)]
    omega
  refine ⟨(fs.length - k0) % fs.length, Nat.mod_lt _ h0, ?_⟩
  -- the turn: less k0, going round
  have turn : ∀ k : Nat, evB (fs.length : Int) fs.sum (((fs.length - k0) % fs.length : Nat) : Int) k = evB (fs.length : Int) fs.sum (-(k0 : Int)) k := by
    intro k
    by_cases c : k0 = 0
    · subst c; simp
    · rw [Nat.mod_eq_of_lt (by omega)]
      have hn : (fs.length : Int) ≠ 0 := by omega
      unfold evB
      have e1 : ((k : Int) + 1 + ((fs.length - k0 : Nat) : Int)) * fs.sum = ((k : Int) + 1 + -(k0 : Int)) * fs.sum + fs.length * fs.sum := by
        rw [← Int.add_mul]; congr 1; omega
      have e2 : ((k : Int) + ((fs.length - k0 : Nat) : Int)) * fs.sum = ((k : Int) + -(k0 : Int)) * fs.sum + fs.length * fs.sum := by
        rw [← Int.add_mul]; congr 1; omega
      rw [e1, e2, Int.add_mul_ediv_left _ _ hn, Int.add_mul_ediv_left _ _ hn]
      omega
  apply List.ext_getElem
  · rw [evL_len]; simp
  · intro k h1 h2
    have hk : k < ((fs.length : Nat) : Int).toNat := by simpa [evL_len] using h1
    have g : (evL (fs.length : Int) fs.sum (((fs.length - k0) % fs.length : Nat) : Int))[k]? = some (evB (fs.length : Int) fs.sum (((fs.length - k0) % fs.length : Nat) : Int) k) := evL_get hk
    rw [List.getElem?_eq_getElem h1] at g
    rw [Option.some.inj g, turn]
    unfold evB
    have f1 := floor (k + 1)
    have f0 := floor k
    rw [psum, cyc_lt h2] at f1
    have e1 : ((k + 1 : Nat) : Int) - k0 = (k : Int) + 1 + -(k0 : Int) := by omega
    have e0 : (k : Int) - k0 = (k : Int) + -(k0 : Int) := by omega
    rw [e1] at f1
    rw [e0] at f0
    have : fs.getD k 0 = fs[k] := by simp [List.getD, List.getElem?_eq_getElem h2]
    omega
/-! ### windows of even frames -/
theorem evL_cyc {b p t : Int} (hb : 0 < b) (k : Nat) : cyc (evL b p t) k = evB b p t k := by
  have hl : (evL b p t).length = b.toNat := evL_len b p t
  have h0 : 0 < (evL b p t).length := by omega
  unfold cyc
  have g := evL_get (b := b) (p := p) (t := t) (k := k % (evL b p t).length) (by have := Nat.mod_lt k h0; omega)
  rw [List.getD, g, Option.getD_some]
  have e := Nat.div_add_mod k (evL b p t).length
  generalize k % (evL b p t).length = r at e
  generalize k / (evL b p t).length = q at e
  subst e
  unfold evB
  have e1 : (((evL b p t).length * q + r : Nat) : Int) = b * (q : Int) + (r : Int) := by rw [hl]; simp [Int.toNat_of_nonneg (Int.le_of_lt hb)]
  have e2 : ((b * (q : Int) + (r : Int)) + 1 + t) * p = ((r : Int) + 1 + t) * p + b * ((q : Int) * p) := by
    rw [show (b * (q : Int) + (r : Int)) + 1 + t = ((r : Int) + 1 + t) + b * (q : Int) by omega, Int.add_mul, Int.mul_assoc]
  have e3 : ((b * (q : Int) + (r : Int)) + t) * p = ((r : Int) + t) * p + b * ((q : Int) * p) := by
    rw [show (b * (q : Int) + (r : Int)) + t = ((r : Int) + t) + b * (q : Int) by omega, Int.add_mul, Int.mul_assoc]
  rw [e1, e2, e3, Int.add_mul_ediv_left _ _ (show b ≠ 0 by omega), Int.add_mul_ediv_left _ _ (show b ≠ 0 by omega)]
  omega
theorem evL_psum {b p t : Int} (hb : 0 < b) : ∀ k : Nat, psum (evL b p t) k = ((k : Int) + t) * p / b - t * p / b
  | 0 => by simp [psum]
  | k + 1 => by
    rw [psum, evL_psum hb k, evL_cyc hb, evB]
    have e1 : (((k + 1 : Nat) : Int) + t) = (k : Int) + 1 + t := by omega
    rw [e1]; omega
theorem evL_win {b p t : Int} (hb : 0 < b) (w k : Nat) : win (evL b p t) w k = (((k : Int) + t) * p + (w : Int) * p) / b - ((k : Int) + t) * p / b := by
  unfold win
  rw [evL_psum hb, evL_psum hb]
  have e : (((k + w : Nat) : Int) + t) * p = ((k : Int) + t) * p + (w : Int) * p := by
    rw [← Int.add_mul]; congr 1; omega
  rw [e]; omega
theorem div_part {x y b : Int} (hb : 0 < b) : y / b ≤ (x + y) / b - x / b ∧ (x + y) / b - x / b ≤ y / b + 1 := by
  have ex := Int.mul_ediv_add_emod x b
  have ey := Int.mul_ediv_add_emod y b
  have rx0 := Int.emod_nonneg x (show b ≠ 0 by omega)
  have rx1 := Int.emod_lt_of_pos x hb
  have ry0 := Int.emod_nonneg y (show b ≠ 0 by omega)
  have ry1 := Int.emod_lt_of_pos y hb
  have q : x + y = (x % b + y % b) + b * (x / b + y / b) := by rw [Int.mul_add]; omega
  rw [q, Int.add_mul_ediv_left _ _ (show b ≠ 0 by omega)]
  by_cases c : x % b + y % b < b
  · rw [Int.ediv_eq_zero_of_lt (by omega) c]; omega
  · have : (x % b + y % b) / b = 1 := by
      have e1 : x % b + y % b = (x % b + y % b - b) + b * 1 := by omega
      rw [e1, Int.add_mul_ediv_left _ _ (show b ≠ 0 by omega), Int.ediv_eq_zero_of_lt (by omega) (by omega)]; omega
    omega
/-- the windows of an even frame have the width's part, down to a whole one, or one more -/
theorem evL_part {b p t : Int} (hb : 0 < b) (w k : Nat) : (w : Int) * p / b ≤ win (evL b p t) w k ∧ win (evL b p t) w k ≤ (w : Int) * p / b + 1 := by
  rw [evL_win hb]; exact div_part hb
theorem evL_spread {b p t : Int} (hb : 0 < b) : Spread (evL b p t) := fun w _ _ i j _ _ => by
  have h1 := evL_part (p := p) (t := t) hb w i
  have h2 := evL_part (p := p) (t := t) hb w j
  omega
/-- all as many just where beats go into the width times the pulses -/
theorem evL_exact {b p t : Int} (hb : 0 < b) (w : Nat) : (∀ i j, i < b.toNat → j < b.toNat → win (evL b p t) w i = win (evL b p t) w j) ↔ (w : Int) * p % b = 0 := by
  have hl := evL_len b p t
  constructor
  · intro h
    have s := wins_sum (evL b p t) w
    rw [evL_sum hb, hl] at s
    have c : tsum (win (evL b p t) w) b.toNat = tsum (fun _ => win (evL b p t) w 0) b.toNat := tsum_congr _ fun k hk => h k 0 hk (by omega)
    rw [c, tsum_const, Int.toNat_of_nonneg (by omega)] at s
    rw [← s]
    exact Int.mul_emod_right b _
  · intro h i j _ _
    have e := Int.mul_ediv_add_emod ((w : Int) * p) b
    rw [h] at e
    rw [evL_win hb, evL_win hb]
    have e2 : (w : Int) * p = b * ((w : Int) * p / b) := by omega
    rw [e2, Int.add_mul_ediv_left _ _ (show b ≠ 0 by omega), Int.add_mul_ediv_left _ _ (show b ≠ 0 by omega)]
    omega
/-! ### windows cut out of a frame laid several times -/
def around (fs : List Int) (m : Nat) : List Int := (List.replicate m fs).flatten
theorem around_len (fs : List Int) (m : Nat) : (around fs m).length = m * fs.length := by simp [around]
theorem around_succ (fs : List Int) (m : Nat) : around fs (m + 1) = fs ++ around fs m := by simp [around, List.replicate_succ]
theorem around_take (fs : List Int) : ∀ (m k : Nat), k ≤ m * fs.length → ((around fs m).take k).sum = psum fs k
  | 0, k, h => by
    have : k = 0 := by omega
    subst this; simp [psum]
  | m + 1, k, h => by
    rw [around_succ]
    by_cases c : k ≤ fs.length
    · rw [List.take_append_of_le_length c, psum_take fs k c]
    · obtain ⟨d, rfl⟩ : ∃ d, k = fs.length + d := ⟨k - fs.length, by omega⟩
      rw [List.take_append, List.sum_append, List.take_of_length_le (by omega), show fs.length + d - fs.length = d by omega, around_take fs m d (by rw [Nat.add_mul] at h; omega), Nat.add_comm fs.length d, psum_add_len]
      omega
theorem drop_take_sum (l : List Int) (k w : Nat) : ((l.drop k).take w).sum = (l.take (k + w)).sum - (l.take k).sum := by
  rw [List.take_add, List.sum_append]; omega
theorem around_win {fs : List Int} {m k w : Nat} (h : k + w ≤ m * fs.length) : (((around fs m).drop k).take w).sum = win fs w k := by
  rw [drop_take_sum, around_take fs m _ h, around_take fs m k (by omega)]; rfl
/-! ### turns of a frame -/
def TS (fs : List Int) (n : Nat) : List Nat := (List.range n).filter fun j => decide (evL (fs.length : Int) fs.sum (j : Int) = fs)
theorem TS_succ (fs : List Int) (n : Nat) : TS fs (n + 1) = if evL (fs.length : Int) fs.sum (n : Int) = fs then TS fs n ++ [n] else TS fs n := by
  unfold TS
  rw [List.range_succ, List.filter_append]
  by_cases c : evL (fs.length : Int) fs.sum (n : Int) = fs
  · rw [if_pos c]; simp [c]
  · rw [if_neg c]; simp [c]
theorem TS_none {fs : List Int} : ∀ {n : Nat}, (∀ j, j < n → evL (fs.length : Int) fs.sum (j : Int) ≠ fs) → TS fs n = []
  | 0, _ => rfl
  | n + 1, h => by rw [TS_succ, if_neg (h n (by omega)), TS_none fun j hj => h j (by omega)]
theorem TS_first {fs : List Int} {t : Nat} (ht : evL (fs.length : Int) fs.sum (t : Int) = fs) (hn : ∀ j, j < t → evL (fs.length : Int) fs.sum (j : Int) ≠ fs) : ∀ n, t < n → ∃ r, TS fs n = t :: r
  | 0, h => absurd h (Nat.not_lt_zero _)
  | n + 1, h => by
    rw [TS_succ]
    by_cases e : t = n
    · subst e
      rw [if_pos ht, TS_none hn]
      exact ⟨[], rfl⟩
    · obtain ⟨r, hr⟩ := TS_first ht hn n (by omega)
      rw [hr]
      split
      · exact ⟨_, rfl⟩
      · exact ⟨_, rfl⟩
theorem TS_len (fs : List Int) (n : Nat) : (TS fs n).length ≤ n := by
  unfold TS
  have := List.length_filter_le (fun j : Nat => decide (evL (fs.length : Int) fs.sum (j : Int) = fs)) (List.range n)
  rw [List.length_range] at this
  exact this
theorem TS_ne {fs : List Int} {n : Nat} : TS fs n ≠ [] ↔ ∃ t, t < n ∧ evL (fs.length : Int) fs.sum (t : Int) = fs := by
  constructor
  · intro h
    obtain ⟨t, ht⟩ := List.exists_mem_of_ne_nil _ h
    unfold TS at ht
    obtain ⟨h1, h2⟩ := List.mem_filter.mp ht
    exact ⟨t, List.mem_range.mp h1, of_decide_eq_true h2⟩
  · rintro ⟨t, ht, e⟩ h
    have : t ∈ TS fs n := List.mem_filter.mpr ⟨List.mem_range.mpr ht, decide_eq_true e⟩
    rw [h] at this
    cases this
/-- a frame is spread just where some turn tells it -/
theorem spread_iff {fs : List Int} (h0 : 0 < fs.length) : Spread fs ↔ TS fs fs.length ≠ [] := by
  rw [TS_ne]
  constructor
  · exact fun h => h.even h0
  · rintro ⟨t, _, e⟩
    rw [← e]
    exact evL_spread (by omega)
def SpreadTo (fs : List Int) (n : Nat) : Prop := ∀ w, 1 ≤ w → w ≤ n → ∀ i j, i < fs.length → j < fs.length → win fs w i - win fs w j ≤ 1
theorem SpreadTo.zero (fs : List Int) : SpreadTo fs 0 := fun w h1 h2 => by omega
theorem spreadTo_succ {fs : List Int} {n : Nat} {lo hi : Int} (l1 : lo ∈ wins fs (n + 1)) (l2 : ∀ y, y ∈ wins fs (n + 1) → lo ≤ y) (h1 : hi ∈ wins fs (n + 1)) (h2 : ∀ y, y ∈ wins fs (n + 1) → y ≤ hi) : SpreadTo fs (n + 1) ↔ SpreadTo fs n ∧ hi - lo < 2 := by
  constructor
  · intro h
    refine ⟨fun w a b => h w a (by omega), ?_⟩
    obtain ⟨i, hi', rfl⟩ := mem_wins.mp l1
    obtain ⟨j, hj, rfl⟩ := mem_wins.mp h1
    have := h (n + 1) (by omega) (Nat.le_refl _) j i hj hi'
    omega
  · rintro ⟨h, d⟩ w a b i j hi' hj
    by_cases e : w = n + 1
    · subst e
      have := l2 _ (mem_wins.mpr ⟨j, hj, rfl⟩)
      have := h2 _ (mem_wins.mpr ⟨i, hi', rfl⟩)
      omega
    · exact h w a (by omega) i j hi' hj
/-! ### data of ints -/
def dI (ns : List Int) : PyData := .list (ns.map PyData.int)
theorem dI_layA : ∀ ns : List Int, PyData.canLayAll0 (ns.map PyData.int) = true
  | [] => by simp [PyData.canLayAll0]
  | z :: zs => by simp [PyData.canLayAll0, PyData.canLay0, dI_layA zs]
theorem dI_depthA : ∀ ns : List Int, PyData.depthAll (ns.map PyData.int) ≤ 1
  | [] => by simp [PyData.depthAll]
  | z :: zs => by
    have h1 := dI_depthA zs
    simp only [List.map_cons, PyData.depthAll, PyData.depth]
    omega
theorem dI_shaped (ns : List Int) : SeqAt.shaped (dI ns) = true := by
  have h1 := dI_depthA ns
  have h2 : PyData.depth (dI ns) ≤ 64 := by
    unfold dI
    simp only [PyData.depth]
    omega
  show (PyData.canLay0 (dI ns) && decide (PyData.depth (dI ns) ≤ 64)) = true
  rw [Bool.and_eq_true]
  exact ⟨by unfold dI; simp only [PyData.canLay0]; exact dI_layA ns, decide_eq_true h2⟩
theorem dI_eqvA : ∀ ns ms : List Int, PyData.eqvAll (ns.map PyData.int) (ms.map PyData.int) = decide (ns = ms)
  | [], [] => by simp [PyData.eqvAll]
  | [], _ :: _ => by simp [PyData.eqvAll]
  | _ :: _, [] => by simp [PyData.eqvAll]
  | n :: ns, m :: ms => by
    rw [List.map_cons, List.map_cons, PyData.eqvAll, dI_eqvA ns ms]
    by_cases e : n = m
    · subst e; simp [PyData.eqv]
    · simp [PyData.eqv, e]
theorem dI_eqv (ns ms : List Int) : PyData.eqv (dI ns) (dI ms) = decide (ns = ms) := by
  unfold dI
  simp only [PyData.eqv]
  exact dI_eqvA ns ms
theorem dpA_ints {K : PySem.W.Frag} {H : Hp} : ∀ ns : List Int, DpAll K H (ns.map V.int) (ns.map PyData.int)
  | [] => .nil
  | n :: ns => .cons (.int n) (dpA_ints ns)
theorem dp_ints {K : PySem.W.Frag} {H : Hp} {a : Addr} {ns : List Int} (h : SqL K H a (ns.map V.int)) : Dp K H (.ref a) (dI ns) := .lst h (dpA_ints ns)
theorem dp_nil {K : PySem.W.Frag} {H : Hp} {a : Addr} (h : SqL K H a []) : Dp K H (.ref a) (dI []) := dp_ints (ns := []) h
/-! ### cuts of lists of ints -/
theorem cut_to {ns : List Int} {k : Nat} (hk : k ≤ ns.length) : cutV (ns.map V.int) none (some (k : Int)) = (ns.take k).map V.int := by
  unfold cutV
  rw [HT.sIx_none, HT.sIx_nat, List.length_map, Nat.min_eq_left hk, List.drop_zero, Nat.sub_zero, List.map_take]
theorem cut_from {ns : List Int} {k : Nat} (hk : k ≤ ns.length) : cutV (ns.map V.int) (some (k : Int)) none = (ns.drop k).map V.int := by
  unfold cutV
  rw [HT.sIx_none, HT.sIx_nat, List.length_map, Nat.min_eq_left hk, List.map_drop]
  exact List.take_of_length_le (by rw [List.length_drop, List.length_map]; exact Nat.le_refl _)
theorem cut_mid {ns : List Int} {i j : Nat} (hi : i ≤ j) (hj : j ≤ ns.length) : cutV (ns.map V.int) (some (i : Int)) (some (j : Int)) = ((ns.drop i).take (j - i)).map V.int := by
  unfold cutV
  rw [HT.sIx_nat, HT.sIx_nat, List.length_map, Nat.min_eq_left (show i ≤ ns.length by omega), Nat.min_eq_left hj, List.map_take, List.map_drop]
/-! ### frames -/
structure Frm (fs : List Int) : Prop where
  pos : 0 < fs.length
  le : fs.length ≤ 64
  bit : ∀ f ∈ fs, f = 0 ∨ f = 1
theorem bits_sum : ∀ {fs : List Int}, (∀ f ∈ fs, f = 0 ∨ f = 1) → 0 ≤ fs.sum ∧ fs.sum ≤ fs.length
  | [], _ => by simp
  | f :: fs, h => by
    have h1 := bits_sum (fs := fs) fun g hg => h g (List.mem_cons_of_mem _ hg)
    have h2 := h f List.mem_cons_self
    rw [List.sum_cons, List.length_cons]
    omega
theorem Frm.sum {fs : List Int} (h : Frm fs) : 0 ≤ fs.sum ∧ fs.sum ≤ fs.length := bits_sum h.bit
theorem Frm.getD {fs : List Int} (h : Frm fs) (k : Nat) : fs.getD k 0 = 0 ∨ fs.getD k 0 = 1 := by
  by_cases c : k < fs.length
  · have e : fs.getD k 0 = fs[k] := by simp [List.getD, List.getElem?_eq_getElem c]
    rw [e]
    exact h.bit _ (List.getElem_mem c)
  · left
    simp [List.getD, List.getElem?_eq_none (Nat.le_of_not_lt c)]
theorem evL_frm {b p : Int} (b0 : 1 ≤ b) (b1 : b ≤ 64) (p0 : 0 ≤ p) (p1 : p ≤ b) (t : Int) : Frm (evL b p t) := by
  refine ⟨by rw [evL_len]; omega, by rw [evL_len]; omega, fun f hf => ?_⟩
  unfold evL at hf
  obtain ⟨k, _, rfl⟩ := List.mem_map.mp hf
  exact evB_01 (by omega) p0 p1 t k
def Lo (ws : List Int) (m : Int) : Prop := m ∈ ws ∧ ∀ y, y ∈ ws → m ≤ y
def Hi (ws : List Int) (m : Int) : Prop := m ∈ ws ∧ ∀ y, y ∈ ws → y ≤ m
theorem divP {i j : Int} {b : Nat} (h : 0 < j) (hb : j.natAbs < 2 ^ b) (h0 : 0 < b) (h9 : b ≤ 9000) : CDivP i j := ⟨h, PyProof.noPylong_of_log2 (Nat.lt_of_lt_of_le (PySem.Flt.log2_lt_of h0 hb) h9)⟩
/-! ### rules for an except suite -/
def rIsK (K : PySem.W.Frag) (cls : Value) (d : Option Addr) (a : Addr) : List V → Hp → VK → Prop := fun xs H Q => ∃ (D : Addr) (c : V) (cv : Value) (b : Bool), cls = .ref D ∧ d = none ∧ ExcC K D ∧ xs = [.ref a, c] ∧ (∀ u, RelV c u → u = cv) ∧ PySem.W.kitOne K (.ref D) cv = some b ∧ Q (.bl b) H
theorem call_isK {X : Cx} {a : Addr} {cls : Value} {d : Option Addr} {oe : Obj} {pn : List (Addr × Obj)} (hz : Zc cls d oe) (hf : ∃ vs, oe.data = .fields vs) : CallR (X.suite a ((a, oe) :: pn)) (.builtin "isinstance") (rIsK X.K cls d a) := by
  intro pins s σ H xs us Q I r h
  obtain ⟨D, c, cv, b, rfl, rfl, C, e1, e2, e3, q⟩ := h
  exact call_isE C hz hf pins s σ H xs us Q I r ⟨c, cv, b, e1, e2, e3, q⟩
theorem pe_nev {X : Cx} {e : Expr} : PE X e (fun _ _ _ => False) := ⟨fun _ _ _ _ _ _ h => h.elim⟩
theorem eqU_count {y : V} {vs : List V} {us : List Value} (r : Vals vs us) (hf : vs.all flatV = true) : us.countP (eqU y) = vs.countP fun z => eqV z y := by
  induction vs generalizing us with
  | nil => cases r; rfl
  | cons v vs ih =>
    cases r with
    | cons h t =>
      rw [List.all_cons, Bool.and_eq_true] at hf
      rw [List.countP_cons, List.countP_cons, ih t hf.2, eqU_of h hf.1]
def rCntV (K : PySem.W.Frag) : V → List V → Hp → VK → Prop := fun x xs H Q => ∃ (a : Addr) (ys : List V) (y : V), x = .ref a ∧ xs = [y] ∧ SqL K H a ys ∧ flatV y = true ∧ ys.all flatV = true ∧ Q (.int ((ys.countP fun z => eqV z y : Nat) : Int)) H
theorem mt_cntV {X : Cx} : MtR X "list.count" (rCntV X.K) := by
  intro pins s σ H x xs v us Q I rx rxs h
  obtain ⟨a, ys, y, rfl, rfl, hs, fy, fys, q⟩ := h
  cases rx
  cases rxs with
  | cons ry rt =>
    rename_i uy ut
    cases rt
    obtain ⟨its, rv, ⟨⟨cls, dd, data, sl⟩, n, ho, hc, hdn, hd⟩, hlen⟩ := I.list hs
    simp only at hc hd
    subst hc hd
    refine call_meets PySem.F.slot_list_count ⟨_, ho, rfl⟩ PySem.F.entry_list_count (PySem.F.args_list_count_2 _ _)
      (SeqAt.list_countAt a its.toArray n dd sl uy (eqU y)) ⟨ho, fun u' hu' => mem_eqAt ry fy rv fys u' (by simpa using hu'), ?_⟩
    have ec : its.toArray.toList.countP (eqU y) = ys.countP fun z => eqV z y := eqU_count rv fys
    refine ⟨.int ((ys.countP fun z => eqV z y : Nat) : Int), H, I.tok _, ⟨s.toks, ?_⟩, q⟩
    show Value.int ((its.toArray.toList.countP (eqU y) : Nat) : Int) s.toks = Value.int ((ys.countP fun z => eqV z y : Nat) : Int) s.toks
    rw [ec]
section
variable (K : PySem.W.Frag) {X : Cx}
theorem mtCntK (h : X.K = K := by rfl) : MtR X "list.count" (rCntV K) := h ▸ mt_cntV
theorem mtIndexK (h : X.K = K := by rfl) : MtR X "list.index" (rIndex K) := h ▸ mt_index
theorem pe_bmK {T id : String} {nm : Str} {r : V → List V → Hp → VK → Prop} {o e : Expr} {es : List Expr} {to : TE} {t : TA} {apos cpos : Pos} (pa : PlainAttrs T) (slot : Slot T nm id) (hty : typeOf (.builtin id) = pure (.type "method_descriptor")) (hm : MtR X id r) (ho : PE X o to) (ha : PA X (e :: es) t)
    (hbase : attributeBase o nm X.env (eval o X.env) = eval o X.env := by rfl)
    (hfew : ((backTo cpos (starEach (e :: es) X.env)).all (fun x => !x.1) && (backToKw cpos (keywordEach [] X.env)).all (fun x => x.1.isSome)
      && decide ((e :: es).length + ([] : List Keyword).length + (if ([] : List Keyword).isEmpty then 0 else 1) < 30)) = true := by rfl)
    (hline : (apos.endLine == cpos.line) = true := by rfl) (hs : starEach (e :: es) X.env = (false, eval e X.env) :: starEach es X.env := by rfl) (hplain : (backTo cpos (starEach es X.env)).any (·.1) = false := by rfl) (h : X.K = K := by rfl) :
    PE X (.Call (.Attribute o nm apos) (e :: es) [] cpos) (tBM K T r to t) := h ▸ pe_bm pa slot hty hm ho ha hbase hfew hline hs hplain
end
/-- an own error's class, that may be raised -/
structure ExF (K : PySem.W.Frag) (mg : Str → Option Value) (n : Str) : Prop where
  g : mg n = some (.ref (He.ga K n))
  x : PySem.W.excIn K (He.ga K n) He.veBase "ValueError.__new__" = true
  k : PySem.W.keepIn K (.ref (He.ga K n)) = true
  b : PySem.W.subIn K (.ref (He.ga K n)) (.type "BaseException") = some true
  t : PySem.W.typeIn K (.ref (He.ga K n)) = some (.type "type")
/-- the slots' number is known -/
theorem pss_len {X : Cx} {b : List Stmt} {t : L2.TS} (n : Nat) (h : PSs X b t) (hn : X.N.length = n := by rfl) : PSs X b (fun D σ H => σ.length = n → t D σ H) := ⟨fun pins s σ H D I hw => h.run pins s σ H D I (hw (I.len.trans hn))⟩
theorem five {σ : L2.St} (h : σ.length = 5) : ∃ a b c d e, σ = [a, b, c, d, e] := by
  match σ, h with
  | [a, b, c, d, e], _ => exact ⟨a, b, c, d, e, rfl⟩
theorem noAhead (bs : List Bool) (j : Nat) (h : ((List.range j).all fun m => bs[m]? != some true) = true) : ∀ (m : Nat) (z' : V), m < j → (bs.map V.bl)[m]? = some z' → eqV z' (.bl true) = false := fun m z' hm hz => by
  rw [List.all_eq_true] at h
  have h1 := h m (List.mem_range.mpr hm)
  rw [List.getElem?_map] at hz
  cases e : bs[m]? with
  | none => rw [e] at hz; cases hz
  | some b =>
    rw [e] at hz h1
    cases hz
    cases b with
    | false => rfl
    | true => simp at h1
/-! ### calls of defs that may raise -/
section
variable {X : Cx} {k j : Nat} {x : Str} {p pos : Pos} {e : Expr} {es : List Expr} {t : TA} {sp : Sp} {E : XK}
theorem pe_clT (c : Cl X.prog X.w X.K X.mg X.base (L2.CX X.prog X.w) k x sp) (hr : Room j X.A) (hk : k ≤ j) (hx : Passes (L2.CX X.prog X.w) X E) (hg : Gl X x) (ha : PA X (e :: es) t)
    (hdb : (x == ("__debug__" : Str)) = false := by decide) (he : starEach (e :: es) X.env = (false, eval e X.env) :: starEach es X.env := by rfl) (hpl : (backTo pos (starEach es X.env)).any (·.1) = false := by rfl) :
    PE X (.Call (.Name x p) (e :: es) [] pos) (tCall sp [] E t) := by
  obtain ⟨f, fd, ps, F, hm, kp, b⟩ := c.ex
  exact pe_call F (hr.mono hk) hg hm kp b .nil hx ha hdb he hpl
theorem pe_clG (c : Cl X.prog X.w X.K X.mg X.base (L2.CX X.prog X.w) k x sp) (hr : Room j X.A) (hk : k ≤ j) (hg : Gl X x) (ha : PA X (e :: es) t)
    (hdb : (x == ("__debug__" : Str)) = false := by decide) (he : starEach (e :: es) X.env = (false, eval e X.env) :: starEach es X.env := by rfl) (hpl : (backTo pos (starEach es X.env)).any (·.1) = false := by rfl) :
    PE X (.Call (.Name x p) (e :: es) [] pos) (tCall sp [] E0 t) := pe_clT c hr hk passL hg ha hdb he hpl
end
theorem FunG.clX {P : Program} {w : World} {K : PySem.W.Frag} {mg : Str → Option Value} {base : Heap} {CX : CXT} {k : Nat} {x : Str} {st : Stmt} {f : Addr} {fd : FuncData} {ps : List Str} {sp : Sp} (F : FunG K mg x st f fd ps) (h : FnOk P w K mg base CX k f fd ps sp) :
    Cl P w K mg base CX k x sp := ⟨f, fd, ps, h, F.mgf, F.fn.kp, F.b⟩
/-! ### heaps with a table of code objects -/
def lamQ : Str := ("law" : Str) ++ ".<locals>." ++ "<lambda>"
def noTab (H : Hp) : Hp := fun b => match H b with
  | some (.tbl _) => none
  | o => o
section
variable {K : PySem.W.Frag} {a st : Addr} {ns : List Int} {H H0 H1 H2 : Hp} {T : List (Addr × Str)}
theorem noTab_some {b : Addr} {o : HO} (h : noTab H b = some o) : H b = some o ∧ ∀ ps, o ≠ .tbl ps := by
  unfold noTab at h
  split at h
  · cases h
  · rename_i hn
    exact ⟨h, fun ps e => hn ps (by rw [h, e])⟩
theorem noTab_same (H : Hp) : Same (noTab H) H := fun _ _ h => (noTab_some h).1
theorem noTab_none {b : Addr} (h : H b = none) : noTab H b = none := by
  unfold noTab; rw [h]
theorem noTab_at {b : Addr} {o : HO} (h : H b = some o) (hn : ∀ ps, o ≠ .tbl ps) : noTab H b = some o := by
  unfold noTab
  rw [h]
  cases o <;> first | rfl | exact absurd rfl (hn _)
theorem noTab_sq {xs : List V} (h : SqL K H a xs) : SqL K (noTab H) a xs := by
  rcases h with (h | ⟨o, h⟩) | h
  · exact .inl (.inl (noTab_at h fun _ z => nomatch z))
  · exact .inl (.inr ⟨o, noTab_at h fun _ z => nomatch z⟩)
  · exact .inr h
theorem extN_same (h : Same (noTab H) H1) (e : ExtN H1 H2) : Same (noTab H) H2 := fun b o hb => e b o (h b o hb) (noTab_some hb).2
theorem SOk.extN (s : SOk K a ns st H1) (hq : SqL K (noTab H0) a (ns.map V.int)) (hst : noTab H0 st = none) (k : Same (noTab H0) H1) (e : ExtN H1 H2) : SOk K a ns st H2 := by
  obtain ⟨i, m, c, d, h⟩ := s.at_
  exact ⟨s.len, fun H' k' => ((extN_same k e).keepAll hst k').seq hq, i, m, c, d, e _ _ h fun _ z => nomatch z⟩
theorem tabs_same (t : Tabs T H) (e : Same H H1) : Tabs T H1 := t.ext e
theorem tabs_keep {xs : List V} (t : Tabs T H) (hs : H st = some (.lst xs)) (e : Keep st H H1) : Tabs T H1 := fun p hp => by
  obtain ⟨ps, h1, h2, h3⟩ := t p hp
  refine ⟨ps, e _ _ (fun z => by rw [z, hs] at h1; cases h1) h1, h2, fun pos cv hc => ?_⟩
  obtain ⟨c, e1, e2⟩ := h3 pos cv hc
  exact ⟨c, e1, e _ _ (fun z => by rw [z, hs] at e2; unfold CodeO at e2; cases e2) e2⟩
theorem SOk.tabs (s : SOk K a ns st H) (t : Tabs T H) (e : Keep st H H1) : Tabs T H1 := by
  obtain ⟨i, m, c, d, h⟩ := s.at_
  exact tabs_keep t h e
end
structure Txt (K : PySem.W.Frag) (mg : Str → Option Value) : Prop where
  g_BadBegins : mg "BadBegins" = some (.ref (He.ga K "BadBegins"))
  g_BadFrame : mg "BadFrame" = some (.ref (He.ga K "BadFrame"))
  g_BadRuns : mg "BadRuns" = some (.ref (He.ga K "BadRuns"))
  g_BadShare : mg "BadShare" = some (.ref (He.ga K "BadShare"))
  g_BadText : mg "BadText" = some (.ref (He.ga K "BadText"))
  g_BadWidth : mg "BadWidth" = some (.ref (He.ga K "BadWidth"))
  x_BadWidth : ExF K mg "BadWidth"
  k_MOST_BEATS : ∃ u, mg "MOST_BEATS" = some u ∧ RelV (.int 64) u
  k_MOST_WIDTH : ∃ u, mg "MOST_WIDTH" = some u ∧ RelV (.int 10000) u
  g_NoRoom : mg "NoRoom" = some (.ref (He.ga K "NoRoom"))
  g_PulseError : mg "PulseError" = some (.ref (He.ga K "PulseError"))
  b_ValueError : mg "ValueError" = none
  b_bool : mg "bool" = none
  b_divmod : mg "divmod" = none
  b_int : mg "int" = none
  b_isinstance : mg "isinstance" = none
  b_len : mg "len" = none
  b_list : mg "list" = none
  b_max : mg "max" = none
  b_min : mg "min" = none
  b_range : mg "range" = none
  b_str : mg "str" = none
  b_sum : mg "sum" = none
  b_tuple : mg "tuple" = none
section
variable {P : Program} {w : World} {K : PySem.W.Frag} {mg : Str → Option Value} {base : Heap}
abbrev s_law_start : Stmt := top 17
theorem sc_law_start : FnScope ["_law_script", "_law_mixed", "_law_cell"] ["_law_script"] (defScope s_law_start) := ⟨rfl, rfl, rfl, by decide +kernel, rfl, by decide +kernel, by decide +kernel⟩
/-- _law_start(script): a new good state -/
def spStart (K : PySem.W.Frag) : Sp := fun vs H Q _ => ∃ (a : Addr) (ns : List Int), vs = [.ref a] ∧ SqL K H a (ns.map V.int) ∧ ∀ (st : Addr) (m : Int), H st = none → Drw 0 m 0 → Q (.ref st) (upd H st (StO a 0 m 0))
theorem ok_law_start {f : Addr} {fd : FuncData} (F : FunG K mg "_law_start" s_law_start f fd ["_law_script"]) : FnOk P w K mg base CX0 1 f fd ["_law_script"] (spStart K) := by
  refine F.fn.ok sc_law_start (fun vs H Q E h => ?_) (fun cdv A outer s H vs Q E hr h => ?_)
  · obtain ⟨a, ns, rfl, _⟩ := h
    rfl
  · obtain ⟨a, ns, rfl, hS, k⟩ := h
    refine ⟨_, (pss_cons (ps_set (i := 1) sc_law_start.nd rfl (.inl rfl) pe_int)
      (pss_cons (ps_for PassesOwn.never (by rfl) (pi_list (pv 0)) (pg_name (i := 2) sc_law_start.nd rfl (.inl rfl)) (pss_one (ps_set (i := 1) sc_law_start.nd rfl (.inl rfl) (pe_op op_mod (pe_op op_add (pe_op op_add (pe_op op_mulW (pv 1) pe_int) (pv 2)) pe_int) pe_int))))
      (pss_one (ps_ret (pe_lst (pa_cons (pv 0) (pa_cons pe_int (pa_cons (pv 1) (pa_cons pe_int pa_nil))))))))), ?_⟩
    refine ⟨_, rfl, a, rfl, ⟨_, hS⟩, for_list (K := K) (a := a) (xs := ns.map V.int) (fun i σ H' => ∃ (m : Int) (v : Option V), σ = [some (.ref a), some (.int m), v] ∧ H' = H ∧ 0 ≤ m ∧ m < 2147483647)
      ⟨1, none, rfl, rfl, by decide, by decide⟩ (fun i σ H' _ ⟨_, _, _, e, _⟩ => e ▸ hS) ?_ ?_⟩
    · rintro i y σ H' hi ⟨m, v, rfl, rfl, m0, m1⟩
      obtain ⟨z, hz, rfl⟩ := getV hi
      refine ⟨_, rfl, _, _, rfl, rfl, wide_mul (a := 31) (b := 17) (by omega) (by decide) (by decide) (by decide) (by decide), _, rfl, _, _, rfl, rfl, _, _, rfl, rfl, _, _, rfl, rfl, (by show (0 : Int) < 2147483647; decide), ?_⟩
      exact ⟨_, _, rfl, rfl, Int.emod_nonneg _ (by decide), Int.emod_lt_of_pos _ (by decide)⟩
    · rintro σ H' ⟨m, v, rfl, rfl, m0, m1⟩
      refine ⟨_, rfl, _, rfl, (by show 4 ≤ sizeLine; decide), fun p hp => ?_⟩
      exact k p m hp ⟨Int.le_refl _, m0, m1, Int.le_refl _⟩
abbrev s_law_drawn : Stmt := top 18
theorem sc_law_drawn : FnScope ["_law_state", "_law_many", "_law_found", "_law_cell"] ["_law_state", "_law_many"] (defScope s_law_drawn) := ⟨rfl, rfl, rfl, by decide +kernel, rfl, by decide +kernel, by decide +kernel⟩
/-- _law_drawn(state, many): some number from 0 on below many; the state is good behind it, all else as it was -/
def spDrawn (K : PySem.W.Frag) : Sp := fun vs H Q _ => ∃ (st a : Addr) (ns : List Int) (many : Int), vs = [.ref st, .int many] ∧ SOk K a ns st H ∧ 0 < many ∧ many < 2 ^ 200 ∧
  ∀ r i m c : Int, 0 ≤ r → r < many → Drw i m c → Q (.int r) (upd H st (StO a i m c))
theorem SOk.drawn {K : PySem.W.Frag} {a st : Addr} {ns : List Int} {H : Hp} (s : SOk K a ns st H) {i m c : Int} (d : Drw i m c) : SOk K a ns st (upd H st (StO a i m c)) := s.keep (Keep.refl st H).atSt d upd_same
theorem ok_law_drawn {f : Addr} {fd : FuncData} (F : FunG K mg "_law_drawn" s_law_drawn f fd ["_law_state", "_law_many"]) (T : Txt K mg) : FnOk P w K mg base CX0 1 f fd ["_law_state", "_law_many"] (spDrawn K) := by
  refine F.fn.ok sc_law_drawn (fun vs H Q E h => ?_) (fun cdv A outer s H vs Q E hr h => ?_)
  · obtain ⟨st, a, ns, many, rfl, _⟩ := h
    rfl
  · obtain ⟨st, a, ns, many, rfl, hs, m0, m1, k⟩ := h
    obtain ⟨i, m, c, d, hst⟩ := hs.at_
    have hdiv : ∀ x : Int, CDivW x many := fun x => wide_div (b := 200) m0 (by omega) (by decide) (by decide)
    have hl : H st = some (.lst [.ref a, .int i, .int m, .int c]) := hst
    refine ⟨_, (pss_cons (ps_if (pt_cmpR op_gt (pe_ix (ixL K) (pv 0) pe_int (fun _ _ => rfl)) pe_int (nomark _)) (pss_cons (ps_set (i := 2) sc_law_drawn.nd rfl (.inl rfl) (pe_op op_mod (pe_ix (ixL K) (pv 0) pe_int (fun _ _ => rfl)) (pv 1)))
      (pss_cons (ps_asg (pe_op op_fdivW (pe_ix (ixL K) (pv 0) pe_int (fun _ _ => rfl)) (pv 1)) (pg_sub (pv 0) pe_int set_list))
      (pss_one (ps_ret (pv 2))))) pss_nil)
      (pss_cons (ps_asg (pe_op op_add (pe_ix (ixL K) (pv 0) pe_int (fun _ _ => rfl)) pe_int) (pg_sub (pv 0) pe_int set_list))
      (pss_cons (ps_if (pt_cmpR op_le (pe_ix (ixL K) (pv 0) pe_int (fun _ _ => rfl)) (pe_callB (clLen K) (by rfl) T.b_len (by decide +kernel) (pa_cons (pe_ix (ixL K) (pv 0) pe_int (fun _ _ => rfl)) pa_nil)) (nomark _)) (pss_cons (ps_set (i := 3) sc_law_drawn.nd rfl (.inl rfl) (pe_ix (ixL K) (pe_ix (ixL K) (pv 0) pe_int (fun _ _ => rfl)) (pe_op op_sub (pe_ix (ixL K) (pv 0) pe_int (fun _ _ => rfl)) pe_int) (fun _ _ => rfl)))
      (pss_cons (ps_asg (pe_ifExp (pt_cmpR op_ge (pv 3) (pe_op op_pow pe_int pe_int) (nomark _)) (pe_op op_fdivW (pv 3) (pv 1)) pe_int) (pg_sub (pv 0) pe_int set_list))
      (pss_one (ps_ret (pe_op op_mod (pv 3) (pv 1)))))) pss_nil)
      (pss_cons (ps_asg (pe_op op_mod (pe_op op_add (pe_op op_mulW (pe_ix (ixL K) (pv 0) pe_int (fun _ _ => rfl)) pe_int) pe_int) pe_int) (pg_sub (pv 0) pe_int set_list))
      (pss_one (ps_ret (pe_op op_mod (pe_op op_fdivW (pe_ix (ixL K) (pv 0) pe_int (fun _ _ => rfl)) pe_int) (pv 1)))))))), ?_⟩
    refine ⟨_, rfl, _, _, _, _, rfl, rfl, SqL.of hl, rfl, _, _, rfl, rfl, _, rfl, ?_⟩
    refine ite2 (fun hc => ?_) (fun hc => ?_)
    · have hc : 0 < c := of_decide_eq_true hc
      refine ⟨_, rfl, _, _, _, _, rfl, rfl, SqL.of hl, rfl, _, rfl, _, _, rfl, rfl, m0, ?_⟩
      refine ⟨_, rfl, _, _, _, _, rfl, rfl, SqL.of hl, rfl, _, rfl, _, _, rfl, rfl, hdiv _, _, rfl, st, _, _, 3, rfl, rfl, hl, rfl, ?_⟩
      refine ⟨_, rfl, ?_⟩
      exact k (c % many) i m (c / many) (Int.emod_nonneg _ (by omega)) (Int.emod_lt_of_pos _ m0) ⟨d.i0, d.m0, d.m1, Int.ediv_nonneg d.c0 (by omega)⟩
    · refine ⟨_, rfl, _, _, _, _, rfl, rfl, SqL.of hl, rfl, _, _, rfl, rfl, _, rfl, st, _, _, 1, rfl, rfl, hl, rfl, ?_⟩
      have hl1 : (upd H st (.lst [.ref a, .int (i + 1), .int m, .int c])) st = some (.lst [.ref a, .int (i + 1), .int m, .int c]) := upd_same
      have hS1 : SqL K (upd H st (.lst [.ref a, .int (i + 1), .int m, .int c])) a (ns.map V.int) := hs.sq _ (Keep.refl st H).atSt
      refine ⟨_, rfl, _, _, _, _, rfl, rfl, SqL.of hl1, rfl, _, rfl, _, _, _, _, rfl, rfl, SqL.of hl1, rfl, _, _, rfl, .inl hS1, _, _, rfl, rfl, _, rfl, ?_⟩
      refine ite2 (fun hb => ?_) (fun hb => ?_)
      · have hb : i + 1 ≤ ((ns.map V.int).length : Int) := of_decide_eq_true hb
        rw [List.length_map] at hb
        have i0 := d.i0
        refine ⟨_, rfl, _, _, _, _, rfl, rfl, SqL.of hl1, rfl, _, rfl, _, _, _, _, rfl, rfl, SqL.of hl1, rfl, _, _, rfl, rfl, _, _, _, _, rfl, rfl, hS1, atV (j := i.toNat) (by omega) (by omega), ?_⟩
        refine ⟨_, rfl, _, _, rfl, rfl, ⟨by decide, by decide, by decide⟩, _, _, rfl, rfl, _, rfl, ?_⟩
        generalize ns.getD i.toNat 0 = z
        refine ite2 (fun hz => ?_) (fun hz => ?_)
        · have hz : (10 : Int) ^ (18 : Int).toNat ≤ z := of_decide_eq_true hz
          have z0 : 0 ≤ z := Int.le_trans (by decide) hz
          refine ⟨_, rfl, _, rfl, _, _, rfl, rfl, hdiv _, _, rfl, st, _, _, 3, rfl, rfl, hl1, rfl, ?_⟩
          refine ⟨_, rfl, _, rfl, _, _, rfl, rfl, m0, ?_⟩
          rw [upd_upd]
          exact k (z % many) (i + 1) m (z / many) (Int.emod_nonneg _ (by omega)) (Int.emod_lt_of_pos _ m0) ⟨by omega, d.m0, d.m1, Int.ediv_nonneg z0 (by omega)⟩
        · refine ⟨_, rfl, st, _, _, 3, rfl, rfl, hl1, rfl, ?_⟩
          refine ⟨_, rfl, _, rfl, _, _, rfl, rfl, m0, ?_⟩
          rw [upd_upd]
          exact k (z % many) (i + 1) m 0 (Int.emod_nonneg _ (by omega)) (Int.emod_lt_of_pos _ m0) ⟨by omega, d.m0, d.m1, Int.le_refl _⟩
      · refine ⟨_, rfl, _, _, _, _, rfl, rfl, SqL.of hl1, rfl, _, _, rfl, rfl, wide_mul (a := 31) (b := 17) (by have := d.m0; have := d.m1; omega) (by decide) (by decide) (by decide) (by decide), _, _, rfl, rfl, _, _, rfl, rfl, (by show (0 : Int) < 2147483647; decide), _, rfl, st, _, _, 2, rfl, rfl, hl1, rfl, ?_⟩
        rw [upd_upd]
        have n0 := Int.emod_nonneg (m * 48271 + 11) (show (2147483647 : Int) ≠ 0 by decide)
        have n1 := Int.emod_lt_of_pos (m * 48271 + 11) (show (0 : Int) < 2147483647 by decide)
        have hl2 : (upd H st (.lst [.ref a, .int (i + 1), .int ((m * 48271 + 11) % 2147483647), .int c])) st = some (.lst [.ref a, .int (i + 1), .int ((m * 48271 + 11) % 2147483647), .int c]) := upd_same
        refine ⟨_, rfl, _, _, _, _, rfl, rfl, SqL.of hl2, rfl, _, _, rfl, rfl, wide_div (b := 3) (by decide) (by decide) (by decide) (by decide), _, rfl, _, _, rfl, rfl, m0, ?_⟩
        have i0 := d.i0
        exact k ((m * 48271 + 11) % 2147483647 / 7 % many) (i + 1) ((m * 48271 + 11) % 2147483647) c (Int.emod_nonneg _ (by omega)) (Int.emod_lt_of_pos _ m0) ⟨by omega, n0, n1, d.c0⟩
abbrev s_law_share : Stmt := top 22
theorem sc_law_share : FnScope ["_law_state", "_law_beats"] ["_law_state"] (defScope s_law_share) := ⟨rfl, rfl, rfl, by decide +kernel, rfl, by decide +kernel, by decide +kernel⟩
/-- _law_share(state): a new pair of beats and pulses -/
def spShare (K : PySem.W.Frag) : Sp := fun vs H Q _ => ∃ (st a : Addr) (ns : List Int), vs = [.ref st] ∧ SOk K a ns st H ∧
  ∀ (b p : Int) (t : Addr) (H' : Hp), 1 ≤ b → b ≤ 64 → 0 ≤ p → p ≤ b → H t = none → Keep st H H' → SOk K a ns st H' → H' t = some (.tup [.int b, .int p]) → Q (.ref t) H'
theorem ok_law_share {f : Addr} {fd : FuncData} (F : FunG K mg "_law_share" s_law_share f fd ["_law_state"]) (c_law_drawn : Cl P w K mg base CX0 1 "_law_drawn" (spDrawn K)) : FnOk P w K mg base CX0 2 f fd ["_law_state"] (spShare K) := by
  refine F.fn.ok sc_law_share (fun vs H Q E h => ?_) (fun cdv A outer s H vs Q E hr h => ?_)
  · obtain ⟨st, a, ns, rfl, _⟩ := h
    rfl
  · obtain ⟨st, a, ns, rfl, hs, k⟩ := h
    refine ⟨_, (pss_cons (ps_set (i := 1) sc_law_share.nd rfl (.inl rfl) (pe_op op_add pe_int (pe_cl c_law_drawn hr (by decide) (by rfl) (pa_cons (pv 0) (pa_cons (pe_ix (ixL K) (pe_lst (pa_cons pe_int (pa_cons pe_int (pa_cons pe_int pa_nil)))) (pe_cl c_law_drawn hr (by decide) (by rfl) (pa_cons (pv 0) (pa_cons pe_int pa_nil))) (fun _ _ => rfl)) pa_nil)))))
      (pss_one (ps_ret (pe_tup (pa_cons (pv 1) (pa_cons (pe_ix (ixL K) (pe_lst (pa_cons pe_int (pa_cons (pv 1) (pa_cons (pe_cl c_law_drawn hr (by decide) (by rfl) (pa_cons (pv 0) (pa_cons (pe_op op_add (pv 1) pe_int) pa_nil))) (pa_cons (pe_cl c_law_drawn hr (by decide) (by rfl) (pa_cons (pv 0) (pa_cons (pe_op op_add (pv 1) pe_int) pa_nil))) pa_nil))))) (pe_cl c_law_drawn hr (by decide) (by rfl) (pa_cons (pv 0) (pa_cons pe_int pa_nil))) (fun _ _ => rfl)) pa_nil)))))), ?_⟩
    -- beats = 1 + drawn(state, [6, 16, 64][drawn(state, 3)])
    refine ⟨_, rfl, (by show 3 ≤ sizeLine; decide), fun p1 hp1 => ?_⟩
    have s1 := hs.new (o := .lst [.int 6, .int 16, .int 64]) hp1
    refine ⟨_, rfl, st, a, ns, 3, rfl, s1, by decide, by decide, fun r i m c r0 r1 d => ?_⟩
    have s2 := s1.drawn d
    have n1 := hs.ne_of hp1
    have k2 : Keep st H (upd (upd H p1 (.lst [.int 6, .int 16, .int 64])) st (StO a i m c)) := ((Keep.refl st H).new hp1).atSt
    have hp2 : (upd (upd H p1 (.lst [.int 6, .int 16, .int 64])) st (StO a i m c)) p1 = some (.lst [.int 6, .int 16, .int 64]) := by rw [upd_ne n1, upd_same]
    generalize upd (upd H p1 (.lst [.int 6, .int 16, .int 64])) st (StO a i m c) = H2 at s2 k2 hp2
    have hat : ∃ v : Int, atI [V.int 6, V.int 16, V.int 64] r = some (.int v) ∧ 1 ≤ v ∧ v ≤ 64 := by
      rcases pick3 r0 r1 with e | e | e <;> subst e <;> exact ⟨_, rfl, by decide, by decide⟩
    obtain ⟨v, hv, v0, v1⟩ := hat
    refine ⟨_, _, _, _, rfl, rfl, SqL.of hp2, hv, st, a, ns, v, rfl, s2, by omega, Int.lt_of_le_of_lt v1 (by decide), fun r2 i2 m2 c2 r20 r21 d2 => ?_⟩
    have s3 := s2.drawn d2
    have k3 := k2.atSt (o := StO a i2 m2 c2)
    generalize upd H2 st (StO a i2 m2 c2) = H3 at s3 k3
    -- (beats, [0, beats, drawn(state, beats + 1), drawn(state, beats + 1)][drawn(state, 4)])
    refine ⟨_, _, rfl, rfl, _, rfl, _, rfl, _, rfl, _, rfl, _, _, rfl, rfl, st, a, ns, _, rfl, s3, by omega, Int.lt_of_le_of_lt (show 1 + r2 + 1 ≤ 66 by omega) (by decide), fun r4 i4 m4 c4 r40 r41 d4 => ?_⟩
    have s4 := s3.drawn d4
    have k4 := k3.atSt (o := StO a i4 m4 c4)
    generalize upd H3 st (StO a i4 m4 c4) = H4 at s4 k4
    refine ⟨_, rfl, _, rfl, _, _, rfl, rfl, st, a, ns, _, rfl, s4, by omega, Int.lt_of_le_of_lt (show 1 + r2 + 1 ≤ 66 by omega) (by decide), fun r5 i5 m5 c5 r50 r51 d5 => ?_⟩
    have s5 := s4.drawn d5
    have k5 := k4.atSt (o := StO a i5 m5 c5)
    generalize upd H4 st (StO a i5 m5 c5) = H5 at s5 k5
    refine ⟨(by show 4 ≤ sizeLine; decide), fun p6 hp6 => ?_⟩
    have s6 := s5.new (o := .lst [.int 0, .int (1 + r2), .int r4, .int r5]) hp6
    have k6 := k5.new (o := .lst [.int 0, .int (1 + r2), .int r4, .int r5]) hp6
    have n6 := s5.ne_of hp6
    refine ⟨_, rfl, st, a, ns, 4, rfl, s6, by decide, by decide, fun r7 i7 m7 c7 r70 r71 d7 => ?_⟩
    have s7 := s6.drawn d7
    have k7 := k6.atSt (o := StO a i7 m7 c7)
    have hp7 : (upd (upd H5 p6 (.lst [.int 0, .int (1 + r2), .int r4, .int r5])) st (StO a i7 m7 c7)) p6 = some (.lst [.int 0, .int (1 + r2), .int r4, .int r5]) := by rw [upd_ne n6, upd_same]
    generalize upd (upd H5 p6 (.lst [.int 0, .int (1 + r2), .int r4, .int r5])) st (StO a i7 m7 c7) = H7 at s7 k7 hp7
    have hat : ∃ v : Int, atI [V.int 0, V.int (1 + r2), V.int r4, V.int r5] r7 = some (.int v) ∧ 0 ≤ v ∧ v ≤ 1 + r2 := by
      rcases pick4 r70 r71 with e | e | e | e <;> subst e
      · exact ⟨_, rfl, by omega, by omega⟩
      · exact ⟨_, rfl, by omega, by omega⟩
      · exact ⟨_, rfl, by omega, by omega⟩
      · exact ⟨_, rfl, by omega, by omega⟩
    obtain ⟨q, hq, q0, q1⟩ := hat
    refine ⟨_, _, _, _, rfl, rfl, SqL.of hp7, hq, (by show 2 ≤ sizeLine; decide), fun t ht => ?_⟩
    refine k (1 + r2) q t _ (by omega) (by omega) q0 q1 ?_ (k7.new ht) (s7.new ht) upd_same
    cases e : H t with
    | none => rfl
    | some o =>
      have e2 := k7 t o (s7.ne_of ht) e
      rw [ht] at e2
      cases e2
abbrev s_law_even : Stmt := top 24
theorem sc_law_even : FnScope ["_law_beats", "_law_pulses", "_law_turn", "_law_left", "_law_found", "_law_k"] ["_law_beats", "_law_pulses", "_law_turn"] (defScope s_law_even) := ⟨rfl, rfl, rfl, by decide +kernel, rfl, by decide +kernel, by decide +kernel⟩
/-- _law_even(beats, pulses, turn): the even frame, a new list -/
def spLEven : Sp := fun vs H Q _ => ∃ b p t : Int, vs = [.int b, .int p, .int t] ∧ 0 < b ∧ b ≤ 64 ∧ 0 ≤ p ∧ p ≤ b ∧ t.natAbs < 2 ^ 300 ∧
  ∀ l, H l = none → Q (.ref l) (upd H l (.lst ((evL b p t).map V.int)))
theorem ok_law_even {f : Addr} {fd : FuncData} (F : FunG K mg "_law_even" s_law_even f fd ["_law_beats", "_law_pulses", "_law_turn"]) (T : Txt K mg) : FnOk P w K mg base CX0 1 f fd ["_law_beats", "_law_pulses", "_law_turn"] spLEven := by
  refine F.fn.ok sc_law_even (fun vs H Q E h => ?_) (fun cdv A outer s H vs Q E hr h => ?_)
  · obtain ⟨b, p, t, rfl, _⟩ := h
    rfl
  · obtain ⟨b, p, t, rfl, b0, b1, p0, p1, ht, k⟩ := h
    refine ⟨_, (pss_cons (ps_set (i := 3) sc_law_even.nd rfl (.inl rfl) (pe_op op_mod (pe_op op_mulW (pv 2) (pv 1)) (pv 0)))
      (pss_cons (ps_set (i := 4) sc_law_even.nd rfl (.inl rfl) (pe_lst pa_nil))
      (pss_cons (ps_for PassesOwn.never (by rfl) (pi_range1 (by rfl) T.b_range (pa_cons (pv 0) pa_nil)) (pg_name (i := 5) sc_law_even.nd rfl (.inl rfl)) (pss_cons (ps_set (i := 3) sc_law_even.nd rfl (.inl rfl) (pe_op op_add (pv 3) (pv 1)))
      (pss_cons (ps_expr (pe_bm PySem.F.plainAttrs_list PySem.F.slot_list_append PySem.F.type_list_append mt_append (pv 4) (pa_cons (pe_callTy call_int1 (by rfl) T.b_int (by decide +kernel) (pa_cons (pe_cmpR op_ge (pv 3) (pv 0) (nomark _)) pa_nil)) pa_nil)))
      (pss_one (ps_set (i := 3) sc_law_even.nd rfl (.inl rfl) (pe_op op_sub (pv 3) (pe_op op_mulW (pv 0) (pe_ix (ixL K) (pv 4) (pe_un un_neg pe_int) (fun _ _ => rfl)))))))))
      (pss_one (ps_ret (pv 4)))))), ?_⟩
    refine ⟨_, rfl, _, rfl, _, _, rfl, rfl, wide_mul (a := 300) (b := 7) ht (by omega) (by decide) (by decide) (by decide), _, rfl, _, _, rfl, rfl, b0, ?_⟩
    refine ⟨Nat.zero_le _, fun l hl => ?_⟩
    refine ⟨_, rfl, _, rfl, by omega, by omega, for_range (lo := 0) (n := b.toNat) (fun i σ H' => ∃ v : Option V, σ = [some (.int b), some (.int p), some (.int t), some (.int (evR b p t i)), some (.ref l), v] ∧ H' = upd H l (.lst (((List.range i).map (evB b p t)).map V.int)))
      ⟨none, by unfold evR; simp only [Int.natCast_zero, Int.zero_add]; rfl, rfl⟩ ?_ ?_⟩
    · rintro i σ H' hi ⟨v, rfl, rfl⟩
      refine ⟨_, rfl, _, rfl, _, _, rfl, rfl, ?_⟩
      have hL : upd H l (.lst (((List.range i).map (evB b p t)).map V.int)) l = some (.lst (((List.range i).map (evB b p t)).map V.int)) := upd_same
      refine ⟨_, rfl, .inl ⟨rfl, _, SqL.of hL⟩, _, rfl, _, rfl, _, _, rfl, rfl, .inr ⟨_, rfl, l, _, _, rfl, rfl, hL, small_of (m := 64) (by simp; omega), ?_⟩⟩
      rw [upd_upd]
      have e1 : (if decide (b ≤ evR b p t i + p) = true then (1 : Int) else 0) = evB b p t i := by
        rw [evB_eq b0 p0 p1]
        simp only [decide_eq_true_eq]
      rw [e1]
      have e2 : ((List.range i).map (evB b p t)).map V.int ++ [V.int (evB b p t i)] = ((List.range (i + 1)).map (evB b p t)).map V.int := by
        rw [List.range_succ, List.map_append, List.map_append]; rfl
      have hL2 : upd H l (.lst (((List.range i).map (evB b p t)).map V.int ++ [V.int (evB b p t i)])) l = some (.lst (((List.range i).map (evB b p t)).map V.int ++ [V.int (evB b p t i)])) := upd_same
      refine ⟨_, rfl, _, rfl, _, rfl, _, rfl, _, _, _, _, rfl, rfl, SqL.of hL2, atI_last _ _, _, _, rfl, rfl, wide_mul (a := 7) (b := 2) (by omega) (by rcases evB_01 b0 p0 p1 t i with e | e <;> rw [e] <;> decide) (by decide) (by decide) (by decide), _, _, rfl, rfl, ?_⟩
      refine ⟨some (.int (0 + (i : Int))), ?_, by rw [e2]⟩
      rw [evR_next b0 p0 p1]
      rfl
    · rintro σ H' ⟨v, rfl, rfl⟩
      exact ⟨_, rfl, k l hl⟩
end
end My

namespace My
open PySem PySem.Spec PyProof.Rows LamX L2
section
variable {P : Program} {w : World} {K : PySem.W.Frag} {mg : Str → Option Value} {base : Heap}
abbrev s_law_kind : Stmt := top 20
theorem sc_law_kind : FnScope ["_law_work", "e", "_law_kinds", "_law_words", "_law_word"] ["_law_work"] (defScope s_law_kind) := ⟨rfl, rfl, rfl, by decide +kernel, rfl, by decide +kernel, by decide +kernel⟩
/-- the errors' names -/
def kindW : List Str := ["BadFrame", "BadShare", "BadWidth", "BadBegins", "BadRuns", "NoRoom", "BadText"]
/-- the class of the name x is the j-th of these -/
structure ErrK (K : PySem.W.Frag) (x : Str) (j : Nat) : Prop where
  exc : ExcC K (He.ga K x)
  pe : PySem.W.exmOne K (.ref (He.ga K x)) (.ref (He.ga K "PulseError")) = some true
  k0 : PySem.W.kitOne K (.ref (He.ga K x)) (.ref (He.ga K "BadFrame")) = some (decide (j = 0))
  k1 : PySem.W.kitOne K (.ref (He.ga K x)) (.ref (He.ga K "BadShare")) = some (decide (j = 1))
  k2 : PySem.W.kitOne K (.ref (He.ga K x)) (.ref (He.ga K "BadWidth")) = some (decide (j = 2))
  k3 : PySem.W.kitOne K (.ref (He.ga K x)) (.ref (He.ga K "BadBegins")) = some (decide (j = 3))
  k4 : PySem.W.kitOne K (.ref (He.ga K x)) (.ref (He.ga K "BadRuns")) = some (decide (j = 4))
  k5 : PySem.W.kitOne K (.ref (He.ga K x)) (.ref (He.ga K "NoRoom")) = some (decide (j = 5))
  k6 : PySem.W.kitOne K (.ref (He.ga K x)) (.ref (He.ga K "BadText")) = some (decide (j = 6))
  ve : PySem.W.kitOne K (.ref (He.ga K x)) (.type "ValueError") = some true
  lt : j < 6
  nm : kindW[j]? = some x
/-- _law_kind's making of what it got: its answer, or the error's name -/
def TKind (K : PySem.W.Frag) : (XK → Hp → VK → Prop) → Hp → VK → Prop := fun tl H Q =>
  tl (fun cls d H' => ∃ (x : Str) (j : Nat), cls = .ref (He.ga K x) ∧ d = none ∧ ErrK K x j ∧ ∀ H'', Same H' H'' → Q (.str x) H'') H Q
theorem kind_gives {X : Cx} (T : Txt X.K X.mg) {g : Addr} {cdg : Value} {q : Str} : GivesTo X ["_law_work", "e", "_law_kinds", "_law_words", "_law_word"] "_law_kind" (defScope s_law_kind) g cdg (defBody s_law_kind) "_law_work" q (TKind X.K) := by
  intro f c' s H Q tl act hc h
  refine ⟨_, pss_one (ps_try_as (X := (cxOf C8.CX0 X.prog X.w X.K X.mg X.base ["_law_work", "e", "_law_kinds", "_law_words", "_law_word"] "_law_kind" (defScope s_law_kind) g cdg X.A X.stack s H C8.E0).nox) (i := 1) (c := .ref (He.ga X.K "PulseError"))
      (tb := fun W D σ H => ∃ Ech : XK, (∀ cls d σ' H', Ech cls d H' → W cls d σ' H') ∧ σ[0]? = some (some (.ref f)) ∧ H c' = some (CodeO c' q) ∧ tl Ech H D.rt)
      rfl rfl sc_law_kind.nd rfl (by rfl) ⟨rfl, by decide, .inl T.g_PulseError⟩ L2.takes0 (fun W pn xe tk _ => ?_) (fun a oe cls d pn hz hf => pss_len 5 (pss_cons (ps_set (i := 2) sc_law_kind.nd rfl (.inl rfl) (pe_lst (pa_cons (pe_callB (call_isK hz hf) (by rfl) T.b_isinstance (by decide +kernel) (pa_cons (pv 1) (pa_cons (pe_glob (v := .ref (He.ga X.K "BadFrame")) (by rfl) T.g_BadFrame rfl) pa_nil))) (pa_cons (pe_callB (call_isK hz hf) (by rfl) T.b_isinstance (by decide +kernel) (pa_cons (pv 1) (pa_cons (pe_glob (v := .ref (He.ga X.K "BadShare")) (by rfl) T.g_BadShare rfl) pa_nil))) (pa_cons (pe_callB (call_isK hz hf) (by rfl) T.b_isinstance (by decide +kernel) (pa_cons (pv 1) (pa_cons (pe_glob (v := .ref (He.ga X.K "BadWidth")) (by rfl) T.g_BadWidth rfl) pa_nil))) (pa_cons (pe_callB (call_isK hz hf) (by rfl) T.b_isinstance (by decide +kernel) (pa_cons (pv 1) (pa_cons (pe_glob (v := .ref (He.ga X.K "BadBegins")) (by rfl) T.g_BadBegins rfl) pa_nil))) pa_nil))))))
      (pss_cons (ps_set (i := 2) sc_law_kind.nd rfl (.inl rfl) (pe_op op_cat (pv 2) (pe_lst (pa_cons (pe_callB (call_isK hz hf) (by rfl) T.b_isinstance (by decide +kernel) (pa_cons (pv 1) (pa_cons (pe_glob (v := .ref (He.ga X.K "BadRuns")) (by rfl) T.g_BadRuns rfl) pa_nil))) (pa_cons (pe_callB (call_isK hz hf) (by rfl) T.b_isinstance (by decide +kernel) (pa_cons (pv 1) (pa_cons (pe_glob (v := .ref (He.ga X.K "NoRoom")) (by rfl) T.g_NoRoom rfl) pa_nil))) (pa_cons (pe_callB (call_isK hz hf) (by rfl) T.b_isinstance (by decide +kernel) (pa_cons (pv 1) (pa_cons (pe_glob (v := .ref (He.ga X.K "BadText")) (by rfl) T.g_BadText rfl) pa_nil))) pa_nil))))))
      (pss_cons (ps_set (i := 3) sc_law_kind.nd rfl (.inl rfl) (pe_lst (pa_cons pe_str (pa_cons pe_str (pa_cons pe_str (pa_cons pe_str (pa_cons pe_str (pa_cons pe_str (pa_cons pe_str pa_nil)))))))))
      (pss_cons (ps_if (PW.pt (pw_or (pt_cmpR op_ne (pe_bmK X.K PySem.F.plainAttrs_list PySem.F.slot_list_count PySem.F.type_list_count (mtCntK X.K) (pv 2) (pa_cons pe_bl pa_nil)) pe_int (nomark _)) (pw_or1 (pt_not (pt_val (pe_callB (call_isK hz hf) (by rfl) T.b_isinstance (by decide +kernel) (pa_cons (pv 1) (pa_cons (pe_bltn (v := .ty "ValueError") (u := .type "ValueError") (by rfl) T.b_ValueError (by decide +kernel) rfl) pa_nil)))))))) (pss_one (ps_ret pe_str)) pss_nil)
      (pss_cons (ps_set (i := 4) sc_law_kind.nd rfl (.inl rfl) (pe_ix (ixL X.K) (pv 3) (pe_bmK X.K PySem.F.plainAttrs_list PySem.F.slot_list_index PySem.F.type_list_index (mtIndexK X.K) (pv 2) (pa_cons pe_bl pa_nil)) (fun _ _ => rfl)))
      (pss_one (ps_ret (pe_ifExp (pt_cmpR op_eq (pv 4) pe_str (nomark _)) (pe_tup (pa_cons (pv 4) (pa_cons pe_nev pa_nil))) (pv 4))))))))))), ?_⟩
  · refine ⟨fun pins s' σ H' D I h' => ?_⟩
    obtain ⟨Ech, hW, h1, h2, h3⟩ := h'
    exact (pss_one (ps_ret (act W pn xe Ech _ _ tk hW))).run pins s' σ H' D I ⟨h1, h2, h3⟩
  · refine ⟨fun cls d H' => ∃ (x : Str) (j : Nat), cls = .ref (He.ga X.K x) ∧ d = none ∧ ErrK X.K x j ∧ ∀ H'', Same H' H'' → Q (.str x) H'', ?_, rfl, hc, h⟩
    rintro cls d σ' H' ⟨x, j, rfl, rfl, E, k⟩
    refine ⟨true, E.pe, fun _ a ha hlen => ?_, fun z => nomatch z⟩
    rw [List.length_set] at hlen
    obtain ⟨v0, v1, v2, v3, v4, rfl⟩ := five hlen
    have hj := E.lt
    refine ⟨_, rfl, _, _, _, _, rfl, rfl, E.exc, rfl, (fun _ h => h), E.k0, _, rfl, _, _, _, _, rfl, rfl, E.exc, rfl, (fun _ h => h), E.k1, _, rfl, _, _, _, _, rfl, rfl, E.exc, rfl, (fun _ h => h), E.k2, _, rfl, _, _, _, _, rfl, rfl, E.exc, rfl, (fun _ h => h), E.k3, (by show 4 ≤ sizeLine; decide), fun p1 hp1 => ?_⟩
    have e1 : Same H' (upd H' p1 (.lst [.bl (decide (j = 0)), .bl (decide (j = 1)), .bl (decide (j = 2)), .bl (decide (j = 3))])) := Same.upd hp1
    have h1 : upd H' p1 (.lst [.bl (decide (j = 0)), .bl (decide (j = 1)), .bl (decide (j = 2)), .bl (decide (j = 3))]) p1 = some (.lst [.bl (decide (j = 0)), .bl (decide (j = 1)), .bl (decide (j = 2)), .bl (decide (j = 3))]) := upd_same
    generalize upd H' p1 (.lst [.bl (decide (j = 0)), .bl (decide (j = 1)), .bl (decide (j = 2)), .bl (decide (j = 3))]) = H1 at e1 h1
    refine ⟨_, rfl, _, rfl, _, _, _, _, rfl, rfl, E.exc, rfl, (fun _ h => h), E.k4, _, rfl, _, _, _, _, rfl, rfl, E.exc, rfl, (fun _ h => h), E.k5, _, rfl, _, _, _, _, rfl, rfl, E.exc, rfl, (fun _ h => h), E.k6, (by show 3 ≤ sizeLine; decide), fun p2 hp2 => ?_⟩
    have e2 : Same H' (upd H1 p2 (.lst [.bl (decide (j = 4)), .bl (decide (j = 5)), .bl (decide (j = 6))])) := e1.new hp2
    have h12 : upd H1 p2 (.lst [.bl (decide (j = 4)), .bl (decide (j = 5)), .bl (decide (j = 6))]) p1 = _ := (upd_ne (ne_of_none h1 hp2)).trans h1
    have h2 : upd H1 p2 (.lst [.bl (decide (j = 4)), .bl (decide (j = 5)), .bl (decide (j = 6))]) p2 = some (.lst [.bl (decide (j = 4)), .bl (decide (j = 5)), .bl (decide (j = 6))]) := upd_same
    generalize upd H1 p2 (.lst [.bl (decide (j = 4)), .bl (decide (j = 5)), .bl (decide (j = 6))]) = H2 at e2 h12 h2
    refine ⟨_, _, _, _, rfl, rfl, h12, h2, (by show 7 ≤ sizeLine; decide), fun p3 hp3 => ?_⟩
    have e3 : Same H' (upd H2 p3 (.lst ([.bl (decide (j = 0)), .bl (decide (j = 1)), .bl (decide (j = 2)), .bl (decide (j = 3))] ++ [.bl (decide (j = 4)), .bl (decide (j = 5)), .bl (decide (j = 6))]))) := e2.new hp3
    have h3 : upd H2 p3 (.lst ([.bl (decide (j = 0)), .bl (decide (j = 1)), .bl (decide (j = 2)), .bl (decide (j = 3))] ++ [.bl (decide (j = 4)), .bl (decide (j = 5)), .bl (decide (j = 6))])) p3 = some (.lst [.bl (decide (j = 0)), .bl (decide (j = 1)), .bl (decide (j = 2)), .bl (decide (j = 3)), .bl (decide (j = 4)), .bl (decide (j = 5)), .bl (decide (j = 6))]) := upd_same
    generalize upd H2 p3 (.lst ([.bl (decide (j = 0)), .bl (decide (j = 1)), .bl (decide (j = 2)), .bl (decide (j = 3))] ++ [.bl (decide (j = 4)), .bl (decide (j = 5)), .bl (decide (j = 6))])) = H3 at e3 h3
    refine ⟨(by show 7 ≤ sizeLine; decide), fun p4 hp4 => ?_⟩
    have e4 : Same H' (upd H3 p4 (.lst [V.str "BadFrame", V.str "BadShare", V.str "BadWidth", V.str "BadBegins", V.str "BadRuns", V.str "NoRoom", V.str "BadText"])) := e3.new hp4
    have h34 : upd H3 p4 (.lst [V.str "BadFrame", V.str "BadShare", V.str "BadWidth", V.str "BadBegins", V.str "BadRuns", V.str "NoRoom", V.str "BadText"]) p3 = _ := (upd_ne (ne_of_none h3 hp4)).trans h3
    have h4 : upd H3 p4 (.lst [V.str "BadFrame", V.str "BadShare", V.str "BadWidth", V.str "BadBegins", V.str "BadRuns", V.str "NoRoom", V.str "BadText"]) p4 = some (.lst [V.str "BadFrame", V.str "BadShare", V.str "BadWidth", V.str "BadBegins", V.str "BadRuns", V.str "NoRoom", V.str "BadText"]) := upd_same
    have fin := k _ e4
    generalize upd H3 p4 (.lst [V.str "BadFrame", V.str "BadShare", V.str "BadWidth", V.str "BadBegins", V.str "BadRuns", V.str "NoRoom", V.str "BadText"]) = H4 at e4 h34 h4 fin
    have hnm := E.nm
    have six : j = 0 ∨ j = 1 ∨ j = 2 ∨ j = 3 ∨ j = 4 ∨ j = 5 := by omega
    rcases six with e | e | e | e | e | e <;> subst e <;> cases hnm
    · refine ⟨_, rfl, .inl ⟨rfl, _, SqL.of h34⟩, _, _, _, rfl, rfl, SqL.of h34, rfl, rfl, rfl, _, rfl, iteFe rfl ⟨_, rfl, _, _, _, _, rfl, rfl, E.exc, rfl, (fun _ h => h), E.ve, _, rfl, iteF ?_⟩⟩
      refine ⟨_, rfl, _, rfl, .inl ⟨rfl, _, SqL.of h34⟩, _, _, _, 0, _, rfl, rfl, SqL.of h34, rfl, rfl, rfl, rfl, noAhead [decide (0 = 0), decide (0 = 1), decide (0 = 2), decide (0 = 3), decide (0 = 4), decide (0 = 5), decide (0 = 6)] 0 (by decide), _, _, _, _, rfl, rfl, SqL.of h4, at_of (j := 0) rfl rfl, ?_⟩
      exact ⟨_, rfl, rfl, _, rfl, iteFe (by decide) ⟨_, rfl, fin⟩⟩
    · refine ⟨_, rfl, .inl ⟨rfl, _, SqL.of h34⟩, _, _, _, rfl, rfl, SqL.of h34, rfl, rfl, rfl, _, rfl, iteFe rfl ⟨_, rfl, _, _, _, _, rfl, rfl, E.exc, rfl, (fun _ h => h), E.ve, _, rfl, iteF ?_⟩⟩
      refine ⟨_, rfl, _, rfl, .inl ⟨rfl, _, SqL.of h34⟩, _, _, _, 1, _, rfl, rfl, SqL.of h34, rfl, rfl, rfl, rfl, noAhead [decide (1 = 0), decide (1 = 1), decide (1 = 2), decide (1 = 3), decide (1 = 4), decide (1 = 5), decide (1 = 6)] 1 (by decide), _, _, _, _, rfl, rfl, SqL.of h4, at_of (j := 1) rfl rfl, ?_⟩
      exact ⟨_, rfl, rfl, _, rfl, iteFe (by decide) ⟨_, rfl, fin⟩⟩
    · refine ⟨_, rfl, .inl ⟨rfl, _, SqL.of h34⟩, _, _, _, rfl, rfl, SqL.of h34, rfl, rfl, rfl, _, rfl, iteFe rfl ⟨_, rfl, _, _, _, _, rfl, rfl, E.exc, rfl, (fun _ h => h), E.ve, _, rfl, iteF ?_⟩⟩
      refine ⟨_, rfl, _, rfl, .inl ⟨rfl, _, SqL.of h34⟩, _, _, _, 2, _, rfl, rfl, SqL.of h34, rfl, rfl, rfl, rfl, noAhead [decide (2 = 0), decide (2 = 1), decide (2 = 2), decide (2 = 3), decide (2 = 4), decide (2 = 5), decide (2 = 6)] 2 (by decide), _, _, _, _, rfl, rfl, SqL.of h4, at_of (j := 2) rfl rfl, ?_⟩
      exact ⟨_, rfl, rfl, _, rfl, iteFe (by decide) ⟨_, rfl, fin⟩⟩
    · refine ⟨_, rfl, .inl ⟨rfl, _, SqL.of h34⟩, _, _, _, rfl, rfl, SqL.of h34, rfl, rfl, rfl, _, rfl, iteFe rfl ⟨_, rfl, _, _, _, _, rfl, rfl, E.exc, rfl, (fun _ h => h), E.ve, _, rfl, iteF ?_⟩⟩
      refine ⟨_, rfl, _, rfl, .inl ⟨rfl, _, SqL.of h34⟩, _, _, _, 3, _, rfl, rfl, SqL.of h34, rfl, rfl, rfl, rfl, noAhead [decide (3 = 0), decide (3 = 1), decide (3 = 2), decide (3 = 3), decide (3 = 4), decide (3 = 5), decide (3 = 6)] 3 (by decide), _, _, _, _, rfl, rfl, SqL.of h4, at_of (j := 3) rfl rfl, ?_⟩
      exact ⟨_, rfl, rfl, _, rfl, iteFe (by decide) ⟨_, rfl, fin⟩⟩
    · refine ⟨_, rfl, .inl ⟨rfl, _, SqL.of h34⟩, _, _, _, rfl, rfl, SqL.of h34, rfl, rfl, rfl, _, rfl, iteFe rfl ⟨_, rfl, _, _, _, _, rfl, rfl, E.exc, rfl, (fun _ h => h), E.ve, _, rfl, iteF ?_⟩⟩
      refine ⟨_, rfl, _, rfl, .inl ⟨rfl, _, SqL.of h34⟩, _, _, _, 4, _, rfl, rfl, SqL.of h34, rfl, rfl, rfl, rfl, noAhead [decide (4 = 0), decide (4 = 1), decide (4 = 2), decide (4 = 3), decide (4 = 4), decide (4 = 5), decide (4 = 6)] 4 (by decide), _, _, _, _, rfl, rfl, SqL.of h4, at_of (j := 4) rfl rfl, ?_⟩
      exact ⟨_, rfl, rfl, _, rfl, iteFe (by decide) ⟨_, rfl, fin⟩⟩
    · refine ⟨_, rfl, .inl ⟨rfl, _, SqL.of h34⟩, _, _, _, rfl, rfl, SqL.of h34, rfl, rfl, rfl, _, rfl, iteFe rfl ⟨_, rfl, _, _, _, _, rfl, rfl, E.exc, rfl, (fun _ h => h), E.ve, _, rfl, iteF ?_⟩⟩
      refine ⟨_, rfl, _, rfl, .inl ⟨rfl, _, SqL.of h34⟩, _, _, _, 5, _, rfl, rfl, SqL.of h34, rfl, rfl, rfl, rfl, noAhead [decide (5 = 0), decide (5 = 1), decide (5 = 2), decide (5 = 3), decide (5 = 4), decide (5 = 5), decide (5 = 6)] 5 (by decide), _, _, _, _, rfl, rfl, SqL.of h4, at_of (j := 5) rfl rfl, ?_⟩
      exact ⟨_, rfl, rfl, _, rfl, iteFe (by decide) ⟨_, rfl, fin⟩⟩
end
end My

namespace My
open PySem PySem.Spec PyProof.Rows LamX L2
section
variable {P : Program} {w : World} {K : PySem.W.Frag} {mg : Str → Option Value} {base : Heap}
abbrev s_law_frame : Stmt := top 23
theorem sc_law_frame : FnScope ["_law_state", "_law_beats", "_law_pulses", "_law_often", "_law_k", "_law_found", "_law_turn", "_law_one", "_law_other", "_law_had"] ["_law_state"] (defScope s_law_frame) := ⟨rfl, rfl, rfl, by decide +kernel, rfl, by decide +kernel, by decide +kernel⟩
/-- _law_frame(state): some frame, a new list -/
def spFrame (K : PySem.W.Frag) : Sp := fun vs H Q _ => ∃ (st a : Addr) (ns : List Int), vs = [.ref st] ∧ SOk K a ns st H ∧
  ∀ (fs : List Int) (l : Addr) (H' : Hp), Frm fs → H l = none → Keep st H H' → SOk K a ns st H' → H' l = some (.lst (fs.map V.int)) → Q (.ref l) H'
theorem set_bit {fs : List Int} (h : ∀ f ∈ fs, f = 0 ∨ f = 1) {z : Int} (hz : z = 0 ∨ z = 1) (j : Nat) : ∀ f ∈ fs.set j z, f = 0 ∨ f = 1 := fun f hf => by
  rcases List.mem_or_eq_of_mem_set hf with m | e
  · exact h f m
  · rw [e]; exact hz
theorem ok_law_frame {f : Addr} {fd : FuncData} (F : FunG K mg "_law_frame" s_law_frame f fd ["_law_state"]) (T : Txt K mg) (c_law_drawn : Cl P w K mg base CX0 1 "_law_drawn" (spDrawn K)) (c_law_share : Cl P w K mg base CX0 2 "_law_share" (spShare K))
    (c_law_even : Cl P w K mg base CX0 1 "_law_even" spLEven) : FnOk P w K mg base CX0 3 f fd ["_law_state"] (spFrame K) := by
  refine F.fn.ok sc_law_frame (fun vs H Q E h => ?_) (fun cdv A outer s H vs Q E hr h => ?_)
  · obtain ⟨st, a, ns, rfl, _⟩ := h
    rfl
  · obtain ⟨st, a, ns, rfl, hs, k⟩ := h
    refine ⟨_, (pss_cons (ps_asg (pe_cl c_law_share hr (by decide) (by rfl) (pa_cons (pv 0) pa_nil)) (pg_tup (by rfl) (pgs_cons (pg_name (i := 1) sc_law_frame.nd rfl (.inl rfl)) (pgs_cons (pg_name (i := 2) sc_law_frame.nd rfl (.inl rfl)) pgs_nil))))
      (pss_cons (ps_if (pt_cmpR op_eq (pe_cl c_law_drawn hr (by decide) (by rfl) (pa_cons (pv 0) (pa_cons pe_int pa_nil))) pe_int (nomark _)) (pss_cons (ps_set (i := 3) sc_law_frame.nd rfl (.inr rfl) (pe_op op_add pe_int (pe_cl c_law_drawn hr (by decide) (by rfl) (pa_cons (pv 0) (pa_cons pe_int pa_nil)))))
      (pss_one (ps_ret (pe_lc (own := [("_law_k", 4)]) (g := gName 4) (tt := tYes) (by rfl) sc_law_frame.nd (pi_range1 (by rfl) T.b_range (pa_cons (pv 1) pa_nil)) (blkOk_by (own := [("_law_k", 4)]) (N := ["_law_state", "_law_beats", "_law_pulses", "_law_often", "_law_k", "_law_found", "_law_turn", "_law_one", "_law_other", "_law_had"]) (sc := defScope s_law_frame) (by decide +kernel)) (fun _ _ _ _ _ => (pg_name (i := 4) sc_law_frame.nd rfl (.inl rfl))) (fun _ _ _ _ _ => pts_nil) (fun _ _ _ _ _ => (pe_callTy call_int1 (by rfl) T.b_int (by decide +kernel) (pa_cons (pe_cmpR op_eq (pe_cl c_law_drawn hr (by decide) (by rfl) (pa_cons (pv 0) (pa_cons (pv 3) pa_nil))) pe_int (nomark _)) pa_nil))))))) pss_nil)
      (pss_cons (ps_set (i := 5) sc_law_frame.nd rfl (.inl rfl) (pe_cl c_law_even hr (by decide) (by rfl) (pa_cons (pv 1) (pa_cons (pv 2) (pa_cons (pe_cl c_law_drawn hr (by decide) (by rfl) (pa_cons (pv 0) (pa_cons (pv 1) pa_nil))) pa_nil)))))
      (pss_cons (ps_for PassesOwn.never (by rfl) (pi_range1 (by rfl) T.b_range (pa_cons (pe_cl c_law_drawn hr (by decide) (by rfl) (pa_cons (pv 0) (pa_cons pe_int pa_nil))) pa_nil)) (pg_name (i := 6) sc_law_frame.nd rfl (.inl rfl)) (pss_cons (ps_par (i := 7) (j := 8) (by rfl) sc_law_frame.nd rfl rfl (by decide) rfl rfl (pa_cons (pe_cl c_law_drawn hr (by decide) (by rfl) (pa_cons (pv 0) (pa_cons (pv 1) pa_nil))) (pa_cons (pe_cl c_law_drawn hr (by decide) (by rfl) (pa_cons (pv 0) (pa_cons (pv 1) pa_nil))) pa_nil)) (by rfl))
      (pss_cons (ps_set (i := 9) sc_law_frame.nd rfl (.inl rfl) (pe_ix (ixL K) (pv 5) (pv 7) (fun _ _ => rfl)))
      (pss_cons (ps_asg (pe_ix (ixL K) (pv 5) (pv 8) (fun _ _ => rfl)) (pg_sub (pv 5) (pv 7) set_list))
      (pss_one (ps_asg (pv 9) (pg_sub (pv 5) (pv 8) set_list)))))))
      (pss_one (ps_ret (pv 5))))))), ?_⟩
    refine ⟨_, rfl, st, a, ns, rfl, hs, fun b p t H1 b0 b1 p0 p1 ht k1 s1 ht1 => ⟨_, _, rfl, SqT.of ht1, rfl, ?_⟩⟩
    refine ⟨_, _, rfl, _, _, rfl, rfl, ?_⟩
    refine ⟨_, rfl, st, a, ns, 2, rfl, s1, by decide, by decide, fun r i2 m2 c2 r0 r1 d2 => ?_⟩
    have s2 := s1.drawn d2
    have k2 := k1.atSt (o := StO a i2 m2 c2)
    generalize upd H1 st (StO a i2 m2 c2) = H2 at s2 k2
    refine ⟨rfl, _, rfl, ite2 (fun hc => ?_) (fun hc => ?_)⟩
    · -- any frame
      refine ⟨_, rfl, st, a, ns, 4, rfl, s2, by decide, by decide, fun r3 i3 m3 c3 r30 r31 d3 => ?_⟩
      have s3 := s2.drawn d3
      have k3 := k2.atSt (o := StO a i3 m3 c3)
      generalize upd H2 st (StO a i3 m3 c3) = H3 at s3 k3
      refine ⟨_, _, rfl, rfl, ?_⟩
      refine ⟨_, rfl, _, rfl, by omega, by omega, fun D hD => ?_⟩
      have nD := s3.ne_of hD
      have hDn : H D = none := k3.free nD hD
      refine lc_range (lo := 0) (n := b.toNat) (fun i H' => SOk K a ns st H' ∧ Keep st H H' ∧ ∃ fs : List Int, fs.length = i ∧ (∀ f ∈ fs, f = 0 ∨ f = 1) ∧ H' D = some (.lst (fs.map V.int))) ⟨s3.new hD, k3.new hD, [], rfl, by simp, upd_same⟩ ?_ ?_
      · rintro i H' hi ⟨s4, k4, fs, hl, hb, hd⟩
        refine ⟨rfl, _, rfl, _, rfl, st, a, ns, _, rfl, s4, by omega, Int.lt_of_le_of_lt (show 2 + r3 ≤ 10 by omega) (by decide), fun r5 i5 m5 c5 r50 r51 d5 => ?_⟩
        have s5 := s4.drawn d5
        have k5 := k4.atSt (o := StO a i5 m5 c5)
        have hd5 : upd H' st (StO a i5 m5 c5) D = some (.lst (fs.map V.int)) := by rw [upd_ne nD]; exact hd
        generalize upd H' st (StO a i5 m5 c5) = H5 at s5 k5 hd5
        refine ⟨rfl, .inr ⟨_, rfl, _, hd5, small_of (m := 64) (by rw [List.length_map, hl]; omega), ?_⟩⟩
        refine ⟨s5.mutK hs k5 hDn, k5.mut hDn, fs ++ [if (decide (V.int r5 = V.int 0)) = true then 1 else 0], by rw [List.length_append, hl]; rfl, fun z hz => ?_, by rw [upd_same, List.map_append]; rfl⟩
        rcases List.mem_append.mp hz with m | m
        · exact hb z m
        · rw [List.mem_singleton.mp m]; split <;> simp
      · rintro H' ⟨s4, k4, fs, hl, hb, hd⟩
        exact k fs D H' ⟨by omega, by omega, hb⟩ hDn k4 s4 hd
    · -- a told one, beats exchanged
      refine ⟨_, rfl, _, rfl, _, rfl, _, rfl, st, a, ns, b, rfl, s2, by omega, Int.lt_of_le_of_lt b1 (by decide), fun r3 i3 m3 c3 r30 r31 d3 => ?_⟩
      have s3 := s2.drawn d3
      have k3 := k2.atSt (o := StO a i3 m3 c3)
      generalize upd H2 st (StO a i3 m3 c3) = H3 at s3 k3
      refine ⟨b, p, r3, rfl, by omega, b1, p0, p1, Nat.lt_of_lt_of_le (show r3.natAbs < 100 by omega) (by decide), fun l hl => ?_⟩
      have nl := s3.ne_of hl
      have hln : H l = none := k3.free nl hl
      have s4 := s3.new (o := .lst ((evL b p r3).map V.int)) hl
      have k4 := k3.new (o := .lst ((evL b p r3).map V.int)) hl
      have hl4 : upd H3 l (.lst ((evL b p r3).map V.int)) l = some (.lst ((evL b p r3).map V.int)) := upd_same
      generalize upd H3 l (.lst ((evL b p r3).map V.int)) = H4 at s4 k4 hl4
      have hfr := evL_frm b0 b1 p0 p1 r3
      have hfl : (evL b p r3).length = b.toNat := evL_len b p r3
      refine ⟨_, rfl, st, a, ns, 3, rfl, s4, by decide, by decide, fun r5 i5 m5 c5 r50 r51 d5 => ?_⟩
      have s5 := s4.drawn d5
      have k5 := k4.atSt (o := StO a i5 m5 c5)
      have hl5 : upd H4 st (StO a i5 m5 c5) l = some (.lst ((evL b p r3).map V.int)) := by rw [upd_ne nl]; exact hl4
      generalize upd H4 st (StO a i5 m5 c5) = H5 at s5 k5 hl5
      refine ⟨_, rfl, by omega, by omega, for_range (lo := 0) (n := r5.toNat) (fun i σ H' => (∃ v3 v4 v6 v7 v8 v9 : Option V, σ = [some (.ref st), some (.int b), some (.int p), v3, v4, some (.ref l), v6, v7, v8, v9]) ∧ SOk K a ns st H' ∧ Keep st H H' ∧ ∃ fs : List Int, fs.length = b.toNat ∧ (∀ f ∈ fs, f = 0 ∨ f = 1) ∧ H' l = some (.lst (fs.map V.int)))
        ⟨⟨_, _, _, _, _, _, rfl⟩, s5, k5, _, hfl, hfr.bit, hl5⟩ ?_ ?_⟩
      · rintro i σ H' hi ⟨⟨v3, v4, v6, v7, v8, v9, rfl⟩, s6, k6, fs, hfl6, hb6, hl6⟩
        refine ⟨_, rfl, _, rfl, st, a, ns, b, rfl, s6, by omega, Int.lt_of_le_of_lt b1 (by decide), fun r7 i7 m7 c7 r70 r71 d7 => ?_⟩
        have s7 := s6.drawn d7
        have k7 := k6.atSt (o := StO a i7 m7 c7)
        have hl7 : upd H' st (StO a i7 m7 c7) l = some (.lst (fs.map V.int)) := by rw [upd_ne nl]; exact hl6
        generalize upd H' st (StO a i7 m7 c7) = H7 at s7 k7 hl7
        refine ⟨_, rfl, _, rfl, st, a, ns, b, rfl, s7, by omega, Int.lt_of_le_of_lt b1 (by decide), fun r8 i8 m8 c8 r80 r81 d8 => ?_⟩
        have s8 := s7.drawn d8
        have k8 := k7.atSt (o := StO a i8 m8 c8)
        have hl8 : upd H7 st (StO a i8 m8 c8) l = some (.lst (fs.map V.int)) := by rw [upd_ne nl]; exact hl7
        generalize upd H7 st (StO a i8 m8 c8) = H8 at s8 k8 hl8
        refine ⟨_, _, rfl, ?_⟩
        have j7 : r7.toNat < fs.length := by omega
        have j8 : r8.toNat < fs.length := by omega
        have q7 : r7 = (r7.toNat : Int) := by omega
        have q8 : r8 = (r8.toNat : Int) := by omega
        have gb : ∀ j : Nat, fs.getD j 0 = 0 ∨ fs.getD j 0 = 1 := fun j => (Frm.getD (fs := fs) ⟨by omega, by omega, hb6⟩ j)
        have ix : ∀ {z : Int} {j : Nat} {n : Nat}, z = (j : Int) → j < n → ixN n z = some j := fun {z j n} e h => by
          subst e; unfold ixN; rw [if_pos (by omega), if_pos (by omega), Int.toNat_natCast]
        refine ⟨_, rfl, _, rfl, _, _, _, _, rfl, rfl, SqL.of hl8, atV q7 j7, ?_⟩
        refine ⟨_, rfl, _, rfl, _, _, _, _, rfl, rfl, SqL.of hl8, atV q8 j8, _, rfl, _, rfl, l, _, _, r7.toNat, rfl, rfl, hl8, ix q7 (by rw [List.length_map]; exact j7), ?_⟩
        have e9 : (fs.map V.int).set r7.toNat (.int (fs.getD r8.toNat 0)) = (fs.set r7.toNat (fs.getD r8.toNat 0)).map V.int := List.map_set.symm
        rw [e9]
        have s9 := s8.mutK (o := .lst ((fs.set r7.toNat (fs.getD r8.toNat 0)).map V.int)) hs k8 hln
        have k9 := k8.mut (o := .lst ((fs.set r7.toNat (fs.getD r8.toNat 0)).map V.int)) hln
        have hl9 : upd H8 l (.lst ((fs.set r7.toNat (fs.getD r8.toNat 0)).map V.int)) l = some (.lst ((fs.set r7.toNat (fs.getD r8.toNat 0)).map V.int)) := upd_same
        generalize upd H8 l (.lst ((fs.set r7.toNat (fs.getD r8.toNat 0)).map V.int)) = H9 at s9 k9 hl9
        refine ⟨_, rfl, _, rfl, _, rfl, l, _, _, r8.toNat, rfl, rfl, hl9, ix q8 (by rw [List.length_map, List.length_set]; exact j8), ?_⟩
        have e10 : ((fs.set r7.toNat (fs.getD r8.toNat 0)).map V.int).set r8.toNat (.int (fs.getD r7.toNat 0)) = ((fs.set r7.toNat (fs.getD r8.toNat 0)).set r8.toNat (fs.getD r7.toNat 0)).map V.int := List.map_set.symm
        rw [e10]
        exact ⟨⟨_, _, _, _, _, _, rfl⟩, s9.mutK hs k9 hln, k9.mut hln, _, by rw [List.length_set, List.length_set]; exact hfl6, set_bit (set_bit hb6 (gb _) _) (gb _) _, upd_same⟩
      · rintro σ H' ⟨⟨v3, v4, v6, v7, v8, v9, rfl⟩, s6, k6, fs, hfl6, hb6, hl6⟩
        exact ⟨_, rfl, k fs l H' ⟨by omega, by omega, hb6⟩ hln k6 s6 hl6⟩
abbrev s_law_windows : Stmt := top 25
theorem sc_law_windows : FnScope ["_law_frame_here", "_law_width", "_law_many", "_law_around", "_law_k"] ["_law_frame_here", "_law_width"] (defScope s_law_windows) := ⟨rfl, rfl, rfl, by decide +kernel, rfl, by decide +kernel, by decide +kernel⟩
/-- _law_windows(frame, width): all windows, counted -/
def spWindows : Sp := fun vs H Q _ => ∃ (l : Addr) (fs : List Int) (w : Nat), vs = [.ref l, .int (w : Int)] ∧ H l = some (.lst (fs.map V.int)) ∧ Frm fs ∧ w ≤ 10000 ∧
  ∀ p H', Same H H' → H p = none → H' p = some (.lst ((wins fs w).map V.int)) → Q (.ref p) H'
theorem ok_law_windows {f : Addr} {fd : FuncData} (F : FunG K mg "_law_windows" s_law_windows f fd ["_law_frame_here", "_law_width"]) (T : Txt K mg) : FnOk P w K mg base CX0 1 f fd ["_law_frame_here", "_law_width"] spWindows := by
  refine F.fn.ok sc_law_windows (fun vs H Q E h => ?_) (fun cdv A outer s H vs Q E hr h => ?_)
  · obtain ⟨l, fs, w, rfl, _⟩ := h
    rfl
  · obtain ⟨l, fs, w, rfl, hl, hf, hw, k⟩ := h
    refine ⟨_, (pss_cons (ps_set (i := 2) sc_law_windows.nd rfl (.inl rfl) (pe_callB (clLen K) (by rfl) T.b_len (by decide +kernel) (pa_cons (pv 0) pa_nil)))
      (pss_cons (ps_set (i := 3) sc_law_windows.nd rfl (.inr rfl) (pe_op op_rep (pv 0) (pe_op op_add (pe_op op_fdivW (pv 1) (pv 2)) pe_int)))
      (pss_one (ps_ret (pe_lc (own := [("_law_k", 4)]) (g := gName 4) (tt := tYes) (by rfl) sc_law_windows.nd (pi_range1 (by rfl) T.b_range (pa_cons (pv 2) pa_nil)) (blkOk_by (own := [("_law_k", 4)]) (N := ["_law_frame_here", "_law_width", "_law_many", "_law_around", "_law_k"]) (sc := defScope s_law_windows) (by decide +kernel)) (fun _ _ _ _ _ => (pg_name (i := 4) sc_law_windows.nd rfl (.inl rfl))) (fun _ _ _ _ _ => pts_nil) (fun _ _ _ _ _ => (pe_callB (clSum K rfl) (by rfl) T.b_sum (by decide +kernel) (pa_cons (pe_slice (slL K) (pv 3) (po_some (pv 4)) (po_some (pe_op op_add (pv 4) (pv 1)))) pa_nil)))))))), ?_⟩
    have h0 := hf.pos
    have h1 := hf.le
    have hlen : (fs.map V.int).length = fs.length := List.length_map _
    have hS : SqL K H l (fs.map V.int) := SqL.of hl
    have hq10 : w / fs.length ≤ 10000 := Nat.le_trans (Nat.div_le_self _ _) hw
    have em : ((w : Int) / ((fs.map V.int).length : Int) + 2) = ((w / fs.length + 2 : Nat) : Int) := by rw [hlen, Int.natCast_add, Int.natCast_ediv]; rfl
    have hsz : (w / fs.length + 2) * fs.length ≤ 12000 := by
      rw [Nat.add_mul]
      have := Nat.div_mul_le_self w fs.length
      omega
    refine ⟨_, rfl, _, _, rfl, .inl hS, ?_⟩
    refine ⟨_, rfl, _, rfl, _, rfl, _, _, rfl, rfl, wide_div (b := 7) (by rw [hlen]; omega) (by rw [hlen]; omega) (by decide) (by decide), _, _, rfl, rfl, _, _, _, rfl, rfl, hl, ?_⟩
    have hd0 : (0 : Int) ≤ (w : Int) / ((fs.map V.int).length : Int) := Int.ediv_nonneg (by omega) (by omega)
    have hd1 : (w : Int) / ((fs.map V.int).length : Int) ≤ 10000 := by rw [hlen, ← Int.natCast_ediv]; exact Int.ofNat_le.mpr hq10
    refine ⟨by omega, by omega, ?_, fun q hq => ?_⟩
    · rw [em, hlen, Int.toNat_natCast, Nat.mul_comm]
      exact small_le hsz
    rw [em]
    have er : (List.replicate ((w / fs.length + 2 : Nat) : Int).toNat (fs.map V.int)).flatten = (around fs (w / fs.length + 2)).map V.int := by
      rw [Int.toNat_natCast, around, List.map_flatten, List.map_replicate]
    rw [er]
    have hql : upd H q (.lst ((around fs (w / fs.length + 2)).map V.int)) q = some (.lst ((around fs (w / fs.length + 2)).map V.int)) := upd_same
    have e1 : Same H (upd H q (.lst ((around fs (w / fs.length + 2)).map V.int))) := Same.upd hq
    generalize upd H q (.lst ((around fs (w / fs.length + 2)).map V.int)) = H1 at hql e1
    refine ⟨_, rfl, _, rfl, by rw [hlen]; omega, by rw [hlen]; omega, fun D hD => lc_range (lo := 0) (n := ((fs.map V.int).length : Int).toNat) (fun i H' => Same H1 H' ∧ H' D = some (.lst (((List.range i).map (win fs w)).map V.int))) ⟨Same.upd hD, upd_same⟩ ?_ ?_⟩
    · rintro i H' hi ⟨e2, hd⟩
      rw [hlen] at hi
      have hi : i < fs.length := by omega
      have hb : i + w ≤ (w / fs.length + 2) * fs.length := by
        rw [Nat.add_mul]
        have := Nat.div_add_mod w fs.length
        have := Nat.mod_lt w h0
        have := Nat.mul_comm (w / fs.length) fs.length
        omega
      refine ⟨rfl, _, rfl, _, rfl, _, rfl, _, rfl, _, rfl, _, _, rfl, rfl, _, rfl, _, _, rfl, SqL.of (e2 _ _ hql), fun p hp => ?_⟩
      have ec : cutV ((around fs (w / fs.length + 2)).map V.int) (some (0 + (i : Int))) (some (0 + (i : Int) + (w : Int))) = (((around fs (w / fs.length + 2)).drop i).take w).map V.int := by
        rw [Int.zero_add, show (i : Int) + (w : Int) = ((i + w : Nat) : Int) by omega, cut_mid (by omega) (by rw [around_len]; exact hb), Nat.add_sub_cancel_left]
      rw [ec]
      refine ⟨_, _, rfl, SqL.of upd_same, _, by rw [upd_ne (ne_of_none hd hp)]; exact hd, small_of (m := 64) (by simp; omega), ((e2.new hp).mut hD), ?_⟩
      rw [upd_same, around_win hb, List.range_succ, List.map_append, List.map_append]
      rfl
    · rintro H' ⟨e2, hd⟩
      rw [hlen, Int.toNat_natCast] at hd
      exact k D H' (e1.trans e2) (e1.free hD) hd
abbrev s_need_frame : Stmt := top 12
theorem sc_need_frame : FnScope ["frame", "beat"] ["frame"] (defScope s_need_frame) := ⟨rfl, rfl, rfl, by decide +kernel, rfl, by decide +kernel, by decide +kernel⟩
/-- need_frame(frame), a good one -/
def spNeedFrame (K : PySem.W.Frag) : Sp := fun vs H Q _ => ∃ (l : Addr) (fs : List Int), vs = [.ref l] ∧ SqL K H l (fs.map V.int) ∧ Frm fs ∧ ∀ H', Same H H' → Q .non H'
theorem ok_need_frame {f : Addr} {fd : FuncData} (F : FunG K mg "need_frame" s_need_frame f fd ["frame"]) (T : Txt K mg) : FnOk P w K mg base CX0 1 f fd ["frame"] (spNeedFrame K) := by
  refine F.fn.ok sc_need_frame (fun vs H Q E h => ?_) (fun cdv A outer s H vs Q E hr h => ?_)
  · obtain ⟨l, fs, rfl, _⟩ := h
    rfl
  · obtain ⟨l, fs, rfl, hS, hf, k⟩ := h
    refine ⟨_, (pss_one (ps_if (PW.pt (pw_or (pt_not (pt_chain op_le op_le pe_int (pe_callB (clLen K) (by rfl) T.b_len (by decide +kernel) (pa_cons (pv 0) pa_nil)) (C8.pe_gc (by rfl) T.k_MOST_BEATS))) (pw_or1 (pt_cmpR (opNeD K hr.units) (pe_lc (own := [("beat", 1)]) (g := gName 1) (by rfl) sc_need_frame.nd (pi_list (pv 0)) (blkOk_by (own := [("beat", 1)]) (N := ["frame", "beat"]) (sc := defScope s_need_frame) (by decide +kernel)) (fun _ _ _ _ _ => (pg_name (i := 1) sc_need_frame.nd rfl (.inl rfl))) (fun _ _ _ _ _ => (pts_one (pt_cmpR (opNotInQ K) (pv 1) (pe_tup (pa_cons pe_int (pa_cons pe_int pa_nil))) (by rfl)))) (fun _ _ _ _ _ => (pv 1))) (pe_lst pa_nil) (nomark _))))) (pss_one ps_never) pss_nil)), ?_⟩
    have h0 := hf.pos
    have h1 := hf.le
    refine ⟨_, rfl, _, _, rfl, .inl hS, _, _, rfl, rfl, _, rfl, ?_⟩
    rw [decide_eq_true (show (1 : Int) ≤ ((fs.map V.int).length : Int) by rw [List.length_map]; omega)]
    refine iteT ⟨_, _, rfl, rfl, _, rfl, ?_⟩
    rw [decide_eq_true (show ((fs.map V.int).length : Int) ≤ 64 by rw [List.length_map]; omega)]
    refine iteF ⟨_, rfl, _, rfl, ⟨_, hS⟩, fun D hD => lc_list (K := K) (a := l) (xs := fs.map V.int) (fun i H' => Same H H' ∧ H' D = some (.lst [])) ⟨Same.upd hD, upd_same⟩ (fun i H' _ h => h.1.seq hS) ?_ ?_⟩
    · rintro i x H' hi ⟨e, hd⟩
      obtain ⟨z, hz, rfl⟩ := getV hi
      refine ⟨rfl, _, rfl, (by show 2 ≤ sizeLine; decide), fun p hp => ⟨_, _, rfl, .inr (SqT.of upd_same), rfl, rfl, _, rfl, ?_⟩⟩
      have hb : inV (.int z) [.int 0, .int 1] = true := by
        rcases hf.bit z (List.mem_of_getElem? hz) with e | e <;> subst e <;> rfl
      show (if (!inV (.int z) [.int 0, .int 1]) = true then _ else _)
      rw [hb]
      exact iteF ⟨e.new hp, by rw [upd_ne (ne_of_none hd hp)]; exact hd⟩
    · rintro H' ⟨e, hd⟩
      refine ⟨Nat.zero_le _, fun q hq => ⟨_, _, dp_nil (SqL.of (by rw [upd_ne (ne_of_none hd hq)]; exact hd)), dp_nil (SqL.of upd_same), dI_shaped _, dI_shaped _, _, rfl, ?_⟩⟩
      rw [dI_eqv]
      exact iteF (k _ (e.new hq))
abbrev s_sums_of : Stmt := top 13
theorem sc_sums_of : FnScope ["frame", "width", "around", "rest", "here", "found", "k"] ["frame", "width"] (defScope s_sums_of) := ⟨rfl, rfl, rfl, by decide +kernel, rfl, by decide +kernel, by decide +kernel⟩
/-- sums_of(frame, width): all windows of the width, a new list -/
def spSums (K : PySem.W.Frag) : Sp := fun vs H Q _ => ∃ (l : Addr) (fs : List Int) (w : Nat), vs = [.ref l, .int (w : Int)] ∧ SqL K H l (fs.map V.int) ∧ Frm fs ∧ w ≤ 10000 ∧
  ∀ p H', Same H H' → H p = none → H' p = some (.lst ((wins fs w).map V.int)) → Q (.ref p) H'
theorem ok_sums_of {f : Addr} {fd : FuncData} (F : FunG K mg "sums_of" s_sums_of f fd ["frame", "width"]) (T : Txt K mg) : FnOk P w K mg base CX0 1 f fd ["frame", "width"] (spSums K) := by
  refine F.fn.ok sc_sums_of (fun vs H Q E h => ?_) (fun cdv A outer s H vs Q E hr h => ?_)
  · obtain ⟨l, fs, w, rfl, _⟩ := h
    rfl
  · obtain ⟨l, fs, w, rfl, hS, hf, hw, k⟩ := h
    refine ⟨_, (pss_cons (ps_asg (pe_callB call_divmodW (by rfl) T.b_divmod (by decide +kernel) (pa_cons (pv 1) (pa_cons (pe_callB (clLen K) (by rfl) T.b_len (by decide +kernel) (pa_cons (pv 0) pa_nil)) pa_nil))) (pg_tup (by rfl) (pgs_cons (pg_name (i := 2) sc_sums_of.nd rfl (.inl rfl)) (pgs_cons (pg_name (i := 3) sc_sums_of.nd rfl (.inl rfl)) pgs_nil))))
      (pss_cons (ps_set (i := 4) sc_sums_of.nd rfl (.inl rfl) (pe_op op_add (pe_op op_mulW (pe_callB (clSum K rfl) (by rfl) T.b_sum (by decide +kernel) (pa_cons (pv 0) pa_nil)) (pv 2)) (pe_callB (clSum K rfl) (by rfl) T.b_sum (by decide +kernel) (pa_cons (pe_slice (slL K) (pv 0) po_none (po_some (pv 3))) pa_nil))))
      (pss_cons (ps_set (i := 5) sc_sums_of.nd rfl (.inl rfl) (pe_lst pa_nil))
      (pss_cons (ps_for PassesOwn.never (by rfl) (pi_range1 (by rfl) T.b_range (pa_cons (pe_callB (clLen K) (by rfl) T.b_len (by decide +kernel) (pa_cons (pv 0) pa_nil)) pa_nil)) (pg_name (i := 6) sc_sums_of.nd rfl (.inl rfl)) (pss_cons (ps_expr (pe_bm PySem.F.plainAttrs_list PySem.F.slot_list_append PySem.F.type_list_append mt_append (pv 5) (pa_cons (pv 4) pa_nil)))
      (pss_one (ps_set (i := 4) sc_sums_of.nd rfl (.inl rfl) (pe_op op_add (pe_op op_sub (pv 4) (pe_ix (ixL K) (pv 0) (pv 6) (fun _ _ => rfl))) (pe_ix (ixL K) (pv 0) (pe_op op_mod (pe_op op_add (pv 6) (pv 3)) (pe_callB (clLen K) (by rfl) T.b_len (by decide +kernel) (pa_cons (pv 0) pa_nil))) (fun _ _ => rfl)))))))
      (pss_one (ps_ret (pv 5))))))), ?_⟩
    have h0 := hf.pos
    have h1 := hf.le
    obtain ⟨sm0, sm1⟩ := hf.sum
    have hlen : (fs.map V.int).length = fs.length := List.length_map _
    have hr0 : w % fs.length < fs.length := Nat.mod_lt _ h0
    -- around, rest = divmod(width, len(frame))
    refine ⟨_, rfl, _, rfl, _, _, rfl, .inl hS, _, _, rfl, divP (b := 7) (by rw [hlen]; omega) (by rw [hlen]; omega) (by decide) (by decide), fun q hq => ⟨_, _, rfl, SqT.of upd_same, rfl, ?_⟩⟩
    have e1 : Same H (upd H q (.tup [.int ((w : Int) / ((fs.map V.int).length : Int)), .int ((w : Int) % ((fs.map V.int).length : Int))])) := Same.upd hq
    rw [hlen, show (w : Int) / (fs.length : Int) = ((w / fs.length : Nat) : Int) from (Int.natCast_ediv _ _).symm, show (w : Int) % (fs.length : Int) = ((w % fs.length : Nat) : Int) from (Int.natCast_emod _ _).symm] at e1 ⊢
    refine ⟨_, _, rfl, _, _, rfl, rfl, ?_⟩
    generalize upd H q (.tup [.int ((w / fs.length : Nat) : Int), .int ((w % fs.length : Nat) : Int)]) = H1 at e1
    have hS1 := e1.seq hS
    -- here = sum(frame) * around + sum(frame[:rest])
    have hq10 : w / fs.length ≤ 10000 := Nat.le_trans (Nat.div_le_self _ _) hw
    refine ⟨_, rfl, _, _, rfl, hS1, _, rfl, _, _, rfl, rfl, wide_mul (a := 7) (b := 14) (by omega) (by rw [Int.natAbs_natCast]; exact Nat.lt_of_le_of_lt hq10 (by decide)) (by decide) (by decide) (by decide), _, rfl, _, rfl, _, rfl, _, _, rfl, hS1, fun p hp => ?_⟩
    rw [cut_to (Nat.le_of_lt hr0)]
    have e2 : Same H (upd H1 p (.lst ((fs.take (w % fs.length)).map V.int))) := e1.new hp
    refine ⟨_, _, rfl, SqL.of upd_same, _, _, rfl, rfl, ?_⟩
    generalize upd H1 p (.lst ((fs.take (w % fs.length)).map V.int)) = H2 at e2
    have hS2 := e2.seq hS
    -- found = []
    refine ⟨Nat.zero_le _, fun D hD => ?_⟩
    have hDn : H D = none := e2.free hD
    refine ⟨_, rfl, _, _, rfl, .inl ((e2.new hD).seq hS), _, rfl, by rw [hlen]; omega, by rw [hlen]; omega, for_range (lo := 0) (n := ((fs.map V.int).length : Int).toNat) (fun i σ H' => (∃ v : Option V, σ = [some (.ref l), some (.int (w : Int)), some (.int ((w / fs.length : Nat) : Int)), some (.int ((w % fs.length : Nat) : Int)), some (.int (win fs w i)), some (.ref D), v]) ∧ Same H H' ∧ H' D = some (.lst (((List.range i).map (win fs w)).map V.int)))
      ?_ ?_ ?_⟩
    · refine ⟨⟨none, ?_⟩, e2.new hD, upd_same⟩
      rw [← win_first w]
      rfl
    · rintro i σ H' hi ⟨⟨v, rfl⟩, e3, hd⟩
      rw [hlen, Int.toNat_natCast] at hi
      refine ⟨_, rfl, .inl ⟨rfl, _, SqL.of hd⟩, _, rfl, D, _, _, rfl, rfl, hd, small_of (m := 64) (by simp; omega), ?_⟩
      have e4 : Same H (upd H' D (.lst (((List.range i).map (win fs w)).map V.int ++ [.int (win fs w i)]))) := e3.mut hDn
      have e5 : ((List.range i).map (win fs w)).map V.int ++ [.int (win fs w i)] = ((List.range (i + 1)).map (win fs w)).map V.int := by
        rw [List.range_succ, List.map_append, List.map_append]; rfl
      rw [e5] at e4 ⊢
      have hS4 := e4.seq hS
      have hj : (i + w % fs.length) % fs.length < fs.length := Nat.mod_lt _ h0
      refine ⟨_, rfl, _, rfl, _, rfl, _, _, _, _, rfl, rfl, hS4, atV (j := i) (by omega) hi, _, _, rfl, rfl, _, rfl, _, rfl, _, rfl, _, _, rfl, rfl, _, rfl, _, _, rfl, .inl hS4, _, _, rfl, rfl, (by show (0 : Int) < ((fs.map V.int).length : Int); rw [hlen]; omega), _, _, _, _, rfl, rfl, hS4, atV (j := (i + w % fs.length) % fs.length) ?_ hj, _, _, rfl, rfl, ?_⟩
      · rw [hlen]
        show (0 + (i : Int) + ((w % fs.length : Nat) : Int)) % (fs.length : Int) = _
        rw [Int.zero_add]
        simp only [Int.natCast_emod, Int.natCast_add]
      · refine ⟨⟨some (.int (0 + (i : Int))), ?_⟩, e4, upd_same⟩
        have c1 : cyc fs i = fs.getD i 0 := cyc_lt hi
        have c2 : cyc fs (i + w) = fs.getD ((i + w % fs.length) % fs.length) 0 := by
          unfold cyc
          rw [Nat.add_mod_mod]
        have e6 : win fs w (i + 1) = win fs w i - fs.getD i 0 + fs.getD ((i + w % fs.length) % fs.length) 0 := by rw [win_next, c1, c2]
        rw [e6]
        rfl
    · rintro σ H' ⟨⟨v, rfl⟩, e3, hd⟩
      rw [hlen, Int.toNat_natCast] at hd
      exact ⟨_, rfl, k D H' e3 hDn hd⟩
abbrev s_spans_of : Stmt := top 14
theorem sc_spans_of : FnScope ["frame", "width", "some"] ["frame", "width"] (defScope s_spans_of) := ⟨rfl, rfl, rfl, by decide +kernel, rfl, by decide +kernel, by decide +kernel⟩
/-- spans_of(frame, width): a new pair -/
def spSpans (K : PySem.W.Frag) : Sp := fun vs H Q _ => ∃ (l : Addr) (fs : List Int) (w : Nat), vs = [.ref l, .int (w : Int)] ∧ SqL K H l (fs.map V.int) ∧ Frm fs ∧ 1 ≤ w ∧ w ≤ 10000 ∧
  ∀ lo hi t H', Lo (wins fs w) lo → Hi (wins fs w) hi → Same H H' → H t = none → H' t = some (.tup [.int lo, .int hi]) → Q (.ref t) H'
theorem ok_spans_of {f : Addr} {fd : FuncData} (F : FunG K mg "spans_of" s_spans_of f fd ["frame", "width"]) (T : Txt K mg) (c_sums_of : Cl P w K mg base CX0 1 "sums_of" (spSums K)) : FnOk P w K mg base CX0 2 f fd ["frame", "width"] (spSpans K) := by
  refine F.fn.ok sc_spans_of (fun vs H Q E h => ?_) (fun cdv A outer s H vs Q E hr h => ?_)
  · obtain ⟨l, fs, w, rfl, _⟩ := h
    rfl
  · obtain ⟨l, fs, w, rfl, hS, hf, _, hw, k⟩ := h
    refine ⟨_, (pss_cons (ps_set (i := 2) sc_spans_of.nd rfl (.inl rfl) (pe_cl c_sums_of hr (by decide) (by rfl) (pa_cons (pv 0) (pa_cons (pv 1) pa_nil))))
      (pss_one (ps_ret (pe_tup (pa_cons (pe_callB (clMin K rfl) (by rfl) T.b_min (by decide +kernel) (pa_cons (pv 2) pa_nil)) (pa_cons (pe_callB (clMax K rfl) (by rfl) T.b_max (by decide +kernel) (pa_cons (pv 2) pa_nil)) pa_nil)))))), ?_⟩
    have h0 := hf.pos
    have hl : 0 < (wins fs w).length := by rw [wins_len]; exact h0
    refine ⟨_, rfl, _, rfl, l, fs, w, rfl, hS, hf, hw, fun p H1 e1 hp hp1 => ?_⟩
    refine ⟨_, rfl, _, _, rfl, SqL.of hp1, hl, fun lo l1 l2 => ⟨_, rfl, _, _, rfl, SqL.of hp1, hl, fun hi h1 h2 => ⟨(by show 2 ≤ sizeLine; decide), fun t ht => ?_⟩⟩⟩
    exact k lo hi t _ ⟨l1, l2⟩ ⟨h1, h2⟩ (e1.new ht) (e1.free ht) upd_same
abbrev s_spans : Stmt := top 15
theorem sc_spans : FnScope ["frame", "width"] ["frame", "width"] (defScope s_spans) := ⟨rfl, rfl, rfl, by decide +kernel, rfl, by decide +kernel, by decide +kernel⟩
/-- spans(frame, width), a good frame: the pair, or BadWidth -/
def spSpansX (K : PySem.W.Frag) : Sp := fun vs H Q E => ∃ (l : Addr) (fs : List Int) (wd : Int), vs = [.ref l, .int wd] ∧ SqL K H l (fs.map V.int) ∧ Frm fs ∧
  ((1 ≤ wd ∧ wd ≤ 10000 ∧ ∀ lo hi t H', Lo (wins fs wd.toNat) lo → Hi (wins fs wd.toNat) hi → Same H H' → H t = none → H' t = some (.tup [.int lo, .int hi]) → Q (.ref t) H') ∨
   (¬ (1 ≤ wd ∧ wd ≤ 10000) ∧ ∀ H', Same H H' → E (.ref (He.ga K "BadWidth")) none H'))
theorem ok_spans {f : Addr} {fd : FuncData} (F : FunG K mg "spans" s_spans f fd ["frame", "width"]) (T : Txt K mg) (c_need_frame : Cl P w K mg base CX0 1 "need_frame" (spNeedFrame K)) (c_spans_of : Cl P w K mg base CX0 2 "spans_of" (spSpans K)) : FnOk P w K mg base (L2.CX P w) 3 f fd ["frame", "width"] (spSpansX K) := by
  refine F.fn.okX sc_spans (fun vs H Q E h => ?_) (fun cdv A outer s H vs Q E hr h => ?_)
  · obtain ⟨l, fs, wd, rfl, _⟩ := h
    rfl
  · obtain ⟨l, fs, wd, rfl, hS, hf, k⟩ := h
    refine ⟨_, (pss_cons (ps_expr (pe_cl c_need_frame hr (by decide) (by rfl) (pa_cons (pv 0) pa_nil)))
      (pss_cons (ps_if (pt_not (pt_chain op_le op_le pe_int (pv 1) (C8.pe_gc (by rfl) T.k_MOST_WIDTH))) (pss_one (ps_raise (by rfl) (takes_of rfl rfl rfl rfl) (pmk_own PySem.F.excBase_ValueError T.x_BadWidth.x T.x_BadWidth.g T.x_BadWidth.k (raises_own T.x_BadWidth.b T.x_BadWidth.t) (by rfl)))) pss_nil)
      (pss_one (ps_ret (pe_cl c_spans_of hr (by decide) (by rfl) (pa_cons (pv 0) (pa_cons (pv 1) pa_nil))))))), ?_⟩
    refine ⟨_, rfl, l, fs, rfl, hS, hf, fun H1 e1 => ?_⟩
    refine ⟨_, rfl, _, _, rfl, rfl, _, rfl, ?_⟩
    by_cases h1 : 1 ≤ wd
    · refine iteTe (decide_eq_true h1) ⟨_, _, rfl, rfl, _, rfl, ?_⟩
      by_cases h2 : wd ≤ 10000
      · refine iteFe (c := !decide (wd ≤ 10000)) (by rw [decide_eq_true h2]; rfl) ?_
        rcases k with ⟨_, _, k⟩ | ⟨hn, _⟩
        · refine ⟨_, rfl, _, rfl, l, fs, wd.toNat, by rw [Int.toNat_of_nonneg (by omega)]; rfl, e1.seq hS, hf, by omega, by omega, fun lo hi t H2 g1 g2 e2 ht ht2 => ?_⟩
          exact k lo hi t H2 g1 g2 (e1.trans e2) (e1.free ht) ht2
        · exact absurd ⟨h1, h2⟩ hn
      · refine iteTe (c := !decide (wd ≤ 10000)) (by rw [decide_eq_false h2]; rfl) ?_
        rcases k with ⟨_, h3, _⟩ | ⟨_, k⟩
        · exact absurd h3 h2
        · exact k H1 e1
    · refine iteFe (decide_eq_false h1) ⟨_, rfl, ?_⟩
      refine iteT ?_
      rcases k with ⟨h3, _⟩ | ⟨_, k⟩
      · exact absurd h3 h1
      · exact k H1 e1
abbrev s_law_far : Stmt := top 21
theorem sc_law_far : FnScope ["_law_state", "_law_least", "_law_most", "_law_far_here"] ["_law_state", "_law_least", "_law_most"] (defScope s_law_far) := ⟨rfl, rfl, rfl, by decide +kernel, rfl, by decide +kernel, by decide +kernel⟩
/-- _law_far(state, least, most): a number beyond -/
def spFar (K : PySem.W.Frag) : Sp := fun vs H Q _ => ∃ (st a : Addr) (ns : List Int) (lo hi : Int), vs = [.ref st, .int lo, .int hi] ∧ SOk K a ns st H ∧
  ∀ (v : Int) (H' : Hp), (v < lo ∨ hi < v) → Keep st H H' → SOk K a ns st H' → Q (.int v) H'
theorem ok_law_far {f : Addr} {fd : FuncData} (F : FunG K mg "_law_far" s_law_far f fd ["_law_state", "_law_least", "_law_most"]) (c_law_drawn : Cl P w K mg base CX0 1 "_law_drawn" (spDrawn K)) : FnOk P w K mg base CX0 2 f fd ["_law_state", "_law_least", "_law_most"] (spFar K) := by
  refine F.fn.ok sc_law_far (fun vs H Q E h => ?_) (fun cdv A outer s H vs Q E hr h => ?_)
  · obtain ⟨st, a, ns, lo, hi, rfl, _⟩ := h
    rfl
  · obtain ⟨st, a, ns, lo, hi, rfl, hs, k⟩ := h
    refine ⟨_, (pss_cons (ps_set (i := 3) sc_law_far.nd rfl (.inl rfl) (pe_ix (ixL K) (pe_lst (pa_cons pe_int (pa_cons pe_int (pa_cons (pe_op op_pow pe_int pe_int) pa_nil)))) (pe_cl c_law_drawn hr (by decide) (by rfl) (pa_cons (pv 0) (pa_cons pe_int pa_nil))) (fun _ _ => rfl)))
      (pss_one (ps_ret (pe_ix (ixL K) (pe_lst (pa_cons (pe_op op_sub (pe_op op_sub (pv 1) pe_int) (pe_cl c_law_drawn hr (by decide) (by rfl) (pa_cons (pv 0) (pa_cons (pv 3) pa_nil)))) (pa_cons (pe_op op_add (pe_op op_add (pv 2) pe_int) (pe_cl c_law_drawn hr (by decide) (by rfl) (pa_cons (pv 0) (pa_cons (pv 3) pa_nil)))) pa_nil))) (pe_cl c_law_drawn hr (by decide) (by rfl) (pa_cons (pv 0) (pa_cons pe_int pa_nil))) (fun _ _ => rfl))))), ?_⟩
    refine ⟨_, _, rfl, rfl, ⟨by decide, by decide, by decide⟩, (by show 3 ≤ sizeLine; decide), fun p3 hp3 => ?_⟩
    have s3 := hs.new (o := .lst [.int 1, .int 20, .int (10 ^ (29 : Int).toNat)]) hp3
    have n3 := hs.ne_of hp3
    refine ⟨_, rfl, st, a, ns, 3, rfl, s3, by decide, by decide, fun r i4 m4 c4 r0 r1 d4 => ?_⟩
    have s4 := s3.drawn d4
    have k4 : Keep st H (upd (upd H p3 (.lst [.int 1, .int 20, .int (10 ^ (29 : Int).toNat)])) st (StO a i4 m4 c4)) := ((Keep.refl st H).new hp3).atSt
    have hp4 : (upd (upd H p3 (.lst [.int 1, .int 20, .int (10 ^ (29 : Int).toNat)])) st (StO a i4 m4 c4)) p3 = some (.lst [.int 1, .int 20, .int (10 ^ (29 : Int).toNat)]) := by rw [upd_ne n3, upd_same]
    generalize upd (upd H p3 (.lst [.int 1, .int 20, .int (10 ^ (29 : Int).toNat)])) st (StO a i4 m4 c4) = H4 at s4 k4 hp4
    have hat : ∃ v : Int, atI [V.int 1, V.int 20, V.int (10 ^ (29 : Int).toNat)] r = some (.int v) ∧ 1 ≤ v ∧ v ≤ 10 ^ 29 := by
      rcases pick3 r0 r1 with e | e | e <;> subst e
      · exact ⟨_, rfl, by decide, by decide⟩
      · exact ⟨_, rfl, by decide, by decide⟩
      · exact ⟨_, rfl, by decide, by decide⟩
    obtain ⟨far, hfar, f0, f1⟩ := hat
    refine ⟨_, _, _, _, rfl, rfl, SqL.of hp4, hfar, ?_⟩
    refine ⟨_, rfl, _, _, rfl, rfl, _, rfl, _, rfl, st, a, ns, far, rfl, s4, by omega, Int.lt_of_le_of_lt f1 (by decide), fun r5 i5 m5 c5 r50 r51 d5 => ?_⟩
    have s5 := s4.drawn d5
    have k5 := k4.atSt (o := StO a i5 m5 c5)
    generalize upd H4 st (StO a i5 m5 c5) = H5 at s5 k5
    refine ⟨_, _, rfl, rfl, _, rfl, _, _, rfl, rfl, _, rfl, _, rfl, st, a, ns, far, rfl, s5, by omega, Int.lt_of_le_of_lt f1 (by decide), fun r6 i6 m6 c6 r60 r61 d6 => ?_⟩
    have s6 := s5.drawn d6
    have k6 := k5.atSt (o := StO a i6 m6 c6)
    generalize upd H5 st (StO a i6 m6 c6) = H6 at s6 k6
    refine ⟨_, _, rfl, rfl, (by show 2 ≤ sizeLine; decide), fun p7 hp7 => ?_⟩
    have s7 := s6.new (o := .lst [.int (lo - 1 - r5), .int (hi + 1 + r6)]) hp7
    have k7 := k6.new (o := .lst [.int (lo - 1 - r5), .int (hi + 1 + r6)]) hp7
    have n7 := s6.ne_of hp7
    refine ⟨_, rfl, st, a, ns, 2, rfl, s7, by decide, by decide, fun r8 i8 m8 c8 r80 r81 d8 => ?_⟩
    have s8 := s7.drawn d8
    have k8 := k7.atSt (o := StO a i8 m8 c8)
    have hp8 : (upd (upd H6 p7 (.lst [.int (lo - 1 - r5), .int (hi + 1 + r6)])) st (StO a i8 m8 c8)) p7 = some (.lst [.int (lo - 1 - r5), .int (hi + 1 + r6)]) := by rw [upd_ne n7, upd_same]
    generalize upd (upd H6 p7 (.lst [.int (lo - 1 - r5), .int (hi + 1 + r6)])) st (StO a i8 m8 c8) = H8 at s8 k8 hp8
    have hx : r8 = 0 ∨ r8 = 1 := by omega
    rcases hx with e | e <;> subst e
    · exact ⟨_, _, _, _, rfl, rfl, SqL.of hp8, at_of (j := 0) rfl rfl, k _ _ (.inl (by omega)) k8 s8⟩
    · exact ⟨_, _, _, _, rfl, rfl, SqL.of hp8, at_of (j := 1) rfl rfl, k _ _ (.inr (by omega)) k8 s8⟩
end
end My

namespace My
open PySem PySem.Spec PyProof.Rows LamX L2
section
variable {P : Program} {w : World} {K : PySem.W.Frag} {mg : Str → Option Value} {base : Heap}
abbrev s_law_same : Stmt := top 19
theorem sc_law_same : FnScope ["_law_found", "_law_due", "_law_k"] ["_law_found", "_law_due"] (defScope s_law_same) := ⟨rfl, rfl, rfl, by decide +kernel, rfl, by decide +kernel, by decide +kernel⟩
/-- the same data, at most so deep -/
inductive SameD (H : Hp) : Nat → V → V → Prop
  | non (n : Nat) : SameD H n .non .non
  | bl (n : Nat) (b : Bool) : SameD H n (.bl b) (.bl b)
  | int (n : Nat) (i : Int) : SameD H n (.int i) (.int i)
  | str (n : Nat) (x : Str) : SameD H n (.str x) (.str x)
  | lst (n : Nat) (a b : Addr) (xs ys : List V) : H a = some (.lst xs) → H b = some (.lst ys) → xs.length = ys.length → xs.length ≤ 1000 → (∀ (i : Nat) x y, xs[i]? = some x → ys[i]? = some y → SameD H n x y) → SameD H (n + 1) (.ref a) (.ref b)
  | tup (n : Nat) (a b : Addr) (xs ys : List V) : H a = some (.tup xs) → H b = some (.tup ys) → xs.length = ys.length → xs.length ≤ 1000 → (∀ (i : Nat) x y, xs[i]? = some x → ys[i]? = some y → SameD H n x y) → SameD H (n + 1) (.ref a) (.ref b)
theorem SameD.same {H H' : Hp} (e : Same H H') {n : Nat} {x y : V} (h : SameD H n x y) : SameD H' n x y := by
  induction h with
  | non n => exact .non n
  | bl n b => exact .bl n b
  | int n i => exact .int n i
  | str n x => exact .str n x
  | lst n a b xs ys ha hb hl hm hi ih => exact .lst n a b xs ys (e _ _ ha) (e _ _ hb) hl hm ih
  | tup n a b xs ys ha hb hl hm hi ih => exact .tup n a b xs ys (e _ _ ha) (e _ _ hb) hl hm ih
theorem SameD.ints {H : Hp} {a b : Addr} {ns : List Int} (ha : H a = some (.lst (ns.map V.int))) (hb : H b = some (.lst (ns.map V.int))) (hl : ns.length ≤ 1000) (n : Nat) : SameD H (n + 1) (.ref a) (.ref b) :=
  .lst n a b _ _ ha hb rfl (by rw [List.length_map]; exact hl) fun i x y h1 h2 => by
    rw [h1] at h2; cases h2
    obtain ⟨z, _, rfl⟩ := getV h1
    exact .int n z
/-- _law_same(found, due) of the same: True -/
def spSame (n : Nat) : Sp := fun vs H Q _ => ∃ x y : V, vs = [x, y] ∧ SameD H n x y ∧ ∀ H', Same H H' → Q (.bl true) H'
def spSameR : Nat → Sp
  | 0 => fun _ _ _ _ => False
  | n + 1 => spSame n
theorem cls_tl : Paired ClsV [V.ty "tuple", V.ty "list"] [Value.type "tuple", Value.type "list"] := .cons (.ty _) (.cons (.ty _) .nil)
theorem kitTL {K : PySem.W.Frag} {t : String} {b1 b2 : Bool} (h1 : kitB t "tuple" = some b1) (h2 : kitB t "list" = some b2) : PySem.W.kitAny K (.type t) [.type "tuple", .type "list"] = some (b1 || b2) := by
  refine kitAny_cons (kit_ty h1) (fun e => ?_) (fun e => by rw [e] <;> rfl)
  rw [e, Bool.false_or]
  refine kitAny_cons (kit_ty h2) (fun e => ?_) (fun e => by rw [e] <;> rfl)
  rw [e]
  exact kitAny_nil
theorem and_case {c : Prop} [Decidable c] {A B : Prop} (hc : ¬ c) (h : B) : if (decide c) = true then A else B := by
  rw [decide_eq_false hc]; exact iteF h
theorem same_mk {f : Addr} {fd : FuncData} (F : FunG K mg "_law_same" s_law_same f fd ["_law_found", "_law_due"]) (T : Txt K mg) (k n : Nat) (c_law_same : Cl P w K mg base CX0 k "_law_same" (spSameR n)) :
    FnOk P w K mg base CX0 (k + 1) f fd ["_law_found", "_law_due"] (spSame n) := by
  refine F.fn.ok sc_law_same (fun vs H Q E h => ?_) (fun cdv A outer s H vs Q E hr h => ?_)
  · obtain ⟨x, y, rfl, _⟩ := h
    rfl
  · obtain ⟨x, y, rfl, hs, q⟩ := h
    refine ⟨_, (pss_cons (ps_if (pt_val (pe_callB call_isiT (by rfl) T.b_isinstance (by decide +kernel) (pa_cons (pv 1) (pa_cons (pe_tup (pa_cons (pe_bltn (v := .ty "tuple") (u := .type "tuple") (by rfl) T.b_tuple (by decide +kernel) rfl) (pa_cons (pe_bltn (v := .ty "list") (u := .type "list") (by rfl) T.b_list (by decide +kernel) rfl) pa_nil))) pa_nil)))) (pss_cons (ps_if (PW.pt (pw_or (pt_not (pt_val (pe_callB call_isiT (by rfl) T.b_isinstance (by decide +kernel) (pa_cons (pv 0) (pa_cons (pe_tup (pa_cons (pe_bltn (v := .ty "tuple") (u := .type "tuple") (by rfl) T.b_tuple (by decide +kernel) rfl) (pa_cons (pe_bltn (v := .ty "list") (u := .type "list") (by rfl) T.b_list (by decide +kernel) rfl) pa_nil))) pa_nil))))) (pw_or1 (pt_cmpR op_ne (pe_callB call_isi (by rfl) T.b_isinstance (by decide +kernel) (pa_cons (pv 0) (pa_cons (pe_bltn (v := .ty "list") (u := .type "list") (by rfl) T.b_list (by decide +kernel) rfl) pa_nil))) (pe_callB call_isi (by rfl) T.b_isinstance (by decide +kernel) (pa_cons (pv 1) (pa_cons (pe_bltn (v := .ty "list") (u := .type "list") (by rfl) T.b_list (by decide +kernel) rfl) pa_nil))) (nomark _))))) (pss_one (ps_ret pe_bl)) pss_nil)
      (pss_cons (ps_if (pt_cmpR op_ne (pe_callB (clLen K) (by rfl) T.b_len (by decide +kernel) (pa_cons (pv 0) pa_nil)) (pe_callB (clLen K) (by rfl) T.b_len (by decide +kernel) (pa_cons (pv 1) pa_nil)) (nomark _)) (pss_one (ps_ret pe_bl)) pss_nil)
      (pss_one (ps_ret (pe_cmpR (opEqD K hr.units) (pe_lc (own := [("_law_k", 2)]) (g := gName 2) (by rfl) sc_law_same.nd (pi_range1 (by rfl) T.b_range (pa_cons (pe_callB (clLen K) (by rfl) T.b_len (by decide +kernel) (pa_cons (pv 1) pa_nil)) pa_nil)) (blkOk_by (own := [("_law_k", 2)]) (N := ["_law_found", "_law_due", "_law_k"]) (sc := defScope s_law_same) (by decide +kernel)) (fun _ _ _ _ _ => (pg_name (i := 2) sc_law_same.nd rfl (.inl rfl))) (fun _ _ _ _ _ => (pts_one (pt_not (pt_val (pe_cl c_law_same hr (Nat.le_refl _) (by rfl) (pa_cons (pe_ix (ixQ K) (pv 0) (pv 2) (fun _ _ => rfl)) (pa_cons (pe_ix (ixQ K) (pv 1) (pv 2) (fun _ _ => rfl)) pa_nil))))))) (fun _ _ _ _ _ => (pv 2))) (pe_lst pa_nil) (nomark _)))))) pss_nil)
      (pss_cons (ps_if (pt_cmpR op_isN (pv 1) pe_non (nomark _)) (pss_one (ps_ret (pe_cmpR op_isN (pv 0) pe_non (nomark _)))) pss_nil)
      (pss_cons (ps_if (pt_val (pe_callB call_isi (by rfl) T.b_isinstance (by decide +kernel) (pa_cons (pv 1) (pa_cons (pe_bltn (v := .ty "str") (u := .type "str") (by rfl) T.b_str (by decide +kernel) rfl) pa_nil)))) (pss_one (ps_ret (pe_and (pe_callB call_isi (by rfl) T.b_isinstance (by decide +kernel) (pa_cons (pv 0) (pa_cons (pe_bltn (v := .ty "str") (u := .type "str") (by rfl) T.b_str (by decide +kernel) rfl) pa_nil))) (pe_one (pe_cmpR op_eq (pv 0) (pv 1) (nomark _)))))) pss_nil)
      (pss_cons (ps_if (PW.pt (pw_or (pt_val (pe_callB call_isi (by rfl) T.b_isinstance (by decide +kernel) (pa_cons (pv 1) (pa_cons (pe_bltn (v := .ty "bool") (u := .type "bool") (by rfl) T.b_bool (by decide +kernel) rfl) pa_nil)))) (pw_or1 (pt_val (pe_callB call_isi (by rfl) T.b_isinstance (by decide +kernel) (pa_cons (pv 0) (pa_cons (pe_bltn (v := .ty "bool") (u := .type "bool") (by rfl) T.b_bool (by decide +kernel) rfl) pa_nil))))))) (pss_one (ps_ret (pe_and (pe_callB call_isi (by rfl) T.b_isinstance (by decide +kernel) (pa_cons (pv 1) (pa_cons (pe_bltn (v := .ty "bool") (u := .type "bool") (by rfl) T.b_bool (by decide +kernel) rfl) pa_nil))) (pe_and (pe_callB call_isi (by rfl) T.b_isinstance (by decide +kernel) (pa_cons (pv 0) (pa_cons (pe_bltn (v := .ty "bool") (u := .type "bool") (by rfl) T.b_bool (by decide +kernel) rfl) pa_nil))) (pe_one (pe_cmpR op_eq (pv 0) (pv 1) (nomark _))))))) pss_nil)
      (pss_one (ps_ret (pe_and (pe_callB call_isi (by rfl) T.b_isinstance (by decide +kernel) (pa_cons (pv 0) (pa_cons (pe_bltn (v := .ty "int") (u := .type "int") (by rfl) T.b_int (by decide +kernel) rfl) pa_nil))) (pe_one (pe_cmpR op_eq (pv 0) (pv 1) (nomark _)))))))))), ?_⟩
    have two : (2 : Nat) ≤ sizeLine := by decide
    cases hs with
    | non =>
      refine ⟨_, rfl, two, fun p hp => ⟨_, _, _, _, _, _, rfl, upd_same, cls_tl, (.base .non), kitTL (by decide +kernel : kitB "NoneType" "tuple" = some false) (by decide +kernel : kitB "NoneType" "list" = some false), _, rfl, iteF ?_⟩⟩
      refine ⟨_, rfl, rfl, _, rfl, iteT ?_⟩
      exact ⟨_, rfl, rfl, q _ (Same.upd hp)⟩
    | bl _ b =>
      refine ⟨_, rfl, two, fun p hp => ⟨_, _, _, _, _, _, rfl, upd_same, cls_tl, (.base (.bl b)), kitTL (by decide +kernel : kitB "bool" "tuple" = some false) (by decide +kernel : kitB "bool" "list" = some false), _, rfl, iteF ?_⟩⟩
      refine ⟨_, rfl, rfl, _, rfl, and_case (fun z => V.noConfusion z) ?_⟩
      refine ⟨_, rfl, _, _, _, _, _, rfl, .ty _, (.base (.bl b)), kit_ty (by decide +kernel : kitB "bool" "str" = some false), _, rfl, iteF ?_⟩
      refine ⟨_, rfl, _, _, _, _, _, rfl, .ty _, (.base (.bl b)), kit_ty (by decide +kernel : kitB "bool" "bool" = some true), _, rfl, iteT (iteT ?_)⟩
      refine ⟨_, rfl, _, _, _, _, _, rfl, .ty _, (.base (.bl b)), kit_ty (by decide +kernel : kitB "bool" "bool" = some true), _, rfl, iteT ?_⟩
      refine ⟨_, rfl, _, _, _, _, _, rfl, .ty _, (.base (.bl b)), kit_ty (by decide +kernel : kitB "bool" "bool" = some true), _, rfl, iteT ?_⟩
      refine ⟨_, rfl, _, rfl, rfl, ?_⟩
      rw [decide_eq_true rfl]
      exact q _ (Same.upd hp)
    | int _ i =>
      refine ⟨_, rfl, two, fun p hp => ⟨_, _, _, _, _, _, rfl, upd_same, cls_tl, (.base (.int i)), kitTL (by decide +kernel : kitB "int" "tuple" = some false) (by decide +kernel : kitB "int" "list" = some false), _, rfl, iteF ?_⟩⟩
      refine ⟨_, rfl, rfl, _, rfl, and_case (fun z => V.noConfusion z) ?_⟩
      refine ⟨_, rfl, _, _, _, _, _, rfl, .ty _, (.base (.int i)), kit_ty (by decide +kernel : kitB "int" "str" = some false), _, rfl, iteF ?_⟩
      refine ⟨_, rfl, _, _, _, _, _, rfl, .ty _, (.base (.int i)), kit_ty (by decide +kernel : kitB "int" "bool" = some false), _, rfl, iteF ?_⟩
      refine ⟨_, rfl, _, _, _, _, _, rfl, .ty _, (.base (.int i)), kit_ty (by decide +kernel : kitB "int" "bool" = some false), _, rfl, iteF ?_⟩
      refine ⟨_, rfl, _, _, _, _, _, rfl, .ty _, (.base (.int i)), kit_ty (by decide +kernel : kitB "int" "int" = some true), _, rfl, iteT ?_⟩
      refine ⟨_, rfl, _, rfl, rfl, ?_⟩
      rw [decide_eq_true rfl]
      exact q _ (Same.upd hp)
    | str _ x =>
      refine ⟨_, rfl, two, fun p hp => ⟨_, _, _, _, _, _, rfl, upd_same, cls_tl, (.base (.str x)), kitTL (by decide +kernel : kitB "str" "tuple" = some false) (by decide +kernel : kitB "str" "list" = some false), _, rfl, iteF ?_⟩⟩
      refine ⟨_, rfl, rfl, _, rfl, and_case (fun z => V.noConfusion z) ?_⟩
      refine ⟨_, rfl, _, _, _, _, _, rfl, .ty _, (.base (.str x)), kit_ty (by decide +kernel : kitB "str" "str" = some true), _, rfl, iteT ?_⟩
      refine ⟨_, rfl, _, _, _, _, _, rfl, .ty _, (.base (.str x)), kit_ty (by decide +kernel : kitB "str" "str" = some true), _, rfl, iteT ?_⟩
      refine ⟨_, rfl, _, rfl, rfl, ?_⟩
      rw [decide_eq_true rfl]
      exact q _ (Same.upd hp)
    | lst n a b xs ys ha hb hl hm hi =>
      refine ⟨_, rfl, two, fun p hp => ?_⟩
      have e1 : Same H (upd H p (.tup [.ty "tuple", .ty "list"])) := Same.upd hp
      have hT1 : upd H p (.tup [.ty "tuple", .ty "list"]) p = some (.tup [.ty "tuple", .ty "list"]) := upd_same
      generalize upd H p (.tup [.ty "tuple", .ty "list"]) = H1 at e1 hT1
      refine ⟨_, _, _, _, _, _, rfl, hT1, cls_tl, (.base (.lst (e1 _ _ hb))), kitTL (by decide +kernel : kitB "list" "tuple" = some false) (by decide +kernel : kitB "list" "list" = some true), _, rfl, iteT ?_⟩
      refine ⟨_, rfl, two, fun p2 hp2 => ?_⟩
      have e2 : Same H (upd H1 p2 (.tup [.ty "tuple", .ty "list"])) := e1.new hp2
      have hT2 : upd H1 p2 (.tup [.ty "tuple", .ty "list"]) p2 = some (.tup [.ty "tuple", .ty "list"]) := upd_same
      generalize upd H1 p2 (.tup [.ty "tuple", .ty "list"]) = H2 at e2 hT2
      refine ⟨_, _, _, _, _, _, rfl, hT2, cls_tl, (.base (.lst (e2 _ _ ha))), kitTL (by decide +kernel : kitB "list" "tuple" = some false) (by decide +kernel : kitB "list" "list" = some true), _, rfl, iteF ?_⟩
      refine ⟨_, rfl, _, _, _, _, _, rfl, .ty _, (.base (.lst (e2 _ _ ha))), kit_ty (by decide +kernel : kitB "list" "list" = some true), _, rfl, _, _, _, _, _, rfl, .ty _, (.base (.lst (e2 _ _ hb))), kit_ty (by decide +kernel : kitB "list" "list" = some true), rfl, _, rfl, iteNS rfl ?_⟩
      refine ⟨_, rfl, _, _, rfl, .inl (SqL.of (e2 _ _ ha)), _, rfl, _, _, rfl, .inl (SqL.of (e2 _ _ hb)), rfl, _, rfl, iteNS (by rw [hl]) ?_⟩
      refine ⟨_, rfl, _, _, rfl, .inl (SqL.of (e2 _ _ hb)), _, rfl, by omega, by omega, fun D hD => lc_range (lo := 0) (n := (ys.length : Int).toNat) (fun i H' => Same H2 H' ∧ H' D = some (.lst [])) ⟨Same.upd hD, upd_same⟩ ?_ ?_⟩
      · rintro i H' hi' ⟨e3, hD'⟩
        have hy : i < ys.length := by omega
        have hx : i < xs.length := by omega
        have hs := hi i _ _ (List.getElem?_eq_getElem hx) (List.getElem?_eq_getElem hy)
        refine ⟨rfl, _, rfl, _, rfl, .inl ⟨_, _, _, _, rfl, rfl, SqL.of (e3 _ _ (e2 _ _ ha)), at_of (by omega) (List.getElem?_eq_getElem hx), ?_⟩⟩
        refine ⟨_, rfl, _, rfl, .inl ⟨_, _, _, _, rfl, rfl, SqL.of (e3 _ _ (e2 _ _ hb)), at_of (by omega) (List.getElem?_eq_getElem hy), ?_⟩⟩
        exact ⟨_, _, rfl, hs.same (e2.trans e3), fun H4 e4 => ⟨_, rfl, iteF ⟨e3.trans e4, e4 _ _ hD'⟩⟩⟩
      · rintro H' ⟨e3, hD'⟩
        refine ⟨Nat.zero_le _, fun e he => ⟨_, _, .lst (SqL.of (by rw [upd_ne (ne_of_none hD' he)]; exact hD')) .nil, .lst (SqL.of upd_same) .nil, rfl, rfl, ?_⟩⟩
        exact q _ ((e2.trans e3).new he)
    | tup n a b xs ys ha hb hl hm hi =>
      refine ⟨_, rfl, two, fun p hp => ?_⟩
      have e1 : Same H (upd H p (.tup [.ty "tuple", .ty "list"])) := Same.upd hp
      have hT1 : upd H p (.tup [.ty "tuple", .ty "list"]) p = some (.tup [.ty "tuple", .ty "list"]) := upd_same
      generalize upd H p (.tup [.ty "tuple", .ty "list"]) = H1 at e1 hT1
      refine ⟨_, _, _, _, _, _, rfl, hT1, cls_tl, (.base (.tup (e1 _ _ hb))), kitTL (by decide +kernel : kitB "tuple" "tuple" = some true) (by decide +kernel : kitB "tuple" "list" = some false), _, rfl, iteT ?_⟩
      refine ⟨_, rfl, two, fun p2 hp2 => ?_⟩
      have e2 : Same H (upd H1 p2 (.tup [.ty "tuple", .ty "list"])) := e1.new hp2
      have hT2 : upd H1 p2 (.tup [.ty "tuple", .ty "list"]) p2 = some (.tup [.ty "tuple", .ty "list"]) := upd_same
      generalize upd H1 p2 (.tup [.ty "tuple", .ty "list"]) = H2 at e2 hT2
      refine ⟨_, _, _, _, _, _, rfl, hT2, cls_tl, (.base (.tup (e2 _ _ ha))), kitTL (by decide +kernel : kitB "tuple" "tuple" = some true) (by decide +kernel : kitB "tuple" "list" = some false), _, rfl, iteF ?_⟩
      refine ⟨_, rfl, _, _, _, _, _, rfl, .ty _, (.base (.tup (e2 _ _ ha))), kit_ty (by decide +kernel : kitB "tuple" "list" = some false), _, rfl, _, _, _, _, _, rfl, .ty _, (.base (.tup (e2 _ _ hb))), kit_ty (by decide +kernel : kitB "tuple" "list" = some false), rfl, _, rfl, iteNS rfl ?_⟩
      refine ⟨_, rfl, _, _, rfl, .inr (SqT.of (e2 _ _ ha)), _, rfl, _, _, rfl, .inr (SqT.of (e2 _ _ hb)), rfl, _, rfl, iteNS (by rw [hl]) ?_⟩
      refine ⟨_, rfl, _, _, rfl, .inr (SqT.of (e2 _ _ hb)), _, rfl, by omega, by omega, fun D hD => lc_range (lo := 0) (n := (ys.length : Int).toNat) (fun i H' => Same H2 H' ∧ H' D = some (.lst [])) ⟨Same.upd hD, upd_same⟩ ?_ ?_⟩
      · rintro i H' hi' ⟨e3, hD'⟩
        have hy : i < ys.length := by omega
        have hx : i < xs.length := by omega
        have hs := hi i _ _ (List.getElem?_eq_getElem hx) (List.getElem?_eq_getElem hy)
        refine ⟨rfl, _, rfl, _, rfl, .inr (.inl ⟨_, _, _, _, rfl, rfl, SqT.of (e3 _ _ (e2 _ _ ha)), at_of (by omega) (List.getElem?_eq_getElem hx), ?_⟩)⟩
        refine ⟨_, rfl, _, rfl, .inr (.inl ⟨_, _, _, _, rfl, rfl, SqT.of (e3 _ _ (e2 _ _ hb)), at_of (by omega) (List.getElem?_eq_getElem hy), ?_⟩)⟩
        exact ⟨_, _, rfl, hs.same (e2.trans e3), fun H4 e4 => ⟨_, rfl, iteF ⟨e3.trans e4, e4 _ _ hD'⟩⟩⟩
      · rintro H' ⟨e3, hD'⟩
        refine ⟨Nat.zero_le _, fun e he => ⟨_, _, .lst (SqL.of (by rw [upd_ne (ne_of_none hD' he)]; exact hD')) .nil, .lst (SqL.of upd_same) .nil, rfl, rfl, ?_⟩⟩
        exact q _ ((e2.trans e3).new he)
theorem ok_law_same {f : Addr} {fd : FuncData} (F : FunG K mg "_law_same" s_law_same f fd ["_law_found", "_law_due"]) (T : Txt K mg) : ∀ n : Nat, FnOk P w K mg base CX0 (n + 1) f fd ["_law_found", "_law_due"] (spSame n)
  | 0 => same_mk F T 0 0 (F.cl ⟨fun _ _ _ _ z => z.elim, fun _ _ _ _ _ _ _ _ _ _ _ _ _ z => z.elim⟩)
  | n + 1 => same_mk F T (n + 1) (n + 1) (F.cl (ok_law_same F T n))
end
end My

namespace My
open PySem PySem.Spec PyProof.Rows LamX L2
section
variable {P : Program} {w : World} {K : PySem.W.Frag} {mg : Str → Option Value} {base : Heap}
abbrev s_law : Stmt := top 26
theorem sc_law : FnScope ["_law_script", "_law_state", "_law_turn", "_law_frame_here", "_law_handed", "_law_again", "_law_width", "_law_some", "_law_odd"] ["_law_script"] (defScope s_law) := ⟨rfl, rfl, rfl, by decide +kernel, rfl, by decide +kernel, by decide +kernel⟩
def spLaw (K : PySem.W.Frag) (Pt : Addr) : Sp := fun vs H Q _ => ∃ (a : Addr) (ns : List Int), vs = [.ref a] ∧ SqL K H a (ns.map V.int) ∧ ns.length ≤ 63 ∧ H Pt = some (.tbl #[]) ∧ ∀ H', Q (.bl true) H'
theorem ok_law {f : Addr} {oc : Value} {od : Option Addr} {dV kV doc pm : Value} {an : Option Addr} {ct : Value} {osl : Array (Option Value)} {c Pt : Addr} (lk : K.lookup f = some ⟨oc, od, .func (PySem.W.fnOf "law" "law" (defArgs s_law) (defBody s_law) (defScope s_law) dV kV doc pm an (.ref c) ct), osl⟩) (hcd : PySem.W.codeIn K (.ref c) "law" = true) (T : Txt K mg) (TB : TabB base mg c Pt)
    {g : Addr} {fdk : FuncData} (GK : FunG K mg "_law_kind" s_law_kind g fdk ["_law_work"]) (c_law_start : Cl P w K mg base CX0 1 "_law_start" (spStart K)) (c_law_drawn : Cl P w K mg base CX0 1 "_law_drawn" (spDrawn K)) (c_law_frame : Cl P w K mg base CX0 3 "_law_frame" (spFrame K)) (c_law_windows : Cl P w K mg base CX0 1 "_law_windows" spWindows)
    (c_spans : Cl P w K mg base (L2.CX P w) 3 "spans" (spSpansX K)) (c_law_same : Cl P w K mg base CX0 3 "_law_same" (spSame 2)) (c_law_far : Cl P w K mg base CX0 2 "_law_far" (spFar K)) (eBW : ErrK K "BadWidth" 2) :
    FnOk P w K mg base CX0 (5 + 1) f (PySem.W.fnOf "law" "law" (defArgs s_law) (defBody s_law) (defScope s_law) dV kV doc pm an (.ref c) ct) ["_law_script"] (spLaw K Pt) := by
  obtain ⟨ock, odk, kVk, dock, pmk, ank, cdvk, ctk, oslk, rfl, lkK, hcK⟩ := GK.fn.ex
  refine fn_of lk hcd sc_law (fun vs H Q E h => ?_) (fun A outer s H vs Q E hr h => ?_)
  · obtain ⟨a, ns, rfl, _⟩ := h
    rfl
  · obtain ⟨a, ns, rfl, hS, hlen, hPt, k⟩ := h
    refine ⟨_, PSs.nox (pss_cons (ps_set (i := 1) sc_law.nd rfl (.inl rfl) (pe_cl c_law_start hr (by decide) (by rfl) (pa_cons (pv 0) pa_nil)))
      (pss_cons (ps_for PassesOwn.never (by rfl) (pi_range1 (by rfl) T.b_range (pa_cons pe_int pa_nil)) (pg_name (i := 2) sc_law.nd rfl (.inl rfl)) (pss_cons (ps_set (i := 3) sc_law.nd rfl (.inr rfl) (pe_cl c_law_frame hr (by decide) (by rfl) (pa_cons (pv 1) pa_nil)))
      (pss_cons (ps_set (i := 4) sc_law.nd rfl (.inl rfl) (pe_callTy (clList K) (by rfl) T.b_list (by decide +kernel) (pa_cons (pv 3) pa_nil)))
      (pss_cons (ps_for PassesOwn.never (by rfl) (pi_range1 (by rfl) T.b_range (pa_cons pe_int pa_nil)) (pg_name (i := 5) sc_law.nd rfl (.inl rfl)) (pss_cons (ps_set (i := 6) sc_law.nd rfl (.inl rfl) (pe_op op_add pe_int (pe_cl c_law_drawn hr (by decide) (by rfl) (pa_cons (pv 1) (pa_cons (pe_ix (ixL K) (pe_lst (pa_cons (pe_op op_mulW pe_int (pe_callB (clLen K) (by rfl) T.b_len (by decide +kernel) (pa_cons (pv 3) pa_nil))) (pa_cons (pe_op op_mulW pe_int (pe_callB (clLen K) (by rfl) T.b_len (by decide +kernel) (pa_cons (pv 3) pa_nil))) (pa_cons (pe_op op_mulW pe_int (pe_callB (clLen K) (by rfl) T.b_len (by decide +kernel) (pa_cons (pv 3) pa_nil))) (pa_cons pe_int pa_nil))))) (pv 5) (fun _ _ => rfl)) pa_nil)))))
      (pss_cons (ps_if (PW.pt (pw_and (pt_cmpR op_eq (pv 5) pe_int (nomark _)) (pw_and1 (pt_cmpR op_eq (pe_cl c_law_drawn hr (by decide) (by rfl) (pa_cons (pv 1) (pa_cons pe_int pa_nil))) pe_int (nomark _))))) (pss_one (ps_set (i := 6) sc_law.nd rfl (.inl rfl) (pe_op op_sub pe_int (pe_cl c_law_drawn hr (by decide) (by rfl) (pa_cons (pv 1) (pa_cons pe_int pa_nil)))))) pss_nil)
      (pss_cons (ps_set (i := 7) sc_law.nd rfl (.inl rfl) (pe_cl c_law_windows hr (by decide) (by rfl) (pa_cons (pv 3) (pa_cons (pv 6) pa_nil))))
      (pss_one (ps_if (PW.pt (pw_or (pt_not (pt_val (pe_cl c_law_same hr (by decide) (by rfl) (pa_cons (pe_clG c_spans hr (by decide) (by rfl) (pa_cons (pv 4) (pa_cons (pv 6) pa_nil))) (pa_cons (pe_tup (pa_cons (pe_callB (clMin K rfl) (by rfl) T.b_min (by decide +kernel) (pa_cons (pv 7) pa_nil)) (pa_cons (pe_callB (clMax K rfl) (by rfl) T.b_max (by decide +kernel) (pa_cons (pv 7) pa_nil)) pa_nil))) pa_nil))))) (pw_or1 (pt_cmpR (opNeD K hr.units) (pv 4) (pv 3) (nomark _))))) (pss_one (ps_ret pe_bl)) pss_nil))))))
      (pss_cons (ps_set (i := 8) sc_law.nd rfl (.inr rfl) (pe_ix (ixL K) (pe_lst (pa_cons pe_int (pa_cons (pe_cl c_law_far hr (by decide) (by rfl) (pa_cons (pv 1) (pa_cons pe_int (pa_cons pe_int pa_nil)))) pa_nil))) (pe_cl c_law_drawn hr (by decide) (by rfl) (pa_cons (pv 1) (pa_cons pe_int pa_nil))) (fun _ _ => rfl)))
      (pss_one (ps_if (pt_cmpR op_ne (pe_lamcall (T := [(Pt, lamQ)]) (k := 3) (P := Pt) (by rfl) GK.mgf GK.fn.kp lkK hcK GK.b sc_law_kind rfl (.inl rfl) (kind_gives T) TB rfl List.mem_cons_self (fun p hp _ => by rw [List.mem_singleton] at hp; subst hp; rfl) (hr.mono (by decide)) (lamS_by (sc := defScope s_law) (by decide +kernel)) rfl (fun _ _ _ _ _ => rfl) (fun A outer s H E f c2 hr => (pe_clT c_spans hr (by decide) (passes_call (takes_of rfl rfl rfl rfl) (fun _ _ _ _ h => h)) (by rfl) (pa_cons (pv 3) (pa_cons (pv 8) pa_nil))))) pe_str (nomark _)) (pss_one (ps_ret pe_bl)) pss_nil)))))))
      (pss_one (ps_ret pe_bl)))), ?_⟩
    have hSm := noTab_sq hS
    have tb0 : Tabs [(Pt, lamQ)] H := fun p hp => by rw [List.mem_singleton] at hp; subst hp; exact TabS.nil hPt
    refine ⟨_, rfl, a, ns, rfl, hS, fun st m0 hst d0 => ?_⟩
    have hstm := noTab_none hst
    have s0 : SOk K a ns st (upd H st (StO a 0 m0 0)) := SOk.make hlen hS hst d0
    have e0 : Same (noTab H) (upd H st (StO a 0 m0 0)) := (noTab_same H).new hst
    have t0 : Tabs [(Pt, lamQ)] (upd H st (StO a 0 m0 0)) := tabs_same tb0 (Same.upd hst)
    generalize upd H st (StO a 0 m0 0) = H0 at s0 e0 t0
    refine ⟨_, rfl, by decide, by decide, for_range (lo := 0) (n := 8) (fun i σ H' => (∃ v2 v3 v4 v5 v6 v7 v8 : Option V, σ = [some (.ref a), some (.ref st), v2, v3, v4, v5, v6, v7, v8]) ∧ SOk K a ns st H' ∧ Same (noTab H) H' ∧ Tabs [(Pt, lamQ)] H')
      ⟨⟨none, none, none, none, none, none, none, rfl⟩, s0, e0, t0⟩ ?_ ?_⟩
    · rintro i σ H1 hi ⟨⟨v2, v3, v4, v5, v6, v7, v8, rfl⟩, s1, e1, t1⟩
      refine ⟨_, rfl, st, a, ns, rfl, s1, fun fs l H2 hf hl k2 s2 hl2 => ?_⟩
      have e2 : Same (noTab H) H2 := e1.keepAll hstm k2
      have t2 := s1.tabs t1 k2
      have h0 := hf.pos
      have h64 := hf.le
      have hfl : (fs.map V.int).length = fs.length := List.length_map _
      have nls : l ≠ st := s1.ne_of hl
      refine ⟨_, rfl, _, _, rfl, .inl (SqL.of hl2), fun hn hhn => ?_⟩
      have s3 := s2.new (o := .lst (fs.map V.int)) hhn
      have e3 := e2.new (o := .lst (fs.map V.int)) hhn
      have t3 := tabs_same t2 (Same.upd (o := .lst (fs.map V.int)) hhn)
      have nhs : hn ≠ st := s2.ne_of hhn
      have hl3 : upd H2 hn (.lst (fs.map V.int)) l = some (.lst (fs.map V.int)) := by rw [upd_ne (ne_of_none hl2 hhn)]; exact hl2
      have hh3 : upd H2 hn (.lst (fs.map V.int)) hn = some (.lst (fs.map V.int)) := upd_same
      generalize upd H2 hn (.lst (fs.map V.int)) = H3 at s3 e3 t3 hl3 hh3
      refine ⟨_, rfl, by decide, by decide, for_range (lo := 0) (n := 4) (fun j σ H' => (∃ v5 v6 v7 v8 : Option V, σ = [some (.ref a), some (.ref st), some (.int (0 + (i : Int))), some (.ref l), some (.ref hn), v5, v6, v7, v8]) ∧ SOk K a ns st H' ∧ Same (noTab H) H' ∧ Tabs [(Pt, lamQ)] H' ∧ H' l = some (.lst (fs.map V.int)) ∧ H' hn = some (.lst (fs.map V.int)))
        ⟨⟨v5, v6, v7, v8, rfl⟩, s3, e3, t3, hl3, hh3⟩ ?_ ?_⟩
      · rintro j σ H4 hj ⟨⟨v5, v6, v7, v8, rfl⟩, s4, e4, t4, hl4, hh4⟩
        refine ⟨_, rfl, _, rfl, _, _, rfl, .inl (SqL.of hl4), _, _, rfl, rfl, wide_mul (a := 2) (b := 7) (by decide) (by rw [hfl]; omega) (by decide) (by decide) (by decide), _, rfl, _, _, rfl, .inl (SqL.of hl4), _, _, rfl, rfl, wide_mul (a := 2) (b := 7) (by decide) (by rw [hfl]; omega) (by decide) (by decide) (by decide), _, rfl, _, _, rfl, .inl (SqL.of hl4), _, _, rfl, rfl, wide_mul (a := 2) (b := 7) (by decide) (by rw [hfl]; omega) (by decide) (by decide) (by decide), (by show 4 ≤ sizeLine; decide), fun p5 hp5 => ?_⟩
        have s5 := s4.new (o := .lst [.int (2 * ((fs.map V.int).length : Int)), .int (2 * ((fs.map V.int).length : Int)), .int (2 * ((fs.map V.int).length : Int)), .int 1000]) hp5
        have e5 : Same H4 (upd H4 p5 (.lst [.int (2 * ((fs.map V.int).length : Int)), .int (2 * ((fs.map V.int).length : Int)), .int (2 * ((fs.map V.int).length : Int)), .int 1000])) := Same.upd hp5
        have hp5' : upd H4 p5 (.lst [.int (2 * ((fs.map V.int).length : Int)), .int (2 * ((fs.map V.int).length : Int)), .int (2 * ((fs.map V.int).length : Int)), .int 1000]) p5 = some (.lst [.int (2 * ((fs.map V.int).length : Int)), .int (2 * ((fs.map V.int).length : Int)), .int (2 * ((fs.map V.int).length : Int)), .int 1000]) := upd_same
        generalize upd H4 p5 (.lst [.int (2 * ((fs.map V.int).length : Int)), .int (2 * ((fs.map V.int).length : Int)), .int (2 * ((fs.map V.int).length : Int)), .int 1000]) = H5 at s5 e5 hp5'
        have hat : ∃ v : Int, atI [V.int (2 * ((fs.map V.int).length : Int)), V.int (2 * ((fs.map V.int).length : Int)), V.int (2 * ((fs.map V.int).length : Int)), V.int 1000] (0 + (j : Int)) = some (.int v) ∧ 1 ≤ v ∧ v ≤ 1000 := by
          rw [hfl]
          have : j = 0 ∨ j = 1 ∨ j = 2 ∨ j = 3 := by omega
          rcases this with e | e | e | e <;> subst e
          · exact ⟨_, rfl, by omega, by omega⟩
          · exact ⟨_, rfl, by omega, by omega⟩
          · exact ⟨_, rfl, by omega, by omega⟩
          · exact ⟨_, rfl, by decide, by decide⟩
        obtain ⟨far, hfar, f0, f1⟩ := hat
        refine ⟨_, rfl, _, _, _, _, rfl, rfl, SqL.of hp5', hfar, st, a, ns, far, rfl, s5, by omega, Int.lt_of_le_of_lt f1 (by decide), fun r ib mb cb r0 r1 db => ⟨_, _, rfl, rfl, ?_⟩⟩
        have s6 := s5.drawn db
        have k6 : Keep st H4 (upd H5 st (StO a ib mb cb)) := e5.keep.atSt
        generalize upd H5 st (StO a ib mb cb) = H6 at s6 k6
        have e6 : Same (noTab H) H6 := e4.keepAll hstm k6
        have t6 := s4.tabs t4 k6
        have hl6 := k6 _ _ nls hl4
        have hh6 := k6 _ _ nhs hh4
        refine ⟨_, rfl, rfl, _, rfl, ?_⟩
        by_cases c3 : V.int (0 + (j : Int)) = V.int 3
        · refine iteTe (decide_eq_true c3) ⟨_, rfl, st, a, ns, 6, rfl, s6, by decide, by decide, fun u ic mc cc u0 u1 dc => ⟨rfl, _, rfl, ?_⟩⟩
          have s7 := s6.drawn dc
          have k7 : Keep st H4 (upd H6 st (StO a ic mc cc)) := k6.atSt
          generalize upd H6 st (StO a ic mc cc) = H7 at s7 k7
          by_cases c5 : V.int u = V.int 5
          · refine iteTe (decide_eq_true c5) ⟨_, rfl, st, a, ns, 70, rfl, s7, by decide, by decide, fun x id md cd x0 x1 dd => ⟨_, _, rfl, rfl, ?_⟩⟩
            have sc := s7.drawn dd
            have kc : Keep st H4 (upd H7 st (StO a id md cd)) := k7.atSt
            generalize upd H7 st (StO a id md cd) = Hc at sc kc
            have ec : Same (noTab H) Hc := e4.keepAll hstm kc
            have tc := s4.tabs t4 kc
            have lc := kc _ _ nls hl4
            have hc := kc _ _ nhs hh4
            have w2 : ((10000 - x).toNat : Int) = 10000 - x := Int.toNat_of_nonneg (by omega)
            refine ⟨_, rfl, _, rfl, l, fs, (10000 - x).toNat, by rw [w2]; rfl, lc, hf, by omega, fun pw He ee hpw hpwe => ?_⟩
            have hln := ee _ _ lc
            have hhn := ee _ _ hc
            refine ⟨_, rfl, _, rfl, hn, fs, 10000 - x, rfl, SqL.of hhn, hf, .inl ⟨by omega, by omega, fun lo hi' t Hf g1 g2 ef ht htf => ?_⟩⟩
            have hpwf := ef _ _ hpwe
            have hwl : 0 < (wins fs (10000 - x).toNat).length := by rw [wins_len]; exact hf.pos
            refine ⟨_, rfl, _, _, rfl, SqL.of hpwf, hwl, fun lo2 l1 l2 => ⟨_, rfl, _, _, rfl, SqL.of hpwf, hwl, fun hi2 h1 h2 => ⟨(by show 2 ≤ sizeLine; decide), fun q hq => ?_⟩⟩⟩
            have elo : lo2 = lo := Int.le_antisymm (l2 _ g1.1) (g1.2 _ l1)
            have ehi : hi2 = hi' := Int.le_antisymm (g2.2 _ h1) (h2 _ g2.1)
            subst elo ehi
            have eg : Same Hf (upd Hf q (.tup [.int lo2, .int hi2])) := Same.upd hq
            have hqg : upd Hf q (.tup [.int lo2, .int hi2]) q = some (.tup [.int lo2, .int hi2]) := upd_same
            generalize upd Hf q (.tup [.int lo2, .int hi2]) = Hg at eg hqg
            have hsame : SameD Hg 2 (.ref t) (.ref q) := .tup 1 t q _ _ (eg _ _ htf) hqg rfl (by show 2 ≤ 1000; decide) fun j x y x1 x2 => by
              rw [x1] at x2; cases x2
              match j, x1 with
              | 0, x1 => cases x1; exact .int 1 _
              | 1, x1 => cases x1; exact .int 1 _
              | j + 2, x1 => cases x1
            refine ⟨_, _, rfl, hsame, fun Hh eh => ⟨_, rfl, iteF ?_⟩⟩
            have ech : Same Hc Hh := ((ee.trans ef).trans eg).trans eh
            refine ⟨_, rfl, _, rfl, _, _, dp_ints (SqL.of (ech _ _ hc)), dp_ints (SqL.of (ech _ _ lc)), dI_shaped _, dI_shaped _, _, rfl, ?_⟩
            refine iteFe (by rw [dI_eqv, decide_eq_true rfl]; rfl) ?_
            exact ⟨⟨_, _, _, _, rfl⟩, sc.same ech, ec.trans ech, tabs_same tc ech, ech _ _ lc, ech _ _ hc⟩
          · refine iteFe (decide_eq_false c5) ?_
            have sc := s7
            have ec : Same (noTab H) H7 := e4.keepAll hstm k7
            have tc := s4.tabs t4 k7
            have lc := k7 _ _ nls hl4
            have hc := k7 _ _ nhs hh4
            generalize H7 = Hc at sc ec tc lc hc
            have w2 : ((1 + r).toNat : Int) = 1 + r := Int.toNat_of_nonneg (by omega)
            refine ⟨_, rfl, _, rfl, l, fs, (1 + r).toNat, by rw [w2]; rfl, lc, hf, by omega, fun pw He ee hpw hpwe => ?_⟩
            have hln := ee _ _ lc
            have hhn := ee _ _ hc
            refine ⟨_, rfl, _, rfl, hn, fs, 1 + r, rfl, SqL.of hhn, hf, .inl ⟨by omega, by omega, fun lo hi' t Hf g1 g2 ef ht htf => ?_⟩⟩
            have hpwf := ef _ _ hpwe
            have hwl : 0 < (wins fs (1 + r).toNat).length := by rw [wins_len]; exact hf.pos
            refine ⟨_, rfl, _, _, rfl, SqL.of hpwf, hwl, fun lo2 l1 l2 => ⟨_, rfl, _, _, rfl, SqL.of hpwf, hwl, fun hi2 h1 h2 => ⟨(by show 2 ≤ sizeLine; decide), fun q hq => ?_⟩⟩⟩
            have elo : lo2 = lo := Int.le_antisymm (l2 _ g1.1) (g1.2 _ l1)
            have ehi : hi2 = hi' := Int.le_antisymm (g2.2 _ h1) (h2 _ g2.1)
            subst elo ehi
            have eg : Same Hf (upd Hf q (.tup [.int lo2, .int hi2])) := Same.upd hq
            have hqg : upd Hf q (.tup [.int lo2, .int hi2]) q = some (.tup [.int lo2, .int hi2]) := upd_same
            generalize upd Hf q (.tup [.int lo2, .int hi2]) = Hg at eg hqg
            have hsame : SameD Hg 2 (.ref t) (.ref q) := .tup 1 t q _ _ (eg _ _ htf) hqg rfl (by show 2 ≤ 1000; decide) fun j x y x1 x2 => by
              rw [x1] at x2; cases x2
              match j, x1 with
              | 0, x1 => cases x1; exact .int 1 _
              | 1, x1 => cases x1; exact .int 1 _
              | j + 2, x1 => cases x1
            refine ⟨_, _, rfl, hsame, fun Hh eh => ⟨_, rfl, iteF ?_⟩⟩
            have ech : Same Hc Hh := ((ee.trans ef).trans eg).trans eh
            refine ⟨_, rfl, _, rfl, _, _, dp_ints (SqL.of (ech _ _ hc)), dp_ints (SqL.of (ech _ _ lc)), dI_shaped _, dI_shaped _, _, rfl, ?_⟩
            refine iteFe (by rw [dI_eqv, decide_eq_true rfl]; rfl) ?_
            exact ⟨⟨_, _, _, _, rfl⟩, sc.same ech, ec.trans ech, tabs_same tc ech, ech _ _ lc, ech _ _ hc⟩
        · refine iteFe (decide_eq_false c3) (iteF ?_)
          have sc := s6
          have ec := e6
          have tc := t6
          have lc := hl6
          have hc := hh6
          generalize H6 = Hc at sc ec tc lc hc
          have w2 : ((1 + r).toNat : Int) = 1 + r := Int.toNat_of_nonneg (by omega)
          refine ⟨_, rfl, _, rfl, l, fs, (1 + r).toNat, by rw [w2]; rfl, lc, hf, by omega, fun pw He ee hpw hpwe => ?_⟩
          have hln := ee _ _ lc
          have hhn := ee _ _ hc
          refine ⟨_, rfl, _, rfl, hn, fs, 1 + r, rfl, SqL.of hhn, hf, .inl ⟨by omega, by omega, fun lo hi' t Hf g1 g2 ef ht htf => ?_⟩⟩
          have hpwf := ef _ _ hpwe
          have hwl : 0 < (wins fs (1 + r).toNat).length := by rw [wins_len]; exact hf.pos
          refine ⟨_, rfl, _, _, rfl, SqL.of hpwf, hwl, fun lo2 l1 l2 => ⟨_, rfl, _, _, rfl, SqL.of hpwf, hwl, fun hi2 h1 h2 => ⟨(by show 2 ≤ sizeLine; decide), fun q hq => ?_⟩⟩⟩
          have elo : lo2 = lo := Int.le_antisymm (l2 _ g1.1) (g1.2 _ l1)
          have ehi : hi2 = hi' := Int.le_antisymm (g2.2 _ h1) (h2 _ g2.1)
          subst elo ehi
          have eg : Same Hf (upd Hf q (.tup [.int lo2, .int hi2])) := Same.upd hq
          have hqg : upd Hf q (.tup [.int lo2, .int hi2]) q = some (.tup [.int lo2, .int hi2]) := upd_same
          generalize upd Hf q (.tup [.int lo2, .int hi2]) = Hg at eg hqg
          have hsame : SameD Hg 2 (.ref t) (.ref q) := .tup 1 t q _ _ (eg _ _ htf) hqg rfl (by show 2 ≤ 1000; decide) fun j x y x1 x2 => by
            rw [x1] at x2; cases x2
            match j, x1 with
            | 0, x1 => cases x1; exact .int 1 _
            | 1, x1 => cases x1; exact .int 1 _
            | j + 2, x1 => cases x1
          refine ⟨_, _, rfl, hsame, fun Hh eh => ⟨_, rfl, iteF ?_⟩⟩
          have ech : Same Hc Hh := ((ee.trans ef).trans eg).trans eh
          refine ⟨_, rfl, _, rfl, _, _, dp_ints (SqL.of (ech _ _ hc)), dp_ints (SqL.of (ech _ _ lc)), dI_shaped _, dI_shaped _, _, rfl, ?_⟩
          refine iteFe (by rw [dI_eqv, decide_eq_true rfl]; rfl) ?_
          exact ⟨⟨_, _, _, _, rfl⟩, sc.same ech, ec.trans ech, tabs_same tc ech, ech _ _ lc, ech _ _ hc⟩
      · rintro σ H4 ⟨⟨v5, v6, v7, v8, rfl⟩, s4, e4, t4, hl4, hh4⟩
        refine ⟨_, rfl, st, a, ns, 1, 10000, rfl, s4, fun v H5 hv k5 s5 => ⟨(by show 2 ≤ sizeLine; decide), fun p6 hp6 => ?_⟩⟩
        have s6 := s5.new (o := .lst [.int 0, .int v]) hp6
        have k6 := k5.new (o := .lst [.int 0, .int v]) hp6
        have n6 := s5.ne_of hp6
        refine ⟨_, rfl, st, a, ns, 2, rfl, s6, by decide, by decide, fun r7 i7 m7 c7 r70 r71 d7 => ?_⟩
        have s7 := s6.drawn d7
        have k7 := k6.atSt (o := StO a i7 m7 c7)
        have hp7 : (upd (upd H5 p6 (.lst [.int 0, .int v])) st (StO a i7 m7 c7)) p6 = some (.lst [.int 0, .int v]) := by rw [upd_ne n6, upd_same]
        generalize upd (upd H5 p6 (.lst [.int 0, .int v])) st (StO a i7 m7 c7) = H7 at s7 k7 hp7
        have e7 : Same (noTab H) H7 := e4.keepAll hstm k7
        have t7 := s4.tabs t4 k7
        have hl7 := k7 _ _ nls hl4
        have hat : ∃ odd : Int, atI [V.int 0, V.int v] r7 = some (.int odd) ∧ ¬ (1 ≤ odd ∧ odd ≤ 10000) := by
          have hx : r7 = 0 ∨ r7 = 1 := by omega
          rcases hx with e | e <;> subst e
          · exact ⟨_, rfl, by omega⟩
          · exact ⟨_, rfl, by omega⟩
        obtain ⟨odd, hodd, hbad⟩ := hat
        refine ⟨_, _, _, _, rfl, rfl, SqL.of hp7, hodd, t7, fun H8 eN tN => ?_⟩
        have hl8 := eN _ _ hl7 fun _ z => nomatch z
        have s8 := s7.extN hSm hstm e7 eN
        have e8 := extN_same e7 eN
        refine ⟨_, rfl, _, rfl, l, fs, odd, rfl, SqL.of hl8, hf, .inr ⟨hbad, fun H9 e9 => ?_⟩⟩
        refine ⟨"BadWidth", 2, rfl, rfl, eBW, fun Ha ea => ?_⟩
        refine ⟨rfl, _, rfl, iteFe (neqF rfl) ?_⟩
        have e8a := e9.trans ea
        exact ⟨⟨_, _, _, _, _, _, _, rfl⟩, s8.same e8a, e8.trans e8a, tabs_same tN e8a⟩
    · rintro σ H1 ⟨⟨v2, v3, v4, v5, v6, v7, v8, rfl⟩, s1, e1, t1⟩
      exact k _
end
end My

namespace My
open PySem PySem.Spec PyProof.Rows LamX L2
def dd_law_start : He.DefD := ⟨("_law_start", none), "_law_start", "_law_start", defArgs s_law_start, defBody s_law_start, defScope s_law_start, [], []⟩
def dd_law_drawn : He.DefD := ⟨("_law_drawn", none), "_law_drawn", "_law_drawn", defArgs s_law_drawn, defBody s_law_drawn, defScope s_law_drawn, [], []⟩
def dd_law_share : He.DefD := ⟨("_law_share", none), "_law_share", "_law_share", defArgs s_law_share, defBody s_law_share, defScope s_law_share, [], []⟩
def dd_law_even : He.DefD := ⟨("_law_even", none), "_law_even", "_law_even", defArgs s_law_even, defBody s_law_even, defScope s_law_even, [], []⟩
def dd_law_kind : He.DefD := ⟨("_law_kind", none), "_law_kind", "_law_kind", defArgs s_law_kind, defBody s_law_kind, defScope s_law_kind, [], []⟩
def dd_law_frame : He.DefD := ⟨("_law_frame", none), "_law_frame", "_law_frame", defArgs s_law_frame, defBody s_law_frame, defScope s_law_frame, [], []⟩
def dd_law_windows : He.DefD := ⟨("_law_windows", none), "_law_windows", "_law_windows", defArgs s_law_windows, defBody s_law_windows, defScope s_law_windows, [], []⟩
def dd_need_frame : He.DefD := ⟨("need_frame", none), "need_frame", "need_frame", defArgs s_need_frame, defBody s_need_frame, defScope s_need_frame, [], []⟩
def dd_sums_of : He.DefD := ⟨("sums_of", none), "sums_of", "sums_of", defArgs s_sums_of, defBody s_sums_of, defScope s_sums_of, [], []⟩
def dd_spans_of : He.DefD := ⟨("spans_of", none), "spans_of", "spans_of", defArgs s_spans_of, defBody s_spans_of, defScope s_spans_of, [], []⟩
def dd_spans : He.DefD := ⟨("spans", none), "spans", "spans", defArgs s_spans, defBody s_spans, defScope s_spans, [], []⟩
def dd_law_far : He.DefD := ⟨("_law_far", none), "_law_far", "_law_far", defArgs s_law_far, defBody s_law_far, defScope s_law_far, [], []⟩
def dd_law_same : He.DefD := ⟨("_law_same", none), "_law_same", "_law_same", defArgs s_law_same, defBody s_law_same, defScope s_law_same, [], []⟩
def dd_law : He.DefD := ⟨("law", none), "law", "law", defArgs s_law, defBody s_law, defScope s_law, [], []⟩
def hfn : List He.DefD := [dd_law_start, dd_law_drawn, dd_law_share, dd_law_even, dd_law_kind, dd_law_frame, dd_law_windows, dd_need_frame, dd_sums_of, dd_spans_of, dd_spans, dd_law_far, dd_law_same, dd_law]
def hfa : List He.Fa := [.glo "_law_start", .glo "_law_drawn", .glo "_law_share", .glo "_law_even", .glo "_law_kind", .glo "_law_frame", .glo "_law_windows", .glo "need_frame", .glo "sums_of", .glo "spans_of", .glo "spans", .glo "_law_far", .glo "_law_same", .glo "law", .glo "BadBegins", .glo "BadFrame", .glo "BadRuns", .glo "BadShare", .glo "BadText", .glo "BadWidth", .glo "NoRoom", .glo "PulseError", .exc "BadWidth", .exm "BadWidth" "PulseError" true, .int "MOST_BEATS" 64, .int "MOST_WIDTH" 10000, .free "ValueError", .free "bool", .free "divmod", .free "int", .free "isinstance", .free "len", .free "list", .free "max", .free "min", .free "range", .free "str", .free "sum", .free "tuple"]
def exL (K : PySem.W.Frag) : List Bool := [decide (PySem.W.specialIn K (.builtin "object.__class__") "__get__" = some (some (.builtin "getset_descriptor.__get__"))),
  decide (PySem.W.takesIn K (.builtin "object.__class__") = some true),
  decide (PySem.W.findIn K (.ref (He.ga K "BadWidth")) "__getattribute__" = some (some (.builtin "BaseException.__getattribute__"))),
  decide (PySem.W.findIn K (.ref (He.ga K "BadWidth")) "__getattr__" = some none),
  decide (PySem.W.subIn K (.ref (He.ga K "BadWidth")) (.type "BaseException") = some true),
  PySem.W.hasDictIn K (He.ga K "BadWidth"),
  decide (PySem.W.findIn K (.ref (He.ga K "BadWidth")) "__class__" = some (some (.builtin "object.__class__"))),
  decide (PySem.W.mroIn K (He.ga K "BadWidth") (.type "object") = some true),
  decide (PySem.W.kitOne K (.ref (He.ga K "BadWidth")) (.ref (He.ga K "BadFrame")) = some (decide (2 = 0))),
  decide (PySem.W.kitOne K (.ref (He.ga K "BadWidth")) (.ref (He.ga K "BadShare")) = some (decide (2 = 1))),
  decide (PySem.W.kitOne K (.ref (He.ga K "BadWidth")) (.ref (He.ga K "BadWidth")) = some (decide (2 = 2))),
  decide (PySem.W.kitOne K (.ref (He.ga K "BadWidth")) (.ref (He.ga K "BadBegins")) = some (decide (2 = 3))),
  decide (PySem.W.kitOne K (.ref (He.ga K "BadWidth")) (.ref (He.ga K "BadRuns")) = some (decide (2 = 4))),
  decide (PySem.W.kitOne K (.ref (He.ga K "BadWidth")) (.ref (He.ga K "NoRoom")) = some (decide (2 = 5))),
  decide (PySem.W.kitOne K (.ref (He.ga K "BadWidth")) (.ref (He.ga K "BadText")) = some (decide (2 = 6))),
  decide (PySem.W.kitOne K (.ref (He.ga K "BadWidth")) (.type "ValueError") = some true)]
def hex (K : PySem.W.Frag) : Bool := (exL K).all id
theorem hex_at {K : PySem.W.Frag} (h : hex K = true) (i : Nat) {b : Bool} (e : (exL K)[i]? = some b := by rfl) : b = true := List.all_eq_true.mp h b (List.mem_of_getElem? e)
abbrev hR : PySem.W.OpenRow := PySem.W.OpenLaw.row PySem.Challenge.rw_pulseshare_k03_windows
abbrev hkk : PySem.W.Hook := He.hookX 4 hfa hfn [] [("law", none)] hex
def hob (s : PySem.W.SharedT) : He.AlX := He.obsX 4 hfa hfn [] [("law", none)] hex (HandSHeadRun.getT s)
theorem hob_eq (s : PySem.W.SharedT) : hob s = hkk.obs s.abs := He.obsX_eq (HandSHeadRun.getT_eq s)
theorem hrun (w : World) : HandSHeadRun.RunEq hR (PySem.W.view hR.prog [26]) hkk hob 4000 ["PulseError", "BadFrame", "BadShare", "BadWidth", "BadBegins", "BadRuns", "NoRoom", "BadText", "MOST_BEATS", "MOST_WIDTH", "need_frame", "sums_of", "spans_of", "spans", "_law_start", "_law_drawn", "_law_same", "_law_kind", "_law_far", "_law_share", "_law_frame", "_law_even", "_law_windows"] w := by
  intro os
  kernel_rfl
theorem fun_of_D {K : PySem.W.Frag} {x q : Str} {st : Stmt} {f : Addr} {fd : FuncData} (F : FunD K x q (defArgs st) (defBody st) (defScope st) [] [] f fd) : Fun K x q st f fd := by
  obtain ⟨oc, od, dV, kV, doc, pm, an, cdv, ct, osl, e, lk, hcd, hD, hK⟩ := F.ex
  rcases hD with ⟨_, e2⟩ | ⟨e2, _⟩
  · subst e2
    exact ⟨⟨oc, od, kV, doc, pm, an, cdv, ct, osl, e, lk, hcd⟩, F.kp⟩
  · exact absurd rfl e2
theorem facts {l : PySem.W.OpenLaw} {w : World} {K : PySem.W.Frag} {h : Heap} {mg : Str → Option Value} {fa : Addr} (KX : K.In h) (G : h.Ns mainGlobals mg) (hmg : mg ("law" : Str) = some (.ref fa)) (c : He.SaysX hfa hfn [] [("law", none)] hex w h K) : LawAtS l w K CX0 6 63 "_law_script" mg fa h := by
  obtain ⟨fd_law_start, FD_law_start⟩ := c.t.d.def_ 0 (d := dd_law_start) rfl
  have G_law_start : FunG K mg "_law_start" s_law_start (He.ga K "_law_start") fd_law_start ["_law_script"] := ⟨fun_of_D FD_law_start, He.glo_ok KX G (c.t.d.fact 0 (f := .glo "_law_start") rfl), FunD.bindsN (ps := ["_law_script"]) FD_law_start fun _ _ _ _ _ _ us hl => match us, hl with | [_], _ => rfl⟩
  obtain ⟨fd_law_drawn, FD_law_drawn⟩ := c.t.d.def_ 1 (d := dd_law_drawn) rfl
  have G_law_drawn : FunG K mg "_law_drawn" s_law_drawn (He.ga K "_law_drawn") fd_law_drawn ["_law_state", "_law_many"] := ⟨fun_of_D FD_law_drawn, He.glo_ok KX G (c.t.d.fact 1 (f := .glo "_law_drawn") rfl), FunD.bindsN (ps := ["_law_state", "_law_many"]) FD_law_drawn fun _ _ _ _ _ _ us hl => match us, hl with | [_, _], _ => rfl⟩
  obtain ⟨fd_law_share, FD_law_share⟩ := c.t.d.def_ 2 (d := dd_law_share) rfl
  have G_law_share : FunG K mg "_law_share" s_law_share (He.ga K "_law_share") fd_law_share ["_law_state"] := ⟨fun_of_D FD_law_share, He.glo_ok KX G (c.t.d.fact 2 (f := .glo "_law_share") rfl), FunD.bindsN (ps := ["_law_state"]) FD_law_share fun _ _ _ _ _ _ us hl => match us, hl with | [_], _ => rfl⟩
  obtain ⟨fd_law_even, FD_law_even⟩ := c.t.d.def_ 3 (d := dd_law_even) rfl
  have G_law_even : FunG K mg "_law_even" s_law_even (He.ga K "_law_even") fd_law_even ["_law_beats", "_law_pulses", "_law_turn"] := ⟨fun_of_D FD_law_even, He.glo_ok KX G (c.t.d.fact 3 (f := .glo "_law_even") rfl), FunD.bindsN (ps := ["_law_beats", "_law_pulses", "_law_turn"]) FD_law_even fun _ _ _ _ _ _ us hl => match us, hl with | [_, _, _], _ => rfl⟩
  obtain ⟨fd_law_kind, FD_law_kind⟩ := c.t.d.def_ 4 (d := dd_law_kind) rfl
  have G_law_kind : FunG K mg "_law_kind" s_law_kind (He.ga K "_law_kind") fd_law_kind ["_law_work"] := ⟨fun_of_D FD_law_kind, He.glo_ok KX G (c.t.d.fact 4 (f := .glo "_law_kind") rfl), FunD.bindsN (ps := ["_law_work"]) FD_law_kind fun _ _ _ _ _ _ us hl => match us, hl with | [_], _ => rfl⟩
  obtain ⟨fd_law_frame, FD_law_frame⟩ := c.t.d.def_ 5 (d := dd_law_frame) rfl
  have G_law_frame : FunG K mg "_law_frame" s_law_frame (He.ga K "_law_frame") fd_law_frame ["_law_state"] := ⟨fun_of_D FD_law_frame, He.glo_ok KX G (c.t.d.fact 5 (f := .glo "_law_frame") rfl), FunD.bindsN (ps := ["_law_state"]) FD_law_frame fun _ _ _ _ _ _ us hl => match us, hl with | [_], _ => rfl⟩
  obtain ⟨fd_law_windows, FD_law_windows⟩ := c.t.d.def_ 6 (d := dd_law_windows) rfl
  have G_law_windows : FunG K mg "_law_windows" s_law_windows (He.ga K "_law_windows") fd_law_windows ["_law_frame_here", "_law_width"] := ⟨fun_of_D FD_law_windows, He.glo_ok KX G (c.t.d.fact 6 (f := .glo "_law_windows") rfl), FunD.bindsN (ps := ["_law_frame_here", "_law_width"]) FD_law_windows fun _ _ _ _ _ _ us hl => match us, hl with | [_, _], _ => rfl⟩
  obtain ⟨fd_need_frame, FD_need_frame⟩ := c.t.d.def_ 7 (d := dd_need_frame) rfl
  have G_need_frame : FunG K mg "need_frame" s_need_frame (He.ga K "need_frame") fd_need_frame ["frame"] := ⟨fun_of_D FD_need_frame, He.glo_ok KX G (c.t.d.fact 7 (f := .glo "need_frame") rfl), FunD.bindsN (ps := ["frame"]) FD_need_frame fun _ _ _ _ _ _ us hl => match us, hl with | [_], _ => rfl⟩
  obtain ⟨fd_sums_of, FD_sums_of⟩ := c.t.d.def_ 8 (d := dd_sums_of) rfl
  have G_sums_of : FunG K mg "sums_of" s_sums_of (He.ga K "sums_of") fd_sums_of ["frame", "width"] := ⟨fun_of_D FD_sums_of, He.glo_ok KX G (c.t.d.fact 8 (f := .glo "sums_of") rfl), FunD.bindsN (ps := ["frame", "width"]) FD_sums_of fun _ _ _ _ _ _ us hl => match us, hl with | [_, _], _ => rfl⟩
  obtain ⟨fd_spans_of, FD_spans_of⟩ := c.t.d.def_ 9 (d := dd_spans_of) rfl
  have G_spans_of : FunG K mg "spans_of" s_spans_of (He.ga K "spans_of") fd_spans_of ["frame", "width"] := ⟨fun_of_D FD_spans_of, He.glo_ok KX G (c.t.d.fact 9 (f := .glo "spans_of") rfl), FunD.bindsN (ps := ["frame", "width"]) FD_spans_of fun _ _ _ _ _ _ us hl => match us, hl with | [_, _], _ => rfl⟩
  obtain ⟨fd_spans, FD_spans⟩ := c.t.d.def_ 10 (d := dd_spans) rfl
  have G_spans : FunG K mg "spans" s_spans (He.ga K "spans") fd_spans ["frame", "width"] := ⟨fun_of_D FD_spans, He.glo_ok KX G (c.t.d.fact 10 (f := .glo "spans") rfl), FunD.bindsN (ps := ["frame", "width"]) FD_spans fun _ _ _ _ _ _ us hl => match us, hl with | [_, _], _ => rfl⟩
  obtain ⟨fd_law_far, FD_law_far⟩ := c.t.d.def_ 11 (d := dd_law_far) rfl
  have G_law_far : FunG K mg "_law_far" s_law_far (He.ga K "_law_far") fd_law_far ["_law_state", "_law_least", "_law_most"] := ⟨fun_of_D FD_law_far, He.glo_ok KX G (c.t.d.fact 11 (f := .glo "_law_far") rfl), FunD.bindsN (ps := ["_law_state", "_law_least", "_law_most"]) FD_law_far fun _ _ _ _ _ _ us hl => match us, hl with | [_, _, _], _ => rfl⟩
  obtain ⟨fd_law_same, FD_law_same⟩ := c.t.d.def_ 12 (d := dd_law_same) rfl
  have G_law_same : FunG K mg "_law_same" s_law_same (He.ga K "_law_same") fd_law_same ["_law_found", "_law_due"] := ⟨fun_of_D FD_law_same, He.glo_ok KX G (c.t.d.fact 12 (f := .glo "_law_same") rfl), FunD.bindsN (ps := ["_law_found", "_law_due"]) FD_law_same fun _ _ _ _ _ _ us hl => match us, hl with | [_, _], _ => rfl⟩
  obtain ⟨fd_law, FD_law⟩ := c.t.d.def_ 13 (d := dd_law) rfl
  have e := hmg.symm.trans (He.glo_ok KX G (c.t.d.fact 13 (f := .glo "law") rfl))
  cases e
  have bA := FunD.bindsA (ps := ["_law_script"]) FD_law fun _ _ _ _ _ _ us hl => match us, hl with | [_], _ => rfl
  obtain ⟨oc, od, kV, doc, pm, an, cdv, ct, osl, rfl, lk, hcd⟩ := (fun_of_D (st := s_law) FD_law).ex
  obtain ⟨c0, rfl⟩ := He.codeIn_ref hcd
  have ec : He.codeOf K ("law", none) = c0 := He.codeOf_eq lk rfl
  have h1 := c.hd ("law", none) List.mem_cons_self
  have h2 := c.out ("law", none) List.mem_cons_self
  have h3 := c.empty ("law", none) List.mem_cons_self
  unfold He.cT at h1 h2 h3
  rw [ec] at h1 h2 h3
  dsimp only at h1 h2 h3
  generalize He.tabOf K c0 = Pt at h1 h2 h3
  have T : Txt K mg := ⟨He.glo_ok KX G (c.t.d.fact 14 (f := .glo "BadBegins") rfl),
    He.glo_ok KX G (c.t.d.fact 15 (f := .glo "BadFrame") rfl),
    He.glo_ok KX G (c.t.d.fact 16 (f := .glo "BadRuns") rfl),
    He.glo_ok KX G (c.t.d.fact 17 (f := .glo "BadShare") rfl),
    He.glo_ok KX G (c.t.d.fact 18 (f := .glo "BadText") rfl),
    He.glo_ok KX G (c.t.d.fact 19 (f := .glo "BadWidth") rfl),
    ⟨He.glo_ok KX G (c.t.d.fact 19 (f := .glo "BadWidth") rfl), (He.exc_ok (c.t.d.fact 22 (f := .exc "BadWidth") rfl)).1, (He.exc_ok (c.t.d.fact 22 (f := .exc "BadWidth") rfl)).2.1, (He.exc_ok (c.t.d.fact 22 (f := .exc "BadWidth") rfl)).2.2.1, (He.exc_ok (c.t.d.fact 22 (f := .exc "BadWidth") rfl)).2.2.2⟩,
    (by obtain ⟨t, e⟩ := He.int_ok KX G (c.t.d.fact 24 (f := .int "MOST_BEATS" 64) rfl); exact ⟨_, e, t, rfl⟩),
    (by obtain ⟨t, e⟩ := He.int_ok KX G (c.t.d.fact 25 (f := .int "MOST_WIDTH" 10000) rfl); exact ⟨_, e, t, rfl⟩),
    He.glo_ok KX G (c.t.d.fact 20 (f := .glo "NoRoom") rfl),
    He.glo_ok KX G (c.t.d.fact 21 (f := .glo "PulseError") rfl),
    He.free_ok KX G (c.t.d.fact 26 (f := .free "ValueError") rfl),
    He.free_ok KX G (c.t.d.fact 27 (f := .free "bool") rfl),
    He.free_ok KX G (c.t.d.fact 28 (f := .free "divmod") rfl),
    He.free_ok KX G (c.t.d.fact 29 (f := .free "int") rfl),
    He.free_ok KX G (c.t.d.fact 30 (f := .free "isinstance") rfl),
    He.free_ok KX G (c.t.d.fact 31 (f := .free "len") rfl),
    He.free_ok KX G (c.t.d.fact 32 (f := .free "list") rfl),
    He.free_ok KX G (c.t.d.fact 33 (f := .free "max") rfl),
    He.free_ok KX G (c.t.d.fact 34 (f := .free "min") rfl),
    He.free_ok KX G (c.t.d.fact 35 (f := .free "range") rfl),
    He.free_ok KX G (c.t.d.fact 36 (f := .free "str") rfl),
    He.free_ok KX G (c.t.d.fact 37 (f := .free "sum") rfl),
    He.free_ok KX G (c.t.d.fact 38 (f := .free "tuple") rfl)⟩
  have e_BadWidth : ErrK K "BadWidth" 2 := ⟨⟨of_decide_eq_true (hex_at c.more 2), of_decide_eq_true (hex_at c.more 3), of_decide_eq_true (hex_at c.more 4), hex_at c.more 5, of_decide_eq_true (hex_at c.more 6), of_decide_eq_true (hex_at c.more 0), of_decide_eq_true (hex_at c.more 1), of_decide_eq_true (hex_at c.more 7)⟩, He.exm_ok (c.t.d.fact 23 (f := .exm "BadWidth" "PulseError" true) rfl), of_decide_eq_true (hex_at c.more 8), of_decide_eq_true (hex_at c.more 9), of_decide_eq_true (hex_at c.more 10), of_decide_eq_true (hex_at c.more 11), of_decide_eq_true (hex_at c.more 12), of_decide_eq_true (hex_at c.more 13), of_decide_eq_true (hex_at c.more 14), of_decide_eq_true (hex_at c.more 15), by decide, rfl⟩
  refine ⟨_, [(c0, Pt)], spLaw K Pt, fun p hp => ?_, fun p hp => ?_, fun p hp => ?_, fun s v => bA s [v] rfl, fun H a ns hl _ hT hS => ⟨a, ns, rfl, hS, hl, hT _ List.mem_cons_self, fun _ => rfl⟩, fun base KB GB TBs => ?_⟩
  · rw [List.mem_singleton] at hp; subst hp; exact h3
  · rw [List.mem_singleton] at hp; subst hp; exact h2
  · rw [List.mem_singleton] at hp; subst hp; exact PySem.W.codeHd_of_K KX h1
  · have TB := TBs (c0, Pt) List.mem_cons_self
    have c_law_start := G_law_start.clX (ok_law_start (P := l.prog) (w := w) (base := base) G_law_start )
    have c_law_drawn := G_law_drawn.clX (ok_law_drawn (P := l.prog) (w := w) (base := base) G_law_drawn T)
    have c_law_share := G_law_share.clX (ok_law_share (P := l.prog) (w := w) (base := base) G_law_share c_law_drawn)
    have c_law_even := G_law_even.clX (ok_law_even (P := l.prog) (w := w) (base := base) G_law_even T)
    have c_law_frame := G_law_frame.clX (ok_law_frame (P := l.prog) (w := w) (base := base) G_law_frame T c_law_drawn c_law_share c_law_even)
    have c_law_windows := G_law_windows.clX (ok_law_windows (P := l.prog) (w := w) (base := base) G_law_windows T)
    have c_need_frame := G_need_frame.clX (ok_need_frame (P := l.prog) (w := w) (base := base) G_need_frame T)
    have c_sums_of := G_sums_of.clX (ok_sums_of (P := l.prog) (w := w) (base := base) G_sums_of T)
    have c_spans_of := G_spans_of.clX (ok_spans_of (P := l.prog) (w := w) (base := base) G_spans_of T c_sums_of)
    have c_spans := G_spans.clX (ok_spans (P := l.prog) (w := w) (base := base) G_spans T c_need_frame c_spans_of)
    have c_law_far := G_law_far.clX (ok_law_far (P := l.prog) (w := w) (base := base) G_law_far c_law_drawn)
    have c_law_same := G_law_same.clX (ok_law_same (P := l.prog) (w := w) (base := base) G_law_same T 2)
    exact ok_law (P := l.prog) (w := w) (base := base) lk hcd T TB G_law_kind c_law_start c_law_drawn c_law_frame c_law_windows c_spans c_law_same c_law_far e_BadWidth
end My
open PySem PySem.W PySem.Calls PyProof.Rows
theorem PySem.Challenge.cw_pulseshare_k03_windows_holds : PySem.Challenge.rw_pulseshare_k03_windows.Holds := by
  w_on; o_law
  refine HandSHeadRun.head_any (r := OpenLaw.row PySem.Challenge.rw_pulseshare_k03_windows) (q := view (OpenLaw.row PySem.Challenge.rw_pulseshare_k03_windows).prog [26]) (H := My.hkk) (ob := My.hob) (M := 4000) (loose := ["PulseError", "BadFrame", "BadShare", "BadWidth", "BadBegins", "BadRuns", "NoRoom", "BadText", "MOST_BEATS", "MOST_WIDTH", "need_frame", "sums_of", "spans_of", "spans", "_law_start", "_law_drawn", "_law_same", "_law_kind", "_law_far", "_law_share", "_law_frame", "_law_even", "_law_windows"]) (d := HandSHeadRun.topDef (OpenLaw.row PySem.Challenge.rw_pulseshare_k03_windows).prog 26) (kwd := []) My.hob_eq
    (by kernel_rfl) (fun s => by kernel_rfl) My.hrun (by kernel_rfl) (by kernel_rfl) (by kernel_rfl) (by rfl) (by first | assumption | decide +kernel) (by decide +kernel) ⟨rfl, rfl, rfl, rfl, rfl, by decide +kernel⟩ ?hw ?hc
  case hw => w_witness2
  case hc =>
    refine LamX.walk_ofTsE (l := PySem.Challenge.rw_pulseshare_k03_windows) (n := 63) (k := 6) (x := "_law_script") (CX := fun _ => L2.CX0) rfl (by decide) (by kernel_rfl) ⟨rfl, by decide, by decide⟩ ?F (fun _ _ _ _ _ z => z)
    intro w mg fa h Y G hmg0
    obtain ⟨K, KX, c⟩ := Y
    have hmg : mg ("law" : PySem.Str) = some (.ref fa) := by
      have e : (HandSHeadRun.topDef (OpenLaw.row PySem.Challenge.rw_pulseshare_k03_windows).prog 26).name = ("law" : PySem.Str) := by kernel_rfl
      rw [← e]
      exact hmg0
    exact ⟨K, KX, My.facts KX G hmg c⟩
