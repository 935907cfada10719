import PyProof.Rows.All
import Wide.All
import OpenK.AllK
import Wide.FinOn
import HandS.ForMost
import HandS.Wide
import HandS.WideBits
import HandS.IsInst
import HandS.Codes
import KE.KStateDown
import HandS.ExcIs
import HandS.WordsExc
import HandS.Defaults
import HandS.Head0
import HandS.Head1
import HandS.Head2
import HandS.HeadEnd
import HandS.HeadHook1
import HandS.HeadHook2
import HandS.HeadHook3
import HandS.HeadHook4
import HandS.HeadWalk
import HandS.EndTab
import HandS.Lambda
import HandS.Zip
import PySem.Challenge.RW_pulseshare_k12_frames_of_told_runs
set_option Elab.async false
set_option linter.all false
set_option maxRecDepth 100000
set_option maxHeartbeats 4000000
namespace My
open PySem PySem.Spec PyProof.Rows LamX L2
def top (i : Nat) : Stmt := PySem.Challenge.pw_pulseshare_k12_frames_of_told_runs.main.body.getD i (.Pass ⟨0, 0, 0, 0⟩)
/-! ### calls in short -/
/-- a def of the text, where it stands, and how its arguments bind -/
structure FunG (K : PySem.W.Frag) (mg : Str → Option Value) (x : Str) (st : Stmt) (f : Addr) (fd : FuncData) (ps : List Str) : Prop where
  fn : Fun K x x st f fd
  mgf : mg x = some (.ref f)
  b : Binds K fd ps []
/-- a def that may be called by its name -/
structure Cl (P : Program) (w : World) (K : PySem.W.Frag) (mg : Str → Option Value) (base : Heap) (CX : CXT) (k : Nat) (x : Str) (sp : Sp) : Prop where
  ex : ∃ (f : Addr) (fd : FuncData) (ps : List Str), FnOk P w K mg base CX k f fd ps sp ∧ mg x = some (.ref f) ∧ PySem.W.keepIn K (.ref f) = true ∧ Binds K fd ps []
theorem FunG.cl {P : Program} {w : World} {K : PySem.W.Frag} {mg : Str → Option Value} {base : Heap} {CX : CXT} {k : Nat} {x : Str} {st : Stmt} {f : Addr} {fd : FuncData} {ps : List Str} {sp : Sp} (F : FunG K mg x st f fd ps) (h : FnOk P w K mg base CX k f fd ps sp) :
    Cl P w K mg base CX k x sp := ⟨f, fd, ps, h, F.mgf, F.fn.kp, F.b⟩
section
variable {X : Cx} {k j : Nat} {x : Str} {p pos : Pos} {e : Expr} {es : List Expr} {t : TA} {sp : Sp}
theorem pe_cl (c : Cl X.prog X.w X.K X.mg X.base CX0 k x sp) (hr : Room j X.A) (hk : k ≤ j) (hg : Gl X x) (ha : PA X (e :: es) t)
    (hdb : (x == ("__debug__" : Str)) = false := by decide) (he : starEach (e :: es) X.env = (false, eval e X.env) :: starEach es X.env := by rfl) (hpl : (backTo pos (starEach es X.env)).any (·.1) = false := by rfl) :
    PE X (.Call (.Name x p) (e :: es) [] pos) (tCall sp [] E0 t) := by
  obtain ⟨f, fd, ps, F, hm, kp, b⟩ := c.ex
  exact pe_call F (hr.mono hk) hg hm kp b .nil pass0 ha hdb he hpl
end
/-! ### words -/
theorem iteFe {c : Bool} {A B : Prop} (h : c = false) (k : B) : if c = true then A else B := by
  subst h; exact iteF k
theorem iteTe {c : Bool} {A B : Prop} (h : c = true) (k : A) : if c = true then A else B := by
  subst h; exact iteT k
theorem iteJoin {c : Bool} {A B R : Prop} (hA : c = true → R → A) (hB : c = false → R → B) (r : R) : if c = true then A else B := by
  cases c with
  | true => exact iteT (hA rfl r)
  | false => exact iteF (hB rfl r)
theorem neqF {x y : V} (h : x = y) : (!decide (x = y)) = false := by rw [decide_eq_true h]; rfl
/-! ### rules with the written part said (within a comprehension's block it can't be found by unification) -/
section
variable (K : PySem.W.Frag) {X : Cx}
theorem ixL (h : X.K = K := by rfl) : IxR X (rIxL K) := h ▸ ix_list
theorem ixT (h : X.K = K := by rfl) : IxR X (rIxT K) := h ▸ ix_tup
theorem ixQ (h : X.K = K := by rfl) : IxR X (rIx K) := h ▸ ix_seq
theorem slL (h : X.K = K := by rfl) : SlR X (rSlL K) := h ▸ sl_list
theorem opEqD (hu : X.A.units + 64 < cLine) (h : X.K = K := by rfl) : OpR X (compareOp .Eq) (rEqD K) := h ▸ op_eqD hu
theorem opNeD (hu : X.A.units + 64 < cLine) (h : X.K = K := by rfl) : OpR X (compareOp .NotEq) (rNeD K) := h ▸ op_neD hu
theorem opInQ (h : X.K = K := by rfl) : OpR X (compareOp .In) (rIn K false) := h ▸ op_in_seq
theorem opNotInQ (h : X.K = K := by rfl) : OpR X (compareOp .NotIn) (rIn K true) := h ▸ op_notIn_seq
theorem piListK {tg l : Expr} {tl : TE} (hl : PE X l tl) (h : X.K = K := by rfl) : PI X tg l (iList K tl) := h ▸ pi_list hl
theorem clLen (h : X.K = K := by rfl) : CallR X (.builtin "len") (fun xs H Q => ∃ p ys, xs = [.ref p] ∧ (SqL K H p ys ∨ SqT K H p ys) ∧ Q (.int ys.length) H) := h ▸ call_len_seq
theorem clList (h : X.K = K := by rfl) : CallR X (.type "list") (fun xs H Q => ∃ p ys, xs = [.ref p] ∧ (SqL K H p ys ∨ SqT K H p ys) ∧ ∀ l, H l = none → Q (.ref l) (upd H l (.lst ys))) := h ▸ call_list_of
theorem clSum (hc : X.calm = true) (h : X.K = K := by rfl) : CallR X (.builtin "sum") (rSum K) := h ▸ cr_sum hc
theorem clMax (hc : X.calm = true) (h : X.K = K := by rfl) : CallR X (.builtin "max") (rMax K) := h ▸ cr_max hc
theorem clMin (hc : X.calm = true) (h : X.K = K := by rfl) : CallR X (.builtin "min") (rMin K) := h ▸ cr_min hc
end
theorem units1 {n : Nat} (h : n + 64 < cLine) : n + 1 < cLine := by omega
/-! ### the drawing state -/
/-- [script, cells begun, mixed, left of a cell] -/
def StO (a : Addr) (i m c : Int) : HO := .lst [.ref a, .int i, .int m, .int c]
structure Drw (i m c : Int) : Prop where
  i0 : 0 ≤ i
  m0 : 0 ≤ m
  m1 : m < 2147483647
  c0 : 0 ≤ c
/-- all but the state is kept -/
def Keep (st : Addr) (H H' : Hp) : Prop := ∀ b o, b ≠ st → H b = some o → H' b = some o
/-- the state at st is good: its script is the list at a of the ints ns -/
structure SOk (K : PySem.W.Frag) (a : Addr) (ns : List Int) (st : Addr) (H : Hp) : Prop where
  len : ns.length ≤ 63
  sq : ∀ H', Keep st H H' → SqL K H' a (ns.map V.int)
  at_ : ∃ i m c, Drw i m c ∧ H st = some (StO a i m c)
section
variable {K : PySem.W.Frag} {a st p : Addr} {ns : List Int} {H H1 H2 : Hp} {o u : HO} {xs : List V}
theorem Keep.refl (st : Addr) (H : Hp) : Keep st H H := fun _ _ _ h => h
theorem Keep.trans (h : Keep st H H1) (h' : Keep st H1 H2) : Keep st H H2 := fun b o hb e => h' b o hb (h b o hb e)
theorem Keep.new (h : Keep st H H1) (hp : H1 p = none) : Keep st H (upd H1 p o) := fun b u hb e => by
  rw [upd_ne (ne_of_none (h b u hb e) hp)]; exact h b u hb e
theorem Keep.mut (h : Keep st H H1) (hp : H p = none) : Keep st H (upd H1 p o) := fun b u hb e => by
  rw [upd_ne (ne_of_none e hp)]; exact h b u hb e
theorem Keep.atSt (h : Keep st H H1) : Keep st H (upd H1 st o) := fun b u hb e => by
  rw [upd_ne hb]; exact h b u hb e
theorem Keep.free (h : Keep st H H1) (hp : p ≠ st) (e : H1 p = none) : H p = none := by
  cases q : H p with
  | none => rfl
  | some o => rw [h p o hp q] at e; cases e
theorem _root_.L2.Same.keep (h : Same H H1) : Keep st H H1 := fun b u _ e => h b u e
theorem _root_.L2.Same.new (h : Same H H1) (hp : H1 p = none) : Same H (upd H1 p o) := fun b u e => by
  rw [upd_ne (ne_of_none (h b u e) hp)]; exact h b u e
theorem _root_.L2.Same.mut (h : Same H H1) (hp : H p = none) : Same H (upd H1 p o) := fun b u e => by
  rw [upd_ne (ne_of_none e hp)]; exact h b u e
theorem _root_.L2.Same.upd (hp : H p = none) : Same H (upd H p o) := (Same.refl H).new hp
/-- the base heap, in which the state does not stand, is kept -/
theorem _root_.L2.Same.keepAll (h : Same H H1) (hst : H st = none) (k : Keep st H1 H2) : Same H H2 := fun b u e => k b u (ne_of_none e hst) (h b u e)
theorem SOk.now (s : SOk K a ns st H) : SqL K H a (ns.map V.int) := s.sq H (Keep.refl st H)
/-- a script that stood in H stands where all but the state is kept -/
theorem SOk.keep (s : SOk K a ns st H) (k : Keep st H H1) {i m c : Int} (d : Drw i m c) (h : H1 st = some (StO a i m c)) : SOk K a ns st H1 := ⟨s.len, fun H' k' => s.sq H' (k.trans k'), i, m, c, d, h⟩
theorem SOk.same (s : SOk K a ns st H) (k : Same H H1) : SOk K a ns st H1 := by
  obtain ⟨i, m, c, d, h⟩ := s.at_
  exact s.keep k.keep d (k _ _ h)
theorem SOk.new (s : SOk K a ns st H) (hp : H p = none) : SOk K a ns st (L2.upd H p o) := s.same (Same.upd hp)
/-- the state's making -/
theorem SOk.make (hl : ns.length ≤ 63) (hq : SqL K H a (ns.map V.int)) (hst : H st = none) {i m c : Int} (d : Drw i m c) : SOk K a ns st (L2.upd H st (StO a i m c)) :=
  ⟨hl, fun _ k' => ((Same.upd hst).keepAll hst k').seq hq, i, m, c, d, upd_same⟩
/-- a list that did not stand in the base heap H0 is changed -/
theorem SOk.mut {H0 : Hp} (s : SOk K a ns st H) (hq : SqL K H0 a (ns.map V.int)) (hst : H0 st = none) (k : Same H0 H) (hp : H0 p = none) (hps : p ≠ st) : SOk K a ns st (L2.upd H p o) := by
  obtain ⟨i, m, c, d, h⟩ := s.at_
  exact ⟨s.len, fun _ k' => ((k.mut hp).keepAll hst k').seq hq, i, m, c, d, by rw [upd_ne hps.symm]; exact h⟩
theorem SOk.ne_of (s : SOk K a ns st H) (hp : H p = none) : p ≠ st := by
  obtain ⟨i, m, c, d, h⟩ := s.at_
  exact (ne_of_none h hp).symm
/-- .. that did not stand in a heap with a good state -/
theorem SOk.mutK {H0 : Hp} (s : SOk K a ns st H) (s0 : SOk K a ns st H0) (k : Keep st H0 H) (hp : H0 p = none) : SOk K a ns st (L2.upd H p o) := by
  obtain ⟨i, m, c, d, h⟩ := s.at_
  have hps : p ≠ st := s0.ne_of hp
  exact ⟨s.len, fun H' k' => s0.sq H' ((k.mut hp).trans k'), i, m, c, d, by rw [upd_ne hps.symm]; exact h⟩
end
/-! ### lists of ints -/
theorem getV {ns : List Int} {i : Nat} {y : V} (h : (ns.map V.int)[i]? = some y) : ∃ z, ns[i]? = some z ∧ y = V.int z := by
  rw [List.getElem?_map] at h
  cases e : ns[i]? with
  | none => rw [e] at h; cases h
  | some z => rw [e] at h; exact ⟨z, rfl, (Option.some.inj h).symm⟩
theorem atV {ns : List Int} {z : Int} {j : Nat} (e : z = (j : Int)) (h : j < ns.length) : atI (ns.map V.int) z = some (V.int (ns.getD j 0)) := by
  refine at_of e ?_
  rw [List.getElem?_map, List.getElem?_eq_getElem h]
  simp [List.getD, List.getElem?_eq_getElem h]
theorem small_of {n m : Nat} (h : n ≤ m) (hm : m < 16000000 := by decide) : n < sizeLine := by rw [sizeLine_eq]; omega
theorem small_le {n m : Nat} (h : n ≤ m) (hm : m < 16000000 := by decide) : n ≤ sizeLine := by rw [sizeLine_eq]; omega
theorem nat_pow {z : Int} {n : Nat} (h0 : 0 ≤ z) (h1 : z < 2 ^ n) : z.natAbs < 2 ^ n := by
  have e : ((2 ^ n : Nat) : Int) = (2 : Int) ^ n := by simp
  omega
theorem pick3 {r : Int} (h0 : 0 ≤ r) (h1 : r < 3) : r = 0 ∨ r = 1 ∨ r = 2 := by omega
theorem pick4 {r : Int} (h0 : 0 ≤ r) (h1 : r < 4) : r = 0 ∨ r = 1 ∨ r = 2 ∨ r = 3 := by omega
theorem pick5 {r : Int} (h0 : 0 ≤ r) (h1 : r < 5) : r = 0 ∨ r = 1 ∨ r = 2 ∨ r = 3 ∨ r = 4 := by omega
/-! ### even frames -/
/-- beat k of the even frame of a share by a turn -/
def evB (b p t : Int) (k : Nat) : Int := ((k : Int) + 1 + t) * p / b - ((k : Int) + t) * p / b
def evL (b p t : Int) : List Int := (List.range b.toNat).map (evB b p t)
theorem evL_len (b p t : Int) : (evL b p t).length = b.toNat := by simp [evL]
/-- what is left beside wholes ahead of beat k -/
def evR (b p t : Int) (k : Nat) : Int := ((k : Int) + t) * p % b
theorem evR_range {b : Int} (hb : 0 < b) (p t : Int) (k : Nat) : 0 ≤ evR b p t k ∧ evR b p t k < b := ⟨Int.emod_nonneg _ (by omega), Int.emod_lt_of_pos _ hb⟩
theorem ev_step (b p t : Int) (k : Nat) : ((k : Int) + 1 + t) * p = ((k : Int) + t) * p + p := by
  rw [show (k : Int) + 1 + t = ((k : Int) + t) + 1 by omega, Int.add_mul, Int.one_mul]
/-- the beat by what is left -/
theorem evB_eq {b p : Int} (hb : 0 < b) (h0 : 0 ≤ p) (h1 : p ≤ b) (t : Int) (k : Nat) : evB b p t k = if b ≤ evR b p t k + p then 1 else 0 := by
  unfold evB evR
  rw [ev_step b]
  generalize ((k : Int) + t) * p = z
  have e := Int.mul_ediv_add_emod z b
  have r0 := Int.emod_nonneg z (show b ≠ 0 by omega)
  have r1 := Int.emod_lt_of_pos z hb
  have q : z + p = (z % b + p) + z / b * b := by rw [Int.mul_comm]; omega
  rw [q, Int.add_mul_ediv_right _ _ (show b ≠ 0 by omega)]
  by_cases c : b ≤ z % b + p
  · rw [if_pos c]
    have : (z % b + p) / b = 1 := by
      have e1 : z % b + p = (z % b + p - b) + 1 * b := by omega
      rw [e1, Int.add_mul_ediv_right _ _ (show b ≠ 0 by omega), Int.ediv_eq_zero_of_lt (by omega) (by omega)]
      omega
    omega
  · rw [if_neg c, Int.ediv_eq_zero_of_lt (by omega) (by omega)]
    omega
theorem evR_next {b p : Int} (hb : 0 < b) (h0 : 0 ≤ p) (h1 : p ≤ b) (t : Int) (k : Nat) : evR b p t (k + 1) = evR b p t k + p - b * evB b p t k := by
  rw [evB_eq hb h0 h1]
  unfold evR
  have e0 : (((k + 1 : Nat) : Int) + t) * p = ((k : Int) + t) * p + p := by
    have e1 : (((k + 1 : Nat) : Int) + t) = (k : Int) + 1 + t := by omega
    rw [e1, ev_step b]
  rw [e0]
  generalize ((k : Int) + t) * p = z
  have e := Int.mul_ediv_add_emod z b
  have r0 := Int.emod_nonneg z (show b ≠ 0 by omega)
  have r1 := Int.emod_lt_of_pos z hb
  have q : z + p = (z % b + p) + z / b * b := by rw [Int.mul_comm]; omega
  rw [q, Int.add_mul_emod_self_right]
  by_cases c : b ≤ z % b + p
  · rw [if_pos c]
    have e1 : z % b + p = (z % b + p - b) + 1 * b := by omega
    rw [e1, Int.add_mul_emod_self_right]
    by_cases c2 : z % b + p - b < b
    · rw [Int.emod_eq_of_lt (by omega) c2]; omega
    · omega
  · rw [if_neg c, Int.emod_eq_of_lt (by omega) (by omega)]; omega
theorem evB_01 {b p : Int} (hb : 0 < b) (h0 : 0 ≤ p) (h1 : p ≤ b) (t : Int) (k : Nat) : evB b p t k = 0 ∨ evB b p t k = 1 := by
  rw [evB_eq hb h0 h1]; split <;> simp
theorem evL_get {b p t : Int} {k : Nat} (h : k < b.toNat) : (evL b p t)[k]? = some (evB b p t k) := by
  unfold evL; simp [h]
theorem evL_take_sum (b p t : Int) : ∀ n : Nat, (((List.range n).map (evB b p t)).sum : Int) = ((n : Int) + t) * p / b - t * p / b
  | 0 => by simp
  | n + 1 => by
    rw [List.range_succ, List.map_append, List.sum_append, evL_take_sum b p t n]
    simp only [List.map_cons, List.map_nil, List.sum_cons, List.sum_nil, evB]
    have : (((n + 1 : Nat) : Int) + t) = (n : Int) + 1 + t := by omega
    rw [this]; omega
theorem evL_sum {b : Int} (hb : 0 < b) (p t : Int) : (evL b p t).sum = p := by
  unfold evL
  rw [evL_take_sum, Int.toNat_of_nonneg (by omega), Int.add_mul, Int.add_comm, Int.mul_comm b p, Int.add_mul_ediv_right _ _ (show b ≠ 0 by omega)]
  omega
/-! ### windows of frames -/
/-- beat k of a frame that goes round -/
def cyc (fs : List Int) (k : Nat) : Int := fs.getD (k % fs.length) 0
/-- the first k beats together, going round -/
def psum (fs : List Int) : Nat → Int
  | 0 => 0
  | k + 1 => psum fs k + cyc fs k
/-- how many are on in the window of w beats from k on -/
def win (fs : List Int) (w k : Nat) : Int := psum fs (k + w) - psum fs k
theorem cyc_add (fs : List Int) (k : Nat) : cyc fs (k + fs.length) = cyc fs k := by simp [cyc]
theorem cyc_lt {fs : List Int} {k : Nat} (h : k < fs.length) : cyc fs k = fs.getD k 0 := by simp [cyc, Nat.mod_eq_of_lt h]
theorem psum_take (fs : List Int) : ∀ k, k ≤ fs.length → psum fs k = (fs.take k).sum
  | 0, _ => by simp [psum]
  | k + 1, h => by
    have hk : k < fs.length := by omega
    rw [psum, psum_take fs k (by omega), cyc_lt hk, List.take_succ_eq_append_getElem hk, List.sum_append]
    simp [List.getD, List.getElem?_eq_getElem hk]
theorem psum_len (fs : List Int) : psum fs fs.length = fs.sum := by rw [psum_take fs _ (Nat.le_refl _), List.take_length]
theorem psum_add_len (fs : List Int) : ∀ k, psum fs (k + fs.length) = psum fs k + fs.sum
  | 0 => by rw [Nat.zero_add, psum_len]; simp [psum]
  | k + 1 => by
    rw [show k + 1 + fs.length = (k + fs.length) + 1 by omega, psum, psum_add_len fs k, cyc_add, psum]; omega
theorem psum_mul (fs : List Int) (r : Nat) : ∀ q : Nat, psum fs (q * fs.length + r) = fs.sum * q + psum fs r
  | 0 => by simp
  | q + 1 => by
    rw [show (q + 1) * fs.length + r = (q * fs.length + r) + fs.length by rw [Nat.add_mul]; omega, psum_add_len, psum_mul fs r q, Int.natCast_add, Int.mul_add]; simp; omega
theorem win_zero (fs : List Int) (w : Nat) : win fs w 0 = psum fs w := by simp [win, psum]
theorem win_next (fs : List Int) (w k : Nat) : win fs w (k + 1) = win fs w k - cyc fs k + cyc fs (k + w) := by
  unfold win
  rw [show k + 1 + w = (k + w) + 1 by omega, psum, psum]; omega
theorem win_first {fs : List Int} (w : Nat) : fs.sum * ((w / fs.length : Nat) : Int) + (fs.take (w % fs.length)).sum = win fs w 0 := by
  rw [win_zero]
  by_cases hn : fs.length = 0
  · have : fs = [] := List.eq_nil_of_length_eq_zero hn
    subst this
    have z : ∀ k, psum [] k = 0 := fun k => by
      induction k with
      | zero => rfl
      | succ k ih => rw [psum, ih]; simp [cyc]
    simp [z]
  · have e : w = (w / fs.length) * fs.length + w % fs.length := by rw [Nat.mul_comm]; exact (Nat.div_add_mod w fs.length).symm
    have hr : w % fs.length ≤ fs.length := Nat.le_of_lt (Nat.mod_lt _ (by omega))
    have h1 := psum_mul fs (w % fs.length) (w / fs.length)
    rw [← e] at h1
    rw [h1, psum_take fs _ hr]
theorem win_round (fs : List Int) (w k : Nat) : win fs w (k + fs.length) = win fs w k := by
  unfold win
  rw [show k + fs.length + w = (k + w) + fs.length by omega, psum_add_len, psum_add_len]; omega
theorem win_mod {fs : List Int} (w : Nat) : ∀ k, win fs w k = win fs w (k % fs.length) := by
  intro k
  have e := Nat.div_add_mod k fs.length
  have h : ∀ q r, win fs w (q * fs.length + r) = win fs w r := fun q r => by
    induction q with
    | zero => simp
    | succ q ih => rw [show (q + 1) * fs.length + r = (q * fs.length + r) + fs.length by rw [Nat.add_mul]; omega, win_round, ih]
  conv => lhs; rw [← e, Nat.mul_comm]
  exact h _ _
/-- all windows of a width -/
def wins (fs : List Int) (w : Nat) : List Int := (List.range fs.length).map (win fs w)
theorem wins_len (fs : List Int) (w : Nat) : (wins fs w).length = fs.length := by simp [wins]
theorem mem_wins {fs : List Int} {w : Nat} {x : Int} : x ∈ wins fs w ↔ ∃ k, k < fs.length ∧ win fs w k = x := by simp [wins]
theorem win_mem {fs : List Int} (h : 0 < fs.length) (w k : Nat) : win fs w k ∈ wins fs w := by
  rw [win_mod]
  exact mem_wins.mpr ⟨_, Nat.mod_lt _ h, rfl⟩
/-! sums over a round -/
def tsum (f : Nat → Int) (n : Nat) : Int := ((List.range n).map f).sum
theorem tsum_zero (f : Nat → Int) : tsum f 0 = 0 := rfl
theorem tsum_succ (f : Nat → Int) (n : Nat) : tsum f (n + 1) = tsum f n + f n := by
  unfold tsum; rw [List.range_succ, List.map_append, List.sum_append]; simp
theorem tsum_add (f g : Nat → Int) : ∀ n, tsum (fun k => f k + g k) n = tsum f n + tsum g n
  | 0 => rfl
  | n + 1 => by rw [tsum_succ, tsum_succ, tsum_succ, tsum_add f g n]; omega
theorem tsum_le {f g : Nat → Int} : ∀ n, (∀ k, k < n → f k ≤ g k) → tsum f n ≤ tsum g n
  | 0, _ => Int.le_refl _
  | n + 1, h => by
    rw [tsum_succ, tsum_succ]
    have := tsum_le n fun k hk => h k (by omega)
    have := h n (by omega)
    omega
theorem tsum_lt {f g : Nat → Int} : ∀ n, (∀ k, k < n → f k ≤ g k) → (∃ k, k < n ∧ f k < g k) → tsum f n < tsum g n
  | 0, _, ⟨k, hk, _⟩ => by omega
  | n + 1, h, ⟨k, hk, hl⟩ => by
    rw [tsum_succ, tsum_succ]
    have h1 := h n (by omega)
    by_cases e : k = n
    · subst e
      have := tsum_le k fun j hj => h j (by omega)
      omega
    · have := tsum_lt n (fun j hj => h j (by omega)) ⟨k, by omega, hl⟩
      omega
theorem tsum_const (c : Int) : ∀ n : Nat, tsum (fun _ => c) n = n * c
  | 0 => by simp [tsum_zero]
  | n + 1 => by rw [tsum_succ, tsum_const c n, Int.natCast_add, Int.add_mul]; simp
theorem tsum_congr {f g : Nat → Int} (n : Nat) (h : ∀ k, k < n → f k = g k) : tsum f n = tsum g n := by
  have h1 := tsum_le n fun k hk => Int.le_of_eq (h k hk)
  have h2 := tsum_le n fun k hk => Int.le_of_eq (h k hk).symm
  omega
theorem psum_tsum (fs : List Int) : ∀ k, psum fs k = tsum (cyc fs) k
  | 0 => rfl
  | k + 1 => by rw [psum, tsum_succ, psum_tsum fs k]
theorem tsum_shift (fs : List Int) : ∀ d, tsum (fun k => cyc fs (k + d)) fs.length = fs.sum := by
  intro d
  have h : ∀ n, tsum (fun k => cyc fs (k + d)) n = psum fs (n + d) - psum fs d := fun n => by
    induction n with
    | zero => simp [tsum_zero]
    | succ n ih => rw [tsum_succ, ih, show n + 1 + d = (n + d) + 1 by omega, psum]; omega
  rw [h, Nat.add_comm, psum_add_len]; omega
/-- all windows of a width together -/
theorem wins_sum (fs : List Int) : ∀ w : Nat, tsum (win fs w) fs.length = w * fs.sum
  | 0 => by
    have h : tsum (win fs 0) fs.length = tsum (fun _ => (0 : Int)) fs.length := tsum_congr _ fun k _ => by simp [win]
    rw [h, tsum_const]; simp
  | w + 1 => by
    have h : tsum (win fs (w + 1)) fs.length = tsum (fun k => win fs w k + cyc fs (k + w)) fs.length := tsum_congr _ fun k _ => by
      unfold win
      rw [show k + (w + 1) = (k + w) + 1 by omega, psum]; omega
    rw [h, tsum_add, wins_sum fs w, tsum_shift, Int.natCast_add, Int.add_mul]; simp
/-! ### spread -/
/-- windows of each width up to the beats are at most one apart -/
def Spread (fs : List Int) : Prop := ∀ w, 1 ≤ w → w ≤ fs.length → ∀ i j, i < fs.length → j < fs.length → win fs w i - win fs w j ≤ 1
theorem Spread.near {fs : List Int} (h : Spread fs) (h0 : 0 < fs.length) (w i : Nat) (hw : w ≤ fs.length) : (fs.length : Int) * win fs w i - w * fs.sum < fs.length ∧ -(fs.length : Int) < (fs.length : Int) * win fs w i - w * fs.sum := by
  rcases Nat.eq_zero_or_pos w with e | hw0
  · subst e
    have : win fs 0 i = 0 := by simp [win]
    rw [this]; simp; omega
  rw [win_mod]
  have hi : i % fs.length < fs.length := Nat.mod_lt _ h0
  generalize i % fs.length = k at hi
  have s := wins_sum fs w
  have up : tsum (win fs w) fs.length < tsum (fun _ => win fs w k + 1) fs.length := tsum_lt _ (fun j hj => by have := h w hw0 hw j k hj hi; omega) ⟨k, hi, by omega⟩
  have dn : tsum (fun _ => win fs w k - 1) fs.length < tsum (win fs w) fs.length := tsum_lt _ (fun j hj => by have := h w hw0 hw k j hi hj; omega) ⟨k, hi, by omega⟩
  rw [tsum_const] at up dn
  rw [s] at up dn
  rw [Int.mul_add] at up
  rw [Int.mul_sub] at dn
  constructor <;> omega
/-- the least, the greatest of finitely many -/
theorem exists_max (f : Nat → Int) : ∀ n, 0 < n → ∃ k, k < n ∧ ∀ j, j < n → f j ≤ f k
  | 1, _ => ⟨0, by omega, fun j hj => by have : j = 0 := by omega
                                         subst this; exact Int.le_refl _⟩
  | n + 2, _ => by
    obtain ⟨k, hk, h⟩ := exists_max f (n + 1) (by omega)
    by_cases c : f k ≤ f (n + 1)
    · refine ⟨n + 1, by omega, fun j hj => ?_⟩
      by_cases e : j = n + 1
      · subst e; exact Int.le_refl _
      · exact Int.le_trans (h j (by omega)) c
    · refine ⟨k, by omega, fun j hj => ?_⟩
      by_cases e : j = n + 1
      · subst e; omega
      · exact h j (by omega)
/-- a spread frame is an even one -/
theorem Spread.even {fs : List Int} (h : Spread fs) (h0 : 0 < fs.length) : ∃ t : Nat, t < fs.length ∧ evL (fs.length : Int) fs.sum (t : Int) = fs := by
  obtain ⟨k0, hk0, hmax⟩ := exists_max (fun k => (fs.length : Int) * psum fs k - k * fs.sum) fs.length h0
  -- the greatest lies less than the beats above any
  have key : ∀ k, (fs.length : Int) * psum fs k - k * fs.sum ≤ (fs.length : Int) * psum fs k0 - k0 * fs.sum ∧ (fs.length : Int) * psum fs k0 - k0 * fs.sum < (fs.length : Int) * psum fs k - k * fs.sum + fs.length := by
    have base : ∀ k, k < fs.length → (fs.length : Int) * psum fs k - k * fs.sum ≤ (fs.length : Int) * psum fs k0 - k0 * fs.sum ∧ (fs.length : Int) * psum fs k0 - k0 * fs.sum < (fs.length : Int) * psum fs k - k * fs.sum + fs.length := by
      intro k hk
      refine ⟨hmax k hk, ?_⟩
      by_cases c : k ≤ k0
      · obtain ⟨d, rfl⟩ : ∃ d, k0 = k + d := ⟨k0 - k, by omega⟩
        have n := (h.near h0 d k (by omega)).1
        unfold win at n
        rw [Int.mul_sub] at n
        rw [Int.natCast_add, Int.add_mul]
        omega
      · obtain ⟨d, rfl⟩ : ∃ d, k = k0 + d := ⟨k - k0, by omega⟩
        have n := (h.near h0 d k0 (by omega)).2
        unfold win at n
        rw [Int.mul_sub] at n
        rw [Int.natCast_add, Int.add_mul]
        omega
    intro k
    have e := Nat.div_add_mod k fs.length
    have hk := base (k % fs.length) (Nat.mod_lt _ h0)
    have h1 := psum_mul fs (k % fs.length) (k / fs.length)
    rw [Nat.mul_comm, ] at e
    rw [e] at h1
    have e2 : (k : Int) = (k / fs.length : Nat) * (fs.length : Int) + (k % fs.length : Nat) := by
      have := congrArg (fun z : Nat => (z : Int)) e
      simp only [Int.natCast_add, Int.natCast_mul] at this
      omega
    have e3 : (fs.length : Int) * psum fs k - k * fs.sum = (fs.length : Int) * psum fs (k % fs.length) - (k % fs.length : Nat) * fs.sum := by
      rw [h1]
      have : (k : Int) * fs.sum = (k / fs.length : Nat) * (fs.length : Int) * fs.sum + (k % fs.length : Nat) * fs.sum := by
        rw [← Int.add_mul]; congr 1
      rw [this, Int.mul_add, show (fs.length : Int) * (fs.sum * ((k / fs.length : Nat) : Int)) = ((k / fs.length : Nat) : Int) * (fs.length : Int) * fs.sum by
        rw [Int.mul_comm fs.sum, ← Int.mul_assoc, Int.mul_comm (fs.length : Int)]]
      omega
    rw [e3]; exact hk
  -- so the sums are floors
  have floor : ∀ k : Nat, psum fs k = ((k : Int) - k0) * fs.sum / fs.length + psum fs k0 := by
    intro k
    obtain ⟨a, b⟩ := key k
    have hn : (0 : Int) < fs.length := by omega
    have e : ((k : Int) - k0) * fs.sum = (fs.length : Int) * (psum fs k - psum fs k0) + (((fs.length : Int) * psum fs k0 - k0 * fs.sum) - ((fs.length : Int) * psum fs k - k * fs.sum)) := by
      rw [Int.sub_mul, Int.mul_sub]; omega
    rw [e, Int.add_comm ((fs.length : Int) * _), Int.add_mul_ediv_left _ _ (by omega), Int.ediv_eq_zero_of_lt (by omega) (by omega)]
    omega
  refine ⟨(fs.length - k0) % fs.length, Nat.mod_lt _ h0, ?_⟩
  -- the turn: less k0, going round
  have turn : ∀ k : Nat, evB (fs.length : Int) fs.sum (((fs.length - k0) % fs.length : Nat) : Int) k = evB (fs.length : Int) fs.sum (-(k0 : Int)) k := by
    intro k
    by_cases c : k0 = 0
    · subst c; simp
    · rw [Nat.mod_eq_of_lt (by omega)]
      have hn : (fs.length : Int) ≠ 0 := by omega
      unfold evB
      have e1 : ((k : Int) + 1 + ((fs.length - k0 : Nat) : Int)) * fs.sum = ((k : Int) + 1 + -(k0 : Int)) * fs.sum + fs.length * fs.sum := by
        rw [← Int.add_mul]; congr 1; omega
      have e2 : ((k : Int) + ((fs.length - k0 : Nat) : Int)) * fs.sum = ((k : Int) + -(k0 : Int)) * fs.sum + fs.length * fs.sum := by
        rw [← Int.add_mul]; congr 1; omega
      rw [e1, e2, Int.add_mul_ediv_left _ _ hn, Int.add_mul_ediv_left _ _ hn]
      omega
  apply List.ext_getElem
  · rw [evL_len]; simp
  · intro k h1 h2
    have hk : k < ((fs.length : Nat) : Int).toNat := by simpa [evL_len] using h1
    have g : (evL (fs.length : Int) fs.sum (((fs.length - k0) % fs.length : Nat) : Int))[k]? = some (evB (fs.length : Int) fs.sum (((fs.length - k0) % fs.length : Nat) : Int) k) := evL_get hk
    rw [List.getElem?_eq_getElem h1] at g
    rw [Option.some.inj g, turn]
    unfold evB
    have f1 := floor (k + 1)
    have f0 := floor k
    rw [psum, cyc_lt h2] at f1
    have e1 : ((k + 1 : Nat) : Int) - k0 = (k : Int) + 1 + -(k0 : Int) := by omega
    have e0 : (k : Int) - k0 = (k : Int) + -(k0 : Int) := by omega
    rw [e1] at f1
    rw [e0] at f0
    have : fs.getD k 0 = fs[k] := by simp [List.getD, List.getElem?_eq_getElem h2]
    omega
/-! ### windows of even frames -/
theorem evL_cyc {b p t : Int} (hb : 0 < b) (k : Nat) : cyc (evL b p t) k = evB b p t k := by
  have hl : (evL b p t).length = b.toNat := evL_len b p t
  have h0 : 0 < (evL b p t).length := by omega
  unfold cyc
  have g := evL_get (b := b) (p := p) (t := t) (k := k % (evL b p t).length) (by have := Nat.mod_lt k h0; omega)
  rw [List.getD, g, Option.getD_some]
  have e := Nat.div_add_mod k (evL b p t).length
  generalize k % (evL b p t).length = r at e
  generalize k / (evL b p t).length = q at e
  subst e
  unfold evB
  have e1 : (((evL b p t).length * q + r : Nat) : Int) = b * (q : Int) + (r : Int) := by rw [hl]; simp [Int.toNat_of_nonneg (Int.le_of_lt hb)]
  have e2 : ((b * (q : Int) + (r : Int)) + 1 + t) * p = ((r : Int) + 1 + t) * p + b * ((q : Int) * p) := by
    rw [show (b * (q : Int) + (r : Int)) + 1 + t = ((r : Int) + 1 + t) + b * (q : Int) by omega, Int.add_mul, Int.mul_assoc]
  have e3 : ((b * (q : Int) + (r : Int)) + t) * p = ((r : Int) + t) * p + b * ((q : Int) * p) := by
    rw [show (b * (q : Int) + (r : Int)) + t = ((r : Int) + t) + b * (q : Int) by omega, Int.add_mul, Int.mul_assoc]
  rw [e1, e2, e3, Int.add_mul_ediv_left _ _ (show b ≠ 0 by omega), Int.add_mul_ediv_left _ _ (show b ≠ 0 by omega)]
  omega
theorem evL_psum {b p t : Int} (hb : 0 < b) : ∀ k : Nat, psum (evL b p t) k = ((k : Int) + t) * p / b - t * p / b
  | 0 => by simp [psum]
  | k + 1 => by
    rw [psum, evL_psum hb k, evL_cyc hb, evB]
    have e1 : (((k + 1 : Nat) : Int) + t) = (k : Int) + 1 + t := by omega
    rw [e1]; omega
theorem evL_win {b p t : Int} (hb : 0 < b) (w k : Nat) : win (evL b p t) w k = (((k : Int) + t) * p + (w : Int) * p) / b - ((k : Int) + t) * p / b := by
  unfold win
  rw [evL_psum hb, evL_psum hb]
  have e : (((k + w : Nat) : Int) + t) * p = ((k : Int) + t) * p + (w : Int) * p := by
    rw [← Int.add_mul]; congr 1; omega
  rw [e]; omega
theorem div_part {x y b : Int} (hb : 0 < b) : y / b ≤ (x + y) / b - x / b ∧ (x + y) / b - x / b ≤ y / b + 1 := by
  have ex := Int.mul_ediv_add_emod x b
  have ey := Int.mul_ediv_add_emod y b
  have rx0 := Int.emod_nonneg x (show b ≠ 0 by omega)
  have rx1 := Int.emod_lt_of_pos x hb
  have ry0 := Int.emod_nonneg y (show b ≠ 0 by omega)
  have ry1 := Int.emod_lt_of_pos y hb
  have q : x + y = (x % b + y % b) + b * (x / b + y / b) := by rw [Int.mul_add]; omega
  rw [q, Int.add_mul_ediv_left _ _ (show b ≠ 0 by omega)]
  by_cases c : x % b + y % b < b
  · rw [Int.ediv_eq_zero_of_lt (by omega) c]; omega
  · have : (x % b + y % b) / b = 1 := by
      have e1 : x % b + y % b = (x % b + y % b - b) + b * 1 := by omega
      rw [e1, Int.add_mul_ediv_left _ _ (show b ≠ 0 by omega), Int.ediv_eq_zero_of_lt (by omega) (by omega)]; omega
    omega
/-- the windows of an even frame have the width's part, down to a whole one, or one more -/
theorem evL_part {b p t : Int} (hb : 0 < b) (w k : Nat) : (w : Int) * p / b ≤ win (evL b p t) w k ∧ win (evL b p t) w k ≤ (w : Int) * p / b + 1 := by
  rw [evL_win hb]; exact div_part hb
theorem evL_spread {b p t : Int} (hb : 0 < b) : Spread (evL b p t) := fun w _ _ i j _ _ => by
  have h1 := evL_part (p := p) (t := t) hb w i
  have h2 := evL_part (p := p) (t := t) hb w j
  omega
/-- all as many just where beats go into the width times the pulses -/
theorem evL_exact {b p t : Int} (hb : 0 < b) (w : Nat) : (∀ i j, i < b.toNat → j < b.toNat → win (evL b p t) w i = win (evL b p t) w j) ↔ (w : Int) * p % b = 0 := by
  have hl := evL_len b p t
  constructor
  · intro h
    have s := wins_sum (evL b p t) w
    rw [evL_sum hb, hl] at s
    have c : tsum (win (evL b p t) w) b.toNat = tsum (fun _ => win (evL b p t) w 0) b.toNat := tsum_congr _ fun k hk => h k 0 hk (by omega)
    rw [c, tsum_const, Int.toNat_of_nonneg (by omega)] at s
    rw [← s]
    exact Int.mul_emod_right b _
  · intro h i j _ _
    have e := Int.mul_ediv_add_emod ((w : Int) * p) b
    rw [h] at e
    rw [evL_win hb, evL_win hb]
    have e2 : (w : Int) * p = b * ((w : Int) * p / b) := by omega
    rw [e2, Int.add_mul_ediv_left _ _ (show b ≠ 0 by omega), Int.add_mul_ediv_left _ _ (show b ≠ 0 by omega)]
    omega
/-! ### windows cut out of a frame laid several times -/
def around (fs : List Int) (m : Nat) : List Int := (List.replicate m fs).flatten
theorem around_len (fs : List Int) (m : Nat) : (around fs m).length = m * fs.length := by simp [around]
theorem around_succ (fs : List Int) (m : Nat) : around fs (m + 1) = fs ++ around fs m := by simp [around, List.replicate_succ]
theorem around_take (fs : List Int) : ∀ (m k : Nat), k ≤ m * fs.length → ((around fs m).take k).sum = psum fs k
  | 0, k, h => by
    have : k = 0 := by omega
    subst this; simp [psum]
  | m + 1, k, h => by
    rw [around_succ]
    by_cases c : k ≤ fs.length
    · rw [List.take_append_of_le_length c, psum_take fs k c]
    · obtain ⟨d, rfl⟩ : ∃ d, k = fs.length + d := ⟨k - fs.length, by omega⟩
      rw [List.take_append, List.sum_append, List.take_of_length_le (by omega), show fs.length + d - fs.length = d by omega, around_take fs m d (by rw [Nat.add_mul] at h; omega), Nat.add_comm fs.length d, psum_add_len]
      omega
theorem drop_take_sum (l : List Int) (k w : Nat) : ((l.drop k).take w).sum = (l.take (k + w)).sum - (l.take k).sum := by
  rw [List.take_add, List.sum_append]; omega
theorem around_win {fs : List Int} {m k w : Nat} (h : k + w ≤ m * fs.length) : (((around fs m).drop k).take w).sum = win fs w k := by
  rw [drop_take_sum, around_take fs m _ h, around_take fs m k (by omega)]; rfl
/-! ### turns of a frame -/
def TS (fs : List Int) (n : Nat) : List Nat := (List.range n).filter fun j => decide (evL (fs.length : Int) fs.sum (j : Int) = fs)
theorem TS_succ (fs : List Int) (n : Nat) : TS fs (n + 1) = if evL (fs.length : Int) fs.sum (n : Int) = fs then TS fs n ++ [n] else TS fs n := by
  unfold TS
  rw [List.range_succ, List.filter_append]
  by_cases c : evL (fs.length : Int) fs.sum (n : Int) = fs
  · rw [if_pos c]; simp [c]
  · rw [if_neg c]; simp [c]
theorem TS_none {fs : List Int} : ∀ {n : Nat}, (∀ j, j < n → evL (fs.length : Int) fs.sum (j : Int) ≠ fs) → TS fs n = []
  | 0, _ => rfl
  | n + 1, h => by rw [TS_succ, if_neg (h n (by omega)), TS_none fun j hj => h j (by omega)]
theorem TS_first {fs : List Int} {t : Nat} (ht : evL (fs.length : Int) fs.sum (t : Int) = fs) (hn : ∀ j, j < t → evL (fs.length : Int) fs.sum (j : Int) ≠ fs) : ∀ n, t < n → ∃ r, TS fs n = t :: r
  | 0, h => absurd h (Nat.not_lt_zero _)
  | n + 1, h => by
    rw [TS_succ]
    by_cases e : t = n
    · subst e
      rw [if_pos ht, TS_none hn]
      exact ⟨[], rfl⟩
    · obtain ⟨r, hr⟩ := TS_first ht hn n (by omega)
      rw [hr]
      split
      · exact ⟨_, rfl⟩
      · exact ⟨_, rfl⟩
theorem TS_len (fs : List Int) (n : Nat) : (TS fs n).length ≤ n := by
  unfold TS
  have := List.length_filter_le (fun j : Nat => decide (evL (fs.length : Int) fs.sum (j : Int) = fs)) (List.range n)
  rw [List.length_range] at this
  exact this
theorem TS_ne {fs : List Int} {n : Nat} : TS fs n ≠ [] ↔ ∃ t, t < n ∧ evL (fs.length : Int) fs.sum (t : Int) = fs := by
  constructor
  · intro h
    obtain ⟨t, ht⟩ := List.exists_mem_of_ne_nil _ h
    unfold TS at ht
    obtain ⟨h1, h2⟩ := List.mem_filter.mp ht
    exact ⟨t, List.mem_range.mp h1, of_decide_eq_true h2⟩
  · rintro ⟨t, ht, e⟩ h
    have : t ∈ TS fs n := List.mem_filter.mpr ⟨List.mem_range.mpr ht, decide_eq_true e⟩
    rw [h] at this
    cases this
/-- a frame is spread just where some turn tells it -/
theorem spread_iff {fs : List Int} (h0 : 0 < fs.length) : Spread fs ↔ TS fs fs.length ≠ [] := by
  rw [TS_ne]
  constructor
  · exact fun h => h.even h0
  · rintro ⟨t, _, e⟩
    rw [← e]
    exact evL_spread (by omega)
def SpreadTo (fs : List Int) (n : Nat) : Prop := ∀ w, 1 ≤ w → w ≤ n → ∀ i j, i < fs.length → j < fs.length → win fs w i - win fs w j ≤ 1
theorem SpreadTo.zero (fs : List Int) : SpreadTo fs 0 := fun w h1 h2 => by omega
theorem spreadTo_succ {fs : List Int} {n : Nat} {lo hi : Int} (l1 : lo ∈ wins fs (n + 1)) (l2 : ∀ y, y ∈ wins fs (n + 1) → lo ≤ y) (h1 : hi ∈ wins fs (n + 1)) (h2 : ∀ y, y ∈ wins fs (n + 1) → y ≤ hi) : SpreadTo fs (n + 1) ↔ SpreadTo fs n ∧ hi - lo < 2 := by
  constructor
  · intro h
    refine ⟨fun w a b => h w a (by omega), ?_⟩
    obtain ⟨i, hi', rfl⟩ := mem_wins.mp l1
    obtain ⟨j, hj, rfl⟩ := mem_wins.mp h1
    have := h (n + 1) (by omega) (Nat.le_refl _) j i hj hi'
    omega
  · rintro ⟨h, d⟩ w a b i j hi' hj
    by_cases e : w = n + 1
    · subst e
      have := l2 _ (mem_wins.mpr ⟨j, hj, rfl⟩)
      have := h2 _ (mem_wins.mpr ⟨i, hi', rfl⟩)
      omega
    · exact h w a (by omega) i j hi' hj
/-! ### data of ints -/
def dI (ns : List Int) : PyData := .list (ns.map PyData.int)
theorem dI_layA : ∀ ns : List Int, PyData.canLayAll0 (ns.map PyData.int) = true
  | [] => by simp [PyData.canLayAll0]
  | z :: zs => by simp [PyData.canLayAll0, PyData.canLay0, dI_layA zs]
theorem dI_depthA : ∀ ns : List Int, PyData.depthAll (ns.map PyData.int) ≤ 1
  | [] => by simp [PyData.depthAll]
  | z :: zs => by
    have h1 := dI_depthA zs
    simp only [List.map_cons, PyData.depthAll, PyData.depth]
    omega
theorem dI_shaped (ns : List Int) : SeqAt.shaped (dI ns) = true := by
  have h1 := dI_depthA ns
  have h2 : PyData.depth (dI ns) ≤ 64 := by
    unfold dI
    simp only [PyData.depth]
    omega
  show (PyData.canLay0 (dI ns) && decide (PyData.depth (dI ns) ≤ 64)) = true
  rw [Bool.and_eq_true]
  exact ⟨by unfold dI; simp only [PyData.canLay0]; exact dI_layA ns, decide_eq_true h2⟩
theorem dI_eqvA : ∀ ns ms : List Int, PyData.eqvAll (ns.map PyData.int) (ms.map PyData.int) = decide (ns = ms)
  | [], [] => by simp [PyData.eqvAll]
  | [], _ :: _ => by simp [PyData.eqvAll]
  | _ :: _, [] => by simp [PyData.eqvAll]
  | n :: ns, m :: ms => by
    rw [List.map_cons, List.map_cons, PyData.eqvAll, dI_eqvA ns ms]
    by_cases e : n = m
    · subst e; simp [PyData.eqv]
    · simp [PyData.eqv, e]
theorem dI_eqv (ns ms : List Int) : PyData.eqv (dI ns) (dI ms) = decide (ns = ms) := by
  unfold dI
  simp only [PyData.eqv]
  exact dI_eqvA ns ms
theorem dpA_ints {K : PySem.W.Frag} {H : Hp} : ∀ ns : List Int, DpAll K H (ns.map V.int) (ns.map PyData.int)
  | [] => .nil
  | n :: ns => .cons (.int n) (dpA_ints ns)
theorem dp_ints {K : PySem.W.Frag} {H : Hp} {a : Addr} {ns : List Int} (h : SqL K H a (ns.map V.int)) : Dp K H (.ref a) (dI ns) := .lst h (dpA_ints ns)
theorem dp_nil {K : PySem.W.Frag} {H : Hp} {a : Addr} (h : SqL K H a []) : Dp K H (.ref a) (dI []) := dp_ints (ns := []) h
/-! ### cuts of lists of ints -/
theorem cut_to {ns : List Int} {k : Nat} (hk : k ≤ ns.length) : cutV (ns.map V.int) none (some (k : Int)) = (ns.take k).map V.int := by
  unfold cutV
  rw [HT.sIx_none, HT.sIx_nat, List.length_map, Nat.min_eq_left hk, List.drop_zero, Nat.sub_zero, List.map_take]
theorem cut_from {ns : List Int} {k : Nat} (hk : k ≤ ns.length) : cutV (ns.map V.int) (some (k : Int)) none = (ns.drop k).map V.int := by
  unfold cutV
  rw [HT.sIx_none, HT.sIx_nat, List.length_map, Nat.min_eq_left hk, List.map_drop]
  exact List.take_of_length_le (by rw [List.length_drop, List.length_map]; exact Nat.le_refl _)
theorem cut_mid {ns : List Int} {i j : Nat} (hi : i ≤ j) (hj : j ≤ ns.length) : cutV (ns.map V.int) (some (i : Int)) (some (j : Int)) = ((ns.drop i).take (j - i)).map V.int := by
  unfold cutV
  rw [HT.sIx_nat, HT.sIx_nat, List.length_map, Nat.min_eq_left (show i ≤ ns.length by omega), Nat.min_eq_left hj, List.map_take, List.map_drop]
/-! ### frames -/
structure Frm (fs : List Int) : Prop where
  pos : 0 < fs.length
  le : fs.length ≤ 64
  bit : ∀ f ∈ fs, f = 0 ∨ f = 1
theorem bits_sum : ∀ {fs : List Int}, (∀ f ∈ fs, f = 0 ∨ f = 1) → 0 ≤ fs.sum ∧ fs.sum ≤ fs.length
  | [], _ => by simp
  | f :: fs, h => by
    have h1 := bits_sum (fs := fs) fun g hg => h g (List.mem_cons_of_mem _ hg)
    have h2 := h f List.mem_cons_self
    rw [List.sum_cons, List.length_cons]
    omega
theorem Frm.sum {fs : List Int} (h : Frm fs) : 0 ≤ fs.sum ∧ fs.sum ≤ fs.length := bits_sum h.bit
theorem Frm.getD {fs : List Int} (h : Frm fs) (k : Nat) : fs.getD k 0 = 0 ∨ fs.getD k 0 = 1 := by
  by_cases c : k < fs.length
  · have e : fs.getD k 0 = fs[k] := by simp [List.getD, List.getElem?_eq_getElem c]
    rw [e]
    exact h.bit _ (List.getElem_mem c)
  · left
    simp [List.getD, List.getElem?_eq_none (Nat.le_of_not_lt c)]
theorem evL_frm {b p : Int} (b0 : 1 ≤ b) (b1 : b ≤ 64) (p0 : 0 ≤ p) (p1 : p ≤ b) (t : Int) : Frm (evL b p t) := by
  refine ⟨by rw [evL_len]; omega, by rw [evL_len]; omega, fun f hf => ?_⟩
  unfold evL at hf
  obtain ⟨k, _, rfl⟩ := List.mem_map.mp hf
  exact evB_01 (by omega) p0 p1 t k
def Lo (ws : List Int) (m : Int) : Prop := m ∈ ws ∧ ∀ y, y ∈ ws → m ≤ y
def Hi (ws : List Int) (m : Int) : Prop := m ∈ ws ∧ ∀ y, y ∈ ws → y ≤ m
theorem divP {i j : Int} {b : Nat} (h : 0 < j) (hb : j.natAbs < 2 ^ b) (h0 : 0 < b) (h9 : b ≤ 9000) : CDivP i j := ⟨h, PyProof.noPylong_of_log2 (Nat.lt_of_lt_of_le (PySem.Flt.log2_lt_of h0 hb) h9)⟩
/-! ### rules for an except suite -/
def rIsK (K : PySem.W.Frag) (cls : Value) (d : Option Addr) (a : Addr) : List V → Hp → VK → Prop := fun xs H Q => ∃ (D : Addr) (c : V) (cv : Value) (b : Bool), cls = .ref D ∧ d = none ∧ ExcC K D ∧ xs = [.ref a, c] ∧ (∀ u, RelV c u → u = cv) ∧ PySem.W.kitOne K (.ref D) cv = some b ∧ Q (.bl b) H
theorem call_isK {X : Cx} {a : Addr} {cls : Value} {d : Option Addr} {oe : Obj} {pn : List (Addr × Obj)} (hz : Zc cls d oe) (hf : ∃ vs, oe.data = .fields vs) : CallR (X.suite a ((a, oe) :: pn)) (.builtin "isinstance") (rIsK X.K cls d a) := by
  intro pins s σ H xs us Q I r h
  obtain ⟨D, c, cv, b, rfl, rfl, C, e1, e2, e3, q⟩ := h
  exact call_isE C hz hf pins s σ H xs us Q I r ⟨c, cv, b, e1, e2, e3, q⟩
theorem pe_nev {X : Cx} {e : Expr} : PE X e (fun _ _ _ => False) := ⟨fun _ _ _ _ _ _ h => h.elim⟩
theorem eqU_count {y : V} {vs : List V} {us : List Value} (r : Vals vs us) (hf : vs.all flatV = true) : us.countP (eqU y) = vs.countP fun z => eqV z y := by
  induction vs generalizing us with
  | nil => cases r; rfl
  | cons v vs ih =>
    cases r with
    | cons h t =>
      rw [List.all_cons, Bool.and_eq_true] at hf
      rw [List.countP_cons, List.countP_cons, ih t hf.2, eqU_of h hf.1]
def rCntV (K : PySem.W.Frag) : V → List V → Hp → VK → Prop := fun x xs H Q => ∃ (a : Addr) (ys : List V) (y : V), x = .ref a ∧ xs = [y] ∧ SqL K H a ys ∧ flatV y = true ∧ ys.all flatV = true ∧ Q (.int ((ys.countP fun z => eqV z y : Nat) : Int)) H
theorem mt_cntV {X : Cx} : MtR X "list.count" (rCntV X.K) := by
  intro pins s σ H x xs v us Q I rx rxs h
  obtain ⟨a, ys, y, rfl, rfl, hs, fy, fys, q⟩ := h
  cases rx
  cases rxs with
  | cons ry rt =>
    rename_i uy ut
    cases rt
    obtain ⟨its, rv, ⟨⟨cls, dd, data, sl⟩, n, ho, hc, hdn, hd⟩, hlen⟩ := I.list hs
    simp only at hc hd
    subst hc hd
    refine call_meets PySem.F.slot_list_count ⟨_, ho, rfl⟩ PySem.F.entry_list_count (PySem.F.args_list_count_2 _ _)
      (SeqAt.list_countAt a its.toArray n dd sl uy (eqU y)) ⟨ho, fun u' hu' => mem_eqAt ry fy rv fys u' (by simpa using hu'), ?_⟩
    have ec : its.toArray.toList.countP (eqU y) = ys.countP fun z => eqV z y := eqU_count rv fys
    refine ⟨.int ((ys.countP fun z => eqV z y : Nat) : Int), H, I.tok _, ⟨s.toks, ?_⟩, q⟩
    show Value.int ((its.toArray.toList.countP (eqU y) : Nat) : Int) s.toks = Value.int ((ys.countP fun z => eqV z y : Nat) : Int) s.toks
    rw [ec]
section
variable (K : PySem.W.Frag) {X : Cx}
theorem mtCntK (h : X.K = K := by rfl) : MtR X "list.count" (rCntV K) := h ▸ mt_cntV
theorem mtIndexK (h : X.K = K := by rfl) : MtR X "list.index" (rIndex K) := h ▸ mt_index
theorem pe_bmK {T id : String} {nm : Str} {r : V → List V → Hp → VK → Prop} {o e : Expr} {es : List Expr} {to : TE} {t : TA} {apos cpos : Pos} (pa : PlainAttrs T) (slot : Slot T nm id) (hty : typeOf (.builtin id) = pure (.type "method_descriptor")) (hm : MtR X id r) (ho : PE X o to) (ha : PA X (e :: es) t)
    (hbase : attributeBase o nm X.env (eval o X.env) = eval o X.env := by rfl)
    (hfew : ((backTo cpos (starEach (e :: es) X.env)).all (fun x => !x.1) && (backToKw cpos (keywordEach [] X.env)).all (fun x => x.1.isSome)
      && decide ((e :: es).length + ([] : List Keyword).length + (if ([] : List Keyword).isEmpty then 0 else 1) < 30)) = true := by rfl)
    (hline : (apos.endLine == cpos.line) = true := by rfl) (hs : starEach (e :: es) X.env = (false, eval e X.env) :: starEach es X.env := by rfl) (hplain : (backTo cpos (starEach es X.env)).any (·.1) = false := by rfl) (h : X.K = K := by rfl) :
    PE X (.Call (.Attribute o nm apos) (e :: es) [] cpos) (tBM K T r to t) := h ▸ pe_bm pa slot hty hm ho ha hbase hfew hline hs hplain
end
/-- an own error's class, that may be raised -/
structure ExF (K : PySem.W.Frag) (mg : Str → Option Value) (n : Str) : Prop where
  g : mg n = some (.ref (He.ga K n))
  x : PySem.W.excIn K (He.ga K n) He.veBase "ValueError.__new__" = true
  k : PySem.W.keepIn K (.ref (He.ga K n)) = true
  b : PySem.W.subIn K (.ref (He.ga K n)) (.type "BaseException") = some true
  t : PySem.W.typeIn K (.ref (He.ga K n)) = some (.type "type")
/-- the slots' number is known -/
theorem pss_len {X : Cx} {b : List Stmt} {t : L2.TS} (n : Nat) (h : PSs X b t) (hn : X.N.length = n := by rfl) : PSs X b (fun D σ H => σ.length = n → t D σ H) := ⟨fun pins s σ H D I hw => h.run pins s σ H D I (hw (I.len.trans hn))⟩
theorem five {σ : L2.St} (h : σ.length = 5) : ∃ a b c d e, σ = [a, b, c, d, e] := by
  match σ, h with
  | [a, b, c, d, e], _ => exact ⟨a, b, c, d, e, rfl⟩
theorem noAhead (bs : List Bool) (j : Nat) (h : ((List.range j).all fun m => bs[m]? != some true) = true) : ∀ (m : Nat) (z' : V), m < j → (bs.map V.bl)[m]? = some z' → eqV z' (.bl true) = false := fun m z' hm hz => by
  rw [List.all_eq_true] at h
  have h1 := h m (List.mem_range.mpr hm)
  rw [List.getElem?_map] at hz
  cases e : bs[m]? with
  | none => rw [e] at hz; cases hz
  | some b =>
    rw [e] at hz h1
    cases hz
    cases b with
    | false => rfl
    | true => simp at h1
/-! ### calls of defs that may raise -/
section
variable {X : Cx} {k j : Nat} {x : Str} {p pos : Pos} {e : Expr} {es : List Expr} {t : TA} {sp : Sp} {E : XK}
theorem pe_clT (c : Cl X.prog X.w X.K X.mg X.base (L2.CX X.prog X.w) k x sp) (hr : Room j X.A) (hk : k ≤ j) (hx : Passes (L2.CX X.prog X.w) X E) (hg : Gl X x) (ha : PA X (e :: es) t)
    (hdb : (x == ("__debug__" : Str)) = false := by decide) (he : starEach (e :: es) X.env = (false, eval e X.env) :: starEach es X.env := by rfl) (hpl : (backTo pos (starEach es X.env)).any (·.1) = false := by rfl) :
    PE X (.Call (.Name x p) (e :: es) [] pos) (tCall sp [] E t) := by
  obtain ⟨f, fd, ps, F, hm, kp, b⟩ := c.ex
  exact pe_call F (hr.mono hk) hg hm kp b .nil hx ha hdb he hpl
theorem pe_clG (c : Cl X.prog X.w X.K X.mg X.base (L2.CX X.prog X.w) k x sp) (hr : Room j X.A) (hk : k ≤ j) (hg : Gl X x) (ha : PA X (e :: es) t)
    (hdb : (x == ("__debug__" : Str)) = false := by decide) (he : starEach (e :: es) X.env = (false, eval e X.env) :: starEach es X.env := by rfl) (hpl : (backTo pos (starEach es X.env)).any (·.1) = false := by rfl) :
    PE X (.Call (.Name x p) (e :: es) [] pos) (tCall sp [] E0 t) := pe_clT c hr hk passL hg ha hdb he hpl
end
theorem FunG.clX {P : Program} {w : World} {K : PySem.W.Frag} {mg : Str → Option Value} {base : Heap} {CX : CXT} {k : Nat} {x : Str} {st : Stmt} {f : Addr} {fd : FuncData} {ps : List Str} {sp : Sp} (F : FunG K mg x st f fd ps) (h : FnOk P w K mg base CX k f fd ps sp) :
    Cl P w K mg base CX k x sp := ⟨f, fd, ps, h, F.mgf, F.fn.kp, F.b⟩
/-! ### heaps with a table of code objects -/
def lamQ : Str := ("law" : Str) ++ ".<locals>." ++ "<lambda>"
def noTab (H : Hp) : Hp := fun b => match H b with
  | some (.tbl _) => none
  | o => o
section
variable {K : PySem.W.Frag} {a st : Addr} {ns : List Int} {H H0 H1 H2 : Hp} {T : List (Addr × Str)}
theorem noTab_some {b : Addr} {o : HO} (h : noTab H b = some o) : H b = some o ∧ ∀ ps, o ≠ .tbl ps := by
  unfold noTab at h
  split at h
  · cases h
  · rename_i hn
    exact ⟨h, fun ps e => hn ps (by rw [h, e])⟩
theorem noTab_same (H : Hp) : Same (noTab H) H := fun _ _ h => (noTab_some h).1
theorem noTab_none {b : Addr} (h : H b = none) : noTab H b = none := by
  unfold noTab; rw [h]
theorem noTab_at {b : Addr} {o : HO} (h : H b = some o) (hn : ∀ ps, o ≠ .tbl ps) : noTab H b = some o := by
  unfold noTab
  rw [h]
  cases o <;> first | rfl | exact absurd rfl (hn _)
theorem noTab_sq {xs : List V} (h : SqL K H a xs) : SqL K (noTab H) a xs := by
  rcases h with (h | ⟨o, h⟩) | h
  · exact .inl (.inl (noTab_at h fun _ z => nomatch z))
  · exact .inl (.inr ⟨o, noTab_at h fun _ z => nomatch z⟩)
  · exact .inr h
theorem extN_same (h : Same (noTab H) H1) (e : ExtN H1 H2) : Same (noTab H) H2 := fun b o hb => e b o (h b o hb) (noTab_some hb).2
theorem SOk.extN (s : SOk K a ns st H1) (hq : SqL K (noTab H0) a (ns.map V.int)) (hst : noTab H0 st = none) (k : Same (noTab H0) H1) (e : ExtN H1 H2) : SOk K a ns st H2 := by
  obtain ⟨i, m, c, d, h⟩ := s.at_
  exact ⟨s.len, fun H' k' => ((extN_same k e).keepAll hst k').seq hq, i, m, c, d, e _ _ h fun _ z => nomatch z⟩
theorem tabs_same (t : Tabs T H) (e : Same H H1) : Tabs T H1 := t.ext e
theorem tabs_keep {xs : List V} (t : Tabs T H) (hs : H st = some (.lst xs)) (e : Keep st H H1) : Tabs T H1 := fun p hp => by
  obtain ⟨ps, h1, h2, h3⟩ := t p hp
  refine ⟨ps, e _ _ (fun z => by rw [z, hs] at h1; cases h1) h1, h2, fun pos cv hc => ?_⟩
  obtain ⟨c, e1, e2⟩ := h3 pos cv hc
  exact ⟨c, e1, e _ _ (fun z => by rw [z, hs] at e2; unfold CodeO at e2; cases e2) e2⟩
theorem SOk.tabs (s : SOk K a ns st H) (t : Tabs T H) (e : Keep st H H1) : Tabs T H1 := by
  obtain ⟨i, m, c, d, h⟩ := s.at_
  exact tabs_keep t h e
end
/-! ### changes -/
def prv (fs : List Int) (k : Nat) : Int := if k = 0 then fs.getD (fs.length - 1) 0 else fs.getD (k - 1) 0
def chgTo (fs : List Int) (n : Nat) : List Nat := (List.range n).filter fun k => decide (fs.getD k 0 ≠ prv fs k)
theorem chgTo_succ (fs : List Int) (n : Nat) : chgTo fs (n + 1) = if fs.getD n 0 ≠ prv fs n then chgTo fs n ++ [n] else chgTo fs n := by
  unfold chgTo
  rw [List.range_succ, List.filter_append]
  by_cases h : fs.getD n 0 ≠ prv fs n
  · rw [if_pos h]
    congr 1
    exact List.filter_cons_of_pos (p := fun k => decide (fs.getD k 0 ≠ prv fs k)) (decide_eq_true h)
  · rw [if_neg h, List.filter_cons_of_neg (p := fun k => decide (fs.getD k 0 ≠ prv fs k)) (fun z => h (of_decide_eq_true z)), List.filter_nil, List.append_nil]
theorem chgTo_len (fs : List Int) (n : Nat) : (chgTo fs n).length ≤ n := by
  have := List.length_filter_le (fun k => decide (fs.getD k 0 ≠ prv fs k)) (List.range n)
  rw [List.length_range] at this
  exact this
def chg (fs : List Int) : Nat := (chgTo fs fs.length).length
theorem chgTo_sum (fs : List Int) : ∀ n, ((chgTo fs n).length : Int) = tsum (fun k => if fs.getD k 0 = prv fs k then 0 else 1) n
  | 0 => rfl
  | n + 1 => by
    rw [tsum_succ, ← chgTo_sum fs n, chgTo_succ]
    by_cases h : fs.getD n 0 = prv fs n
    · rw [if_neg (fun z => z h), if_pos h]; omega
    · rw [if_pos h, if_neg h, List.length_append]; simp
theorem prv_cyc {fs : List Int} {k : Nat} (hk : k < fs.length) : prv fs k = cyc fs (k + (fs.length - 1)) := by
  unfold prv
  by_cases h : k = 0
  · subst h
    rw [if_pos rfl, Nat.zero_add, cyc_lt (by omega)]
  · rw [if_neg h, show k + (fs.length - 1) = (k - 1) + fs.length by omega, cyc_add, cyc_lt (by omega)]
theorem sum_prv (fs : List Int) : tsum (prv fs) fs.length = fs.sum := by
  rw [← tsum_shift fs (fs.length - 1)]
  exact tsum_congr _ fun k hk => prv_cyc hk
theorem sum_getD (fs : List Int) : tsum (fun k => fs.getD k 0) fs.length = fs.sum := by
  rw [← tsum_shift fs 0]
  exact tsum_congr _ fun k hk => (cyc_lt hk).symm
theorem prv_bit {fs : List Int} (h : ∀ k, fs.getD k 0 = 0 ∨ fs.getD k 0 = 1) (k : Nat) : prv fs k = 0 ∨ prv fs k = 1 := by
  unfold prv
  split
  · exact h _
  · exact h _
theorem chg_le {fs : List Int} (h : ∀ k, fs.getD k 0 = 0 ∨ fs.getD k 0 = 1) : (chg fs : Int) ≤ 2 * fs.sum ∧ (chg fs : Int) ≤ 2 * ((fs.length : Int) - fs.sum) := by
  have e := chgTo_sum fs fs.length
  have a := sum_getD fs
  have b := sum_prv fs
  have s := tsum_add (fun k => fs.getD k 0) (prv fs) fs.length
  rw [a, b] at s
  constructor
  · have := tsum_le (f := fun k => if fs.getD k 0 = prv fs k then 0 else 1) (g := fun k => fs.getD k 0 + prv fs k) fs.length fun k _ => by
      have := h k; have := prv_bit h k
      show (if fs.getD k 0 = prv fs k then (0 : Int) else 1) ≤ fs.getD k 0 + prv fs k
      split <;> omega
    unfold chg; omega
  · have := tsum_le (f := fun k => (if fs.getD k 0 = prv fs k then 0 else 1) + (fs.getD k 0 + prv fs k)) (g := fun _ => 2) fs.length fun k _ => by
      have := h k; have := prv_bit h k
      show (if fs.getD k 0 = prv fs k then (0 : Int) else 1) + (fs.getD k 0 + prv fs k) ≤ 2
      split <;> omega
    rw [tsum_const, tsum_add, ← e, s] at this
    unfold chg; omega
theorem chg_ev {b p t : Int} (hb : 0 < b) (hbit : ∀ k, (evL b p t).getD k 0 = 0 ∨ (evL b p t).getD k 0 = 1) : (chg (evL b p t) : Int) = 2 * (if b - p < p then b - p else p) := by
  have hl : ((evL b p t).length : Int) = b := by rw [evL_len]; omega
  have hs : (evL b p t).sum = p := evL_sum hb _ _
  have e := chgTo_sum (evL b p t) (evL b p t).length
  have a := sum_getD (evL b p t)
  have c := sum_prv (evL b p t)
  have s := tsum_add (fun k => (evL b p t).getD k 0) (prv (evL b p t)) (evL b p t).length
  rw [a, c] at s
  have w : ∀ k, k < (evL b p t).length → (2 : Int) * p / b ≤ (evL b p t).getD k 0 + prv (evL b p t) k ∧ (evL b p t).getD k 0 + prv (evL b p t) k ≤ 2 * p / b + 1 := fun k hk => by
    have h := evL_part (p := p) (t := t) hb 2 (k + ((evL b p t).length - 1))
    have e2 : win (evL b p t) 2 (k + ((evL b p t).length - 1)) = (evL b p t).getD k 0 + prv (evL b p t) k := by
      rw [prv_cyc hk, ← cyc_lt hk]
      unfold win
      rw [show k + ((evL b p t).length - 1) + 2 = (k + ((evL b p t).length - 1) + 1) + 1 by omega, psum, psum, show k + ((evL b p t).length - 1) + 1 = k + (evL b p t).length by omega, cyc_add]
      omega
    rw [e2] at h
    exact h
  by_cases hc : 2 * p < b
  · have q : 2 * p / b ≤ 0 := by
      have : 2 * p / b < 1 := Int.ediv_lt_of_lt_mul hb (by omega)
      omega
    have := tsum_congr (f := fun k => if (evL b p t).getD k 0 = prv (evL b p t) k then 0 else 1) (g := fun k => (evL b p t).getD k 0 + prv (evL b p t) k) (evL b p t).length fun k hk => by
      have := hbit k; have := prv_bit hbit k; have := w k hk
      show (if (evL b p t).getD k 0 = prv (evL b p t) k then (0 : Int) else 1) = (evL b p t).getD k 0 + prv (evL b p t) k
      split <;> omega
    rw [if_neg (by omega)]
    unfold chg; omega
  · have q : 1 ≤ 2 * p / b := Int.le_ediv_of_mul_le hb (by omega)
    have := tsum_congr (f := fun k => (if (evL b p t).getD k 0 = prv (evL b p t) k then 0 else 1) + ((evL b p t).getD k 0 + prv (evL b p t) k)) (g := fun _ => 2) (evL b p t).length fun k hk => by
      have := hbit k; have := prv_bit hbit k; have := w k hk
      show (if (evL b p t).getD k 0 = prv (evL b p t) k then (0 : Int) else 1) + ((evL b p t).getD k 0 + prv (evL b p t) k) = 2
      split <;> omega
    rw [tsum_const, tsum_add, ← e, s] at this
    by_cases hd : b - p < p
    · rw [if_pos hd]; unfold chg; omega
    · rw [if_neg hd]; unfold chg; omega
/-- changes, beat for beat -/
def lc : Int → List Int → Nat
  | _, [] => 0
  | p, x :: xs => (if x = p then 0 else 1) + lc x xs
theorem lc_filter : ∀ (fs : List Int) (p : Int), ((List.range fs.length).filter fun k => decide (fs.getD k 0 ≠ (p :: fs).getD k 0)).length = lc p fs
  | [], _ => rfl
  | x :: xs, p => by
    rw [List.length_cons, List.range_succ_eq_map, List.filter_cons]
    have ih := lc_filter xs x
    have e : ((List.map Nat.succ (List.range xs.length)).filter fun k => decide ((x :: xs).getD k 0 ≠ (p :: x :: xs).getD k 0)).length = lc x xs := by
      rw [List.filter_map, List.length_map, ← ih]
      rfl
    by_cases h : x = p
    · subst h
      simp only [List.getD_cons_zero, ne_eq, not_true, decide_false]
      rw [lc, if_pos rfl, Nat.zero_add]
      exact e
    · rw [lc, if_neg h]
      simp only [List.getD_cons_zero, ne_eq, h, not_false_eq_true, decide_true, if_true, List.length_cons]
      rw [e]
      omega
theorem chg_lc (fs : List Int) : chg fs = lc (fs.getD (fs.length - 1) 0) fs := by
  rw [← lc_filter]
  unfold chg chgTo
  congr 2
  funext k
  congr 2
  cases k with
  | zero => rfl
  | succ k => rfl
theorem lc_rep {p x : Int} {ys : List Int} : ∀ n, 0 < n → lc p (List.replicate n x ++ ys) = (if x = p then 0 else 1) + lc x ys
  | 1, _ => by simp [lc]
  | n + 2, _ => by
    rw [List.replicate_succ, List.cons_append, lc, lc_rep (n + 1) (by omega), if_pos rfl, Nat.zero_add]
/-! ### frames of told runs -/
def frs : List (Nat × Nat) → List Int
  | [] => []
  | z :: r => List.replicate z.1 1 ++ (List.replicate z.2 0 ++ frs r)
theorem frs_append : ∀ a b : List (Nat × Nat), frs (a ++ b) = frs a ++ frs b
  | [], _ => rfl
  | z :: r, b => by rw [List.cons_append, frs, frs, frs_append r b]; simp [List.append_assoc]
theorem frs_snoc (a : List (Nat × Nat)) (x y : Nat) : frs (a ++ [(x, y)]) = frs a ++ List.replicate x 1 ++ List.replicate y 0 := by
  rw [frs_append]; simp [frs, List.append_assoc]
theorem frs_bit : ∀ zs : List (Nat × Nat), ∀ f ∈ frs zs, f = 0 ∨ f = 1
  | [], f, h => absurd h (by simp [frs])
  | z :: r, f, h => by
    rw [frs, List.mem_append, List.mem_append] at h
    rcases h with h | h | h
    · right; exact List.eq_of_mem_replicate h
    · left; exact List.eq_of_mem_replicate h
    · exact frs_bit r f h
theorem rep_sum (x : Int) : ∀ n : Nat, (List.replicate n x).sum = (n : Int) * x
  | 0 => by simp
  | n + 1 => by rw [List.replicate_succ, List.sum_cons, rep_sum x n, Int.natCast_add, Int.add_mul]; omega
theorem frs_sum : ∀ zs : List (Nat × Nat), (frs zs).sum = (((zs.map Prod.fst).sum : Nat) : Int)
  | [] => rfl
  | z :: r => by
    rw [frs, List.sum_append, List.sum_append, frs_sum r, rep_sum, rep_sum, List.map_cons, List.sum_cons]
    simp
theorem frs_len : ∀ zs : List (Nat × Nat), (frs zs).length = (zs.map Prod.fst).sum + (zs.map Prod.snd).sum
  | [] => rfl
  | z :: r => by
    rw [frs, List.length_append, List.length_append, frs_len r, List.length_replicate, List.length_replicate, List.map_cons, List.sum_cons, List.map_cons, List.sum_cons]
    omega
theorem frs_lc : ∀ zs : List (Nat × Nat), (∀ z ∈ zs, 0 < z.1 ∧ 0 < z.2) → lc 0 (frs zs) = 2 * zs.length
  | [], _ => rfl
  | z :: r, h => by
    obtain ⟨h1, h2⟩ := h z List.mem_cons_self
    rw [frs, lc_rep _ h1, if_neg (by decide), lc_rep _ h2, if_neg (by decide), frs_lc r fun y hy => h y (List.mem_cons_of_mem _ hy), List.length_cons]
    omega
theorem last_app (xs : List Int) (n : Nat) (h : 0 < n) : (xs ++ List.replicate n 0).getD ((xs ++ List.replicate n 0).length - 1) 0 = 0 := by
  rw [List.getD_eq_getElem?_getD, List.length_append, List.length_replicate, List.getElem?_append_right (by omega), List.getElem?_replicate]
  split <;> rfl
theorem frs_chg {zs : List (Nat × Nat)} (h : ∀ z ∈ zs, 0 < z.1 ∧ 0 < z.2) : chg (frs zs) = 2 * zs.length := by
  rcases List.eq_nil_or_concat zs with e | ⟨a, z, e⟩
  · subst e; rfl
  · rw [chg_lc]
    have hl : (frs zs).getD ((frs zs).length - 1) 0 = 0 := by
      rw [e, List.concat_eq_append, frs_snoc a z.1 z.2]
      exact last_app _ _ (h z (by rw [e, List.concat_eq_append]; exact List.mem_append_right _ List.mem_cons_self)).2
    rw [hl, frs_lc zs h]
theorem frs_on (n : Nat) : chg (frs [(n, 0)]) = 0 := by
  rw [chg_lc]
  simp only [frs, List.replicate_zero, List.append_nil]
  cases n with
  | zero => rfl
  | succ n =>
    have : (List.replicate (n + 1) (1 : Int)).getD ((List.replicate (n + 1) (1 : Int)).length - 1) 0 = 1 := by
      rw [List.getD_eq_getElem?_getD, List.getElem?_replicate, List.length_replicate, if_pos (by omega)]; rfl
    rw [this]
    have := lc_rep (p := 1) (x := 1) (ys := []) (n + 1) (by omega)
    rw [List.append_nil] at this
    rw [this]; rfl
/-! ### parts -/
def part (m n k : Nat) : Nat := m / n + if k < m % n then 1 else 0
theorem part_near {m n k : Nat} : m / n ≤ part m n k ∧ part m n k ≤ m / n + 1 := by
  unfold part; split <;> omega
theorem part_pos {m n k : Nat} (hn : 0 < n) (h : n ≤ m) : 0 < part m n k := by
  have : 0 < m / n := Nat.div_pos h hn
  have := (part_near (m := m) (n := n) (k := k)).1
  omega
theorem part_one (m : Nat) : part m 1 0 = m := by simp [part, Nat.mod_one]
theorem ind_sum (r : Nat) : ∀ n : Nat, ((List.range n).map fun k => if k < r then 1 else 0).sum = min n r
  | 0 => by simp
  | n + 1 => by
    rw [List.range_succ, List.map_append, List.sum_append, ind_sum r n]
    simp only [List.map_cons, List.map_nil, List.sum_cons, List.sum_nil]
    split <;> omega
theorem sum_add_const (f : Nat → Nat) (q : Nat) : ∀ n : Nat, ((List.range n).map fun k => q + f k).sum = n * q + ((List.range n).map f).sum
  | 0 => by simp
  | n + 1 => by
    rw [List.range_succ, List.map_append, List.sum_append, sum_add_const f q n, List.map_append, List.sum_append, Nat.add_mul]
    simp only [List.map_cons, List.map_nil, List.sum_cons, List.sum_nil]
    omega
theorem part_sum {m n : Nat} (hn : 0 < n) : ((List.range n).map (part m n)).sum = m := by
  show ((List.range n).map fun k => m / n + if k < m % n then 1 else 0).sum = m
  rw [sum_add_const, ind_sum, Nat.min_eq_right (Nat.le_of_lt (Nat.mod_lt _ hn))]
  exact Nat.div_add_mod m n
/-- the pairs of a frame of n runs -/
def prs (p q n i : Nat) : List (Nat × Nat) := (List.range i).map fun k => (part p n k, part q n k)
theorem prs_succ (p q n i : Nat) : prs p q n (i + 1) = prs p q n i ++ [(part p n i, part q n i)] := by
  unfold prs; rw [List.range_succ, List.map_append]; rfl
theorem prs_fst (p q n i : Nat) : (prs p q n i).map Prod.fst = (List.range i).map (part p n) := by
  unfold prs; rw [List.map_map]; rfl
theorem prs_snd (p q n i : Nat) : (prs p q n i).map Prod.snd = (List.range i).map (part q n) := by
  unfold prs; rw [List.map_map]; rfl
theorem prs_len (p q n i : Nat) : (prs p q n i).length = i := by simp [prs]
theorem prs_pos {p q n : Nat} (hn : 0 < n) (h1 : n ≤ p) (h2 : n ≤ q) {i : Nat} : ∀ z ∈ prs p q n i, 0 < z.1 ∧ 0 < z.2 := fun z hz => by
  unfold prs at hz
  obtain ⟨k, _, rfl⟩ := List.mem_map.mp hz
  exact ⟨part_pos hn h1, part_pos hn h2⟩
/-! ### lengths of runs -/
def lenStep (x : Int) (s : List Int × Bool) (f : Int) : List Int × Bool := if f = x then (if s.2 = true then (s.1.dropLast ++ [s.1.getLastD 0 + 1], true) else (s.1 ++ [1], true)) else (s.1, false)
def lens (x : Int) (fs : List Int) : List Int × Bool := fs.foldl (lenStep x) ([], false)
theorem step_rep_in (x : Int) (L : List Int) : ∀ n : Nat, (List.replicate (n + 1) x).foldl (lenStep x) (L, false) = (L ++ [(n : Int) + 1], true)
  | 0 => by simp [lenStep]
  | n + 1 => by
    rw [List.replicate_succ', List.foldl_append, step_rep_in x L n]
    simp [lenStep]
theorem step_rep_out {x y : Int} (h : y ≠ x) (s : List Int × Bool) : ∀ n : Nat, (List.replicate (n + 1) y).foldl (lenStep x) s = (s.1, false)
  | 0 => by simp [lenStep, h]
  | n + 1 => by
    rw [List.replicate_succ', List.foldl_append, step_rep_out h s n]
    simp [lenStep, h]
theorem lens_one : ∀ (zs : List (Nat × Nat)) (L : List Int), (∀ z ∈ zs, 0 < z.1 ∧ 0 < z.2) → (frs zs).foldl (lenStep 1) (L, false) = (L ++ zs.map (fun z => (z.1 : Int)), false)
  | [], L, _ => by simp [frs]
  | z :: r, L, h => by
    obtain ⟨h1, h2⟩ := h z List.mem_cons_self
    obtain ⟨a, ha⟩ : ∃ a, z.1 = a + 1 := ⟨z.1 - 1, by omega⟩
    obtain ⟨b, hb⟩ : ∃ b, z.2 = b + 1 := ⟨z.2 - 1, by omega⟩
    rw [frs, ha, hb, List.foldl_append, step_rep_in, List.foldl_append, step_rep_out (by decide), lens_one r _ fun y hy => h y (List.mem_cons_of_mem _ hy), List.map_cons, ha]
    simp
theorem lens_zero : ∀ (zs : List (Nat × Nat)) (L : List Int) (f : Bool), (∀ z ∈ zs, 0 < z.1 ∧ 0 < z.2) → ((frs zs).foldl (lenStep 0) (L, f)).1 = L ++ zs.map (fun z => (z.2 : Int))
  | [], L, _, _ => by simp [frs]
  | z :: r, L, f, h => by
    obtain ⟨h1, h2⟩ := h z List.mem_cons_self
    obtain ⟨a, ha⟩ : ∃ a, z.1 = a + 1 := ⟨z.1 - 1, by omega⟩
    obtain ⟨b, hb⟩ : ∃ b, z.2 = b + 1 := ⟨z.2 - 1, by omega⟩
    rw [frs, ha, hb, List.foldl_append, step_rep_out (by decide), List.foldl_append, step_rep_in, lens_zero r _ _ fun y hy => h y (List.mem_cons_of_mem _ hy), List.map_cons, hb]
    simp
theorem lens_on (n : Nat) : (lens 1 (frs [(n + 1, 0)])).1 = [(n : Int) + 1] ∧ (lens 0 (frs [(n + 1, 0)])).1 = [] := by
  unfold lens
  simp only [frs, List.replicate_zero, List.append_nil]
  rw [step_rep_in, step_rep_out (by decide)]
  simp
theorem lens_take_succ {x : Int} {fs : List Int} {i : Nat} (h : i < fs.length) : lens x (fs.take (i + 1)) = lenStep x (lens x (fs.take i)) (fs.getD i 0) := by
  unfold lens
  rw [List.take_succ, List.getElem?_eq_getElem h, List.foldl_append]
  simp [List.getD, List.getElem?_eq_getElem h]
theorem lens_flag {x : Int} {fs : List Int} : ∀ {i : Nat}, i ≤ fs.length → ((lens x (fs.take i)).2 = true ↔ 0 < i ∧ fs.getD (i - 1) 0 = x) ∧ ((lens x (fs.take i)).2 = true → (lens x (fs.take i)).1 ≠ []) ∧ (lens x (fs.take i)).1.length ≤ i
  | 0, _ => by simp [lens]
  | i + 1, h => by
    obtain ⟨_, h2, h3⟩ := lens_flag (x := x) (fs := fs) (i := i) (by omega)
    rw [lens_take_succ (by omega)]
    unfold lenStep
    by_cases c : fs.getD i 0 = x
    · rw [if_pos c]
      by_cases d : (lens x (fs.take i)).2 = true
      · rw [if_pos d]
        have := h2 d
        have hp : 0 < (lens x (fs.take i)).1.length := List.length_pos_iff.mpr this
        refine ⟨⟨fun _ => ⟨by omega, by rw [Nat.add_sub_cancel]; exact c⟩, fun _ => rfl⟩, by simp, ?_⟩
        simp only [List.length_append, List.length_dropLast, List.length_cons, List.length_nil]
        omega
      · rw [if_neg d]
        refine ⟨⟨fun _ => ⟨by omega, by rw [Nat.add_sub_cancel]; exact c⟩, fun _ => rfl⟩, by simp, ?_⟩
        simp only [List.length_append, List.length_cons, List.length_nil]
        omega
    · rw [if_neg c]
      exact ⟨⟨fun z => absurd z Bool.false_ne_true, fun z => absurd (by rw [← z.2, Nat.add_sub_cancel]) c⟩, fun z => absurd z Bool.false_ne_true, Nat.le_succ_of_le h3⟩
/-! ### what a frame of told runs keeps -/
structure Runs (b p : Int) (m : Nat) (fs : List Int) : Prop where
  sum : fs.sum = p
  len : (fs.length : Int) = b
  bit : ∀ f ∈ fs, f = 0 ∨ f = 1
  chg : My.chg fs = if p < b then 2 * m else 0
  near : ∀ x : Int, x = 0 ∨ x = 1 → ∀ y z, y ∈ (lens x fs).1 → z ∈ (lens x fs).1 → y - z ≤ 1
theorem runs_mk {b p : Int} {m : Nat} (p0 : 0 ≤ p) (p1 : p ≤ b) (m0 : 1 ≤ m) (m1 : (m : Int) ≤ p) (m2 : m = 1 ∨ (m : Int) ≤ b - p) : Runs b p m (frs (prs p.toNat (b - p).toNat m m)) := by
  have hs : (frs (prs p.toNat (b - p).toNat m m)).sum = p := by rw [frs_sum, prs_fst, part_sum (by omega)]; omega
  have hl : ((frs (prs p.toNat (b - p).toNat m m)).length : Int) = b := by rw [frs_len, prs_fst, prs_snd, part_sum (by omega), part_sum (by omega)]; omega
  by_cases c : p < b
  · have hp := prs_pos (p := p.toNat) (q := (b - p).toNat) (n := m) (i := m) (by omega) (by omega) (by omega)
    refine ⟨hs, hl, frs_bit _, by rw [frs_chg hp, prs_len, if_pos c], fun x hx y z hy hz => ?_⟩
    rcases hx with e | e <;> subst e
    · rw [lens, lens_zero _ _ _ hp, List.nil_append] at hy hz
      obtain ⟨u, hu, rfl⟩ := List.mem_map.mp hy
      obtain ⟨v, hv, rfl⟩ := List.mem_map.mp hz
      obtain ⟨i, _, rfl⟩ := List.mem_map.mp hu
      obtain ⟨j, _, rfl⟩ := List.mem_map.mp hv
      have h1 := part_near (m := (b - p).toNat) (n := m) (k := i)
      have h2 := part_near (m := (b - p).toNat) (n := m) (k := j)
      show ((part (b - p).toNat m i : Nat) : Int) - ((part (b - p).toNat m j : Nat) : Int) ≤ 1
      omega
    · rw [lens, lens_one _ _ hp] at hy hz
      simp only [List.nil_append] at hy hz
      obtain ⟨u, hu, rfl⟩ := List.mem_map.mp hy
      obtain ⟨v, hv, rfl⟩ := List.mem_map.mp hz
      obtain ⟨i, _, rfl⟩ := List.mem_map.mp hu
      obtain ⟨j, _, rfl⟩ := List.mem_map.mp hv
      have h1 := part_near (m := p.toNat) (n := m) (k := i)
      have h2 := part_near (m := p.toNat) (n := m) (k := j)
      show ((part p.toNat m i : Nat) : Int) - ((part p.toNat m j : Nat) : Int) ≤ 1
      omega
  · have em : m = 1 := by omega
    have eq : (b - p).toNat = 0 := by omega
    obtain ⟨n, hn⟩ : ∃ n, p.toNat = n + 1 := ⟨p.toNat - 1, by omega⟩
    have e : prs p.toNat (b - p).toNat m m = [(n + 1, 0)] := by
      subst em
      rw [eq, hn]
      simp [prs, part, Nat.mod_one]
    rw [e] at hs hl ⊢
    obtain ⟨l1, l2⟩ := lens_on n
    refine ⟨hs, hl, frs_bit _, by rw [frs_on, if_neg c], fun x hx y z hy hz => ?_⟩
    rcases hx with e | e <;> subst e
    · rw [l2] at hy; cases hy
    · rw [l1] at hy hz
      simp only [List.mem_singleton] at hy hz
      omega
theorem bits_zero : ∀ {fs : List Int}, (∀ f ∈ fs, f = 0 ∨ f = 1) → fs.sum ≤ fs.length ∧ ((0 : Int) ∈ fs ↔ fs.sum < fs.length)
  | [], _ => by simp
  | f :: fs, h => by
    obtain ⟨h1, h2⟩ := bits_zero (fs := fs) fun g hg => h g (List.mem_cons_of_mem _ hg)
    have h3 := h f List.mem_cons_self
    rw [List.sum_cons, List.length_cons, List.mem_cons, h2]
    omega
def runsN (fs : List Int) : Int := if (0 : Int) ∈ fs then ((chg fs : Nat) : Int) / 2 else 1
theorem Runs.runs {b p : Int} {m : Nat} {fs : List Int} (h : Runs b p m fs) (m0 : 1 ≤ m) (m1 : (m : Int) ≤ p) (m2 : m = 1 ∨ (m : Int) ≤ b - p) : runsN fs = (m : Int) := by
  obtain ⟨h1, h2⟩ := bits_zero h.bit
  have a := h.sum
  have c := h.len
  have d := h.chg
  unfold runsN
  by_cases e : p < b
  · rw [if_pos (h2.mpr (by omega)), d, if_pos e]
    omega
  · rw [if_neg (fun z => e (by have := h2.mp z; omega))]
    omega
theorem part_ceil {p n k : Nat} (hk : k < n) : (p + n - 1 - k) / n = part p n k := by
  have h := Nat.div_add_mod p n
  have hr := Nat.mod_lt p (show 0 < n by omega)
  unfold part
  obtain ⟨q, hq⟩ : ∃ q, q = p / n := ⟨_, rfl⟩
  obtain ⟨r, hr2⟩ : ∃ r, r = p % n := ⟨_, rfl⟩
  rw [← hq, ← hr2] at h ⊢
  rw [← hr2] at hr
  rw [show p + n - 1 - k = n * q + (r + n - 1 - k) by omega, Nat.mul_add_div (by omega)]
  congr 1
  by_cases c : k < r
  · rw [if_pos c, Nat.div_eq_sub_div (by omega) (by omega), Nat.div_eq_of_lt (by omega)]
  · rw [if_neg c, Nat.div_eq_of_lt (by omega)]
def ups (fs : List Int) (n : Nat) : List Nat := (List.range n).filter fun k => decide (fs.getD k 0 = 1 ∧ prv fs k = 0)
theorem ups_succ (fs : List Int) (n : Nat) : ups fs (n + 1) = if fs.getD n 0 = 1 ∧ prv fs n = 0 then ups fs n ++ [n] else ups fs n := by
  unfold ups
  rw [List.range_succ, List.filter_append]
  by_cases h : fs.getD n 0 = 1 ∧ prv fs n = 0
  · rw [if_pos h]
    congr 1
    exact List.filter_cons_of_pos (p := fun k => decide (fs.getD k 0 = 1 ∧ prv fs k = 0)) (decide_eq_true h)
  · rw [if_neg h, List.filter_cons_of_neg (p := fun k => decide (fs.getD k 0 = 1 ∧ prv fs k = 0)) (fun z => h (of_decide_eq_true z)), List.filter_nil, List.append_nil]
theorem ups_len (fs : List Int) (n : Nat) : (ups fs n).length ≤ n := by
  have := List.length_filter_le (fun k => decide (fs.getD k 0 = 1 ∧ prv fs k = 0)) (List.range n)
  rw [List.length_range] at this
  exact this
theorem ups_sum (fs : List Int) : ∀ n, ((ups fs n).length : Int) = tsum (fun k => if fs.getD k 0 = 1 ∧ prv fs k = 0 then 1 else 0) n
  | 0 => rfl
  | n + 1 => by
    rw [tsum_succ, ← ups_sum fs n, ups_succ]
    by_cases h : fs.getD n 0 = 1 ∧ prv fs n = 0
    · rw [if_pos h, if_pos h, List.length_append]; simp
    · rw [if_neg h, if_neg h]; omega
theorem chg_ups {fs : List Int} (h : ∀ k, fs.getD k 0 = 0 ∨ fs.getD k 0 = 1) : chg fs = 2 * (ups fs fs.length).length := by
  have e := chgTo_sum fs fs.length
  have u := ups_sum fs fs.length
  have a := sum_getD fs
  have b := sum_prv fs
  have s1 := tsum_add (fun k => if fs.getD k 0 = prv fs k then 0 else 1) (fun k => fs.getD k 0) fs.length
  have s2 := tsum_add (fun k => if fs.getD k 0 = 1 ∧ prv fs k = 0 then 1 else 0) (fun k => if fs.getD k 0 = 1 ∧ prv fs k = 0 then 1 else 0) fs.length
  have s3 := tsum_add (fun k => (if fs.getD k 0 = 1 ∧ prv fs k = 0 then 1 else 0) + (if fs.getD k 0 = 1 ∧ prv fs k = 0 then 1 else 0)) (prv fs) fs.length
  have c := tsum_congr (f := fun k => (if fs.getD k 0 = prv fs k then 0 else 1) + fs.getD k 0) (g := fun k => ((if fs.getD k 0 = 1 ∧ prv fs k = 0 then 1 else 0) + (if fs.getD k 0 = 1 ∧ prv fs k = 0 then 1 else 0)) + prv fs k) fs.length fun k _ => by
    have := h k; have := prv_bit h k
    show (if fs.getD k 0 = prv fs k then (0 : Int) else 1) + fs.getD k 0 = ((if fs.getD k 0 = 1 ∧ prv fs k = 0 then (1 : Int) else 0) + (if fs.getD k 0 = 1 ∧ prv fs k = 0 then 1 else 0)) + prv fs k
    split <;> split <;> omega
  unfold chg
  omega
theorem all_same {fs : List Int} (h : chg fs = 0) : ∀ k, k < fs.length → fs.getD k 0 = fs.getD 0 0
  | 0, _ => rfl
  | k + 1, hk => by
    rw [← all_same h k (by omega)]
    have hn : chgTo fs fs.length = [] := List.eq_nil_of_length_eq_zero h
    unfold chgTo at hn
    have := (List.filter_eq_nil_iff.mp hn) (k + 1) (List.mem_range.mpr hk)
    have e : fs.getD (k + 1) 0 = prv fs (k + 1) := Decidable.byContradiction fun z => this (decide_eq_true z)
    rw [e]
    unfold prv
    rw [if_neg (by omega), Nat.add_sub_cancel]
theorem runs_ups {fs : List Int} (h0 : 0 < fs.length) (h : ∀ k, fs.getD k 0 = 0 ∨ fs.getD k 0 = 1) : runsN fs = if ups fs fs.length = [] then fs.getD 0 0 else ((ups fs fs.length).length : Int) := by
  have c := chg_ups h
  unfold runsN
  by_cases e : ups fs fs.length = []
  · rw [if_pos e]
    rw [e] at c
    have hs := all_same (fs := fs) (by simpa using c)
    by_cases z : (0 : Int) ∈ fs
    · rw [if_pos z, c]
      obtain ⟨k, hk, ek⟩ := List.getElem_of_mem z
      have := hs k hk
      rw [List.getD_eq_getElem?_getD, List.getElem?_eq_getElem hk, ek] at this
      rw [← this]; rfl
    · rw [if_neg z]
      rcases h 0 with q | q
      · exact absurd (by rw [List.getD_eq_getElem?_getD, List.getElem?_eq_getElem h0] at q; rw [← show fs[0] = 0 from q]; exact List.getElem_mem h0) z
      · exact q.symm
  · rw [if_neg e]
    have hp : 0 < (ups fs fs.length).length := List.length_pos_iff.mpr e
    have z : (0 : Int) ∈ fs := by
      obtain ⟨k, hk⟩ := List.exists_mem_of_length_pos hp
      unfold ups at hk
      obtain ⟨k1, k2⟩ := List.mem_filter.mp hk
      have k2 := (of_decide_eq_true k2).2
      have k1 := List.mem_range.mp k1
      rw [prv_cyc k1] at k2
      unfold cyc at k2
      have hm : (k + (fs.length - 1)) % fs.length < fs.length := Nat.mod_lt _ h0
      rw [List.getD_eq_getElem?_getD, List.getElem?_eq_getElem hm] at k2
      rw [← show fs[(k + (fs.length - 1)) % fs.length] = 0 from k2]
      exact List.getElem_mem hm
    rw [if_pos z, c]
    omega
theorem unlike_iff {x y : Int} (hx : x = 0 ∨ x = 1) (hy : y = 0 ∨ y = 1) : x + y = 1 ↔ x ≠ y := by omega
structure Txt (K : PySem.W.Frag) (mg : Str → Option Value) : Prop where
  g_BadBegins : mg "BadBegins" = some (.ref (He.ga K "BadBegins"))
  g_BadFrame : mg "BadFrame" = some (.ref (He.ga K "BadFrame"))
  g_BadRuns : mg "BadRuns" = some (.ref (He.ga K "BadRuns"))
  x_BadRuns : ExF K mg "BadRuns"
  g_BadShare : mg "BadShare" = some (.ref (He.ga K "BadShare"))
  g_BadText : mg "BadText" = some (.ref (He.ga K "BadText"))
  g_BadWidth : mg "BadWidth" = some (.ref (He.ga K "BadWidth"))
  k_MOST_BEATS : ∃ u, mg "MOST_BEATS" = some u ∧ RelV (.int 64) u
  g_NoRoom : mg "NoRoom" = some (.ref (He.ga K "NoRoom"))
  x_NoRoom : ExF K mg "NoRoom"
  g_PulseError : mg "PulseError" = some (.ref (He.ga K "PulseError"))
  b_ValueError : mg "ValueError" = none
  b_bool : mg "bool" = none
  b_int : mg "int" = none
  b_isinstance : mg "isinstance" = none
  b_len : mg "len" = none
  b_list : mg "list" = none
  b_min : mg "min" = none
  b_range : mg "range" = none
  b_str : mg "str" = none
  b_tuple : mg "tuple" = none
  b_zip : mg "zip" = none
section
variable {P : Program} {w : World} {K : PySem.W.Frag} {mg : Str → Option Value} {base : Heap}
abbrev s_law_start : Stmt := top 22
theorem sc_law_start : FnScope ["_law_script", "_law_mixed", "_law_cell"] ["_law_script"] (defScope s_law_start) := ⟨rfl, rfl, rfl, by decide +kernel, rfl, by decide +kernel, by decide +kernel⟩
/-- _law_start(script): a new good state -/
def spStart (K : PySem.W.Frag) : Sp := fun vs H Q _ => ∃ (a : Addr) (ns : List Int), vs = [.ref a] ∧ SqL K H a (ns.map V.int) ∧ ∀ (st : Addr) (m : Int), H st = none → Drw 0 m 0 → Q (.ref st) (upd H st (StO a 0 m 0))
theorem ok_law_start {f : Addr} {fd : FuncData} (F : FunG K mg "_law_start" s_law_start f fd ["_law_script"]) : FnOk P w K mg base CX0 1 f fd ["_law_script"] (spStart K) := by
  refine F.fn.ok sc_law_start (fun vs H Q E h => ?_) (fun cdv A outer s H vs Q E hr h => ?_)
  · obtain ⟨a, ns, rfl, _⟩ := h
    rfl
  · obtain ⟨a, ns, rfl, hS, k⟩ := h
    refine ⟨_, (pss_cons (ps_set (i := 1) sc_law_start.nd rfl (.inl rfl) pe_int)
      (pss_cons (ps_for PassesOwn.never (by rfl) (pi_list (pv 0)) (pg_name (i := 2) sc_law_start.nd rfl (.inl rfl)) (pss_one (ps_set (i := 1) sc_law_start.nd rfl (.inl rfl) (pe_op op_mod (pe_op op_add (pe_op op_add (pe_op op_mulW (pv 1) pe_int) (pv 2)) pe_int) pe_int))))
      (pss_one (ps_ret (pe_lst (pa_cons (pv 0) (pa_cons pe_int (pa_cons (pv 1) (pa_cons pe_int pa_nil))))))))), ?_⟩
    refine ⟨_, rfl, a, rfl, ⟨_, hS⟩, for_list (K := K) (a := a) (xs := ns.map V.int) (fun i σ H' => ∃ (m : Int) (v : Option V), σ = [some (.ref a), some (.int m), v] ∧ H' = H ∧ 0 ≤ m ∧ m < 2147483647)
      ⟨1, none, rfl, rfl, by decide, by decide⟩ (fun i σ H' _ ⟨_, _, _, e, _⟩ => e ▸ hS) ?_ ?_⟩
    · rintro i y σ H' hi ⟨m, v, rfl, rfl, m0, m1⟩
      obtain ⟨z, hz, rfl⟩ := getV hi
      refine ⟨_, rfl, _, _, rfl, rfl, wide_mul (a := 31) (b := 17) (by omega) (by decide) (by decide) (by decide) (by decide), _, rfl, _, _, rfl, rfl, _, _, rfl, rfl, _, _, rfl, rfl, (by show (0 : Int) < 2147483647; decide), ?_⟩
      exact ⟨_, _, rfl, rfl, Int.emod_nonneg _ (by decide), Int.emod_lt_of_pos _ (by decide)⟩
    · rintro σ H' ⟨m, v, rfl, rfl, m0, m1⟩
      refine ⟨_, rfl, _, rfl, (by show 4 ≤ sizeLine; decide), fun p hp => ?_⟩
      exact k p m hp ⟨Int.le_refl _, m0, m1, Int.le_refl _⟩
abbrev s_law_drawn : Stmt := top 23
theorem sc_law_drawn : FnScope ["_law_state", "_law_many", "_law_found", "_law_cell"] ["_law_state", "_law_many"] (defScope s_law_drawn) := ⟨rfl, rfl, rfl, by decide +kernel, rfl, by decide +kernel, by decide +kernel⟩
/-- _law_drawn(state, many): some number from 0 on below many; the state is good behind it, all else as it was -/
def spDrawn (K : PySem.W.Frag) : Sp := fun vs H Q _ => ∃ (st a : Addr) (ns : List Int) (many : Int), vs = [.ref st, .int many] ∧ SOk K a ns st H ∧ 0 < many ∧ many < 2 ^ 200 ∧
  ∀ r i m c : Int, 0 ≤ r → r < many → Drw i m c → Q (.int r) (upd H st (StO a i m c))
theorem SOk.drawn {K : PySem.W.Frag} {a st : Addr} {ns : List Int} {H : Hp} (s : SOk K a ns st H) {i m c : Int} (d : Drw i m c) : SOk K a ns st (upd H st (StO a i m c)) := s.keep (Keep.refl st H).atSt d upd_same
theorem ok_law_drawn {f : Addr} {fd : FuncData} (F : FunG K mg "_law_drawn" s_law_drawn f fd ["_law_state", "_law_many"]) (T : Txt K mg) : FnOk P w K mg base CX0 1 f fd ["_law_state", "_law_many"] (spDrawn K) := by
  refine F.fn.ok sc_law_drawn (fun vs H Q E h => ?_) (fun cdv A outer s H vs Q E hr h => ?_)
  · obtain ⟨st, a, ns, many, rfl, _⟩ := h
    rfl
  · obtain ⟨st, a, ns, many, rfl, hs, m0, m1, k⟩ := h
    obtain ⟨i, m, c, d, hst⟩ := hs.at_
    have hdiv : ∀ x : Int, CDivW x many := fun x => wide_div (b := 200) m0 (by omega) (by decide) (by decide)
    have hl : H st = some (.lst [.ref a, .int i, .int m, .int c]) := hst
    refine ⟨_, (pss_cons (ps_if (pt_cmpR op_gt (pe_ix (ixL K) (pv 0) pe_int (fun _ _ => rfl)) pe_int (nomark _)) (pss_cons (ps_set (i := 2) sc_law_drawn.nd rfl (.inl rfl) (pe_op op_mod (pe_ix (ixL K) (pv 0) pe_int (fun _ _ => rfl)) (pv 1)))
      (pss_cons (ps_asg (pe_op op_fdivW (pe_ix (ixL K) (pv 0) pe_int (fun _ _ => rfl)) (pv 1)) (pg_sub (pv 0) pe_int set_list))
      (pss_one (ps_ret (pv 2))))) pss_nil)
      (pss_cons (ps_asg (pe_op op_add (pe_ix (ixL K) (pv 0) pe_int (fun _ _ => rfl)) pe_int) (pg_sub (pv 0) pe_int set_list))
      (pss_cons (ps_if (pt_cmpR op_le (pe_ix (ixL K) (pv 0) pe_int (fun _ _ => rfl)) (pe_callB (clLen K) (by rfl) T.b_len (by decide +kernel) (pa_cons (pe_ix (ixL K) (pv 0) pe_int (fun _ _ => rfl)) pa_nil)) (nomark _)) (pss_cons (ps_set (i := 3) sc_law_drawn.nd rfl (.inl rfl) (pe_ix (ixL K) (pe_ix (ixL K) (pv 0) pe_int (fun _ _ => rfl)) (pe_op op_sub (pe_ix (ixL K) (pv 0) pe_int (fun _ _ => rfl)) pe_int) (fun _ _ => rfl)))
      (pss_cons (ps_asg (pe_ifExp (pt_cmpR op_ge (pv 3) (pe_op op_pow pe_int pe_int) (nomark _)) (pe_op op_fdivW (pv 3) (pv 1)) pe_int) (pg_sub (pv 0) pe_int set_list))
      (pss_one (ps_ret (pe_op op_mod (pv 3) (pv 1)))))) pss_nil)
      (pss_cons (ps_asg (pe_op op_mod (pe_op op_add (pe_op op_mulW (pe_ix (ixL K) (pv 0) pe_int (fun _ _ => rfl)) pe_int) pe_int) pe_int) (pg_sub (pv 0) pe_int set_list))
      (pss_one (ps_ret (pe_op op_mod (pe_op op_fdivW (pe_ix (ixL K) (pv 0) pe_int (fun _ _ => rfl)) pe_int) (pv 1)))))))), ?_⟩
    refine ⟨_, rfl, _, _, _, _, rfl, rfl, SqL.of hl, rfl, _, _, rfl, rfl, _, rfl, ?_⟩
    refine ite2 (fun hc => ?_) (fun hc => ?_)
    · have hc : 0 < c := of_decide_eq_true hc
      refine ⟨_, rfl, _, _, _, _, rfl, rfl, SqL.of hl, rfl, _, rfl, _, _, rfl, rfl, m0, ?_⟩
      refine ⟨_, rfl, _, _, _, _, rfl, rfl, SqL.of hl, rfl, _, rfl, _, _, rfl, rfl, hdiv _, _, rfl, st, _, _, 3, rfl, rfl, hl, rfl, ?_⟩
      refine ⟨_, rfl, ?_⟩
      exact k (c % many) i m (c / many) (Int.emod_nonneg _ (by omega)) (Int.emod_lt_of_pos _ m0) ⟨d.i0, d.m0, d.m1, Int.ediv_nonneg d.c0 (by omega)⟩
    · refine ⟨_, rfl, _, _, _, _, rfl, rfl, SqL.of hl, rfl, _, _, rfl, rfl, _, rfl, st, _, _, 1, rfl, rfl, hl, rfl, ?_⟩
      have hl1 : (upd H st (.lst [.ref a, .int (i + 1), .int m, .int c])) st = some (.lst [.ref a, .int (i + 1), .int m, .int c]) := upd_same
      have hS1 : SqL K (upd H st (.lst [.ref a, .int (i + 1), .int m, .int c])) a (ns.map V.int) := hs.sq _ (Keep.refl st H).atSt
      refine ⟨_, rfl, _, _, _, _, rfl, rfl, SqL.of hl1, rfl, _, rfl, _, _, _, _, rfl, rfl, SqL.of hl1, rfl, _, _, rfl, .inl hS1, _, _, rfl, rfl, _, rfl, ?_⟩
      refine ite2 (fun hb => ?_) (fun hb => ?_)
      · have hb : i + 1 ≤ ((ns.map V.int).length : Int) := of_decide_eq_true hb
        rw [List.length_map] at hb
        have i0 := d.i0
        refine ⟨_, rfl, _, _, _, _, rfl, rfl, SqL.of hl1, rfl, _, rfl, _, _, _, _, rfl, rfl, SqL.of hl1, rfl, _, _, rfl, rfl, _, _, _, _, rfl, rfl, hS1, atV (j := i.toNat) (by omega) (by omega), ?_⟩
        refine ⟨_, rfl, _, _, rfl, rfl, ⟨by decide, by decide, by decide⟩, _, _, rfl, rfl, _, rfl, ?_⟩
        generalize ns.getD i.toNat 0 = z
        refine ite2 (fun hz => ?_) (fun hz => ?_)
        · have hz : (10 : Int) ^ (18 : Int).toNat ≤ z := of_decide_eq_true hz
          have z0 : 0 ≤ z := Int.le_trans (by decide) hz
          refine ⟨_, rfl, _, rfl, _, _, rfl, rfl, hdiv _, _, rfl, st, _, _, 3, rfl, rfl, hl1, rfl, ?_⟩
          refine ⟨_, rfl, _, rfl, _, _, rfl, rfl, m0, ?_⟩
          rw [upd_upd]
          exact k (z % many) (i + 1) m (z / many) (Int.emod_nonneg _ (by omega)) (Int.emod_lt_of_pos _ m0) ⟨by omega, d.m0, d.m1, Int.ediv_nonneg z0 (by omega)⟩
        · refine ⟨_, rfl, st, _, _, 3, rfl, rfl, hl1, rfl, ?_⟩
          refine ⟨_, rfl, _, rfl, _, _, rfl, rfl, m0, ?_⟩
          rw [upd_upd]
          exact k (z % many) (i + 1) m 0 (Int.emod_nonneg _ (by omega)) (Int.emod_lt_of_pos _ m0) ⟨by omega, d.m0, d.m1, Int.le_refl _⟩
      · refine ⟨_, rfl, _, _, _, _, rfl, rfl, SqL.of hl1, rfl, _, _, rfl, rfl, wide_mul (a := 31) (b := 17) (by have := d.m0; have := d.m1; omega) (by decide) (by decide) (by decide) (by decide), _, _, rfl, rfl, _, _, rfl, rfl, (by show (0 : Int) < 2147483647; decide), _, rfl, st, _, _, 2, rfl, rfl, hl1, rfl, ?_⟩
        rw [upd_upd]
        have n0 := Int.emod_nonneg (m * 48271 + 11) (show (2147483647 : Int) ≠ 0 by decide)
        have n1 := Int.emod_lt_of_pos (m * 48271 + 11) (show (0 : Int) < 2147483647 by decide)
        have hl2 : (upd H st (.lst [.ref a, .int (i + 1), .int ((m * 48271 + 11) % 2147483647), .int c])) st = some (.lst [.ref a, .int (i + 1), .int ((m * 48271 + 11) % 2147483647), .int c]) := upd_same
        refine ⟨_, rfl, _, _, _, _, rfl, rfl, SqL.of hl2, rfl, _, _, rfl, rfl, wide_div (b := 3) (by decide) (by decide) (by decide) (by decide), _, rfl, _, _, rfl, rfl, m0, ?_⟩
        have i0 := d.i0
        exact k ((m * 48271 + 11) % 2147483647 / 7 % many) (i + 1) ((m * 48271 + 11) % 2147483647) c (Int.emod_nonneg _ (by omega)) (Int.emod_lt_of_pos _ m0) ⟨by omega, n0, n1, d.c0⟩
abbrev s_law_share : Stmt := top 26
theorem sc_law_share : FnScope ["_law_state", "_law_beats"] ["_law_state"] (defScope s_law_share) := ⟨rfl, rfl, rfl, by decide +kernel, rfl, by decide +kernel, by decide +kernel⟩
/-- _law_share(state): a new pair of beats and pulses -/
def spShare (K : PySem.W.Frag) : Sp := fun vs H Q _ => ∃ (st a : Addr) (ns : List Int), vs = [.ref st] ∧ SOk K a ns st H ∧
  ∀ (b p : Int) (t : Addr) (H' : Hp), 1 ≤ b → b ≤ 64 → 0 ≤ p → p ≤ b → H t = none → Keep st H H' → SOk K a ns st H' → H' t = some (.tup [.int b, .int p]) → Q (.ref t) H'
theorem ok_law_share {f : Addr} {fd : FuncData} (F : FunG K mg "_law_share" s_law_share f fd ["_law_state"]) (c_law_drawn : Cl P w K mg base CX0 1 "_law_drawn" (spDrawn K)) : FnOk P w K mg base CX0 2 f fd ["_law_state"] (spShare K) := by
  refine F.fn.ok sc_law_share (fun vs H Q E h => ?_) (fun cdv A outer s H vs Q E hr h => ?_)
  · obtain ⟨st, a, ns, rfl, _⟩ := h
    rfl
  · obtain ⟨st, a, ns, rfl, hs, k⟩ := h
    refine ⟨_, (pss_cons (ps_set (i := 1) sc_law_share.nd rfl (.inl rfl) (pe_op op_add pe_int (pe_cl c_law_drawn hr (by decide) (by rfl) (pa_cons (pv 0) (pa_cons (pe_ix (ixL K) (pe_lst (pa_cons pe_int (pa_cons pe_int (pa_cons pe_int pa_nil)))) (pe_cl c_law_drawn hr (by decide) (by rfl) (pa_cons (pv 0) (pa_cons pe_int pa_nil))) (fun _ _ => rfl)) pa_nil)))))
      (pss_one (ps_ret (pe_tup (pa_cons (pv 1) (pa_cons (pe_ix (ixL K) (pe_lst (pa_cons pe_int (pa_cons (pv 1) (pa_cons (pe_cl c_law_drawn hr (by decide) (by rfl) (pa_cons (pv 0) (pa_cons (pe_op op_add (pv 1) pe_int) pa_nil))) (pa_cons (pe_cl c_law_drawn hr (by decide) (by rfl) (pa_cons (pv 0) (pa_cons (pe_op op_add (pv 1) pe_int) pa_nil))) pa_nil))))) (pe_cl c_law_drawn hr (by decide) (by rfl) (pa_cons (pv 0) (pa_cons pe_int pa_nil))) (fun _ _ => rfl)) pa_nil)))))), ?_⟩
    -- beats = 1 + drawn(state, [6, 16, 64][drawn(state, 3)])
    refine ⟨_, rfl, (by show 3 ≤ sizeLine; decide), fun p1 hp1 => ?_⟩
    have s1 := hs.new (o := .lst [.int 6, .int 16, .int 64]) hp1
    refine ⟨_, rfl, st, a, ns, 3, rfl, s1, by decide, by decide, fun r i m c r0 r1 d => ?_⟩
    have s2 := s1.drawn d
    have n1 := hs.ne_of hp1
    have k2 : Keep st H (upd (upd H p1 (.lst [.int 6, .int 16, .int 64])) st (StO a i m c)) := ((Keep.refl st H).new hp1).atSt
    have hp2 : (upd (upd H p1 (.lst [.int 6, .int 16, .int 64])) st (StO a i m c)) p1 = some (.lst [.int 6, .int 16, .int 64]) := by rw [upd_ne n1, upd_same]
    generalize upd (upd H p1 (.lst [.int 6, .int 16, .int 64])) st (StO a i m c) = H2 at s2 k2 hp2
    have hat : ∃ v : Int, atI [V.int 6, V.int 16, V.int 64] r = some (.int v) ∧ 1 ≤ v ∧ v ≤ 64 := by
      rcases pick3 r0 r1 with e | e | e <;> subst e <;> exact ⟨_, rfl, by decide, by decide⟩
    obtain ⟨v, hv, v0, v1⟩ := hat
    refine ⟨_, _, _, _, rfl, rfl, SqL.of hp2, hv, st, a, ns, v, rfl, s2, by omega, Int.lt_of_le_of_lt v1 (by decide), fun r2 i2 m2 c2 r20 r21 d2 => ?_⟩
    have s3 := s2.drawn d2
    have k3 := k2.atSt (o := StO a i2 m2 c2)
    generalize upd H2 st (StO a i2 m2 c2) = H3 at s3 k3
    -- (beats, [0, beats, drawn(state, beats + 1), drawn(state, beats + 1)][drawn(state, 4)])
    refine ⟨_, _, rfl, rfl, _, rfl, _, rfl, _, rfl, _, rfl, _, _, rfl, rfl, st, a, ns, _, rfl, s3, by omega, Int.lt_of_le_of_lt (show 1 + r2 + 1 ≤ 66 by omega) (by decide), fun r4 i4 m4 c4 r40 r41 d4 => ?_⟩
    have s4 := s3.drawn d4
    have k4 := k3.atSt (o := StO a i4 m4 c4)
    generalize upd H3 st (StO a i4 m4 c4) = H4 at s4 k4
    refine ⟨_, rfl, _, rfl, _, _, rfl, rfl, st, a, ns, _, rfl, s4, by omega, Int.lt_of_le_of_lt (show 1 + r2 + 1 ≤ 66 by omega) (by decide), fun r5 i5 m5 c5 r50 r51 d5 => ?_⟩
    have s5 := s4.drawn d5
    have k5 := k4.atSt (o := StO a i5 m5 c5)
    generalize upd H4 st (StO a i5 m5 c5) = H5 at s5 k5
    refine ⟨(by show 4 ≤ sizeLine; decide), fun p6 hp6 => ?_⟩
    have s6 := s5.new (o := .lst [.int 0, .int (1 + r2), .int r4, .int r5]) hp6
    have k6 := k5.new (o := .lst [.int 0, .int (1 + r2), .int r4, .int r5]) hp6
    have n6 := s5.ne_of hp6
    refine ⟨_, rfl, st, a, ns, 4, rfl, s6, by decide, by decide, fun r7 i7 m7 c7 r70 r71 d7 => ?_⟩
    have s7 := s6.drawn d7
    have k7 := k6.atSt (o := StO a i7 m7 c7)
    have hp7 : (upd (upd H5 p6 (.lst [.int 0, .int (1 + r2), .int r4, .int r5])) st (StO a i7 m7 c7)) p6 = some (.lst [.int 0, .int (1 + r2), .int r4, .int r5]) := by rw [upd_ne n6, upd_same]
    generalize upd (upd H5 p6 (.lst [.int 0, .int (1 + r2), .int r4, .int r5])) st (StO a i7 m7 c7) = H7 at s7 k7 hp7
    have hat : ∃ v : Int, atI [V.int 0, V.int (1 + r2), V.int r4, V.int r5] r7 = some (.int v) ∧ 0 ≤ v ∧ v ≤ 1 + r2 := by
      rcases pick4 r70 r71 with e | e | e | e <;> subst e
      · exact ⟨_, rfl, by omega, by omega⟩
      · exact ⟨_, rfl, by omega, by omega⟩
      · exact ⟨_, rfl, by omega, by omega⟩
      · exact ⟨_, rfl, by omega, by omega⟩
    obtain ⟨q, hq, q0, q1⟩ := hat
    refine ⟨_, _, _, _, rfl, rfl, SqL.of hp7, hq, (by show 2 ≤ sizeLine; decide), fun t ht => ?_⟩
    refine k (1 + r2) q t _ (by omega) (by omega) q0 q1 ?_ (k7.new ht) (s7.new ht) upd_same
    cases e : H t with
    | none => rfl
    | some o =>
      have e2 := k7 t o (s7.ne_of ht) e
      rw [ht] at e2
      cases e2
abbrev s_law_even : Stmt := top 28
theorem sc_law_even : FnScope ["_law_beats", "_law_pulses", "_law_turn", "_law_left", "_law_found", "_law_k"] ["_law_beats", "_law_pulses", "_law_turn"] (defScope s_law_even) := ⟨rfl, rfl, rfl, by decide +kernel, rfl, by decide +kernel, by decide +kernel⟩
/-- _law_even(beats, pulses, turn): the even frame, a new list -/
def spLEven : Sp := fun vs H Q _ => ∃ b p t : Int, vs = [.int b, .int p, .int t] ∧ 0 < b ∧ b ≤ 64 ∧ 0 ≤ p ∧ p ≤ b ∧ t.natAbs < 2 ^ 300 ∧
  ∀ l, H l = none → Q (.ref l) (upd H l (.lst ((evL b p t).map V.int)))
theorem ok_law_even {f : Addr} {fd : FuncData} (F : FunG K mg "_law_even" s_law_even f fd ["_law_beats", "_law_pulses", "_law_turn"]) (T : Txt K mg) : FnOk P w K mg base CX0 1 f fd ["_law_beats", "_law_pulses", "_law_turn"] spLEven := by
  refine F.fn.ok sc_law_even (fun vs H Q E h => ?_) (fun cdv A outer s H vs Q E hr h => ?_)
  · obtain ⟨b, p, t, rfl, _⟩ := h
    rfl
  · obtain ⟨b, p, t, rfl, b0, b1, p0, p1, ht, k⟩ := h
    refine ⟨_, (pss_cons (ps_set (i := 3) sc_law_even.nd rfl (.inl rfl) (pe_op op_mod (pe_op op_mulW (pv 2) (pv 1)) (pv 0)))
      (pss_cons (ps_set (i := 4) sc_law_even.nd rfl (.inl rfl) (pe_lst pa_nil))
      (pss_cons (ps_for PassesOwn.never (by rfl) (pi_range1 (by rfl) T.b_range (pa_cons (pv 0) pa_nil)) (pg_name (i := 5) sc_law_even.nd rfl (.inl rfl)) (pss_cons (ps_set (i := 3) sc_law_even.nd rfl (.inl rfl) (pe_op op_add (pv 3) (pv 1)))
      (pss_cons (ps_expr (pe_bm PySem.F.plainAttrs_list PySem.F.slot_list_append PySem.F.type_list_append mt_append (pv 4) (pa_cons (pe_callTy call_int1 (by rfl) T.b_int (by decide +kernel) (pa_cons (pe_cmpR op_ge (pv 3) (pv 0) (nomark _)) pa_nil)) pa_nil)))
      (pss_one (ps_set (i := 3) sc_law_even.nd rfl (.inl rfl) (pe_op op_sub (pv 3) (pe_op op_mulW (pv 0) (pe_ix (ixL K) (pv 4) (pe_un un_neg pe_int) (fun _ _ => rfl)))))))))
      (pss_one (ps_ret (pv 4)))))), ?_⟩
    refine ⟨_, rfl, _, rfl, _, _, rfl, rfl, wide_mul (a := 300) (b := 7) ht (by omega) (by decide) (by decide) (by decide), _, rfl, _, _, rfl, rfl, b0, ?_⟩
    refine ⟨Nat.zero_le _, fun l hl => ?_⟩
    refine ⟨_, rfl, _, rfl, by omega, by omega, for_range (lo := 0) (n := b.toNat) (fun i σ H' => ∃ v : Option V, σ = [some (.int b), some (.int p), some (.int t), some (.int (evR b p t i)), some (.ref l), v] ∧ H' = upd H l (.lst (((List.range i).map (evB b p t)).map V.int)))
      ⟨none, by unfold evR; simp only [Int.natCast_zero, Int.zero_add]; rfl, rfl⟩ ?_ ?_⟩
    · rintro i σ H' hi ⟨v, rfl, rfl⟩
      refine ⟨_, rfl, _, rfl, _, _, rfl, rfl, ?_⟩
      have hL : upd H l (.lst (((List.range i).map (evB b p t)).map V.int)) l = some (.lst (((List.range i).map (evB b p t)).map V.int)) := upd_same
      refine ⟨_, rfl, .inl ⟨rfl, _, SqL.of hL⟩, _, rfl, _, rfl, _, _, rfl, rfl, .inr ⟨_, rfl, l, _, _, rfl, rfl, hL, small_of (m := 64) (by simp; omega), ?_⟩⟩
      rw [upd_upd]
      have e1 : (if decide (b ≤ evR b p t i + p) = true then (1 : Int) else 0) = evB b p t i := by
        rw [evB_eq b0 p0 p1]
        simp only [decide_eq_true_eq]
      rw [e1]
      have e2 : ((List.range i).map (evB b p t)).map V.int ++ [V.int (evB b p t i)] = ((List.range (i + 1)).map (evB b p t)).map V.int := by
        rw [List.range_succ, List.map_append, List.map_append]; rfl
      have hL2 : upd H l (.lst (((List.range i).map (evB b p t)).map V.int ++ [V.int (evB b p t i)])) l = some (.lst (((List.range i).map (evB b p t)).map V.int ++ [V.int (evB b p t i)])) := upd_same
      refine ⟨_, rfl, _, rfl, _, rfl, _, rfl, _, _, _, _, rfl, rfl, SqL.of hL2, atI_last _ _, _, _, rfl, rfl, wide_mul (a := 7) (b := 2) (by omega) (by rcases evB_01 b0 p0 p1 t i with e | e <;> rw [e] <;> decide) (by decide) (by decide) (by decide), _, _, rfl, rfl, ?_⟩
      refine ⟨some (.int (0 + (i : Int))), ?_, by rw [e2]⟩
      rw [evR_next b0 p0 p1]
      rfl
    · rintro σ H' ⟨v, rfl, rfl⟩
      exact ⟨_, rfl, k l hl⟩
end
end My

namespace My
open PySem PySem.Spec PyProof.Rows LamX L2
section
variable {P : Program} {w : World} {K : PySem.W.Frag} {mg : Str → Option Value} {base : Heap}
abbrev s_law_kind : Stmt := top 25
theorem sc_law_kind : FnScope ["_law_work", "e", "_law_kinds", "_law_words", "_law_word"] ["_law_work"] (defScope s_law_kind) := ⟨rfl, rfl, rfl, by decide +kernel, rfl, by decide +kernel, by decide +kernel⟩
/-- the errors' names -/
def kindW : List Str := ["BadFrame", "BadShare", "BadWidth", "BadBegins", "BadRuns", "NoRoom", "BadText"]
/-- the class of the name x is the j-th of these -/
structure ErrK (K : PySem.W.Frag) (x : Str) (j : Nat) : Prop where
  exc : ExcC K (He.ga K x)
  pe : PySem.W.exmOne K (.ref (He.ga K x)) (.ref (He.ga K "PulseError")) = some true
  k0 : PySem.W.kitOne K (.ref (He.ga K x)) (.ref (He.ga K "BadFrame")) = some (decide (j = 0))
  k1 : PySem.W.kitOne K (.ref (He.ga K x)) (.ref (He.ga K "BadShare")) = some (decide (j = 1))
  k2 : PySem.W.kitOne K (.ref (He.ga K x)) (.ref (He.ga K "BadWidth")) = some (decide (j = 2))
  k3 : PySem.W.kitOne K (.ref (He.ga K x)) (.ref (He.ga K "BadBegins")) = some (decide (j = 3))
  k4 : PySem.W.kitOne K (.ref (He.ga K x)) (.ref (He.ga K "BadRuns")) = some (decide (j = 4))
  k5 : PySem.W.kitOne K (.ref (He.ga K x)) (.ref (He.ga K "NoRoom")) = some (decide (j = 5))
  k6 : PySem.W.kitOne K (.ref (He.ga K x)) (.ref (He.ga K "BadText")) = some (decide (j = 6))
  ve : PySem.W.kitOne K (.ref (He.ga K x)) (.type "ValueError") = some true
  lt : j < 6
  nm : kindW[j]? = some x
/-- _law_kind's making of what it got: its answer, or the error's name -/
def TKind (K : PySem.W.Frag) : (XK → Hp → VK → Prop) → Hp → VK → Prop := fun tl H Q =>
  tl (fun cls d H' => ∃ (x : Str) (j : Nat), cls = .ref (He.ga K x) ∧ d = none ∧ ErrK K x j ∧ ∀ H'', Same H' H'' → Q (.str x) H'') H Q
theorem kind_gives {X : Cx} (T : Txt X.K X.mg) {g : Addr} {cdg : Value} {q : Str} : GivesTo X ["_law_work", "e", "_law_kinds", "_law_words", "_law_word"] "_law_kind" (defScope s_law_kind) g cdg (defBody s_law_kind) "_law_work" q (TKind X.K) := by
  intro f c' s H Q tl act hc h
  refine ⟨_, pss_one (ps_try_as (X := (cxOf C8.CX0 X.prog X.w X.K X.mg X.base ["_law_work", "e", "_law_kinds", "_law_words", "_law_word"] "_law_kind" (defScope s_law_kind) g cdg X.A X.stack s H C8.E0).nox) (i := 1) (c := .ref (He.ga X.K "PulseError"))
      (tb := fun W D σ H => ∃ Ech : XK, (∀ cls d σ' H', Ech cls d H' → W cls d σ' H') ∧ σ[0]? = some (some (.ref f)) ∧ H c' = some (CodeO c' q) ∧ tl Ech H D.rt)
      rfl rfl sc_law_kind.nd rfl (by rfl) ⟨rfl, by decide, .inl T.g_PulseError⟩ L2.takes0 (fun W pn xe tk _ => ?_) (fun a oe cls d pn hz hf => pss_len 5 (pss_cons (ps_set (i := 2) sc_law_kind.nd rfl (.inl rfl) (pe_lst (pa_cons (pe_callB (call_isK hz hf) (by rfl) T.b_isinstance (by decide +kernel) (pa_cons (pv 1) (pa_cons (pe_glob (v := .ref (He.ga X.K "BadFrame")) (by rfl) T.g_BadFrame rfl) pa_nil))) (pa_cons (pe_callB (call_isK hz hf) (by rfl) T.b_isinstance (by decide +kernel) (pa_cons (pv 1) (pa_cons (pe_glob (v := .ref (He.ga X.K "BadShare")) (by rfl) T.g_BadShare rfl) pa_nil))) (pa_cons (pe_callB (call_isK hz hf) (by rfl) T.b_isinstance (by decide +kernel) (pa_cons (pv 1) (pa_cons (pe_glob (v := .ref (He.ga X.K "BadWidth")) (by rfl) T.g_BadWidth rfl) pa_nil))) (pa_cons (pe_callB (call_isK hz hf) (by rfl) T.b_isinstance (by decide +kernel) (pa_cons (pv 1) (pa_cons (pe_glob (v := .ref (He.ga X.K "BadBegins")) (by rfl) T.g_BadBegins rfl) pa_nil))) pa_nil))))))
      (pss_cons (ps_set (i := 2) sc_law_kind.nd rfl (.inl rfl) (pe_op op_cat (pv 2) (pe_lst (pa_cons (pe_callB (call_isK hz hf) (by rfl) T.b_isinstance (by decide +kernel) (pa_cons (pv 1) (pa_cons (pe_glob (v := .ref (He.ga X.K "BadRuns")) (by rfl) T.g_BadRuns rfl) pa_nil))) (pa_cons (pe_callB (call_isK hz hf) (by rfl) T.b_isinstance (by decide +kernel) (pa_cons (pv 1) (pa_cons (pe_glob (v := .ref (He.ga X.K "NoRoom")) (by rfl) T.g_NoRoom rfl) pa_nil))) (pa_cons (pe_callB (call_isK hz hf) (by rfl) T.b_isinstance (by decide +kernel) (pa_cons (pv 1) (pa_cons (pe_glob (v := .ref (He.ga X.K "BadText")) (by rfl) T.g_BadText rfl) pa_nil))) pa_nil))))))
      (pss_cons (ps_set (i := 3) sc_law_kind.nd rfl (.inl rfl) (pe_lst (pa_cons pe_str (pa_cons pe_str (pa_cons pe_str (pa_cons pe_str (pa_cons pe_str (pa_cons pe_str (pa_cons pe_str pa_nil)))))))))
      (pss_cons (ps_if (PW.pt (pw_or (pt_cmpR op_ne (pe_bmK X.K PySem.F.plainAttrs_list PySem.F.slot_list_count PySem.F.type_list_count (mtCntK X.K) (pv 2) (pa_cons pe_bl pa_nil)) pe_int (nomark _)) (pw_or1 (pt_not (pt_val (pe_callB (call_isK hz hf) (by rfl) T.b_isinstance (by decide +kernel) (pa_cons (pv 1) (pa_cons (pe_bltn (v := .ty "ValueError") (u := .type "ValueError") (by rfl) T.b_ValueError (by decide +kernel) rfl) pa_nil)))))))) (pss_one (ps_ret pe_str)) pss_nil)
      (pss_cons (ps_set (i := 4) sc_law_kind.nd rfl (.inl rfl) (pe_ix (ixL X.K) (pv 3) (pe_bmK X.K PySem.F.plainAttrs_list PySem.F.slot_list_index PySem.F.type_list_index (mtIndexK X.K) (pv 2) (pa_cons pe_bl pa_nil)) (fun _ _ => rfl)))
      (pss_one (ps_ret (pe_ifExp (pt_cmpR op_eq (pv 4) pe_str (nomark _)) (pe_tup (pa_cons (pv 4) (pa_cons pe_nev pa_nil))) (pv 4))))))))))), ?_⟩
  · refine ⟨fun pins s' σ H' D I h' => ?_⟩
    obtain ⟨Ech, hW, h1, h2, h3⟩ := h'
    exact (pss_one (ps_ret (act W pn xe Ech _ _ tk hW))).run pins s' σ H' D I ⟨h1, h2, h3⟩
  · refine ⟨fun cls d H' => ∃ (x : Str) (j : Nat), cls = .ref (He.ga X.K x) ∧ d = none ∧ ErrK X.K x j ∧ ∀ H'', Same H' H'' → Q (.str x) H'', ?_, rfl, hc, h⟩
    rintro cls d σ' H' ⟨x, j, rfl, rfl, E, k⟩
    refine ⟨true, E.pe, fun _ a ha hlen => ?_, fun z => nomatch z⟩
    rw [List.length_set] at hlen
    obtain ⟨v0, v1, v2, v3, v4, rfl⟩ := five hlen
    have hj := E.lt
    refine ⟨_, rfl, _, _, _, _, rfl, rfl, E.exc, rfl, (fun _ h => h), E.k0, _, rfl, _, _, _, _, rfl, rfl, E.exc, rfl, (fun _ h => h), E.k1, _, rfl, _, _, _, _, rfl, rfl, E.exc, rfl, (fun _ h => h), E.k2, _, rfl, _, _, _, _, rfl, rfl, E.exc, rfl, (fun _ h => h), E.k3, (by show 4 ≤ sizeLine; decide), fun p1 hp1 => ?_⟩
    have e1 : Same H' (upd H' p1 (.lst [.bl (decide (j = 0)), .bl (decide (j = 1)), .bl (decide (j = 2)), .bl (decide (j = 3))])) := Same.upd hp1
    have h1 : upd H' p1 (.lst [.bl (decide (j = 0)), .bl (decide (j = 1)), .bl (decide (j = 2)), .bl (decide (j = 3))]) p1 = some (.lst [.bl (decide (j = 0)), .bl (decide (j = 1)), .bl (decide (j = 2)), .bl (decide (j = 3))]) := upd_same
    generalize upd H' p1 (.lst [.bl (decide (j = 0)), .bl (decide (j = 1)), .bl (decide (j = 2)), .bl (decide (j = 3))]) = H1 at e1 h1
    refine ⟨_, rfl, _, rfl, _, _, _, _, rfl, rfl, E.exc, rfl, (fun _ h => h), E.k4, _, rfl, _, _, _, _, rfl, rfl, E.exc, rfl, (fun _ h => h), E.k5, _, rfl, _, _, _, _, rfl, rfl, E.exc, rfl, (fun _ h => h), E.k6, (by show 3 ≤ sizeLine; decide), fun p2 hp2 => ?_⟩
    have e2 : Same H' (upd H1 p2 (.lst [.bl (decide (j = 4)), .bl (decide (j = 5)), .bl (decide (j = 6))])) := e1.new hp2
    have h12 : upd H1 p2 (.lst [.bl (decide (j = 4)), .bl (decide (j = 5)), .bl (decide (j = 6))]) p1 = _ := (upd_ne (ne_of_none h1 hp2)).trans h1
    have h2 : upd H1 p2 (.lst [.bl (decide (j = 4)), .bl (decide (j = 5)), .bl (decide (j = 6))]) p2 = some (.lst [.bl (decide (j = 4)), .bl (decide (j = 5)), .bl (decide (j = 6))]) := upd_same
    generalize upd H1 p2 (.lst [.bl (decide (j = 4)), .bl (decide (j = 5)), .bl (decide (j = 6))]) = H2 at e2 h12 h2
    refine ⟨_, _, _, _, rfl, rfl, h12, h2, (by show 7 ≤ sizeLine; decide), fun p3 hp3 => ?_⟩
    have e3 : Same H' (upd H2 p3 (.lst ([.bl (decide (j = 0)), .bl (decide (j = 1)), .bl (decide (j = 2)), .bl (decide (j = 3))] ++ [.bl (decide (j = 4)), .bl (decide (j = 5)), .bl (decide (j = 6))]))) := e2.new hp3
    have h3 : upd H2 p3 (.lst ([.bl (decide (j = 0)), .bl (decide (j = 1)), .bl (decide (j = 2)), .bl (decide (j = 3))] ++ [.bl (decide (j = 4)), .bl (decide (j = 5)), .bl (decide (j = 6))])) p3 = some (.lst [.bl (decide (j = 0)), .bl (decide (j = 1)), .bl (decide (j = 2)), .bl (decide (j = 3)), .bl (decide (j = 4)), .bl (decide (j = 5)), .bl (decide (j = 6))]) := upd_same
    generalize upd H2 p3 (.lst ([.bl (decide (j = 0)), .bl (decide (j = 1)), .bl (decide (j = 2)), .bl (decide (j = 3))] ++ [.bl (decide (j = 4)), .bl (decide (j = 5)), .bl (decide (j = 6))])) = H3 at e3 h3
    refine ⟨(by show 7 ≤ sizeLine; decide), fun p4 hp4 => ?_⟩
    have e4 : Same H' (upd H3 p4 (.lst [V.str "BadFrame", V.str "BadShare", V.str "BadWidth", V.str "BadBegins", V.str "BadRuns", V.str "NoRoom", V.str "BadText"])) := e3.new hp4
    have h34 : upd H3 p4 (.lst [V.str "BadFrame", V.str "BadShare", V.str "BadWidth", V.str "BadBegins", V.str "BadRuns", V.str "NoRoom", V.str "BadText"]) p3 = _ := (upd_ne (ne_of_none h3 hp4)).trans h3
    have h4 : upd H3 p4 (.lst [V.str "BadFrame", V.str "BadShare", V.str "BadWidth", V.str "BadBegins", V.str "BadRuns", V.str "NoRoom", V.str "BadText"]) p4 = some (.lst [V.str "BadFrame", V.str "BadShare", V.str "BadWidth", V.str "BadBegins", V.str "BadRuns", V.str "NoRoom", V.str "BadText"]) := upd_same
    have fin := k _ e4
    generalize upd H3 p4 (.lst [V.str "BadFrame", V.str "BadShare", V.str "BadWidth", V.str "BadBegins", V.str "BadRuns", V.str "NoRoom", V.str "BadText"]) = H4 at e4 h34 h4 fin
    have hnm := E.nm
    have six : j = 0 ∨ j = 1 ∨ j = 2 ∨ j = 3 ∨ j = 4 ∨ j = 5 := by omega
    rcases six with e | e | e | e | e | e <;> subst e <;> cases hnm
    · refine ⟨_, rfl, .inl ⟨rfl, _, SqL.of h34⟩, _, _, _, rfl, rfl, SqL.of h34, rfl, rfl, rfl, _, rfl, iteFe rfl ⟨_, rfl, _, _, _, _, rfl, rfl, E.exc, rfl, (fun _ h => h), E.ve, _, rfl, iteF ?_⟩⟩
      refine ⟨_, rfl, _, rfl, .inl ⟨rfl, _, SqL.of h34⟩, _, _, _, 0, _, rfl, rfl, SqL.of h34, rfl, rfl, rfl, rfl, noAhead [decide (0 = 0), decide (0 = 1), decide (0 = 2), decide (0 = 3), decide (0 = 4), decide (0 = 5), decide (0 = 6)] 0 (by decide), _, _, _, _, rfl, rfl, SqL.of h4, at_of (j := 0) rfl rfl, ?_⟩
      exact ⟨_, rfl, rfl, _, rfl, iteFe (by decide) ⟨_, rfl, fin⟩⟩
    · refine ⟨_, rfl, .inl ⟨rfl, _, SqL.of h34⟩, _, _, _, rfl, rfl, SqL.of h34, rfl, rfl, rfl, _, rfl, iteFe rfl ⟨_, rfl, _, _, _, _, rfl, rfl, E.exc, rfl, (fun _ h => h), E.ve, _, rfl, iteF ?_⟩⟩
      refine ⟨_, rfl, _, rfl, .inl ⟨rfl, _, SqL.of h34⟩, _, _, _, 1, _, rfl, rfl, SqL.of h34, rfl, rfl, rfl, rfl, noAhead [decide (1 = 0), decide (1 = 1), decide (1 = 2), decide (1 = 3), decide (1 = 4), decide (1 = 5), decide (1 = 6)] 1 (by decide), _, _, _, _, rfl, rfl, SqL.of h4, at_of (j := 1) rfl rfl, ?_⟩
      exact ⟨_, rfl, rfl, _, rfl, iteFe (by decide) ⟨_, rfl, fin⟩⟩
    · refine ⟨_, rfl, .inl ⟨rfl, _, SqL.of h34⟩, _, _, _, rfl, rfl, SqL.of h34, rfl, rfl, rfl, _, rfl, iteFe rfl ⟨_, rfl, _, _, _, _, rfl, rfl, E.exc, rfl, (fun _ h => h), E.ve, _, rfl, iteF ?_⟩⟩
      refine ⟨_, rfl, _, rfl, .inl ⟨rfl, _, SqL.of h34⟩, _, _, _, 2, _, rfl, rfl, SqL.of h34, rfl, rfl, rfl, rfl, noAhead [decide (2 = 0), decide (2 = 1), decide (2 = 2), decide (2 = 3), decide (2 = 4), decide (2 = 5), decide (2 = 6)] 2 (by decide), _, _, _, _, rfl, rfl, SqL.of h4, at_of (j := 2) rfl rfl, ?_⟩
      exact ⟨_, rfl, rfl, _, rfl, iteFe (by decide) ⟨_, rfl, fin⟩⟩
    · refine ⟨_, rfl, .inl ⟨rfl, _, SqL.of h34⟩, _, _, _, rfl, rfl, SqL.of h34, rfl, rfl, rfl, _, rfl, iteFe rfl ⟨_, rfl, _, _, _, _, rfl, rfl, E.exc, rfl, (fun _ h => h), E.ve, _, rfl, iteF ?_⟩⟩
      refine ⟨_, rfl, _, rfl, .inl ⟨rfl, _, SqL.of h34⟩, _, _, _, 3, _, rfl, rfl, SqL.of h34, rfl, rfl, rfl, rfl, noAhead [decide (3 = 0), decide (3 = 1), decide (3 = 2), decide (3 = 3), decide (3 = 4), decide (3 = 5), decide (3 = 6)] 3 (by decide), _, _, _, _, rfl, rfl, SqL.of h4, at_of (j := 3) rfl rfl, ?_⟩
      exact ⟨_, rfl, rfl, _, rfl, iteFe (by decide) ⟨_, rfl, fin⟩⟩
    · refine ⟨_, rfl, .inl ⟨rfl, _, SqL.of h34⟩, _, _, _, rfl, rfl, SqL.of h34, rfl, rfl, rfl, _, rfl, iteFe rfl ⟨_, rfl, _, _, _, _, rfl, rfl, E.exc, rfl, (fun _ h => h), E.ve, _, rfl, iteF ?_⟩⟩
      refine ⟨_, rfl, _, rfl, .inl ⟨rfl, _, SqL.of h34⟩, _, _, _, 4, _, rfl, rfl, SqL.of h34, rfl, rfl, rfl, rfl, noAhead [decide (4 = 0), decide (4 = 1), decide (4 = 2), decide (4 = 3), decide (4 = 4), decide (4 = 5), decide (4 = 6)] 4 (by decide), _, _, _, _, rfl, rfl, SqL.of h4, at_of (j := 4) rfl rfl, ?_⟩
      exact ⟨_, rfl, rfl, _, rfl, iteFe (by decide) ⟨_, rfl, fin⟩⟩
    · refine ⟨_, rfl, .inl ⟨rfl, _, SqL.of h34⟩, _, _, _, rfl, rfl, SqL.of h34, rfl, rfl, rfl, _, rfl, iteFe rfl ⟨_, rfl, _, _, _, _, rfl, rfl, E.exc, rfl, (fun _ h => h), E.ve, _, rfl, iteF ?_⟩⟩
      refine ⟨_, rfl, _, rfl, .inl ⟨rfl, _, SqL.of h34⟩, _, _, _, 5, _, rfl, rfl, SqL.of h34, rfl, rfl, rfl, rfl, noAhead [decide (5 = 0), decide (5 = 1), decide (5 = 2), decide (5 = 3), decide (5 = 4), decide (5 = 5), decide (5 = 6)] 5 (by decide), _, _, _, _, rfl, rfl, SqL.of h4, at_of (j := 5) rfl rfl, ?_⟩
      exact ⟨_, rfl, rfl, _, rfl, iteFe (by decide) ⟨_, rfl, fin⟩⟩
end
end My

namespace My
open PySem PySem.Spec PyProof.Rows LamX L2
section
variable {P : Program} {w : World} {K : PySem.W.Frag} {mg : Str → Option Value} {base : Heap}
abbrev s_need_beats : Stmt := top 12
theorem sc_need_beats : FnScope ["beats"] ["beats"] (defScope s_need_beats) := ⟨rfl, rfl, rfl, by decide +kernel, rfl, by decide +kernel, by decide +kernel⟩
/-- need_beats(beats), good ones -/
def spNeedBeats : Sp := fun vs H Q _ => ∃ b : Int, vs = [.int b] ∧ 1 ≤ b ∧ b ≤ 64 ∧ Q .non H
theorem ok_need_beats {f : Addr} {fd : FuncData} (F : FunG K mg "need_beats" s_need_beats f fd ["beats"]) (T : Txt K mg) : FnOk P w K mg base CX0 1 f fd ["beats"] spNeedBeats := by
  refine F.fn.ok sc_need_beats (fun vs H Q E h => ?_) (fun cdv A outer s H vs Q E hr h => ?_)
  · obtain ⟨b, rfl, _⟩ := h
    rfl
  · obtain ⟨b, rfl, b0, b1, k⟩ := h
    refine ⟨_, (pss_one (ps_if (pt_not (pt_chain op_le op_le pe_int (pv 0) (C8.pe_gc (by rfl) T.k_MOST_BEATS))) (pss_one ps_never) pss_nil)), ?_⟩
    refine ⟨_, rfl, _, _, rfl, rfl, _, rfl, ?_⟩
    rw [decide_eq_true b0]
    refine iteT ⟨_, _, rfl, rfl, _, rfl, ?_⟩
    rw [decide_eq_true b1]
    exact iteF k
abbrev s_need_share : Stmt := top 13
theorem sc_need_share : FnScope ["beats", "pulses"] ["beats", "pulses"] (defScope s_need_share) := ⟨rfl, rfl, rfl, by decide +kernel, rfl, by decide +kernel, by decide +kernel⟩
/-- need_share(beats, pulses), a good one -/
def spNeedShare : Sp := fun vs H Q _ => ∃ b p : Int, vs = [.int b, .int p] ∧ 1 ≤ b ∧ b ≤ 64 ∧ 0 ≤ p ∧ p ≤ b ∧ Q .non H
theorem ok_need_share {f : Addr} {fd : FuncData} (F : FunG K mg "need_share" s_need_share f fd ["beats", "pulses"]) (c_need_beats : Cl P w K mg base CX0 1 "need_beats" spNeedBeats) : FnOk P w K mg base CX0 2 f fd ["beats", "pulses"] spNeedShare := by
  refine F.fn.ok sc_need_share (fun vs H Q E h => ?_) (fun cdv A outer s H vs Q E hr h => ?_)
  · obtain ⟨b, p, rfl, _⟩ := h
    rfl
  · obtain ⟨b, p, rfl, b0, b1, p0, p1, k⟩ := h
    refine ⟨_, (pss_cons (ps_expr (pe_cl c_need_beats hr (by decide) (by rfl) (pa_cons (pv 0) pa_nil)))
      (pss_one (ps_if (pt_not (pt_chain op_le op_le pe_int (pv 1) (pv 0))) (pss_one ps_never) pss_nil))), ?_⟩
    refine ⟨_, rfl, b, rfl, b0, b1, ?_⟩
    refine ⟨_, rfl, _, _, rfl, rfl, _, rfl, ?_⟩
    rw [decide_eq_true p0]
    refine iteT ⟨_, rfl, _, _, rfl, rfl, _, rfl, ?_⟩
    rw [decide_eq_true p1]
    exact iteF k
abbrev s_law_frame : Stmt := top 27
theorem sc_law_frame : FnScope ["_law_state", "_law_beats", "_law_pulses", "_law_often", "_law_k", "_law_found", "_law_turn", "_law_one", "_law_other", "_law_had"] ["_law_state"] (defScope s_law_frame) := ⟨rfl, rfl, rfl, by decide +kernel, rfl, by decide +kernel, by decide +kernel⟩
/-- _law_frame(state): some frame, a new list -/
def spFrame (K : PySem.W.Frag) : Sp := fun vs H Q _ => ∃ (st a : Addr) (ns : List Int), vs = [.ref st] ∧ SOk K a ns st H ∧
  ∀ (fs : List Int) (l : Addr) (H' : Hp), Frm fs → H l = none → Keep st H H' → SOk K a ns st H' → H' l = some (.lst (fs.map V.int)) → Q (.ref l) H'
theorem set_bit {fs : List Int} (h : ∀ f ∈ fs, f = 0 ∨ f = 1) {z : Int} (hz : z = 0 ∨ z = 1) (j : Nat) : ∀ f ∈ fs.set j z, f = 0 ∨ f = 1 := fun f hf => by
  rcases List.mem_or_eq_of_mem_set hf with m | e
  · exact h f m
  · rw [e]; exact hz
theorem ok_law_frame {f : Addr} {fd : FuncData} (F : FunG K mg "_law_frame" s_law_frame f fd ["_law_state"]) (T : Txt K mg) (c_law_drawn : Cl P w K mg base CX0 1 "_law_drawn" (spDrawn K)) (c_law_share : Cl P w K mg base CX0 2 "_law_share" (spShare K))
    (c_law_even : Cl P w K mg base CX0 1 "_law_even" spLEven) : FnOk P w K mg base CX0 3 f fd ["_law_state"] (spFrame K) := by
  refine F.fn.ok sc_law_frame (fun vs H Q E h => ?_) (fun cdv A outer s H vs Q E hr h => ?_)
  · obtain ⟨st, a, ns, rfl, _⟩ := h
    rfl
  · obtain ⟨st, a, ns, rfl, hs, k⟩ := h
    refine ⟨_, (pss_cons (ps_asg (pe_cl c_law_share hr (by decide) (by rfl) (pa_cons (pv 0) pa_nil)) (pg_tup (by rfl) (pgs_cons (pg_name (i := 1) sc_law_frame.nd rfl (.inl rfl)) (pgs_cons (pg_name (i := 2) sc_law_frame.nd rfl (.inl rfl)) pgs_nil))))
      (pss_cons (ps_if (pt_cmpR op_eq (pe_cl c_law_drawn hr (by decide) (by rfl) (pa_cons (pv 0) (pa_cons pe_int pa_nil))) pe_int (nomark _)) (pss_cons (ps_set (i := 3) sc_law_frame.nd rfl (.inr rfl) (pe_op op_add pe_int (pe_cl c_law_drawn hr (by decide) (by rfl) (pa_cons (pv 0) (pa_cons pe_int pa_nil)))))
      (pss_one (ps_ret (pe_lc (own := [("_law_k", 4)]) (g := gName 4) (tt := tYes) (by rfl) sc_law_frame.nd (pi_range1 (by rfl) T.b_range (pa_cons (pv 1) pa_nil)) (blkOk_by (own := [("_law_k", 4)]) (N := ["_law_state", "_law_beats", "_law_pulses", "_law_often", "_law_k", "_law_found", "_law_turn", "_law_one", "_law_other", "_law_had"]) (sc := defScope s_law_frame) (by decide +kernel)) (fun _ _ _ _ _ => (pg_name (i := 4) sc_law_frame.nd rfl (.inl rfl))) (fun _ _ _ _ _ => pts_nil) (fun _ _ _ _ _ => (pe_callTy call_int1 (by rfl) T.b_int (by decide +kernel) (pa_cons (pe_cmpR op_eq (pe_cl c_law_drawn hr (by decide) (by rfl) (pa_cons (pv 0) (pa_cons (pv 3) pa_nil))) pe_int (nomark _)) pa_nil))))))) pss_nil)
      (pss_cons (ps_set (i := 5) sc_law_frame.nd rfl (.inl rfl) (pe_cl c_law_even hr (by decide) (by rfl) (pa_cons (pv 1) (pa_cons (pv 2) (pa_cons (pe_cl c_law_drawn hr (by decide) (by rfl) (pa_cons (pv 0) (pa_cons (pv 1) pa_nil))) pa_nil)))))
      (pss_cons (ps_for PassesOwn.never (by rfl) (pi_range1 (by rfl) T.b_range (pa_cons (pe_cl c_law_drawn hr (by decide) (by rfl) (pa_cons (pv 0) (pa_cons pe_int pa_nil))) pa_nil)) (pg_name (i := 6) sc_law_frame.nd rfl (.inl rfl)) (pss_cons (ps_par (i := 7) (j := 8) (by rfl) sc_law_frame.nd rfl rfl (by decide) rfl rfl (pa_cons (pe_cl c_law_drawn hr (by decide) (by rfl) (pa_cons (pv 0) (pa_cons (pv 1) pa_nil))) (pa_cons (pe_cl c_law_drawn hr (by decide) (by rfl) (pa_cons (pv 0) (pa_cons (pv 1) pa_nil))) pa_nil)) (by rfl))
      (pss_cons (ps_set (i := 9) sc_law_frame.nd rfl (.inl rfl) (pe_ix (ixL K) (pv 5) (pv 7) (fun _ _ => rfl)))
      (pss_cons (ps_asg (pe_ix (ixL K) (pv 5) (pv 8) (fun _ _ => rfl)) (pg_sub (pv 5) (pv 7) set_list))
      (pss_one (ps_asg (pv 9) (pg_sub (pv 5) (pv 8) set_list)))))))
      (pss_one (ps_ret (pv 5))))))), ?_⟩
    refine ⟨_, rfl, st, a, ns, rfl, hs, fun b p t H1 b0 b1 p0 p1 ht k1 s1 ht1 => ⟨_, _, rfl, SqT.of ht1, rfl, ?_⟩⟩
    refine ⟨_, _, rfl, _, _, rfl, rfl, ?_⟩
    refine ⟨_, rfl, st, a, ns, 2, rfl, s1, by decide, by decide, fun r i2 m2 c2 r0 r1 d2 => ?_⟩
    have s2 := s1.drawn d2
    have k2 := k1.atSt (o := StO a i2 m2 c2)
    generalize upd H1 st (StO a i2 m2 c2) = H2 at s2 k2
    refine ⟨rfl, _, rfl, ite2 (fun hc => ?_) (fun hc => ?_)⟩
    · -- any frame
      refine ⟨_, rfl, st, a, ns, 4, rfl, s2, by decide, by decide, fun r3 i3 m3 c3 r30 r31 d3 => ?_⟩
      have s3 := s2.drawn d3
      have k3 := k2.atSt (o := StO a i3 m3 c3)
      generalize upd H2 st (StO a i3 m3 c3) = H3 at s3 k3
      refine ⟨_, _, rfl, rfl, ?_⟩
      refine ⟨_, rfl, _, rfl, by omega, by omega, fun D hD => ?_⟩
      have nD := s3.ne_of hD
      have hDn : H D = none := k3.free nD hD
      refine lc_range (lo := 0) (n := b.toNat) (fun i H' => SOk K a ns st H' ∧ Keep st H H' ∧ ∃ fs : List Int, fs.length = i ∧ (∀ f ∈ fs, f = 0 ∨ f = 1) ∧ H' D = some (.lst (fs.map V.int))) ⟨s3.new hD, k3.new hD, [], rfl, by simp, upd_same⟩ ?_ ?_
      · rintro i H' hi ⟨s4, k4, fs, hl, hb, hd⟩
        refine ⟨rfl, _, rfl, _, rfl, st, a, ns, _, rfl, s4, by omega, Int.lt_of_le_of_lt (show 2 + r3 ≤ 10 by omega) (by decide), fun r5 i5 m5 c5 r50 r51 d5 => ?_⟩
        have s5 := s4.drawn d5
        have k5 := k4.atSt (o := StO a i5 m5 c5)
        have hd5 : upd H' st (StO a i5 m5 c5) D = some (.lst (fs.map V.int)) := by rw [upd_ne nD]; exact hd
        generalize upd H' st (StO a i5 m5 c5) = H5 at s5 k5 hd5
        refine ⟨rfl, .inr ⟨_, rfl, _, hd5, small_of (m := 64) (by rw [List.length_map, hl]; omega), ?_⟩⟩
        refine ⟨s5.mutK hs k5 hDn, k5.mut hDn, fs ++ [if (decide (V.int r5 = V.int 0)) = true then 1 else 0], by rw [List.length_append, hl]; rfl, fun z hz => ?_, by rw [upd_same, List.map_append]; rfl⟩
        rcases List.mem_append.mp hz with m | m
        · exact hb z m
        · rw [List.mem_singleton.mp m]; split <;> simp
      · rintro H' ⟨s4, k4, fs, hl, hb, hd⟩
        exact k fs D H' ⟨by omega, by omega, hb⟩ hDn k4 s4 hd
    · -- a told one, beats exchanged
      refine ⟨_, rfl, _, rfl, _, rfl, _, rfl, st, a, ns, b, rfl, s2, by omega, Int.lt_of_le_of_lt b1 (by decide), fun r3 i3 m3 c3 r30 r31 d3 => ?_⟩
      have s3 := s2.drawn d3
      have k3 := k2.atSt (o := StO a i3 m3 c3)
      generalize upd H2 st (StO a i3 m3 c3) = H3 at s3 k3
      refine ⟨b, p, r3, rfl, by omega, b1, p0, p1, Nat.lt_of_lt_of_le (show r3.natAbs < 100 by omega) (by decide), fun l hl => ?_⟩
      have nl := s3.ne_of hl
      have hln : H l = none := k3.free nl hl
      have s4 := s3.new (o := .lst ((evL b p r3).map V.int)) hl
      have k4 := k3.new (o := .lst ((evL b p r3).map V.int)) hl
      have hl4 : upd H3 l (.lst ((evL b p r3).map V.int)) l = some (.lst ((evL b p r3).map V.int)) := upd_same
      generalize upd H3 l (.lst ((evL b p r3).map V.int)) = H4 at s4 k4 hl4
      have hfr := evL_frm b0 b1 p0 p1 r3
      have hfl : (evL b p r3).length = b.toNat := evL_len b p r3
      refine ⟨_, rfl, st, a, ns, 3, rfl, s4, by decide, by decide, fun r5 i5 m5 c5 r50 r51 d5 => ?_⟩
      have s5 := s4.drawn d5
      have k5 := k4.atSt (o := StO a i5 m5 c5)
      have hl5 : upd H4 st (StO a i5 m5 c5) l = some (.lst ((evL b p r3).map V.int)) := by rw [upd_ne nl]; exact hl4
      generalize upd H4 st (StO a i5 m5 c5) = H5 at s5 k5 hl5
      refine ⟨_, rfl, by omega, by omega, for_range (lo := 0) (n := r5.toNat) (fun i σ H' => (∃ v3 v4 v6 v7 v8 v9 : Option V, σ = [some (.ref st), some (.int b), some (.int p), v3, v4, some (.ref l), v6, v7, v8, v9]) ∧ SOk K a ns st H' ∧ Keep st H H' ∧ ∃ fs : List Int, fs.length = b.toNat ∧ (∀ f ∈ fs, f = 0 ∨ f = 1) ∧ H' l = some (.lst (fs.map V.int)))
        ⟨⟨_, _, _, _, _, _, rfl⟩, s5, k5, _, hfl, hfr.bit, hl5⟩ ?_ ?_⟩
      · rintro i σ H' hi ⟨⟨v3, v4, v6, v7, v8, v9, rfl⟩, s6, k6, fs, hfl6, hb6, hl6⟩
        refine ⟨_, rfl, _, rfl, st, a, ns, b, rfl, s6, by omega, Int.lt_of_le_of_lt b1 (by decide), fun r7 i7 m7 c7 r70 r71 d7 => ?_⟩
        have s7 := s6.drawn d7
        have k7 := k6.atSt (o := StO a i7 m7 c7)
        have hl7 : upd H' st (StO a i7 m7 c7) l = some (.lst (fs.map V.int)) := by rw [upd_ne nl]; exact hl6
        generalize upd H' st (StO a i7 m7 c7) = H7 at s7 k7 hl7
        refine ⟨_, rfl, _, rfl, st, a, ns, b, rfl, s7, by omega, Int.lt_of_le_of_lt b1 (by decide), fun r8 i8 m8 c8 r80 r81 d8 => ?_⟩
        have s8 := s7.drawn d8
        have k8 := k7.atSt (o := StO a i8 m8 c8)
        have hl8 : upd H7 st (StO a i8 m8 c8) l = some (.lst (fs.map V.int)) := by rw [upd_ne nl]; exact hl7
        generalize upd H7 st (StO a i8 m8 c8) = H8 at s8 k8 hl8
        refine ⟨_, _, rfl, ?_⟩
        have j7 : r7.toNat < fs.length := by omega
        have j8 : r8.toNat < fs.length := by omega
        have q7 : r7 = (r7.toNat : Int) := by omega
        have q8 : r8 = (r8.toNat : Int) := by omega
        have gb : ∀ j : Nat, fs.getD j 0 = 0 ∨ fs.getD j 0 = 1 := fun j => (Frm.getD (fs := fs) ⟨by omega, by omega, hb6⟩ j)
        have ix : ∀ {z : Int} {j : Nat} {n : Nat}, z = (j : Int) → j < n → ixN n z = some j := fun {z j n} e h => by
          subst e; unfold ixN; rw [if_pos (by omega), if_pos (by omega), Int.toNat_natCast]
        refine ⟨_, rfl, _, rfl, _, _, _, _, rfl, rfl, SqL.of hl8, atV q7 j7, ?_⟩
        refine ⟨_, rfl, _, rfl, _, _, _, _, rfl, rfl, SqL.of hl8, atV q8 j8, _, rfl, _, rfl, l, _, _, r7.toNat, rfl, rfl, hl8, ix q7 (by rw [List.length_map]; exact j7), ?_⟩
        have e9 : (fs.map V.int).set r7.toNat (.int (fs.getD r8.toNat 0)) = (fs.set r7.toNat (fs.getD r8.toNat 0)).map V.int := List.map_set.symm
        rw [e9]
        have s9 := s8.mutK (o := .lst ((fs.set r7.toNat (fs.getD r8.toNat 0)).map V.int)) hs k8 hln
        have k9 := k8.mut (o := .lst ((fs.set r7.toNat (fs.getD r8.toNat 0)).map V.int)) hln
        have hl9 : upd H8 l (.lst ((fs.set r7.toNat (fs.getD r8.toNat 0)).map V.int)) l = some (.lst ((fs.set r7.toNat (fs.getD r8.toNat 0)).map V.int)) := upd_same
        generalize upd H8 l (.lst ((fs.set r7.toNat (fs.getD r8.toNat 0)).map V.int)) = H9 at s9 k9 hl9
        refine ⟨_, rfl, _, rfl, _, rfl, l, _, _, r8.toNat, rfl, rfl, hl9, ix q8 (by rw [List.length_map, List.length_set]; exact j8), ?_⟩
        have e10 : ((fs.set r7.toNat (fs.getD r8.toNat 0)).map V.int).set r8.toNat (.int (fs.getD r7.toNat 0)) = ((fs.set r7.toNat (fs.getD r8.toNat 0)).set r8.toNat (fs.getD r7.toNat 0)).map V.int := List.map_set.symm
        rw [e10]
        exact ⟨⟨_, _, _, _, _, _, rfl⟩, s9.mutK hs k9 hln, k9.mut hln, _, by rw [List.length_set, List.length_set]; exact hfl6, set_bit (set_bit hb6 (gb _) _) (gb _) _, upd_same⟩
      · rintro σ H' ⟨⟨v3, v4, v6, v7, v8, v9, rfl⟩, s6, k6, fs, hfl6, hb6, hl6⟩
        exact ⟨_, rfl, k fs l H' ⟨by omega, by omega, hb6⟩ hln k6 s6 hl6⟩
abbrev s_need_frame : Stmt := top 11
theorem sc_need_frame : FnScope ["frame", "beat"] ["frame"] (defScope s_need_frame) := ⟨rfl, rfl, rfl, by decide +kernel, rfl, by decide +kernel, by decide +kernel⟩
/-- need_frame(frame), a good one -/
def spNeedFrame (K : PySem.W.Frag) : Sp := fun vs H Q _ => ∃ (l : Addr) (fs : List Int), vs = [.ref l] ∧ SqL K H l (fs.map V.int) ∧ Frm fs ∧ ∀ H', Same H H' → Q .non H'
theorem ok_need_frame {f : Addr} {fd : FuncData} (F : FunG K mg "need_frame" s_need_frame f fd ["frame"]) (T : Txt K mg) : FnOk P w K mg base CX0 1 f fd ["frame"] (spNeedFrame K) := by
  refine F.fn.ok sc_need_frame (fun vs H Q E h => ?_) (fun cdv A outer s H vs Q E hr h => ?_)
  · obtain ⟨l, fs, rfl, _⟩ := h
    rfl
  · obtain ⟨l, fs, rfl, hS, hf, k⟩ := h
    refine ⟨_, (pss_one (ps_if (PW.pt (pw_or (pt_not (pt_chain op_le op_le pe_int (pe_callB (clLen K) (by rfl) T.b_len (by decide +kernel) (pa_cons (pv 0) pa_nil)) (C8.pe_gc (by rfl) T.k_MOST_BEATS))) (pw_or1 (pt_cmpR (opNeD K hr.units) (pe_lc (own := [("beat", 1)]) (g := gName 1) (by rfl) sc_need_frame.nd (pi_list (pv 0)) (blkOk_by (own := [("beat", 1)]) (N := ["frame", "beat"]) (sc := defScope s_need_frame) (by decide +kernel)) (fun _ _ _ _ _ => (pg_name (i := 1) sc_need_frame.nd rfl (.inl rfl))) (fun _ _ _ _ _ => (pts_one (pt_cmpR (opNotInQ K) (pv 1) (pe_tup (pa_cons pe_int (pa_cons pe_int pa_nil))) (by rfl)))) (fun _ _ _ _ _ => (pv 1))) (pe_lst pa_nil) (nomark _))))) (pss_one ps_never) pss_nil)), ?_⟩
    have h0 := hf.pos
    have h1 := hf.le
    refine ⟨_, rfl, _, _, rfl, .inl hS, _, _, rfl, rfl, _, rfl, ?_⟩
    rw [decide_eq_true (show (1 : Int) ≤ ((fs.map V.int).length : Int) by rw [List.length_map]; omega)]
    refine iteT ⟨_, _, rfl, rfl, _, rfl, ?_⟩
    rw [decide_eq_true (show ((fs.map V.int).length : Int) ≤ 64 by rw [List.length_map]; omega)]
    refine iteF ⟨_, rfl, _, rfl, ⟨_, hS⟩, fun D hD => lc_list (K := K) (a := l) (xs := fs.map V.int) (fun i H' => Same H H' ∧ H' D = some (.lst [])) ⟨Same.upd hD, upd_same⟩ (fun i H' _ h => h.1.seq hS) ?_ ?_⟩
    · rintro i x H' hi ⟨e, hd⟩
      obtain ⟨z, hz, rfl⟩ := getV hi
      refine ⟨rfl, _, rfl, (by show 2 ≤ sizeLine; decide), fun p hp => ⟨_, _, rfl, .inr (SqT.of upd_same), rfl, rfl, _, rfl, ?_⟩⟩
      have hb : inV (.int z) [.int 0, .int 1] = true := by
        rcases hf.bit z (List.mem_of_getElem? hz) with e | e <;> subst e <;> rfl
      show (if (!inV (.int z) [.int 0, .int 1]) = true then _ else _)
      rw [hb]
      exact iteF ⟨e.new hp, by rw [upd_ne (ne_of_none hd hp)]; exact hd⟩
    · rintro H' ⟨e, hd⟩
      refine ⟨Nat.zero_le _, fun q hq => ⟨_, _, dp_nil (SqL.of (by rw [upd_ne (ne_of_none hd hq)]; exact hd)), dp_nil (SqL.of upd_same), dI_shaped _, dI_shaped _, _, rfl, ?_⟩⟩
      rw [dI_eqv]
      exact iteF (k _ (e.new hq))
abbrev s_changes_of : Stmt := top 15
theorem sc_changes_of : FnScope ["frame", "k"] ["frame"] (defScope s_changes_of) := ⟨rfl, rfl, rfl, by decide +kernel, rfl, by decide +kernel, by decide +kernel⟩
theorem at_prv {fs : List Int} {k : Nat} {z : Int} (hz : z = (k : Int) - 1) (hk : k < fs.length) : atI (fs.map V.int) z = some (V.int (prv fs k)) := by
  unfold prv
  by_cases h : k = 0
  · subst h
    rw [if_pos rfl]
    have e : ixN (fs.map V.int).length z = some (fs.length - 1) := by
      unfold ixN
      rw [List.length_map, if_neg (by omega), if_pos (by omega)]
      congr 1
      omega
    unfold atI
    rw [e]
    show (fs.map V.int)[fs.length - 1]? = _
    rw [List.getElem?_map, List.getElem?_eq_getElem (by omega)]
    simp [List.getD, List.getElem?_eq_getElem (show fs.length - 1 < fs.length by omega)]
  · rw [if_neg h]
    exact atV (j := k - 1) (by omega) (by omega)
/-- changes_of(frame) -/
def spChanges (K : PySem.W.Frag) : Sp := fun vs H Q _ => ∃ (l : Addr) (fs : List Int), vs = [.ref l] ∧ SqL K H l (fs.map V.int) ∧ Frm fs ∧ ∀ H', Same H H' → Q (.int ((chg fs : Nat) : Int)) H'
theorem ok_changes_of {f : Addr} {fd : FuncData} (F : FunG K mg "changes_of" s_changes_of f fd ["frame"]) (T : Txt K mg) : FnOk P w K mg base CX0 1 f fd ["frame"] (spChanges K) := by
  refine F.fn.ok sc_changes_of (fun vs H Q E h => ?_) (fun cdv A outer s H vs Q E hr h => ?_)
  · obtain ⟨l, fs, rfl, _⟩ := h
    rfl
  · obtain ⟨l, fs, rfl, hS, hf, k⟩ := h
    refine ⟨_, (pss_one (ps_ret (pe_callB (clLen K) (by rfl) T.b_len (by decide +kernel) (pa_cons (pe_lc (own := [("k", 1)]) (g := gName 1) (by rfl) sc_changes_of.nd (pi_range1 (by rfl) T.b_range (pa_cons (pe_callB (clLen K) (by rfl) T.b_len (by decide +kernel) (pa_cons (pv 0) pa_nil)) pa_nil)) (blkOk_by (own := [("k", 1)]) (N := ["frame", "k"]) (sc := defScope s_changes_of) (by decide +kernel)) (fun _ _ _ _ _ => (pg_name (i := 1) sc_changes_of.nd rfl (.inl rfl))) (fun _ _ _ _ _ => (pts_one (pt_cmpR op_ne (pe_ix (ixL K) (pv 0) (pv 1) (fun _ _ => rfl)) (pe_ix (ixL K) (pv 0) (pe_op op_sub (pv 1) pe_int) (fun _ _ => rfl)) (nomark _)))) (fun _ _ _ _ _ => (pv 1))) pa_nil)))), ?_⟩
    have h0 := hf.pos
    have h1 := hf.le
    have hlen : (fs.map V.int).length = fs.length := List.length_map _
    refine ⟨_, rfl, _, _, rfl, .inl hS, _, rfl, by rw [hlen]; omega, by rw [hlen]; omega, fun D hD => lc_range (lo := 0) (n := ((fs.map V.int).length : Int).toNat) (fun i H' => Same H H' ∧ H' D = some (.lst ((chgTo fs i).map fun k : Nat => V.int (k : Int)))) ⟨Same.upd hD, upd_same⟩ ?_ ?_⟩
    · rintro j H' hj ⟨e, hd⟩
      rw [hlen] at hj
      have hj : j < fs.length := by omega
      have hS' := e.seq hS
      refine ⟨rfl, _, rfl, _, rfl, _, _, _, _, rfl, rfl, hS', atV (j := j) (by omega) hj, _, rfl, _, rfl, _, _, rfl, rfl, _, _, _, _, rfl, rfl, hS', at_prv (k := j) (by omega) hj, rfl, _, rfl, ?_⟩
      rw [chgTo_succ]
      by_cases c : fs.getD j 0 = prv fs j
      · rw [if_neg (fun z => z c), c]
        exact iteNS rfl ⟨e, hd⟩
      · rw [if_pos c]
        have c2 : ¬ V.int (fs.getD j 0) = V.int (prv fs j) := fun z => c (V.int.inj z)
        rw [decide_eq_false c2]
        refine iteT ⟨_, rfl, _, hd, small_of (m := 64) (by rw [List.length_map]; exact Nat.le_trans (chgTo_len _ _) (by omega)), e.mut hD, ?_⟩
        rw [upd_same, List.map_append, Int.zero_add]
        rfl
    · rintro H' ⟨e, hd⟩
      refine ⟨_, _, rfl, .inl (SqL.of hd), ?_⟩
      rw [List.length_map, hlen, Int.toNat_natCast]
      exact k H' e
/-- changes(frame) -/
abbrev s_changes : Stmt := top 16
theorem sc_changes : FnScope ["frame"] ["frame"] (defScope s_changes) := ⟨rfl, rfl, rfl, by decide +kernel, rfl, by decide +kernel, by decide +kernel⟩
/-- changes(frame) -/
theorem ok_changes {f : Addr} {fd : FuncData} (F : FunG K mg "changes" s_changes f fd ["frame"]) (c_need_frame : Cl P w K mg base CX0 1 "need_frame" (spNeedFrame K)) (c_changes_of : Cl P w K mg base CX0 1 "changes_of" (spChanges K)) : FnOk P w K mg base CX0 2 f fd ["frame"] (spChanges K) := by
  refine F.fn.ok sc_changes (fun vs H Q E h => ?_) (fun cdv A outer s H vs Q E hr h => ?_)
  · obtain ⟨l, fs, rfl, _⟩ := h
    rfl
  · obtain ⟨l, fs, rfl, hS, hf, k⟩ := h
    refine ⟨_, (pss_cons (ps_expr (pe_cl c_need_frame hr (by decide) (by rfl) (pa_cons (pv 0) pa_nil)))
      (pss_one (ps_ret (pe_cl c_changes_of hr (by decide) (by rfl) (pa_cons (pv 0) pa_nil))))), ?_⟩
    refine ⟨_, rfl, l, fs, rfl, hS, hf, fun H1 e1 => ?_⟩
    exact ⟨_, rfl, l, fs, rfl, e1.seq hS, hf, fun H2 e2 => k H2 (e1.trans e2)⟩
abbrev s_runs : Stmt := top 17
theorem sc_runs : FnScope ["frame"] ["frame"] (defScope s_runs) := ⟨rfl, rfl, rfl, by decide +kernel, rfl, by decide +kernel, by decide +kernel⟩
/-- runs(frame) -/
theorem flat_ints : ∀ ns : List Int, (ns.map V.int).all flatV = true
  | [] => rfl
  | n :: ns => by rw [List.map_cons, List.all_cons, flat_ints ns]; rfl
theorem inV_ints (z : Int) : ∀ ns : List Int, inV (.int z) (ns.map V.int) = decide (z ∈ ns)
  | [] => rfl
  | n :: ns => by
    have ih := inV_ints z ns
    rw [Bool.eq_iff_iff, decide_eq_true_iff] at ih ⊢
    rw [List.map_cons, List.mem_cons, ← ih]
    by_cases c : z = n
    · subst c
      simp [inV, eqV]
    · have c' : ¬ n = z := fun e => c e.symm
      simp [inV, eqV, c, c']
def spRuns (K : PySem.W.Frag) : Sp := fun vs H Q _ => ∃ (l : Addr) (fs : List Int), vs = [.ref l] ∧ SqL K H l (fs.map V.int) ∧ Frm fs ∧ ∀ H', Same H H' → Q (.int (runsN fs)) H'
theorem ok_runs {f : Addr} {fd : FuncData} (F : FunG K mg "runs" s_runs f fd ["frame"]) (c_need_frame : Cl P w K mg base CX0 1 "need_frame" (spNeedFrame K)) (c_changes_of : Cl P w K mg base CX0 1 "changes_of" (spChanges K)) : FnOk P w K mg base CX0 2 f fd ["frame"] (spRuns K) := by
  refine F.fn.ok sc_runs (fun vs H Q E h => ?_) (fun cdv A outer s H vs Q E hr h => ?_)
  · obtain ⟨l, fs, rfl, _⟩ := h
    rfl
  · obtain ⟨l, fs, rfl, hS, hf, k⟩ := h
    refine ⟨_, (pss_cons (ps_expr (pe_cl c_need_frame hr (by decide) (by rfl) (pa_cons (pv 0) pa_nil)))
      (pss_one (ps_ret (pe_ifExp (pt_cmpR (opNotInQ K) pe_int (pv 0) (by rfl)) pe_int (pe_op op_fdivW (pe_cl c_changes_of hr (by decide) (by rfl) (pa_cons (pv 0) pa_nil)) pe_int))))), ?_⟩
    refine ⟨_, rfl, l, fs, rfl, hS, hf, fun H1 e1 => ?_⟩
    refine ⟨_, rfl, _, _, rfl, .inl (e1.seq hS), rfl, flat_ints fs, _, rfl, ?_⟩
    show (if (!inV (.int 0) (fs.map V.int)) = true then _ else _)
    rw [inV_ints]
    unfold runsN at k
    by_cases c : (0 : Int) ∈ fs
    · rw [decide_eq_true c]
      rw [if_pos c] at k
      exact iteF ⟨_, rfl, l, fs, rfl, e1.seq hS, hf, fun H2 e2 => ⟨_, _, rfl, rfl, wide_div (b := 2) (by decide) (by decide) (by decide) (by decide), k H2 (e1.trans e2)⟩⟩
    · rw [decide_eq_false c]
      rw [if_neg c] at k
      exact iteT (k H1 e1)
abbrev s_parted : Stmt := top 18
theorem sc_parted : FnScope ["many", "parts", "k"] ["many", "parts"] (defScope s_parted) := ⟨rfl, rfl, rfl, by decide +kernel, rfl, by decide +kernel, by decide +kernel⟩
/-- parted(many, parts): a new list -/
def spParted : Sp := fun vs H Q _ => ∃ m n : Nat, vs = [.int (m : Int), .int (n : Int)] ∧ 0 < n ∧ n ≤ 64 ∧ m ≤ 64 ∧
  ∀ p, H p = none → Q (.ref p) (upd H p (.lst ((List.range n).map fun k => V.int ((part m n k : Nat) : Int))))
theorem ok_parted {f : Addr} {fd : FuncData} (F : FunG K mg "parted" s_parted f fd ["many", "parts"]) (T : Txt K mg) : FnOk P w K mg base CX0 1 f fd ["many", "parts"] spParted := by
  refine F.fn.ok sc_parted (fun vs H Q E h => ?_) (fun cdv A outer s H vs Q E hr h => ?_)
  · obtain ⟨m, n, rfl, _⟩ := h
    rfl
  · obtain ⟨m, n, rfl, n0, n1, m1, k⟩ := h
    refine ⟨_, (pss_one (ps_ret (pe_lc (own := [("k", 2)]) (g := gName 2) (tt := tYes) (by rfl) sc_parted.nd (pi_range1 (by rfl) T.b_range (pa_cons (pv 1) pa_nil)) (blkOk_by (own := [("k", 2)]) (N := ["many", "parts", "k"]) (sc := defScope s_parted) (by decide +kernel)) (fun _ _ _ _ _ => (pg_name (i := 2) sc_parted.nd rfl (.inl rfl))) (fun _ _ _ _ _ => pts_nil) (fun _ _ _ _ _ => (pe_op op_add (pe_op op_fdivW (pv 0) (pv 1)) (pe_callTy call_int1 (by rfl) T.b_int (by decide +kernel) (pa_cons (pe_cmpR op_lt (pv 2) (pe_op op_mod (pv 0) (pv 1)) (nomark _)) pa_nil))))))), ?_⟩
    refine ⟨_, rfl, _, rfl, by omega, by omega, fun D hD => lc_range (lo := 0) (n := (n : Int).toNat) (fun i H' => H' = upd H D (.lst ((List.range i).map fun k => V.int ((part m n k : Nat) : Int)))) rfl ?_ ?_⟩
    · rintro j H' hj rfl
      refine ⟨rfl, _, rfl, _, rfl, _, _, rfl, rfl, wide_div (b := 7) (by omega) (by omega) (by decide) (by decide), _, rfl, _, rfl, _, rfl, _, _, rfl, rfl, (by show (0 : Int) < (n : Int); omega), _, _, rfl, rfl, .inr ⟨_, rfl, _, _, rfl, rfl, _, upd_same, small_of (m := 64) (by rw [List.length_map, List.length_range]; omega), ?_⟩⟩
      rw [upd_upd, List.range_succ, List.map_append]
      congr 3
      show [V.int ((m : Int) / (n : Int) + (if decide (0 + (j : Int) < (m : Int) % (n : Int)) = true then 1 else 0))] = [V.int ((part m n j : Nat) : Int)]
      unfold part
      congr 2
      by_cases c : j < m % n
      · have c2 : (0 : Int) + (j : Int) < (m : Int) % (n : Int) := by
          rw [← Int.natCast_emod]; omega
        rw [if_pos c, decide_eq_true c2, if_pos rfl, Int.natCast_add, Int.natCast_ediv]; rfl
      · have c2 : ¬ (0 : Int) + (j : Int) < (m : Int) % (n : Int) := by
          rw [← Int.natCast_emod]; omega
        rw [if_neg c, decide_eq_false c2, if_neg (by decide), Int.natCast_add, Int.natCast_ediv]; rfl
    · rintro H' rfl
      rw [Int.toNat_natCast]
      exact k D hD
end
end My

namespace My
open PySem PySem.Spec PyProof.Rows LamX L2
section
variable {P : Program} {w : World} {K : PySem.W.Frag} {mg : Str → Option Value} {base : Heap}
abbrev s_is_room : Stmt := top 19
theorem sc_is_room : FnScope ["beats", "pulses", "many"] ["beats", "pulses", "many"] (defScope s_is_room) := ⟨rfl, rfl, rfl, by decide +kernel, rfl, by decide +kernel, by decide +kernel⟩
def roomB (b p m : Int) : Bool := if m = 0 then decide (p = 0) else decide (m ≤ p ∧ (m = 1 ∨ m ≤ b - p))
/-- is_room(beats, pulses, many) -/
def spIsRoomB : Sp := fun vs H Q _ => ∃ b p m : Int, vs = [.int b, .int p, .int m] ∧ Q (.bl (roomB b p m)) H
theorem ok_is_room {f : Addr} {fd : FuncData} (F : FunG K mg "is_room" s_is_room f fd ["beats", "pulses", "many"]) : FnOk P w K mg base CX0 1 f fd ["beats", "pulses", "many"] spIsRoomB := by
  refine F.fn.ok sc_is_room (fun vs H Q E h => ?_) (fun cdv A outer s H vs Q E hr h => ?_)
  · obtain ⟨b, p, m, rfl, _⟩ := h
    rfl
  · obtain ⟨b, p, m, rfl, k⟩ := h
    refine ⟨_, (pss_cons (ps_if (pt_cmpR op_eq (pv 2) pe_int (nomark _)) (pss_one (ps_ret (pe_cmpR op_eq (pv 1) pe_int (nomark _)))) pss_nil)
      (pss_one (ps_ret (pe_and (pe_cmpR op_le (pv 2) (pv 1) (nomark _)) (pe_one (pe_or (pe_cmpR op_eq (pv 2) pe_int (nomark _)) (pe_one (pe_cmpR op_le (pv 2) (pe_op op_sub (pv 0) (pv 1)) (nomark _))))))))), ?_⟩
    unfold roomB at k
    refine ⟨_, rfl, rfl, _, rfl, ?_⟩
    by_cases hz : m = 0
    · rw [if_pos hz] at k
      refine iteTe (decide_eq_true (congrArg V.int hz)) ⟨_, rfl, rfl, ?_⟩
      show Q (.bl (decide (V.int p = V.int 0))) H
      rw [show decide (V.int p = V.int 0) = decide (p = 0) from decide_eq_decide.mpr ⟨fun z => V.int.inj z, fun z => congrArg V.int z⟩]
      exact k
    rw [if_neg hz] at k
    refine iteFe (decide_eq_false fun z => hz (V.int.inj z)) ?_
    refine ⟨_, rfl, _, rfl, _, _, rfl, rfl, _, rfl, ?_⟩
    by_cases h1 : m ≤ p
    · refine iteTe (decide_eq_true h1) ⟨_, rfl, rfl, _, rfl, ?_⟩
      by_cases c : m = 1
      · rw [decide_eq_true (⟨h1, .inl c⟩ : m ≤ p ∧ (m = 1 ∨ m ≤ b - p))] at k
        exact iteTe (decide_eq_true (congrArg V.int c)) k
      · refine iteFe (decide_eq_false fun z => c (V.int.inj z)) ⟨_, rfl, _, rfl, _, rfl, _, _, rfl, rfl, _, _, rfl, rfl, ?_⟩
        show Q (.bl (decide (m ≤ b - p))) H
        rw [show decide (m ≤ b - p) = decide (m ≤ p ∧ (m = 1 ∨ m ≤ b - p)) from decide_eq_decide.mpr ⟨fun z => ⟨h1, .inr z⟩, fun z => z.2.resolve_left c⟩]
        exact k
    · rw [decide_eq_false (fun z : m ≤ p ∧ (m = 1 ∨ m ≤ b - p) => h1 z.1)] at k
      exact iteFe (decide_eq_false h1) k
abbrev s_with_runs : Stmt := top 20
theorem sc_with_runs : FnScope ["beats", "pulses", "many", "found", "on", "off"] ["beats", "pulses", "many"] (defScope s_with_runs) := ⟨rfl, rfl, rfl, by decide +kernel, rfl, by decide +kernel, by decide +kernel⟩
/-- with_runs(beats, pulses, many), a good share -/
def runF (b p m : Int) : List Int := if m = 0 then List.replicate b.toNat 0 else frs (prs p.toNat (b - p).toNat m.toNat m.toNat)
def spWithRunsX (K : PySem.W.Frag) : Sp := fun vs H Q E => ∃ b p m : Int, vs = [.int b, .int p, .int m] ∧ 1 ≤ b ∧ b ≤ 64 ∧ 0 ≤ p ∧ p ≤ b ∧
  ((m < 0 ∧ ∀ H', Same H H' → E (.ref (He.ga K "BadRuns")) none H') ∨ (0 ≤ m ∧ roomB b p m = false ∧ ∀ H', Same H H' → E (.ref (He.ga K "NoRoom")) none H') ∨
   (0 ≤ m ∧ roomB b p m = true ∧ ∀ l H', Same H H' → H l = none → H' l = some (.lst ((runF b p m).map V.int)) → Q (.ref l) H'))
theorem rep_ints (x : Int) (n : Nat) : (List.replicate n [V.int x]).flatten = (List.replicate n x).map V.int := by
  rw [List.map_replicate]
  induction n with
  | zero => rfl
  | succ n ih => rw [List.replicate_succ, List.flatten_cons, ih]; rfl
theorem frs_le {p q n i : Nat} (hn : 0 < n) (hi : i ≤ n) : (frs (prs p q n i)).length ≤ p + q := by
  rw [frs_len, prs_fst, prs_snd]
  have mono : ∀ m, ((List.range i).map (part m n)).sum ≤ ((List.range n).map (part m n)).sum := fun m => by
    obtain ⟨d, rfl⟩ : ∃ d, n = i + d := ⟨n - i, by omega⟩
    rw [List.range_add, List.map_append, List.sum_append]
    exact Nat.le_add_right _ _
  have h1 := mono p
  have h2 := mono q
  rw [part_sum hn] at h1 h2
  omega
theorem ok_with_runs {f : Addr} {fd : FuncData} (F : FunG K mg "with_runs" s_with_runs f fd ["beats", "pulses", "many"]) (T : Txt K mg) (c_need_share : Cl P w K mg base CX0 2 "need_share" spNeedShare) (c_is_room : Cl P w K mg base CX0 1 "is_room" spIsRoomB) (c_parted : Cl P w K mg base CX0 1 "parted" spParted) :
    FnOk P w K mg base (L2.CX P w) 3 f fd ["beats", "pulses", "many"] (spWithRunsX K) := by
  refine F.fn.okX sc_with_runs (fun vs H Q E h => ?_) (fun cdv A outer s H vs Q E hr h => ?_)
  · obtain ⟨b, p, m, rfl, _⟩ := h
    rfl
  · obtain ⟨b, p, m, rfl, b0, b1, p0, p1, k⟩ := h
    refine ⟨_, (pss_cons (ps_expr (pe_cl c_need_share hr (by decide) (by rfl) (pa_cons (pv 0) (pa_cons (pv 1) pa_nil))))
      (pss_cons (ps_if (pt_cmpR op_lt (pv 2) pe_int (nomark _)) (pss_one (ps_raise (by rfl) (takes_of rfl rfl rfl rfl) (pmk_own PySem.F.excBase_ValueError T.x_BadRuns.x T.x_BadRuns.g T.x_BadRuns.k (raises_own T.x_BadRuns.b T.x_BadRuns.t) (by rfl)))) pss_nil)
      (pss_cons (ps_if (pt_not (pt_val (pe_cl c_is_room hr (by decide) (by rfl) (pa_cons (pv 0) (pa_cons (pv 1) (pa_cons (pv 2) pa_nil)))))) (pss_one (ps_raise (by rfl) (takes_of rfl rfl rfl rfl) (pmk_own PySem.F.excBase_ValueError T.x_NoRoom.x T.x_NoRoom.g T.x_NoRoom.k (raises_own T.x_NoRoom.b T.x_NoRoom.t) (by rfl)))) pss_nil)
      (PSs.nox (pss_cons (ps_if (pt_cmpR op_eq (pv 2) pe_int (nomark _)) (pss_one (ps_ret (pe_op op_rep (pe_lst (pa_cons pe_int pa_nil)) (pv 0)))) pss_nil)
      (pss_cons (ps_set (i := 3) sc_with_runs.nd rfl (.inl rfl) (pe_lst pa_nil))
      (pss_cons (ps_for PassesOwn.never (by rfl) (pi_zip (by rfl) T.b_zip (pa_cons (pe_cl c_parted hr (by decide) (by rfl) (pa_cons (pv 1) (pa_cons (pv 2) pa_nil))) (pa_cons (pe_cl c_parted hr (by decide) (by rfl) (pa_cons (pe_op op_sub (pv 0) (pv 1)) (pa_cons (pv 2) pa_nil))) pa_nil))) (pg_tup (by rfl) (pgs_cons (pg_name (i := 4) sc_with_runs.nd rfl (.inl rfl)) (pgs_cons (pg_name (i := 5) sc_with_runs.nd rfl (.inl rfl)) pgs_nil))) (pss_one (ps_set (i := 3) sc_with_runs.nd rfl (.inl rfl) (pe_op op_cat (pe_op op_cat (pv 3) (pe_op op_rep (pe_lst (pa_cons pe_int pa_nil)) (pv 4))) (pe_op op_rep (pe_lst (pa_cons pe_int pa_nil)) (pv 5))))))
      (pss_one (ps_ret (pv 3)))))))))), ?_⟩
    refine ⟨_, rfl, _, rfl, b, p, rfl, b0, b1, p0, p1, ?_⟩
    refine ⟨_, rfl, _, _, rfl, rfl, _, rfl, ?_⟩
    by_cases hm0 : m < 0
    · rcases k with ⟨_, k⟩ | ⟨h0, _⟩ | ⟨h0, _⟩
      · exact iteTe (decide_eq_true hm0) (k H (Same.refl H))
      · omega
      · omega
    refine iteFe (decide_eq_false hm0) ?_
    refine ⟨_, rfl, _, rfl, _, rfl, b, p, m, rfl, _, rfl, ?_⟩
    rcases k with ⟨h0, _⟩ | ⟨_, hr', k⟩ | ⟨h0, hr', k⟩
    · omega
    · rw [hr']
      exact iteT (k H (Same.refl H))
    rw [hr']
    refine iteF ?_
    by_cases hz : m = 0
    · subst hz
      refine ⟨_, rfl, rfl, _, rfl, iteTe (decide_eq_true rfl) ?_⟩
      refine ⟨(by show 1 ≤ sizeLine; decide), fun q hq => ?_⟩
      have e1 := (Same.refl H).new (o := .lst [.int 0]) hq
      refine ⟨_, rfl, _, _, _, rfl, rfl, upd_same, by omega, by omega, small_le (m := 64) (by show 1 * b.toNat ≤ 64; omega), fun r hr2 => ?_⟩
      rw [rep_ints]
      exact k r _ (e1.new hr2) (e1.free hr2) upd_same
    have hroom : m ≤ p ∧ (m = 1 ∨ m ≤ b - p) := by
      unfold roomB at hr'
      rw [if_neg hz] at hr'
      exact of_decide_eq_true hr'
    obtain ⟨m1, m2⟩ := hroom
    obtain ⟨m, rfl⟩ : ∃ n : Nat, m = (n : Int) := ⟨m.toNat, by omega⟩
    have m0 : 1 ≤ m := by omega
    have m2 : m = 1 ∨ (m : Int) ≤ b - p := by omega
    have c0 : ¬ V.int (m : Int) = V.int 0 := fun z => absurd (V.int.inj z) (by omega)
    refine ⟨_, rfl, rfl, _, rfl, iteFe (decide_eq_false c0) ?_⟩
    unfold runF at k
    refine ⟨Nat.zero_le _, fun p1' hp1 => ?_⟩
    have e1 : Same H (upd H p1' (.lst [])) := Same.upd hp1
    have h1 : upd H p1' (.lst []) p1' = some (.lst []) := upd_same
    generalize upd H p1' (.lst []) = H1 at e1 h1
    refine ⟨_, rfl, _, rfl, p.toNat, m, by rw [Int.toNat_of_nonneg p0]; rfl, m0, by omega, by omega, fun p2 hp2 => ?_⟩
    have e2 := e1.new (o := .lst ((List.range m).map fun k => V.int ((part p.toNat m k : Nat) : Int))) hp2
    have e12 : Same H1 (upd H1 p2 (.lst ((List.range m).map fun k => V.int ((part p.toNat m k : Nat) : Int)))) := Same.upd hp2
    have h2 : upd H1 p2 (.lst ((List.range m).map fun k => V.int ((part p.toNat m k : Nat) : Int))) p2 = some (.lst ((List.range m).map fun k => V.int ((part p.toNat m k : Nat) : Int))) := upd_same
    generalize upd H1 p2 (.lst ((List.range m).map fun k => V.int ((part p.toNat m k : Nat) : Int))) = H2 at e2 e12 h2
    refine ⟨_, rfl, _, rfl, _, _, rfl, rfl, _, rfl, (b - p).toNat, m, by rw [Int.toNat_of_nonneg (by omega)]; rfl, m0, by omega, by omega, fun p3 hp3 => ?_⟩
    have e3 := e2.new (o := .lst ((List.range m).map fun k => V.int ((part (b - p).toNat m k : Nat) : Int))) hp3
    have e23 : Same H2 (upd H2 p3 (.lst ((List.range m).map fun k => V.int ((part (b - p).toNat m k : Nat) : Int)))) := Same.upd hp3
    have h3 : upd H2 p3 (.lst ((List.range m).map fun k => V.int ((part (b - p).toNat m k : Nat) : Int))) p3 = some (.lst ((List.range m).map fun k => V.int ((part (b - p).toNat m k : Nat) : Int))) := upd_same
    generalize upd H2 p3 (.lst ((List.range m).map fun k => V.int ((part (b - p).toNat m k : Nat) : Int))) = H3 at e3 e23 h3
    refine ⟨_, _, _, _, rfl, SqL.of (e23 _ _ h2), SqL.of h3, ?_⟩
    refine RZ.for_zipL (K := K) (a := p2) (b := p3) (by rw [List.length_map, List.length_map]) (fun i σ H' => (∃ v4 v5 : Option V, ∃ l : Addr, σ = [some (.int b), some (.int p), some (.int (m : Int)), some (.ref l), v4, v5] ∧ H' l = some (.lst ((frs (prs p.toNat (b - p).toNat m i)).map V.int)) ∧ H l = none) ∧ Same H3 H') ⟨⟨none, none, p1', rfl, (e12.trans e23) _ _ h1, hp1⟩, Same.refl _⟩ (fun i σ H' h => ⟨SqL.of (h.2 _ _ (e23 _ _ h2)), SqL.of (h.2 _ _ h3)⟩) ?_ ?_
    · rintro i x y t σ H4 hx hy ⟨⟨v4, v5, l, rfl, hl, hln⟩, e4⟩ ht
      have hi : i < m := by
        have := (List.getElem?_eq_some_iff.mp hx).1
        rw [List.length_map, List.length_range] at this
        exact this
      rw [List.getElem?_map, List.getElem?_range hi] at hx hy
      cases hx
      cases hy
      have e5 := e4.new (o := .tup [V.int ((part p.toNat m i : Nat) : Int), V.int ((part (b - p).toNat m i : Nat) : Int)]) ht
      have hl5 : upd H4 t (.tup [V.int ((part p.toNat m i : Nat) : Int), V.int ((part (b - p).toNat m i : Nat) : Int)]) l = some (.lst ((frs (prs p.toNat (b - p).toNat m i)).map V.int)) := by rw [upd_ne (ne_of_none hl ht)]; exact hl
      have ht5 : upd H4 t (.tup [V.int ((part p.toNat m i : Nat) : Int), V.int ((part (b - p).toNat m i : Nat) : Int)]) t = some (.tup [V.int ((part p.toNat m i : Nat) : Int), V.int ((part (b - p).toNat m i : Nat) : Int)]) := upd_same
      generalize upd H4 t (.tup [V.int ((part p.toNat m i : Nat) : Int), V.int ((part (b - p).toNat m i : Nat) : Int)]) = H5 at e5 hl5 ht5
      have x1 : part p.toNat m i ≤ 65 := by
        have := (part_near (m := p.toNat) (n := m) (k := i)).2
        have := Nat.div_le_self p.toNat m
        omega
      have x2 : part (b - p).toNat m i ≤ 65 := by
        have := (part_near (m := (b - p).toNat) (n := m) (k := i)).2
        have := Nat.div_le_self (b - p).toNat m
        omega
      have x3 := frs_le (p := p.toNat) (q := (b - p).toNat) (n := m) (i := i) (by omega) (Nat.le_of_lt hi)
      have x4 := frs_le (p := p.toNat) (q := (b - p).toNat) (n := m) (i := i + 1) (by omega) hi
      have x5 : prs p.toNat (b - p).toNat m (i + 1) = prs p.toNat (b - p).toNat m i ++ [(part p.toNat m i, part (b - p).toNat m i)] := prs_succ _ _ _ _
      generalize part p.toNat m i = x at x1 x5 ht5 ⊢
      generalize part (b - p).toNat m i = y at x2 x5 ht5 ⊢
      refine ⟨_, _, rfl, SqT.of ht5, rfl, _, _, rfl, _, _, rfl, rfl, ?_⟩
      refine ⟨_, rfl, (by show 1 ≤ sizeLine; decide), fun p6 hp6 => ?_⟩
      have e6 := e5.new (o := .lst [.int 1]) hp6
      have hl6 : upd H5 p6 (.lst [.int 1]) l = _ := (upd_ne (ne_of_none hl5 hp6)).trans hl5
      have hp6' : upd H5 p6 (.lst [.int 1]) p6 = some (.lst [.int 1]) := upd_same
      generalize upd H5 p6 (.lst [.int 1]) = H6 at e6 hl6 hp6'
      refine ⟨_, rfl, _, _, _, rfl, rfl, hp6', by omega, by omega, small_le (m := 65) (by rw [Int.toNat_natCast]; show 1 * x ≤ 65; omega), fun p7 hp7 => ?_⟩
      rw [Int.toNat_natCast, rep_ints]
      have e7 := e6.new (o := .lst ((List.replicate x 1).map V.int)) hp7
      have hl7 : upd H6 p7 (.lst ((List.replicate x 1).map V.int)) l = _ := (upd_ne (ne_of_none hl6 hp7)).trans hl6
      have hp7' : upd H6 p7 (.lst ((List.replicate x 1).map V.int)) p7 = some (.lst ((List.replicate x 1).map V.int)) := upd_same
      generalize upd H6 p7 (.lst ((List.replicate x 1).map V.int)) = H7 at e7 hl7 hp7'
      refine ⟨_, _, _, _, rfl, rfl, hl7, hp7', small_le (m := 200) (by rw [List.length_map, List.length_map, List.length_replicate]; omega), fun p8 hp8 => ?_⟩
      have e8 := e7.new (o := .lst ((frs (prs p.toNat (b - p).toNat m i)).map V.int ++ (List.replicate x 1).map V.int)) hp8
      have hp8' : upd H7 p8 (.lst ((frs (prs p.toNat (b - p).toNat m i)).map V.int ++ (List.replicate x 1).map V.int)) p8 = some (.lst ((frs (prs p.toNat (b - p).toNat m i)).map V.int ++ (List.replicate x 1).map V.int)) := upd_same
      generalize upd H7 p8 (.lst ((frs (prs p.toNat (b - p).toNat m i)).map V.int ++ (List.replicate x 1).map V.int)) = H8 at e8 hp8'
      refine ⟨(by show 1 ≤ sizeLine; decide), fun p9 hp9 => ?_⟩
      have e9 := e8.new (o := .lst [.int 0]) hp9
      have h89 : upd H8 p9 (.lst [.int 0]) p8 = _ := (upd_ne (ne_of_none hp8' hp9)).trans hp8'
      have hp9' : upd H8 p9 (.lst [.int 0]) p9 = some (.lst [.int 0]) := upd_same
      generalize upd H8 p9 (.lst [.int 0]) = H9 at e9 h89 hp9'
      refine ⟨_, rfl, _, _, _, rfl, rfl, hp9', by omega, by omega, small_le (m := 65) (by rw [Int.toNat_natCast]; show 1 * y ≤ 65; omega), fun pa hpa => ?_⟩
      rw [Int.toNat_natCast, rep_ints]
      have ea := e9.new (o := .lst ((List.replicate y 0).map V.int)) hpa
      have h8a : upd H9 pa (.lst ((List.replicate y 0).map V.int)) p8 = _ := (upd_ne (ne_of_none h89 hpa)).trans h89
      have hpa' : upd H9 pa (.lst ((List.replicate y 0).map V.int)) pa = some (.lst ((List.replicate y 0).map V.int)) := upd_same
      generalize upd H9 pa (.lst ((List.replicate y 0).map V.int)) = Ha at ea h8a hpa'
      refine ⟨_, _, _, _, rfl, rfl, h8a, hpa', small_le (m := 400) (by rw [List.length_append, List.length_map, List.length_map, List.length_map, List.length_replicate, List.length_replicate]; omega), fun pb hpb => ?_⟩
      refine ⟨⟨_, _, pb, rfl, ?_, e3.free (ea.free hpb)⟩, ea.new hpb⟩
      rw [upd_same, x5, frs_snoc, List.map_append, List.map_append]
    · rintro σ H4 ⟨⟨v4, v5, l, rfl, hl, hln⟩, e4⟩
      rw [List.length_map, List.length_range] at hl
      exact ⟨_, rfl, k l H4 (e3.trans e4) hln (by rw [hl, if_neg (by omega), Int.toNat_natCast])⟩
abbrev s_law_due : Stmt := top 29
theorem sc_law_due : FnScope ["_law_beats", "_law_pulses", "_law_many", "_law_off", "_law_found", "_law_k"] ["_law_beats", "_law_pulses", "_law_many"] (defScope s_law_due) := ⟨rfl, rfl, rfl, by decide +kernel, rfl, by decide +kernel, by decide +kernel⟩
/-- _law_due(beats, pulses, many) -/
def spDue : Sp := fun vs H Q _ => ∃ b p m : Int, vs = [.int b, .int p, .int m] ∧ 1 ≤ b ∧ b ≤ 64 ∧ 0 ≤ p ∧ p ≤ b ∧
  ((m < 0 ∧ Q (.str "BadRuns") H) ∨ (0 ≤ m ∧ roomB b p m = false ∧ Q (.str "NoRoom") H) ∨
   (0 ≤ m ∧ roomB b p m = true ∧ ∀ l H', Same H H' → H l = none → H' l = some (.lst ((runF b p m).map V.int)) → Q (.ref l) H'))
theorem ok_law_due {f : Addr} {fd : FuncData} (F : FunG K mg "_law_due" s_law_due f fd ["_law_beats", "_law_pulses", "_law_many"]) (T : Txt K mg) : FnOk P w K mg base CX0 1 f fd ["_law_beats", "_law_pulses", "_law_many"] spDue := by
  refine F.fn.ok sc_law_due (fun vs H Q E h => ?_) (fun cdv A outer s H vs Q E hr h => ?_)
  · obtain ⟨b, p, m, rfl, _⟩ := h
    rfl
  · obtain ⟨b, p, m, rfl, b0, b1, p0, p1, k⟩ := h
    refine ⟨_, (pss_cons (ps_if (pt_cmpR op_lt (pv 2) pe_int (nomark _)) (pss_one (ps_ret pe_str)) pss_nil)
      (pss_cons (ps_set (i := 3) sc_law_due.nd rfl (.inl rfl) (pe_op op_sub (pv 0) (pv 1)))
      (pss_cons (ps_if (PW.pt (pw_or (pt_cmpR op_gt (pv 2) (pv 1) (nomark _)) (pw_or (PW.pt (pw_and (pt_cmpR op_eq (pv 2) pe_int (nomark _)) (pw_and1 (pt_cmpR op_gt (pv 1) pe_int (nomark _))))) (pw_or1 (PW.pt (pw_and (pt_cmpR op_gt (pv 2) pe_int (nomark _)) (pw_and1 (pt_cmpR op_gt (pv 2) (pv 3) (nomark _))))))))) (pss_one (ps_ret pe_str)) pss_nil)
      (pss_cons (ps_set (i := 4) sc_law_due.nd rfl (.inl rfl) (pe_lst pa_nil))
      (pss_cons (ps_for PassesOwn.never (by rfl) (pi_range1 (by rfl) T.b_range (pa_cons (pv 2) pa_nil)) (pg_name (i := 5) sc_law_due.nd rfl (.inl rfl)) (pss_cons (ps_set (i := 4) sc_law_due.nd rfl (.inl rfl) (pe_op op_cat (pv 4) (pe_op op_rep (pe_lst (pa_cons pe_int pa_nil)) (pe_op op_fdivW (pe_op op_sub (pe_op op_sub (pe_op op_add (pv 1) (pv 2)) pe_int) (pv 5)) (pv 2)))))
      (pss_one (ps_set (i := 4) sc_law_due.nd rfl (.inl rfl) (pe_op op_cat (pv 4) (pe_op op_rep (pe_lst (pa_cons pe_int pa_nil)) (pe_op op_fdivW (pe_op op_sub (pe_op op_sub (pe_op op_add (pv 3) (pv 2)) pe_int) (pv 5)) (pv 2))))))))
      (pss_one (ps_ret (pe_ifExp (pt_cmpR op_gt (pv 2) pe_int (nomark _)) (pv 4) (pe_op op_rep (pe_lst (pa_cons pe_int pa_nil)) (pv 0)))))))))), ?_⟩
    refine ⟨_, rfl, _, _, rfl, rfl, _, rfl, ?_⟩
    by_cases hm0 : m < 0
    · rcases k with ⟨_, k⟩ | ⟨h0, _⟩ | ⟨h0, _⟩
      · exact iteTe (decide_eq_true hm0) k
      · omega
      · omega
    refine iteFe (decide_eq_false hm0) ⟨_, rfl, _, rfl, _, _, rfl, rfl, _, rfl, _, rfl, _, _, rfl, rfl, _, rfl, ?_⟩
    obtain ⟨n, rfl⟩ : ∃ n : Nat, m = (n : Int) := ⟨m.toNat, by omega⟩
    have zstr : roomB b p (n : Int) = false → (Q (.str "NoRoom") H) := fun hb => by
      rcases k with ⟨h0, _⟩ | ⟨_, _, k⟩ | ⟨_, hr', _⟩
      · omega
      · exact k
      · rw [hb] at hr'; cases hr'
    have hgo : roomB b p (n : Int) = true → ∀ l H', Same H H' → H l = none → H' l = some (.lst ((runF b p (n : Int)).map V.int)) → Q (.ref l) H' := fun hb => by
      rcases k with ⟨h0, _⟩ | ⟨_, hr', _⟩ | ⟨_, _, k⟩
      · omega
      · rw [hb] at hr'; cases hr'
      · exact k
    by_cases c1 : p < (n : Int)
    · have hb : roomB b p (n : Int) = false := by
        unfold roomB
        rw [if_neg (by omega)]
        exact decide_eq_false fun z => by omega
      exact iteTe (decide_eq_true c1) (iteT (zstr hb))
    refine iteFe (decide_eq_false c1) ⟨_, rfl, rfl, _, rfl, ?_⟩
    by_cases cz : (n : Int) = 0
    · refine iteTe (decide_eq_true (congrArg V.int cz)) ⟨_, rfl, _, _, rfl, rfl, _, rfl, ?_⟩
      by_cases cp : 0 < p
      · have hb : roomB b p (n : Int) = false := by
          unfold roomB
          rw [if_pos cz]
          exact decide_eq_false fun z => by omega
        exact iteTe (decide_eq_true cp) (iteT (zstr hb))
      · have hb : roomB b p (n : Int) = true := by
          unfold roomB
          rw [if_pos cz]
          exact decide_eq_true (by omega)
        refine iteFe (decide_eq_false cp) ⟨_, rfl, _, _, rfl, rfl, _, rfl, iteFe (decide_eq_false (by omega)) (iteF ?_)⟩
        refine ⟨Nat.zero_le _, fun q1 hq1 => ?_⟩
        refine ⟨_, rfl, _, rfl, by omega, by omega, for_range (lo := 0) (n := ((n : Int)).toNat) (fun i σ H' => (∃ v : Option V, ∃ l : Addr, σ = [some (.int b), some (.int p), some (.int (n : Int)), some (.int (b - p)), some (.ref l), v] ∧ H l = none ∧ H' l = some (.lst ((frs (prs p.toNat (b - p).toNat n i)).map V.int))) ∧ Same H H') ⟨⟨none, q1, rfl, hq1, upd_same⟩, Same.upd hq1⟩ ?_ ?_⟩
        · rintro i σ H5 hi ⟨⟨v, l, rfl, hln, hl5⟩, e5⟩
          have hi : i < n := by omega
          have hx : (p + (n : Int) - 1 - (0 + (i : Int))) / (n : Int) = ((part p.toNat n i : Nat) : Int) := by
            rw [← part_ceil hi, Int.natCast_ediv]
            congr 1
            omega
          have hy : (b - p + (n : Int) - 1 - (0 + (i : Int))) / (n : Int) = ((part (b - p).toNat n i : Nat) : Int) := by
            rw [← part_ceil hi, Int.natCast_ediv]
            congr 1
            omega
          have x1 : part p.toNat n i ≤ 65 := by
            have := (part_near (m := p.toNat) (n := n) (k := i)).2
            have := Nat.div_le_self p.toNat n
            omega
          have x2 : part (b - p).toNat n i ≤ 65 := by
            have := (part_near (m := (b - p).toNat) (n := n) (k := i)).2
            have := Nat.div_le_self (b - p).toNat n
            omega
          have x3 := frs_le (p := p.toNat) (q := (b - p).toNat) (n := n) (i := i) (by omega) (Nat.le_of_lt hi)
          have x5 : prs p.toNat (b - p).toNat n (i + 1) = prs p.toNat (b - p).toNat n i ++ [(part p.toNat n i, part (b - p).toNat n i)] := prs_succ _ _ _ _
          refine ⟨_, rfl, (by show 1 ≤ sizeLine; decide), fun p6 hp6 => ?_⟩
          have e6 := e5.new (o := .lst [.int 1]) hp6
          have hl6 : upd H5 p6 (.lst [.int 1]) l = _ := (upd_ne (ne_of_none hl5 hp6)).trans hl5
          have hp6' : upd H5 p6 (.lst [.int 1]) p6 = some (.lst [.int 1]) := upd_same
          generalize upd H5 p6 (.lst [.int 1]) = H6 at e6 hl6 hp6'
          refine ⟨_, rfl, _, rfl, _, _, rfl, rfl, _, _, rfl, rfl, _, rfl, _, _, rfl, rfl, _, rfl, _, _, rfl, rfl, wide_div (b := 40) (by omega) (by omega) (by decide) (by decide), _, _, _, rfl, rfl, hp6', by rw [hx]; omega, by rw [hx]; omega, small_le (m := 65) (by rw [hx, Int.toNat_natCast]; show 1 * part p.toNat n i ≤ 65; omega), fun p7 hp7 => ?_⟩
          rw [hx, Int.toNat_natCast, rep_ints]
          have e7 := e6.new (o := .lst ((List.replicate (part p.toNat n i) 1).map V.int)) hp7
          have hl7 : upd H6 p7 (.lst ((List.replicate (part p.toNat n i) 1).map V.int)) l = _ := (upd_ne (ne_of_none hl6 hp7)).trans hl6
          have hp7' : upd H6 p7 (.lst ((List.replicate (part p.toNat n i) 1).map V.int)) p7 = some (.lst ((List.replicate (part p.toNat n i) 1).map V.int)) := upd_same
          generalize upd H6 p7 (.lst ((List.replicate (part p.toNat n i) 1).map V.int)) = H7 at e7 hl7 hp7'
          refine ⟨_, _, _, _, rfl, rfl, hl7, hp7', small_le (m := 200) (by rw [List.length_map, List.length_map, List.length_replicate]; omega), fun p8 hp8 => ?_⟩
          have e8 := e7.new (o := .lst ((frs (prs p.toNat (b - p).toNat n i)).map V.int ++ (List.replicate (part p.toNat n i) 1).map V.int)) hp8
          have hp8' : upd H7 p8 (.lst ((frs (prs p.toNat (b - p).toNat n i)).map V.int ++ (List.replicate (part p.toNat n i) 1).map V.int)) p8 = some (.lst ((frs (prs p.toNat (b - p).toNat n i)).map V.int ++ (List.replicate (part p.toNat n i) 1).map V.int)) := upd_same
          generalize upd H7 p8 (.lst ((frs (prs p.toNat (b - p).toNat n i)).map V.int ++ (List.replicate (part p.toNat n i) 1).map V.int)) = H8 at e8 hp8'
          refine ⟨_, rfl, (by show 1 ≤ sizeLine; decide), fun p9 hp9 => ?_⟩
          have e9 := e8.new (o := .lst [.int 0]) hp9
          have h89 : upd H8 p9 (.lst [.int 0]) p8 = _ := (upd_ne (ne_of_none hp8' hp9)).trans hp8'
          have hp9' : upd H8 p9 (.lst [.int 0]) p9 = some (.lst [.int 0]) := upd_same
          generalize upd H8 p9 (.lst [.int 0]) = H9 at e9 h89 hp9'
          refine ⟨_, rfl, _, rfl, _, _, rfl, rfl, _, _, rfl, rfl, _, rfl, _, _, rfl, rfl, _, rfl, _, _, rfl, rfl, wide_div (b := 40) (by omega) (by omega) (by decide) (by decide), _, _, _, rfl, rfl, hp9', by rw [hy]; omega, by rw [hy]; omega, small_le (m := 65) (by rw [hy, Int.toNat_natCast]; show 1 * part (b - p).toNat n i ≤ 65; omega), fun pa hpa => ?_⟩
          rw [hy, Int.toNat_natCast, rep_ints]
          have ea := e9.new (o := .lst ((List.replicate (part (b - p).toNat n i) 0).map V.int)) hpa
          have h8a : upd H9 pa (.lst ((List.replicate (part (b - p).toNat n i) 0).map V.int)) p8 = _ := (upd_ne (ne_of_none h89 hpa)).trans h89
          have hpa' : upd H9 pa (.lst ((List.replicate (part (b - p).toNat n i) 0).map V.int)) pa = some (.lst ((List.replicate (part (b - p).toNat n i) 0).map V.int)) := upd_same
          generalize upd H9 pa (.lst ((List.replicate (part (b - p).toNat n i) 0).map V.int)) = Ha at ea h8a hpa'
          refine ⟨_, _, _, _, rfl, rfl, h8a, hpa', small_le (m := 400) (by rw [List.length_append, List.length_map, List.length_map, List.length_map, List.length_replicate, List.length_replicate]; omega), fun pb hpb => ?_⟩
          refine ⟨⟨_, pb, rfl, ea.free hpb, ?_⟩, ea.new hpb⟩
          rw [upd_same, x5, frs_snoc, List.map_append, List.map_append]
        · rintro σ H5 ⟨⟨v, l, rfl, hln, hl5⟩, e5⟩
          have go := hgo hb
          unfold runF at go
          rw [Int.toNat_natCast] at hl5
          by_cases hz : n = 0
          · subst hz
            refine ⟨_, rfl, _, _, rfl, rfl, _, rfl, iteFe (decide_eq_false (by omega)) ⟨(by show 1 ≤ sizeLine; decide), fun q hq => ?_⟩⟩
            have e6 := e5.new (o := .lst [.int 0]) hq
            refine ⟨_, rfl, _, _, _, rfl, rfl, upd_same, by omega, by omega, small_le (m := 64) (by show 1 * b.toNat ≤ 64; omega), fun r hr2 => ?_⟩
            rw [rep_ints]
            exact go r _ (e6.new hr2) (e6.free hr2) upd_same
          · refine ⟨_, rfl, _, _, rfl, rfl, _, rfl, iteTe (decide_eq_true (by omega)) ⟨_, rfl, go l H5 e5 hln ?_⟩⟩
            rw [hl5, if_neg (by omega), Int.toNat_natCast]
    · refine iteFe (decide_eq_false fun z => cz (V.int.inj z)) (iteF ⟨_, rfl, _, _, rfl, rfl, _, rfl, ?_⟩)
      by_cases c3 : 1 < (n : Int)
      · refine iteTe (decide_eq_true c3) ⟨_, rfl, _, rfl, _, _, rfl, rfl, _, rfl, ?_⟩
        by_cases c4 : b - p < (n : Int)
        · have hb : roomB b p (n : Int) = false := by
            unfold roomB
            rw [if_neg cz]
            exact decide_eq_false fun z => by omega
          exact iteTe (decide_eq_true c4) (zstr hb)
        · have hb : roomB b p (n : Int) = true := by
            unfold roomB
            rw [if_neg cz]
            exact decide_eq_true (by omega)
          refine iteFe (decide_eq_false c4) ?_
          refine ⟨Nat.zero_le _, fun q1 hq1 => ?_⟩
          refine ⟨_, rfl, _, rfl, by omega, by omega, for_range (lo := 0) (n := ((n : Int)).toNat) (fun i σ H' => (∃ v : Option V, ∃ l : Addr, σ = [some (.int b), some (.int p), some (.int (n : Int)), some (.int (b - p)), some (.ref l), v] ∧ H l = none ∧ H' l = some (.lst ((frs (prs p.toNat (b - p).toNat n i)).map V.int))) ∧ Same H H') ⟨⟨none, q1, rfl, hq1, upd_same⟩, Same.upd hq1⟩ ?_ ?_⟩
          · rintro i σ H5 hi ⟨⟨v, l, rfl, hln, hl5⟩, e5⟩
            have hi : i < n := by omega
            have hx : (p + (n : Int) - 1 - (0 + (i : Int))) / (n : Int) = ((part p.toNat n i : Nat) : Int) := by
              rw [← part_ceil hi, Int.natCast_ediv]
              congr 1
              omega
            have hy : (b - p + (n : Int) - 1 - (0 + (i : Int))) / (n : Int) = ((part (b - p).toNat n i : Nat) : Int) := by
              rw [← part_ceil hi, Int.natCast_ediv]
              congr 1
              omega
            have x1 : part p.toNat n i ≤ 65 := by
              have := (part_near (m := p.toNat) (n := n) (k := i)).2
              have := Nat.div_le_self p.toNat n
              omega
            have x2 : part (b - p).toNat n i ≤ 65 := by
              have := (part_near (m := (b - p).toNat) (n := n) (k := i)).2
              have := Nat.div_le_self (b - p).toNat n
              omega
            have x3 := frs_le (p := p.toNat) (q := (b - p).toNat) (n := n) (i := i) (by omega) (Nat.le_of_lt hi)
            have x5 : prs p.toNat (b - p).toNat n (i + 1) = prs p.toNat (b - p).toNat n i ++ [(part p.toNat n i, part (b - p).toNat n i)] := prs_succ _ _ _ _
            refine ⟨_, rfl, (by show 1 ≤ sizeLine; decide), fun p6 hp6 => ?_⟩
            have e6 := e5.new (o := .lst [.int 1]) hp6
            have hl6 : upd H5 p6 (.lst [.int 1]) l = _ := (upd_ne (ne_of_none hl5 hp6)).trans hl5
            have hp6' : upd H5 p6 (.lst [.int 1]) p6 = some (.lst [.int 1]) := upd_same
            generalize upd H5 p6 (.lst [.int 1]) = H6 at e6 hl6 hp6'
            refine ⟨_, rfl, _, rfl, _, _, rfl, rfl, _, _, rfl, rfl, _, rfl, _, _, rfl, rfl, _, rfl, _, _, rfl, rfl, wide_div (b := 40) (by omega) (by omega) (by decide) (by decide), _, _, _, rfl, rfl, hp6', by rw [hx]; omega, by rw [hx]; omega, small_le (m := 65) (by rw [hx, Int.toNat_natCast]; show 1 * part p.toNat n i ≤ 65; omega), fun p7 hp7 => ?_⟩
            rw [hx, Int.toNat_natCast, rep_ints]
            have e7 := e6.new (o := .lst ((List.replicate (part p.toNat n i) 1).map V.int)) hp7
            have hl7 : upd H6 p7 (.lst ((List.replicate (part p.toNat n i) 1).map V.int)) l = _ := (upd_ne (ne_of_none hl6 hp7)).trans hl6
            have hp7' : upd H6 p7 (.lst ((List.replicate (part p.toNat n i) 1).map V.int)) p7 = some (.lst ((List.replicate (part p.toNat n i) 1).map V.int)) := upd_same
            generalize upd H6 p7 (.lst ((List.replicate (part p.toNat n i) 1).map V.int)) = H7 at e7 hl7 hp7'
            refine ⟨_, _, _, _, rfl, rfl, hl7, hp7', small_le (m := 200) (by rw [List.length_map, List.length_map, List.length_replicate]; omega), fun p8 hp8 => ?_⟩
            have e8 := e7.new (o := .lst ((frs (prs p.toNat (b - p).toNat n i)).map V.int ++ (List.replicate (part p.toNat n i) 1).map V.int)) hp8
            have hp8' : upd H7 p8 (.lst ((frs (prs p.toNat (b - p).toNat n i)).map V.int ++ (List.replicate (part p.toNat n i) 1).map V.int)) p8 = some (.lst ((frs (prs p.toNat (b - p).toNat n i)).map V.int ++ (List.replicate (part p.toNat n i) 1).map V.int)) := upd_same
            generalize upd H7 p8 (.lst ((frs (prs p.toNat (b - p).toNat n i)).map V.int ++ (List.replicate (part p.toNat n i) 1).map V.int)) = H8 at e8 hp8'
            refine ⟨_, rfl, (by show 1 ≤ sizeLine; decide), fun p9 hp9 => ?_⟩
            have e9 := e8.new (o := .lst [.int 0]) hp9
            have h89 : upd H8 p9 (.lst [.int 0]) p8 = _ := (upd_ne (ne_of_none hp8' hp9)).trans hp8'
            have hp9' : upd H8 p9 (.lst [.int 0]) p9 = some (.lst [.int 0]) := upd_same
            generalize upd H8 p9 (.lst [.int 0]) = H9 at e9 h89 hp9'
            refine ⟨_, rfl, _, rfl, _, _, rfl, rfl, _, _, rfl, rfl, _, rfl, _, _, rfl, rfl, _, rfl, _, _, rfl, rfl, wide_div (b := 40) (by omega) (by omega) (by decide) (by decide), _, _, _, rfl, rfl, hp9', by rw [hy]; omega, by rw [hy]; omega, small_le (m := 65) (by rw [hy, Int.toNat_natCast]; show 1 * part (b - p).toNat n i ≤ 65; omega), fun pa hpa => ?_⟩
            rw [hy, Int.toNat_natCast, rep_ints]
            have ea := e9.new (o := .lst ((List.replicate (part (b - p).toNat n i) 0).map V.int)) hpa
            have h8a : upd H9 pa (.lst ((List.replicate (part (b - p).toNat n i) 0).map V.int)) p8 = _ := (upd_ne (ne_of_none h89 hpa)).trans h89
            have hpa' : upd H9 pa (.lst ((List.replicate (part (b - p).toNat n i) 0).map V.int)) pa = some (.lst ((List.replicate (part (b - p).toNat n i) 0).map V.int)) := upd_same
            generalize upd H9 pa (.lst ((List.replicate (part (b - p).toNat n i) 0).map V.int)) = Ha at ea h8a hpa'
            refine ⟨_, _, _, _, rfl, rfl, h8a, hpa', small_le (m := 400) (by rw [List.length_append, List.length_map, List.length_map, List.length_map, List.length_replicate, List.length_replicate]; omega), fun pb hpb => ?_⟩
            refine ⟨⟨_, pb, rfl, ea.free hpb, ?_⟩, ea.new hpb⟩
            rw [upd_same, x5, frs_snoc, List.map_append, List.map_append]
          · rintro σ H5 ⟨⟨v, l, rfl, hln, hl5⟩, e5⟩
            have go := hgo hb
            unfold runF at go
            rw [Int.toNat_natCast] at hl5
            by_cases hz : n = 0
            · subst hz
              refine ⟨_, rfl, _, _, rfl, rfl, _, rfl, iteFe (decide_eq_false (by omega)) ⟨(by show 1 ≤ sizeLine; decide), fun q hq => ?_⟩⟩
              have e6 := e5.new (o := .lst [.int 0]) hq
              refine ⟨_, rfl, _, _, _, rfl, rfl, upd_same, by omega, by omega, small_le (m := 64) (by show 1 * b.toNat ≤ 64; omega), fun r hr2 => ?_⟩
              rw [rep_ints]
              exact go r _ (e6.new hr2) (e6.free hr2) upd_same
            · refine ⟨_, rfl, _, _, rfl, rfl, _, rfl, iteTe (decide_eq_true (by omega)) ⟨_, rfl, go l H5 e5 hln ?_⟩⟩
              rw [hl5, if_neg (by omega), Int.toNat_natCast]
      · have hb : roomB b p (n : Int) = true := by
          unfold roomB
          rw [if_neg cz]
          exact decide_eq_true (by omega)
        refine iteFe (decide_eq_false c3) (iteF ?_)
        refine ⟨Nat.zero_le _, fun q1 hq1 => ?_⟩
        refine ⟨_, rfl, _, rfl, by omega, by omega, for_range (lo := 0) (n := ((n : Int)).toNat) (fun i σ H' => (∃ v : Option V, ∃ l : Addr, σ = [some (.int b), some (.int p), some (.int (n : Int)), some (.int (b - p)), some (.ref l), v] ∧ H l = none ∧ H' l = some (.lst ((frs (prs p.toNat (b - p).toNat n i)).map V.int))) ∧ Same H H') ⟨⟨none, q1, rfl, hq1, upd_same⟩, Same.upd hq1⟩ ?_ ?_⟩
        · rintro i σ H5 hi ⟨⟨v, l, rfl, hln, hl5⟩, e5⟩
          have hi : i < n := by omega
          have hx : (p + (n : Int) - 1 - (0 + (i : Int))) / (n : Int) = ((part p.toNat n i : Nat) : Int) := by
            rw [← part_ceil hi, Int.natCast_ediv]
            congr 1
            omega
          have hy : (b - p + (n : Int) - 1 - (0 + (i : Int))) / (n : Int) = ((part (b - p).toNat n i : Nat) : Int) := by
            rw [← part_ceil hi, Int.natCast_ediv]
            congr 1
            omega
          have x1 : part p.toNat n i ≤ 65 := by
            have := (part_near (m := p.toNat) (n := n) (k := i)).2
            have := Nat.div_le_self p.toNat n
            omega
          have x2 : part (b - p).toNat n i ≤ 65 := by
            have := (part_near (m := (b - p).toNat) (n := n) (k := i)).2
            have := Nat.div_le_self (b - p).toNat n
            omega
          have x3 := frs_le (p := p.toNat) (q := (b - p).toNat) (n := n) (i := i) (by omega) (Nat.le_of_lt hi)
          have x5 : prs p.toNat (b - p).toNat n (i + 1) = prs p.toNat (b - p).toNat n i ++ [(part p.toNat n i, part (b - p).toNat n i)] := prs_succ _ _ _ _
          refine ⟨_, rfl, (by show 1 ≤ sizeLine; decide), fun p6 hp6 => ?_⟩
          have e6 := e5.new (o := .lst [.int 1]) hp6
          have hl6 : upd H5 p6 (.lst [.int 1]) l = _ := (upd_ne (ne_of_none hl5 hp6)).trans hl5
          have hp6' : upd H5 p6 (.lst [.int 1]) p6 = some (.lst [.int 1]) := upd_same
          generalize upd H5 p6 (.lst [.int 1]) = H6 at e6 hl6 hp6'
          refine ⟨_, rfl, _, rfl, _, _, rfl, rfl, _, _, rfl, rfl, _, rfl, _, _, rfl, rfl, _, rfl, _, _, rfl, rfl, wide_div (b := 40) (by omega) (by omega) (by decide) (by decide), _, _, _, rfl, rfl, hp6', by rw [hx]; omega, by rw [hx]; omega, small_le (m := 65) (by rw [hx, Int.toNat_natCast]; show 1 * part p.toNat n i ≤ 65; omega), fun p7 hp7 => ?_⟩
          rw [hx, Int.toNat_natCast, rep_ints]
          have e7 := e6.new (o := .lst ((List.replicate (part p.toNat n i) 1).map V.int)) hp7
          have hl7 : upd H6 p7 (.lst ((List.replicate (part p.toNat n i) 1).map V.int)) l = _ := (upd_ne (ne_of_none hl6 hp7)).trans hl6
          have hp7' : upd H6 p7 (.lst ((List.replicate (part p.toNat n i) 1).map V.int)) p7 = some (.lst ((List.replicate (part p.toNat n i) 1).map V.int)) := upd_same
          generalize upd H6 p7 (.lst ((List.replicate (part p.toNat n i) 1).map V.int)) = H7 at e7 hl7 hp7'
          refine ⟨_, _, _, _, rfl, rfl, hl7, hp7', small_le (m := 200) (by rw [List.length_map, List.length_map, List.length_replicate]; omega), fun p8 hp8 => ?_⟩
          have e8 := e7.new (o := .lst ((frs (prs p.toNat (b - p).toNat n i)).map V.int ++ (List.replicate (part p.toNat n i) 1).map V.int)) hp8
          have hp8' : upd H7 p8 (.lst ((frs (prs p.toNat (b - p).toNat n i)).map V.int ++ (List.replicate (part p.toNat n i) 1).map V.int)) p8 = some (.lst ((frs (prs p.toNat (b - p).toNat n i)).map V.int ++ (List.replicate (part p.toNat n i) 1).map V.int)) := upd_same
          generalize upd H7 p8 (.lst ((frs (prs p.toNat (b - p).toNat n i)).map V.int ++ (List.replicate (part p.toNat n i) 1).map V.int)) = H8 at e8 hp8'
          refine ⟨_, rfl, (by show 1 ≤ sizeLine; decide), fun p9 hp9 => ?_⟩
          have e9 := e8.new (o := .lst [.int 0]) hp9
          have h89 : upd H8 p9 (.lst [.int 0]) p8 = _ := (upd_ne (ne_of_none hp8' hp9)).trans hp8'
          have hp9' : upd H8 p9 (.lst [.int 0]) p9 = some (.lst [.int 0]) := upd_same
          generalize upd H8 p9 (.lst [.int 0]) = H9 at e9 h89 hp9'
          refine ⟨_, rfl, _, rfl, _, _, rfl, rfl, _, _, rfl, rfl, _, rfl, _, _, rfl, rfl, _, rfl, _, _, rfl, rfl, wide_div (b := 40) (by omega) (by omega) (by decide) (by decide), _, _, _, rfl, rfl, hp9', by rw [hy]; omega, by rw [hy]; omega, small_le (m := 65) (by rw [hy, Int.toNat_natCast]; show 1 * part (b - p).toNat n i ≤ 65; omega), fun pa hpa => ?_⟩
          rw [hy, Int.toNat_natCast, rep_ints]
          have ea := e9.new (o := .lst ((List.replicate (part (b - p).toNat n i) 0).map V.int)) hpa
          have h8a : upd H9 pa (.lst ((List.replicate (part (b - p).toNat n i) 0).map V.int)) p8 = _ := (upd_ne (ne_of_none h89 hpa)).trans h89
          have hpa' : upd H9 pa (.lst ((List.replicate (part (b - p).toNat n i) 0).map V.int)) pa = some (.lst ((List.replicate (part (b - p).toNat n i) 0).map V.int)) := upd_same
          generalize upd H9 pa (.lst ((List.replicate (part (b - p).toNat n i) 0).map V.int)) = Ha at ea h8a hpa'
          refine ⟨_, _, _, _, rfl, rfl, h8a, hpa', small_le (m := 400) (by rw [List.length_append, List.length_map, List.length_map, List.length_map, List.length_replicate, List.length_replicate]; omega), fun pb hpb => ?_⟩
          refine ⟨⟨_, pb, rfl, ea.free hpb, ?_⟩, ea.new hpb⟩
          rw [upd_same, x5, frs_snoc, List.map_append, List.map_append]
        · rintro σ H5 ⟨⟨v, l, rfl, hln, hl5⟩, e5⟩
          have go := hgo hb
          unfold runF at go
          rw [Int.toNat_natCast] at hl5
          by_cases hz : n = 0
          · subst hz
            refine ⟨_, rfl, _, _, rfl, rfl, _, rfl, iteFe (decide_eq_false (by omega)) ⟨(by show 1 ≤ sizeLine; decide), fun q hq => ?_⟩⟩
            have e6 := e5.new (o := .lst [.int 0]) hq
            refine ⟨_, rfl, _, _, _, rfl, rfl, upd_same, by omega, by omega, small_le (m := 64) (by show 1 * b.toNat ≤ 64; omega), fun r hr2 => ?_⟩
            rw [rep_ints]
            exact go r _ (e6.new hr2) (e6.free hr2) upd_same
          · refine ⟨_, rfl, _, _, rfl, rfl, _, rfl, iteTe (decide_eq_true (by omega)) ⟨_, rfl, go l H5 e5 hln ?_⟩⟩
            rw [hl5, if_neg (by omega), Int.toNat_natCast]
abbrev s_law_runs : Stmt := top 30
theorem sc_law_runs : FnScope ["_law_frame_here", "_law_k", "_law_begins"] ["_law_frame_here"] (defScope s_law_runs) := ⟨rfl, rfl, rfl, by decide +kernel, rfl, by decide +kernel, by decide +kernel⟩
/-- _law_runs(frame): the runs, counted -/
def spLRuns (K : PySem.W.Frag) : Sp := fun vs H Q _ => ∃ (l : Addr) (fs : List Int), vs = [.ref l] ∧ SqL K H l (fs.map V.int) ∧ Frm fs ∧ ∀ H', Same H H' → Q (.int (runsN fs)) H'
theorem ok_law_runs {f : Addr} {fd : FuncData} (F : FunG K mg "_law_runs" s_law_runs f fd ["_law_frame_here"]) (T : Txt K mg) : FnOk P w K mg base CX0 1 f fd ["_law_frame_here"] (spLRuns K) := by
  refine F.fn.ok sc_law_runs (fun vs H Q E h => ?_) (fun cdv A outer s H vs Q E hr h => ?_)
  · obtain ⟨l, fs, rfl, _⟩ := h
    rfl
  · obtain ⟨l, fs, rfl, hS, hf, k⟩ := h
    refine ⟨_, (pss_cons (ps_setLc (i := 2) (own := [("_law_k", 1)]) (g := gName 1) rfl sc_law_runs.nd rfl rfl (sw_true rfl rfl rfl (by decide +kernel)) (pi_range1 (by rfl) T.b_range (pa_cons (pe_callB (clLen K) (by rfl) T.b_len (by decide +kernel) (pa_cons (pv 0) pa_nil)) pa_nil)) (blkOk_by (own := [("_law_k", 1)]) (N := ["_law_frame_here", "_law_k", "_law_begins"]) (sc := defScope s_law_runs) (by decide +kernel)) (fun _ _ _ _ _ => (pg_name (i := 1) sc_law_runs.nd rfl (.inl rfl))) (fun _ _ _ _ _ => (pts_one (PW.pt (pw_and (pt_cmpR op_eq (pe_ix (ixL K) (pv 0) (pv 1) (fun _ _ => rfl)) pe_int (nomark _)) (pw_and1 (pt_cmpR op_eq (pe_ix (ixL K) (pv 0) (pe_op op_sub (pv 1) pe_int) (fun _ _ => rfl)) pe_int (nomark _))))))) (fun _ _ _ _ _ => (pv 1)))
      (pss_one (ps_ret (pe_ifExp (pt_cmpR (opNeD K hr.units) (pv 2) (pe_lst pa_nil) (nomark _)) (pe_callB (clLen K) (by rfl) T.b_len (by decide +kernel) (pa_cons (pv 2) pa_nil)) (pe_ix (ixL K) (pv 0) pe_int (fun _ _ => rfl)))))), ?_⟩
    have h0 := hf.pos
    have h1 := hf.le
    have hlen : (fs.map V.int).length = fs.length := List.length_map _
    refine ⟨_, rfl, _, _, rfl, .inl hS, _, rfl, by rw [hlen]; omega, by rw [hlen]; omega, fun D hD => lc_range (lo := 0) (n := ((fs.map V.int).length : Int).toNat) (fun i H' => Same H H' ∧ H' D = some (.lst (((ups fs i).map fun k : Nat => (k : Int)).map V.int))) ⟨Same.upd hD, upd_same⟩ ?_ ?_⟩
    · rintro j H' hj ⟨e, hd⟩
      rw [hlen] at hj
      have hj : j < fs.length := by omega
      have hS' := e.seq hS
      refine ⟨rfl, _, rfl, _, rfl, _, _, _, _, rfl, rfl, hS', atV (j := j) (by omega) hj, rfl, _, rfl, ?_⟩
      rw [ups_succ]
      by_cases c1 : fs.getD j 0 = 1
      · refine iteTe (decide_eq_true (congrArg V.int c1)) ⟨_, rfl, _, rfl, _, _, rfl, rfl, _, _, _, _, rfl, rfl, hS', at_prv (k := j) (by omega) hj, rfl, _, rfl, ?_⟩
        by_cases c2 : prv fs j = 0
        · rw [if_pos ⟨c1, c2⟩]
          refine iteTe (decide_eq_true (congrArg V.int c2)) ⟨_, rfl, _, hd, small_of (m := 64) (by rw [List.length_map, List.length_map]; exact Nat.le_trans (ups_len _ _) (by omega)), e.mut hD, ?_⟩
          rw [upd_same, List.map_append, List.map_append, Int.zero_add]
          rfl
        · rw [if_neg (fun z => c2 z.2)]
          exact iteFe (decide_eq_false fun z => c2 (V.int.inj z)) ⟨e, hd⟩
      · rw [if_neg (fun z => c1 z.1)]
        exact iteFe (decide_eq_false fun z => c1 (V.int.inj z)) (iteF ⟨e, hd⟩)
    · rintro H' ⟨e, hd⟩
      rw [hlen, Int.toNat_natCast] at hd
      have hr2 := runs_ups h0 hf.getD
      refine ⟨_, rfl, Nat.zero_le _, fun z hz => ?_⟩
      have hdz : upd H' z (.lst []) D = some (.lst (((ups fs fs.length).map fun k : Nat => (k : Int)).map V.int)) := by rw [upd_ne (ne_of_none hd hz)]; exact hd
      refine ⟨_, _, dp_ints (SqL.of hdz), dp_nil (SqL.of upd_same), dI_shaped _, dI_shaped _, _, rfl, ?_⟩
      rw [dI_eqv]
      by_cases c : ups fs fs.length = []
      · rw [if_pos c] at hr2
        refine iteFe (by rw [c]; rfl) ⟨_, rfl, _, _, _, _, rfl, rfl, (e.new hz).seq hS, atV (j := 0) rfl h0, ?_⟩
        rw [← hr2]
        exact k _ (e.new hz)
      · rw [if_neg c] at hr2
        refine iteTe (by rw [decide_eq_false (fun z => c (List.map_eq_nil_iff.mp z))]; rfl) ⟨_, rfl, _, _, rfl, .inl (SqL.of hdz), ?_⟩
        rw [List.length_map, List.length_map, ← hr2]
        exact k _ (e.new hz)
abbrev s_law_same : Stmt := top 24
theorem sc_law_same : FnScope ["_law_found", "_law_due_here", "_law_k"] ["_law_found", "_law_due_here"] (defScope s_law_same) := ⟨rfl, rfl, rfl, by decide +kernel, rfl, by decide +kernel, by decide +kernel⟩
/-- the same data, at most so deep -/
inductive SameD (H : Hp) : Nat → V → V → Prop
  | non (n : Nat) : SameD H n .non .non
  | bl (n : Nat) (b : Bool) : SameD H n (.bl b) (.bl b)
  | int (n : Nat) (i : Int) : SameD H n (.int i) (.int i)
  | str (n : Nat) (x : Str) : SameD H n (.str x) (.str x)
  | lst (n : Nat) (a b : Addr) (xs ys : List V) : H a = some (.lst xs) → H b = some (.lst ys) → xs.length = ys.length → xs.length ≤ 1000 → (∀ (i : Nat) x y, xs[i]? = some x → ys[i]? = some y → SameD H n x y) → SameD H (n + 1) (.ref a) (.ref b)
  | tup (n : Nat) (a b : Addr) (xs ys : List V) : H a = some (.tup xs) → H b = some (.tup ys) → xs.length = ys.length → xs.length ≤ 1000 → (∀ (i : Nat) x y, xs[i]? = some x → ys[i]? = some y → SameD H n x y) → SameD H (n + 1) (.ref a) (.ref b)
theorem SameD.same {H H' : Hp} (e : Same H H') {n : Nat} {x y : V} (h : SameD H n x y) : SameD H' n x y := by
  induction h with
  | non n => exact .non n
  | bl n b => exact .bl n b
  | int n i => exact .int n i
  | str n x => exact .str n x
  | lst n a b xs ys ha hb hl hm hi ih => exact .lst n a b xs ys (e _ _ ha) (e _ _ hb) hl hm ih
  | tup n a b xs ys ha hb hl hm hi ih => exact .tup n a b xs ys (e _ _ ha) (e _ _ hb) hl hm ih
theorem SameD.ints {H : Hp} {a b : Addr} {ns : List Int} (ha : H a = some (.lst (ns.map V.int))) (hb : H b = some (.lst (ns.map V.int))) (hl : ns.length ≤ 1000) (n : Nat) : SameD H (n + 1) (.ref a) (.ref b) :=
  .lst n a b _ _ ha hb rfl (by rw [List.length_map]; exact hl) fun i x y h1 h2 => by
    rw [h1] at h2; cases h2
    obtain ⟨z, _, rfl⟩ := getV h1
    exact .int n z
/-- _law_same(found, due) of the same: True -/
def spSame (n : Nat) : Sp := fun vs H Q _ => ∃ x y : V, vs = [x, y] ∧ SameD H n x y ∧ ∀ H', Same H H' → Q (.bl true) H'
def spSameR : Nat → Sp
  | 0 => fun _ _ _ _ => False
  | n + 1 => spSame n
theorem cls_tl : Paired ClsV [V.ty "tuple", V.ty "list"] [Value.type "tuple", Value.type "list"] := .cons (.ty _) (.cons (.ty _) .nil)
theorem kitTL {K : PySem.W.Frag} {t : String} {b1 b2 : Bool} (h1 : kitB t "tuple" = some b1) (h2 : kitB t "list" = some b2) : PySem.W.kitAny K (.type t) [.type "tuple", .type "list"] = some (b1 || b2) := by
  refine kitAny_cons (kit_ty h1) (fun e => ?_) (fun e => by rw [e] <;> rfl)
  rw [e, Bool.false_or]
  refine kitAny_cons (kit_ty h2) (fun e => ?_) (fun e => by rw [e] <;> rfl)
  rw [e]
  exact kitAny_nil
theorem and_case {c : Prop} [Decidable c] {A B : Prop} (hc : ¬ c) (h : B) : if (decide c) = true then A else B := by
  rw [decide_eq_false hc]; exact iteF h
theorem same_mk {f : Addr} {fd : FuncData} (F : FunG K mg "_law_same" s_law_same f fd ["_law_found", "_law_due_here"]) (T : Txt K mg) (k n : Nat) (c_law_same : Cl P w K mg base CX0 k "_law_same" (spSameR n)) :
    FnOk P w K mg base CX0 (k + 1) f fd ["_law_found", "_law_due_here"] (spSame n) := by
  refine F.fn.ok sc_law_same (fun vs H Q E h => ?_) (fun cdv A outer s H vs Q E hr h => ?_)
  · obtain ⟨x, y, rfl, _⟩ := h
    rfl
  · obtain ⟨x, y, rfl, hs, q⟩ := h
    refine ⟨_, (pss_cons (ps_if (pt_val (pe_callB call_isiT (by rfl) T.b_isinstance (by decide +kernel) (pa_cons (pv 1) (pa_cons (pe_tup (pa_cons (pe_bltn (v := .ty "tuple") (u := .type "tuple") (by rfl) T.b_tuple (by decide +kernel) rfl) (pa_cons (pe_bltn (v := .ty "list") (u := .type "list") (by rfl) T.b_list (by decide +kernel) rfl) pa_nil))) pa_nil)))) (pss_cons (ps_if (PW.pt (pw_or (pt_not (pt_val (pe_callB call_isiT (by rfl) T.b_isinstance (by decide +kernel) (pa_cons (pv 0) (pa_cons (pe_tup (pa_cons (pe_bltn (v := .ty "tuple") (u := .type "tuple") (by rfl) T.b_tuple (by decide +kernel) rfl) (pa_cons (pe_bltn (v := .ty "list") (u := .type "list") (by rfl) T.b_list (by decide +kernel) rfl) pa_nil))) pa_nil))))) (pw_or1 (pt_cmpR op_ne (pe_callB call_isi (by rfl) T.b_isinstance (by decide +kernel) (pa_cons (pv 0) (pa_cons (pe_bltn (v := .ty "list") (u := .type "list") (by rfl) T.b_list (by decide +kernel) rfl) pa_nil))) (pe_callB call_isi (by rfl) T.b_isinstance (by decide +kernel) (pa_cons (pv 1) (pa_cons (pe_bltn (v := .ty "list") (u := .type "list") (by rfl) T.b_list (by decide +kernel) rfl) pa_nil))) (nomark _))))) (pss_one (ps_ret pe_bl)) pss_nil)
      (pss_cons (ps_if (pt_cmpR op_ne (pe_callB (clLen K) (by rfl) T.b_len (by decide +kernel) (pa_cons (pv 0) pa_nil)) (pe_callB (clLen K) (by rfl) T.b_len (by decide +kernel) (pa_cons (pv 1) pa_nil)) (nomark _)) (pss_one (ps_ret pe_bl)) pss_nil)
      (pss_one (ps_ret (pe_cmpR (opEqD K hr.units) (pe_lc (own := [("_law_k", 2)]) (g := gName 2) (by rfl) sc_law_same.nd (pi_range1 (by rfl) T.b_range (pa_cons (pe_callB (clLen K) (by rfl) T.b_len (by decide +kernel) (pa_cons (pv 1) pa_nil)) pa_nil)) (blkOk_by (own := [("_law_k", 2)]) (N := ["_law_found", "_law_due_here", "_law_k"]) (sc := defScope s_law_same) (by decide +kernel)) (fun _ _ _ _ _ => (pg_name (i := 2) sc_law_same.nd rfl (.inl rfl))) (fun _ _ _ _ _ => (pts_one (pt_not (pt_val (pe_cl c_law_same hr (Nat.le_refl _) (by rfl) (pa_cons (pe_ix (ixQ K) (pv 0) (pv 2) (fun _ _ => rfl)) (pa_cons (pe_ix (ixQ K) (pv 1) (pv 2) (fun _ _ => rfl)) pa_nil))))))) (fun _ _ _ _ _ => (pv 2))) (pe_lst pa_nil) (nomark _)))))) pss_nil)
      (pss_cons (ps_if (pt_cmpR op_isN (pv 1) pe_non (nomark _)) (pss_one (ps_ret (pe_cmpR op_isN (pv 0) pe_non (nomark _)))) pss_nil)
      (pss_cons (ps_if (pt_val (pe_callB call_isi (by rfl) T.b_isinstance (by decide +kernel) (pa_cons (pv 1) (pa_cons (pe_bltn (v := .ty "str") (u := .type "str") (by rfl) T.b_str (by decide +kernel) rfl) pa_nil)))) (pss_one (ps_ret (pe_and (pe_callB call_isi (by rfl) T.b_isinstance (by decide +kernel) (pa_cons (pv 0) (pa_cons (pe_bltn (v := .ty "str") (u := .type "str") (by rfl) T.b_str (by decide +kernel) rfl) pa_nil))) (pe_one (pe_cmpR op_eq (pv 0) (pv 1) (nomark _)))))) pss_nil)
      (pss_cons (ps_if (PW.pt (pw_or (pt_val (pe_callB call_isi (by rfl) T.b_isinstance (by decide +kernel) (pa_cons (pv 1) (pa_cons (pe_bltn (v := .ty "bool") (u := .type "bool") (by rfl) T.b_bool (by decide +kernel) rfl) pa_nil)))) (pw_or1 (pt_val (pe_callB call_isi (by rfl) T.b_isinstance (by decide +kernel) (pa_cons (pv 0) (pa_cons (pe_bltn (v := .ty "bool") (u := .type "bool") (by rfl) T.b_bool (by decide +kernel) rfl) pa_nil))))))) (pss_one (ps_ret (pe_and (pe_callB call_isi (by rfl) T.b_isinstance (by decide +kernel) (pa_cons (pv 1) (pa_cons (pe_bltn (v := .ty "bool") (u := .type "bool") (by rfl) T.b_bool (by decide +kernel) rfl) pa_nil))) (pe_and (pe_callB call_isi (by rfl) T.b_isinstance (by decide +kernel) (pa_cons (pv 0) (pa_cons (pe_bltn (v := .ty "bool") (u := .type "bool") (by rfl) T.b_bool (by decide +kernel) rfl) pa_nil))) (pe_one (pe_cmpR op_eq (pv 0) (pv 1) (nomark _))))))) pss_nil)
      (pss_one (ps_ret (pe_and (pe_callB call_isi (by rfl) T.b_isinstance (by decide +kernel) (pa_cons (pv 0) (pa_cons (pe_bltn (v := .ty "int") (u := .type "int") (by rfl) T.b_int (by decide +kernel) rfl) pa_nil))) (pe_one (pe_cmpR op_eq (pv 0) (pv 1) (nomark _)))))))))), ?_⟩
    have two : (2 : Nat) ≤ sizeLine := by decide
    cases hs with
    | non =>
      refine ⟨_, rfl, two, fun p hp => ⟨_, _, _, _, _, _, rfl, upd_same, cls_tl, (.base .non), kitTL (by decide +kernel : kitB "NoneType" "tuple" = some false) (by decide +kernel : kitB "NoneType" "list" = some false), _, rfl, iteF ?_⟩⟩
      refine ⟨_, rfl, rfl, _, rfl, iteT ?_⟩
      exact ⟨_, rfl, rfl, q _ (Same.upd hp)⟩
    | bl _ b =>
      refine ⟨_, rfl, two, fun p hp => ⟨_, _, _, _, _, _, rfl, upd_same, cls_tl, (.base (.bl b)), kitTL (by decide +kernel : kitB "bool" "tuple" = some false) (by decide +kernel : kitB "bool" "list" = some false), _, rfl, iteF ?_⟩⟩
      refine ⟨_, rfl, rfl, _, rfl, and_case (fun z => V.noConfusion z) ?_⟩
      refine ⟨_, rfl, _, _, _, _, _, rfl, .ty _, (.base (.bl b)), kit_ty (by decide +kernel : kitB "bool" "str" = some false), _, rfl, iteF ?_⟩
      refine ⟨_, rfl, _, _, _, _, _, rfl, .ty _, (.base (.bl b)), kit_ty (by decide +kernel : kitB "bool" "bool" = some true), _, rfl, iteT (iteT ?_)⟩
      refine ⟨_, rfl, _, _, _, _, _, rfl, .ty _, (.base (.bl b)), kit_ty (by decide +kernel : kitB "bool" "bool" = some true), _, rfl, iteT ?_⟩
      refine ⟨_, rfl, _, _, _, _, _, rfl, .ty _, (.base (.bl b)), kit_ty (by decide +kernel : kitB "bool" "bool" = some true), _, rfl, iteT ?_⟩
      refine ⟨_, rfl, _, rfl, rfl, ?_⟩
      rw [decide_eq_true rfl]
      exact q _ (Same.upd hp)
    | int _ i =>
      refine ⟨_, rfl, two, fun p hp => ⟨_, _, _, _, _, _, rfl, upd_same, cls_tl, (.base (.int i)), kitTL (by decide +kernel : kitB "int" "tuple" = some false) (by decide +kernel : kitB "int" "list" = some false), _, rfl, iteF ?_⟩⟩
      refine ⟨_, rfl, rfl, _, rfl, and_case (fun z => V.noConfusion z) ?_⟩
      refine ⟨_, rfl, _, _, _, _, _, rfl, .ty _, (.base (.int i)), kit_ty (by decide +kernel : kitB "int" "str" = some false), _, rfl, iteF ?_⟩
      refine ⟨_, rfl, _, _, _, _, _, rfl, .ty _, (.base (.int i)), kit_ty (by decide +kernel : kitB "int" "bool" = some false), _, rfl, iteF ?_⟩
      refine ⟨_, rfl, _, _, _, _, _, rfl, .ty _, (.base (.int i)), kit_ty (by decide +kernel : kitB "int" "bool" = some false), _, rfl, iteF ?_⟩
      refine ⟨_, rfl, _, _, _, _, _, rfl, .ty _, (.base (.int i)), kit_ty (by decide +kernel : kitB "int" "int" = some true), _, rfl, iteT ?_⟩
      refine ⟨_, rfl, _, rfl, rfl, ?_⟩
      rw [decide_eq_true rfl]
      exact q _ (Same.upd hp)
    | str _ x =>
      refine ⟨_, rfl, two, fun p hp => ⟨_, _, _, _, _, _, rfl, upd_same, cls_tl, (.base (.str x)), kitTL (by decide +kernel : kitB "str" "tuple" = some false) (by decide +kernel : kitB "str" "list" = some false), _, rfl, iteF ?_⟩⟩
      refine ⟨_, rfl, rfl, _, rfl, and_case (fun z => V.noConfusion z) ?_⟩
      refine ⟨_, rfl, _, _, _, _, _, rfl, .ty _, (.base (.str x)), kit_ty (by decide +kernel : kitB "str" "str" = some true), _, rfl, iteT ?_⟩
      refine ⟨_, rfl, _, _, _, _, _, rfl, .ty _, (.base (.str x)), kit_ty (by decide +kernel : kitB "str" "str" = some true), _, rfl, iteT ?_⟩
      refine ⟨_, rfl, _, rfl, rfl, ?_⟩
      rw [decide_eq_true rfl]
      exact q _ (Same.upd hp)
    | lst n a b xs ys ha hb hl hm hi =>
      refine ⟨_, rfl, two, fun p hp => ?_⟩
      have e1 : Same H (upd H p (.tup [.ty "tuple", .ty "list"])) := Same.upd hp
      have hT1 : upd H p (.tup [.ty "tuple", .ty "list"]) p = some (.tup [.ty "tuple", .ty "list"]) := upd_same
      generalize upd H p (.tup [.ty "tuple", .ty "list"]) = H1 at e1 hT1
      refine ⟨_, _, _, _, _, _, rfl, hT1, cls_tl, (.base (.lst (e1 _ _ hb))), kitTL (by decide +kernel : kitB "list" "tuple" = some false) (by decide +kernel : kitB "list" "list" = some true), _, rfl, iteT ?_⟩
      refine ⟨_, rfl, two, fun p2 hp2 => ?_⟩
      have e2 : Same H (upd H1 p2 (.tup [.ty "tuple", .ty "list"])) := e1.new hp2
      have hT2 : upd H1 p2 (.tup [.ty "tuple", .ty "list"]) p2 = some (.tup [.ty "tuple", .ty "list"]) := upd_same
      generalize upd H1 p2 (.tup [.ty "tuple", .ty "list"]) = H2 at e2 hT2
      refine ⟨_, _, _, _, _, _, rfl, hT2, cls_tl, (.base (.lst (e2 _ _ ha))), kitTL (by decide +kernel : kitB "list" "tuple" = some false) (by decide +kernel : kitB "list" "list" = some true), _, rfl, iteF ?_⟩
      refine ⟨_, rfl, _, _, _, _, _, rfl, .ty _, (.base (.lst (e2 _ _ ha))), kit_ty (by decide +kernel : kitB "list" "list" = some true), _, rfl, _, _, _, _, _, rfl, .ty _, (.base (.lst (e2 _ _ hb))), kit_ty (by decide +kernel : kitB "list" "list" = some true), rfl, _, rfl, iteNS rfl ?_⟩
      refine ⟨_, rfl, _, _, rfl, .inl (SqL.of (e2 _ _ ha)), _, rfl, _, _, rfl, .inl (SqL.of (e2 _ _ hb)), rfl, _, rfl, iteNS (by rw [hl]) ?_⟩
      refine ⟨_, rfl, _, _, rfl, .inl (SqL.of (e2 _ _ hb)), _, rfl, by omega, by omega, fun D hD => lc_range (lo := 0) (n := (ys.length : Int).toNat) (fun i H' => Same H2 H' ∧ H' D = some (.lst [])) ⟨Same.upd hD, upd_same⟩ ?_ ?_⟩
      · rintro i H' hi' ⟨e3, hD'⟩
        have hy : i < ys.length := by omega
        have hx : i < xs.length := by omega
        have hs := hi i _ _ (List.getElem?_eq_getElem hx) (List.getElem?_eq_getElem hy)
        refine ⟨rfl, _, rfl, _, rfl, .inl ⟨_, _, _, _, rfl, rfl, SqL.of (e3 _ _ (e2 _ _ ha)), at_of (by omega) (List.getElem?_eq_getElem hx), ?_⟩⟩
        refine ⟨_, rfl, _, rfl, .inl ⟨_, _, _, _, rfl, rfl, SqL.of (e3 _ _ (e2 _ _ hb)), at_of (by omega) (List.getElem?_eq_getElem hy), ?_⟩⟩
        exact ⟨_, _, rfl, hs.same (e2.trans e3), fun H4 e4 => ⟨_, rfl, iteF ⟨e3.trans e4, e4 _ _ hD'⟩⟩⟩
      · rintro H' ⟨e3, hD'⟩
        refine ⟨Nat.zero_le _, fun e he => ⟨_, _, .lst (SqL.of (by rw [upd_ne (ne_of_none hD' he)]; exact hD')) .nil, .lst (SqL.of upd_same) .nil, rfl, rfl, ?_⟩⟩
        exact q _ ((e2.trans e3).new he)
    | tup n a b xs ys ha hb hl hm hi =>
      refine ⟨_, rfl, two, fun p hp => ?_⟩
      have e1 : Same H (upd H p (.tup [.ty "tuple", .ty "list"])) := Same.upd hp
      have hT1 : upd H p (.tup [.ty "tuple", .ty "list"]) p = some (.tup [.ty "tuple", .ty "list"]) := upd_same
      generalize upd H p (.tup [.ty "tuple", .ty "list"]) = H1 at e1 hT1
      refine ⟨_, _, _, _, _, _, rfl, hT1, cls_tl, (.base (.tup (e1 _ _ hb))), kitTL (by decide +kernel : kitB "tuple" "tuple" = some true) (by decide +kernel : kitB "tuple" "list" = some false), _, rfl, iteT ?_⟩
      refine ⟨_, rfl, two, fun p2 hp2 => ?_⟩
      have e2 : Same H (upd H1 p2 (.tup [.ty "tuple", .ty "list"])) := e1.new hp2
      have hT2 : upd H1 p2 (.tup [.ty "tuple", .ty "list"]) p2 = some (.tup [.ty "tuple", .ty "list"]) := upd_same
      generalize upd H1 p2 (.tup [.ty "tuple", .ty "list"]) = H2 at e2 hT2
      refine ⟨_, _, _, _, _, _, rfl, hT2, cls_tl, (.base (.tup (e2 _ _ ha))), kitTL (by decide +kernel : kitB "tuple" "tuple" = some true) (by decide +kernel : kitB "tuple" "list" = some false), _, rfl, iteF ?_⟩
      refine ⟨_, rfl, _, _, _, _, _, rfl, .ty _, (.base (.tup (e2 _ _ ha))), kit_ty (by decide +kernel : kitB "tuple" "list" = some false), _, rfl, _, _, _, _, _, rfl, .ty _, (.base (.tup (e2 _ _ hb))), kit_ty (by decide +kernel : kitB "tuple" "list" = some false), rfl, _, rfl, iteNS rfl ?_⟩
      refine ⟨_, rfl, _, _, rfl, .inr (SqT.of (e2 _ _ ha)), _, rfl, _, _, rfl, .inr (SqT.of (e2 _ _ hb)), rfl, _, rfl, iteNS (by rw [hl]) ?_⟩
      refine ⟨_, rfl, _, _, rfl, .inr (SqT.of (e2 _ _ hb)), _, rfl, by omega, by omega, fun D hD => lc_range (lo := 0) (n := (ys.length : Int).toNat) (fun i H' => Same H2 H' ∧ H' D = some (.lst [])) ⟨Same.upd hD, upd_same⟩ ?_ ?_⟩
      · rintro i H' hi' ⟨e3, hD'⟩
        have hy : i < ys.length := by omega
        have hx : i < xs.length := by omega
        have hs := hi i _ _ (List.getElem?_eq_getElem hx) (List.getElem?_eq_getElem hy)
        refine ⟨rfl, _, rfl, _, rfl, .inr (.inl ⟨_, _, _, _, rfl, rfl, SqT.of (e3 _ _ (e2 _ _ ha)), at_of (by omega) (List.getElem?_eq_getElem hx), ?_⟩)⟩
        refine ⟨_, rfl, _, rfl, .inr (.inl ⟨_, _, _, _, rfl, rfl, SqT.of (e3 _ _ (e2 _ _ hb)), at_of (by omega) (List.getElem?_eq_getElem hy), ?_⟩)⟩
        exact ⟨_, _, rfl, hs.same (e2.trans e3), fun H4 e4 => ⟨_, rfl, iteF ⟨e3.trans e4, e4 _ _ hD'⟩⟩⟩
      · rintro H' ⟨e3, hD'⟩
        refine ⟨Nat.zero_le _, fun e he => ⟨_, _, .lst (SqL.of (by rw [upd_ne (ne_of_none hD' he)]; exact hD')) .nil, .lst (SqL.of upd_same) .nil, rfl, rfl, ?_⟩⟩
        exact q _ ((e2.trans e3).new he)
theorem ok_law_same {f : Addr} {fd : FuncData} (F : FunG K mg "_law_same" s_law_same f fd ["_law_found", "_law_due_here"]) (T : Txt K mg) : ∀ n : Nat, FnOk P w K mg base CX0 (n + 1) f fd ["_law_found", "_law_due_here"] (spSame n)
  | 0 => same_mk F T 0 0 (F.cl ⟨fun _ _ _ _ z => z.elim, fun _ _ _ _ _ _ _ _ _ _ _ _ _ z => z.elim⟩)
  | n + 1 => same_mk F T (n + 1) (n + 1) (F.cl (ok_law_same F T n))
end
end My

namespace My
open PySem PySem.Spec PyProof.Rows LamX L2
section
variable {P : Program} {w : World} {K : PySem.W.Frag} {mg : Str → Option Value} {base : Heap}
abbrev s_law : Stmt := top 31
theorem sc_law : FnScope ["_law_script", "_law_state", "_law_turn", "_law_beats", "_law_pulses", "_law_most", "_law_many", "_law_due_here", "_law_again", "_law_found", "_law_frame_here", "_law_k", "_law_unlike", "_law_handed"] ["_law_script"] (defScope s_law) := ⟨rfl, rfl, rfl, by decide +kernel, rfl, by decide +kernel, by decide +kernel⟩
/-- what is due -/
def DueV (b p m : Int) (H : Hp) (vd : V) : Prop := (m < 0 ∧ vd = .str "BadRuns") ∨ (0 ≤ m ∧ roomB b p m = false ∧ vd = .str "NoRoom") ∨ (0 ≤ m ∧ roomB b p m = true ∧ ∃ ld, vd = .ref ld ∧ H ld = some (.lst ((runF b p m).map V.int)))
theorem runF_len {b p m : Int} (b0 : 1 ≤ b) (b1 : b ≤ 64) (p0 : 0 ≤ p) (p1 : p ≤ b) (h : 0 ≤ m) (hr : roomB b p m = true) : (runF b p m).length ≤ 64 := by
  unfold runF
  unfold roomB at hr
  by_cases hz : m = 0
  · rw [if_pos hz, List.length_replicate]; omega
  · rw [if_neg hz]
    have := frs_le (p := p.toNat) (q := (b - p).toNat) (n := m.toNat) (i := m.toNat) (by omega) (Nat.le_refl _)
    omega
theorem tabs_keepL {T : List (Addr × Str)} {H : Hp} {l : Addr} {xs : List V} {o : HO} (t : Tabs T H) (hs : H l = some (.lst xs)) : Tabs T (upd H l o) := fun p hp => by
  obtain ⟨ps, h1, h2, h3⟩ := t p hp
  refine ⟨ps, by rw [upd_ne (fun z => by rw [z, hs] at h1; cases h1)]; exact h1, h2, fun pos cv hc => ?_⟩
  obtain ⟨c, e1, e2⟩ := h3 pos cv hc
  exact ⟨c, e1, by rw [upd_ne (fun z => by rw [z, hs] at e2; unfold CodeO at e2; cases e2)]; exact e2⟩
def spLaw (K : PySem.W.Frag) (Pt : Addr) : Sp := fun vs H Q _ => ∃ (a : Addr) (ns : List Int), vs = [.ref a] ∧ SqL K H a (ns.map V.int) ∧ ns.length ≤ 63 ∧ H Pt = some (.tbl #[]) ∧ ∀ H', Q (.bl true) H'
theorem ok_law {f : Addr} {oc : Value} {od : Option Addr} {dV kV doc pm : Value} {an : Option Addr} {ct : Value} {osl : Array (Option Value)} {c Pt : Addr} (lk : K.lookup f = some ⟨oc, od, .func (PySem.W.fnOf "law" "law" (defArgs s_law) (defBody s_law) (defScope s_law) dV kV doc pm an (.ref c) ct), osl⟩) (hcd : PySem.W.codeIn K (.ref c) "law" = true) (T : Txt K mg) (TB : TabB base mg c Pt)
    {g : Addr} {fdk : FuncData} (GK : FunG K mg "_law_kind" s_law_kind g fdk ["_law_work"]) (c_law_start : Cl P w K mg base CX0 1 "_law_start" (spStart K)) (c_law_drawn : Cl P w K mg base CX0 1 "_law_drawn" (spDrawn K)) (c_law_share : Cl P w K mg base CX0 2 "_law_share" (spShare K)) (c_law_frame : Cl P w K mg base CX0 3 "_law_frame" (spFrame K)) (c_law_due : Cl P w K mg base CX0 1 "_law_due" spDue)
    (c_with_runs : Cl P w K mg base (L2.CX P w) 3 "with_runs" (spWithRunsX K)) (c_law_same : Cl P w K mg base CX0 2 "_law_same" (spSame 1)) (c_runs : Cl P w K mg base CX0 2 "runs" (spRuns K)) (c_changes : Cl P w K mg base CX0 2 "changes" (spChanges K)) (c_law_runs : Cl P w K mg base CX0 1 "_law_runs" (spLRuns K)) (eBR : ErrK K "BadRuns" 4) (eNR : ErrK K "NoRoom" 5) :
    FnOk P w K mg base CX0 (5 + 1) f (PySem.W.fnOf "law" "law" (defArgs s_law) (defBody s_law) (defScope s_law) dV kV doc pm an (.ref c) ct) ["_law_script"] (spLaw K Pt) := by
  obtain ⟨ock, odk, kVk, dock, pmk, ank, cdvk, ctk, oslk, rfl, lkK, hcK⟩ := GK.fn.ex
  refine fn_of lk hcd sc_law (fun vs H Q E h => ?_) (fun A outer s H vs Q E hr h => ?_)
  · obtain ⟨a, ns, rfl, _⟩ := h
    rfl
  · obtain ⟨a, ns, rfl, hS, hlen, hPt, k⟩ := h
    refine ⟨_, PSs.nox (pss_cons (ps_set (i := 1) sc_law.nd rfl (.inl rfl) (pe_cl c_law_start hr (by decide) (by rfl) (pa_cons (pv 0) pa_nil)))
      (pss_cons (ps_for PassesOwn.never (by rfl) (pi_range1 (by rfl) T.b_range (pa_cons pe_int pa_nil)) (pg_name (i := 2) sc_law.nd rfl (.inl rfl)) (pss_cons (ps_asg (pe_cl c_law_share hr (by decide) (by rfl) (pa_cons (pv 1) pa_nil)) (pg_tup (by rfl) (pgs_cons (pg_name (i := 3) sc_law.nd rfl (.inr rfl)) (pgs_cons (pg_name (i := 4) sc_law.nd rfl (.inr rfl)) pgs_nil))))
      (pss_cons (ps_set (i := 5) sc_law.nd rfl (.inl rfl) (pe_callB (call_min2 rfl) (by rfl) T.b_min (by decide +kernel) (pa_cons (pv 4) (pa_cons (pe_op op_sub (pv 3) (pv 4)) pa_nil))))
      (pss_cons (ps_set (i := 6) sc_law.nd rfl (.inr rfl) (pe_lst (pa_cons (pv 5) (pa_cons (pe_op op_add (pv 5) pe_int) (pa_cons pe_int (pa_cons pe_int (pa_cons (pe_op op_sub (pe_op op_sub pe_int pe_int) (pe_cl c_law_drawn hr (by decide) (by rfl) (pa_cons (pv 1) (pa_cons pe_int pa_nil)))) (pa_cons (pe_cl c_law_drawn hr (by decide) (by rfl) (pa_cons (pv 1) (pa_cons (pe_op op_add (pv 5) pe_int) pa_nil))) (pa_cons (pe_op op_pow pe_int pe_int) pa_nil)))))))))
      (pss_cons (ps_set (i := 6) sc_law.nd rfl (.inr rfl) (pe_ix (ixL K) (pv 6) (pe_cl c_law_drawn hr (by decide) (by rfl) (pa_cons (pv 1) (pa_cons pe_int pa_nil))) (fun _ _ => rfl)))
      (pss_cons (ps_set (i := 7) sc_law.nd rfl (.inl rfl) (pe_cl c_law_due hr (by decide) (by rfl) (pa_cons (pv 3) (pa_cons (pv 4) (pa_cons (pv 6) pa_nil)))))
      (pss_cons (ps_for PassesOwn.never (by rfl) (pi_range1 (by rfl) T.b_range (pa_cons pe_int pa_nil)) (pg_name (i := 8) sc_law.nd rfl (.inl rfl)) (pss_cons (ps_set (i := 9) sc_law.nd rfl (.inl rfl) (pe_lamcall (T := [(Pt, lamQ)]) (k := 3) (P := Pt) (by rfl) GK.mgf GK.fn.kp lkK hcK GK.b sc_law_kind rfl (.inl rfl) (kind_gives T) TB rfl List.mem_cons_self (fun p hp _ => by rw [List.mem_singleton] at hp; subst hp; rfl) (hr.mono (by decide)) (lamS_by (sc := defScope s_law) (by decide +kernel)) rfl (fun _ _ _ _ _ => rfl) (fun A outer s H E f c2 hr => (pe_clT c_with_runs hr (by decide) (passes_call (takes_of rfl rfl rfl rfl) (fun _ _ _ _ h => h)) (by rfl) (pa_cons (pv 3) (pa_cons (pv 4) (pa_cons (pv 6) pa_nil)))))))
      (pss_cons (ps_if (pt_not (pt_val (pe_cl c_law_same hr (by decide) (by rfl) (pa_cons (pv 9) (pa_cons (pv 7) pa_nil))))) (pss_one (ps_ret pe_bl)) pss_nil)
      (pss_one (ps_if (pt_val (pe_callB call_isi (by rfl) T.b_isinstance (by decide +kernel) (pa_cons (pv 9) (pa_cons (pe_bltn (v := .ty "list") (u := .type "list") (by rfl) T.b_list (by decide +kernel) rfl) pa_nil)))) (pss_one (ps_expr (pe_bm PySem.F.plainAttrs_list PySem.F.slot_list_append PySem.F.type_list_append mt_append (pv 9) (pa_cons pe_int pa_nil)))) pss_nil)))))
      (pss_cons (ps_set (i := 10) sc_law.nd rfl (.inr rfl) (pe_cl c_law_frame hr (by decide) (by rfl) (pa_cons (pv 1) pa_nil)))
      (pss_cons (ps_setLc (i := 12) (own := [("_law_k", 11)]) (g := gName 11) rfl sc_law.nd rfl rfl (sw_true rfl rfl rfl (by decide +kernel)) (pi_range1 (by rfl) T.b_range (pa_cons (pe_callB (clLen K) (by rfl) T.b_len (by decide +kernel) (pa_cons (pv 10) pa_nil)) pa_nil)) (blkOk_by (own := [("_law_k", 11)]) (N := ["_law_script", "_law_state", "_law_turn", "_law_beats", "_law_pulses", "_law_most", "_law_many", "_law_due_here", "_law_again", "_law_found", "_law_frame_here", "_law_k", "_law_unlike", "_law_handed"]) (sc := defScope s_law) (by decide +kernel)) (fun _ _ _ _ _ => (pg_name (i := 11) sc_law.nd rfl (.inl rfl))) (fun _ _ _ _ _ => (pts_one (pt_cmpR op_eq (pe_op op_add (pe_ix (ixL K) (pv 10) (pv 11) (fun _ _ => rfl)) (pe_ix (ixL K) (pv 10) (pe_op op_sub (pv 11) pe_int) (fun _ _ => rfl))) pe_int (nomark _)))) (fun _ _ _ _ _ => (pv 11)))
      (pss_cons (ps_set (i := 13) sc_law.nd rfl (.inl rfl) (pe_callTy (clList K) (by rfl) T.b_list (by decide +kernel) (pa_cons (pv 10) pa_nil)))
      (pss_one (ps_if (PW.pt (pw_or (pt_not (pt_val (pe_cl c_law_same hr (by decide) (by rfl) (pa_cons (pe_lst (pa_cons (pe_cl c_runs hr (by decide) (by rfl) (pa_cons (pv 13) pa_nil)) (pa_cons (pe_cl c_changes hr (by decide) (by rfl) (pa_cons (pv 13) pa_nil)) pa_nil))) (pa_cons (pe_lst (pa_cons (pe_cl c_law_runs hr (by decide) (by rfl) (pa_cons (pv 10) pa_nil)) (pa_cons (pe_callB (clLen K) (by rfl) T.b_len (by decide +kernel) (pa_cons (pv 12) pa_nil)) pa_nil))) pa_nil))))) (pw_or1 (pt_cmpR (opNeD K hr.units) (pv 13) (pv 10) (nomark _))))) (pss_one (ps_ret pe_bl)) pss_nil))))))))))))
      (pss_one (ps_ret pe_bl)))), ?_⟩
    have hSm := noTab_sq hS
    have tb0 : Tabs [(Pt, lamQ)] H := fun p hp => by rw [List.mem_singleton] at hp; subst hp; exact TabS.nil hPt
    refine ⟨_, rfl, a, ns, rfl, hS, fun st m0 hst d0 => ?_⟩
    have hstm := noTab_none hst
    have s0 : SOk K a ns st (upd H st (StO a 0 m0 0)) := SOk.make hlen hS hst d0
    have e0 : Same (noTab H) (upd H st (StO a 0 m0 0)) := (noTab_same H).new hst
    have t0 : Tabs [(Pt, lamQ)] (upd H st (StO a 0 m0 0)) := tabs_same tb0 (Same.upd hst)
    generalize upd H st (StO a 0 m0 0) = H0 at s0 e0 t0
    refine ⟨_, rfl, by decide, by decide, for_range (lo := 0) (n := 10) (fun i σ H' => (∃ v2 v3 v4 v5 v6 v7 v8 v9 v10 v11 v12 v13 : Option V, σ = [some (.ref a), some (.ref st), v2, v3, v4, v5, v6, v7, v8, v9, v10, v11, v12, v13]) ∧ SOk K a ns st H' ∧ Same (noTab H) H' ∧ Tabs [(Pt, lamQ)] H')
      ⟨⟨none, none, none, none, none, none, none, none, none, none, none, none, rfl⟩, s0, e0, t0⟩ ?_ ?_⟩
    · rintro i σ H1 hi ⟨⟨v2, v3, v4, v5, v6, v7, v8, v9, v10, v11, v12, v13, rfl⟩, s1, e1, t1⟩
      refine ⟨_, rfl, st, a, ns, rfl, s1, fun b p t H2 b0 b1 p0 p1 ht k2 s2 ht2 => ⟨_, _, rfl, SqT.of ht2, rfl, ?_⟩⟩
      refine ⟨_, _, rfl, _, _, rfl, rfl, ?_⟩
      refine ⟨_, rfl, _, rfl, _, rfl, _, _, rfl, rfl, _, _, rfl, ?_⟩
      obtain ⟨M, hM⟩ : ∃ M : Int, M = if b - p < p then b - p else p := ⟨_, rfl⟩
      have hM1 : 0 ≤ M ∧ M ≤ p ∧ M ≤ b - p := by rw [hM]; omega
      rw [← hM]
      refine ⟨_, rfl, _, rfl, _, _, rfl, rfl, _, _, rfl, rfl, _, rfl, st, a, ns, 9, rfl, s2, by decide, by decide, fun x1 ia ma ca x10 x11 da => ⟨_, _, rfl, rfl, ?_⟩⟩
      have s3 := s2.drawn da
      have k3 := k2.atSt (o := StO a ia ma ca)
      generalize upd H2 st (StO a ia ma ca) = H3 at s3 k3
      refine ⟨_, rfl, _, rfl, _, _, rfl, rfl, st, a, ns, M + 2, rfl, s3, by omega, Int.lt_of_le_of_lt (show M + 2 ≤ 66 by omega) (by decide), fun x2 ib mb cb x20 x21 db => ⟨_, _, rfl, rfl, ⟨by decide, by decide, by decide⟩, (by show 7 ≤ sizeLine; decide), fun p4 hp4 => ?_⟩⟩
      have s4 := s3.drawn db
      have k4 := k3.atSt (o := StO a ib mb cb)
      generalize upd H3 st (StO a ib mb cb) = H4 at s4 k4 hp4
      have s5 := s4.new (o := .lst [.int M, .int (M + 1), .int 1, .int 0, .int (0 - 1 - x1), .int x2, .int (10 ^ (20 : Int).toNat)]) hp4
      have k5 := k4.new (o := .lst [.int M, .int (M + 1), .int 1, .int 0, .int (0 - 1 - x1), .int x2, .int (10 ^ (20 : Int).toNat)]) hp4
      have n5 := s4.ne_of hp4
      refine ⟨_, rfl, _, rfl, st, a, ns, 7, rfl, s5, by decide, by decide, fun y ic mc cc y0 y1 dc => ?_⟩
      have s6 := s5.drawn dc
      have k6 := k5.atSt (o := StO a ic mc cc)
      have hp6 : upd (upd H4 p4 (.lst [.int M, .int (M + 1), .int 1, .int 0, .int (0 - 1 - x1), .int x2, .int (10 ^ (20 : Int).toNat)])) st (StO a ic mc cc) p4 = some (.lst [.int M, .int (M + 1), .int 1, .int 0, .int (0 - 1 - x1), .int x2, .int (10 ^ (20 : Int).toNat)]) := by rw [upd_ne n5, upd_same]
      generalize upd (upd H4 p4 (.lst [.int M, .int (M + 1), .int 1, .int 0, .int (0 - 1 - x1), .int x2, .int (10 ^ (20 : Int).toNat)])) st (StO a ic mc cc) = H6 at s6 k6 hp6
      have e6 : Same (noTab H) H6 := e1.keepAll hstm k6
      have t6 := s1.tabs t1 k6
      have hat : ∃ v : Int, atI [V.int M, V.int (M + 1), V.int 1, V.int 0, V.int (0 - 1 - x1), V.int x2, V.int (10 ^ (20 : Int).toNat)] y = some (.int v) := by
        have : y = 0 ∨ y = 1 ∨ y = 2 ∨ y = 3 ∨ y = 4 ∨ y = 5 ∨ y = 6 := by omega
        rcases this with e | e | e | e | e | e | e <;> subst e <;> exact ⟨_, rfl⟩
      obtain ⟨m, hm⟩ := hat
      refine ⟨_, _, _, _, rfl, rfl, SqL.of hp6, hm, ?_⟩
      refine ⟨_, rfl, _, rfl, _, rfl, b, p, m, rfl, b0, b1, p0, p1, ?_⟩
      by_cases hneg : m < 0
      · refine .inl ⟨hneg, ?_⟩
        have hD6 : DueV b p m H6 (V.str "BadRuns") := .inl ⟨hneg, rfl⟩
        generalize V.str "BadRuns" = vd at hD6 ⊢
        refine ⟨_, rfl, by decide, by decide, for_range (lo := 0) (n := 2) (fun q σ H' => (∃ v8 v9 v10 v11 v12 v13 : Option V, σ = [some (.ref a), some (.ref st), some (.int (0 + (i : Int))), some (.int b), some (.int p), some (.int M), some (.int m), some vd, v8, v9, v10, v11, v12, v13]) ∧ SOk K a ns st H' ∧ Same (noTab H) H' ∧ Tabs [(Pt, lamQ)] H' ∧ DueV b p m H' vd)
          ⟨⟨v8, v9, v10, v11, v12, v13, rfl⟩, s6, e6, t6, hD6⟩ ?_ ?_⟩
        · rintro q σ H7 hq ⟨⟨v8, v9, v10, v11, v12, v13, rfl⟩, s7, e7, t7, hD7⟩
          refine ⟨t7, fun H8 eN tN => ?_⟩
          have s8 := s7.extN hSm hstm e7 eN
          have e8 := extN_same e7 eN
          refine ⟨_, rfl, _, rfl, _, rfl, b, p, m, rfl, b0, b1, p0, p1, ?_⟩
          rcases hD7 with ⟨h, hv⟩ | ⟨h, hr', hv⟩ | ⟨h, hr', ld, hv, hld⟩
          · refine .inl ⟨h, fun H9 e9 => ⟨"BadRuns", 4, rfl, rfl, eBR, fun Ha ea => ?_⟩⟩
            have e8a := e9.trans ea
            refine ⟨_, rfl, _, rfl, _, _, rfl, (by rw [hv]; exact .str 1 _), fun Hb eb => ⟨_, rfl, iteF ?_⟩⟩
            refine ⟨_, rfl, _, _, _, _, _, rfl, .ty _, (.base (.str _)), kit_ty (by decide +kernel : kitB "str" "list" = some false), _, rfl, iteF ?_⟩
            exact ⟨⟨_, _, _, _, _, _, rfl⟩, s8.same (e8a.trans eb), e8.trans (e8a.trans eb), tabs_same tN (e8a.trans eb), .inl ⟨h, hv⟩⟩
          · refine .inr (.inl ⟨h, hr', fun H9 e9 => ⟨"NoRoom", 5, rfl, rfl, eNR, fun Ha ea => ?_⟩⟩)
            have e8a := e9.trans ea
            refine ⟨_, rfl, _, rfl, _, _, rfl, (by rw [hv]; exact .str 1 _), fun Hb eb => ⟨_, rfl, iteF ?_⟩⟩
            refine ⟨_, rfl, _, _, _, _, _, rfl, .ty _, (.base (.str _)), kit_ty (by decide +kernel : kitB "str" "list" = some false), _, rfl, iteF ?_⟩
            exact ⟨⟨_, _, _, _, _, _, rfl⟩, s8.same (e8a.trans eb), e8.trans (e8a.trans eb), tabs_same tN (e8a.trans eb), .inr (.inl ⟨h, hr', hv⟩)⟩
          · have hld8 := eN _ _ hld fun _ z => nomatch z
            refine .inr (.inr ⟨h, hr', fun l H9 e9 hln hl9 => ?_⟩)
            have hlen2 := runF_len b0 b1 p0 p1 h hr'
            refine ⟨_, rfl, _, rfl, _, _, rfl, (by rw [hv]; exact .ints hl9 (e9 _ _ hld8) (by omega) 0), fun Hb eb => ⟨_, rfl, iteF ?_⟩⟩
            have hlb := eb _ _ hl9
            have e8b := e9.trans eb
            refine ⟨_, rfl, _, _, _, _, _, rfl, .ty _, (.base (.lst hlb)), kit_ty (by decide +kernel : kitB "list" "list" = some true), _, rfl, iteT ?_⟩
            refine ⟨_, rfl, .inl ⟨rfl, _, SqL.of hlb⟩, l, _, _, rfl, rfl, hlb, small_of (m := 64) (by rw [List.length_map]; omega), ?_⟩
            have hlld : ld ≠ l := ne_of_none hld8 hln
            have sb := s8.same e8b
            have eb' := e8.trans e8b
            have hnm : noTab H l = none := e8.free hln
            refine ⟨⟨_, _, _, _, _, _, rfl⟩, ?_, eb'.mut hnm, ?_, .inr (.inr ⟨h, hr', ld, hv, by rw [upd_ne hlld]; exact e8b _ _ hld8⟩)⟩
            · exact sb.mut hSm hstm eb' hnm (s8.ne_of hln)
            · exact tabs_keepL (tabs_same tN e8b) hlb
        · rintro σ H7 ⟨⟨v8, v9, v10, v11, v12, v13, rfl⟩, s7, e7, t7, hD7⟩
          refine ⟨_, rfl, st, a, ns, rfl, s7, fun fs l H8 hf hl k8 s8 hl8 => ?_⟩
          have e8 : Same (noTab H) H8 := e7.keepAll hstm k8
          have t8 := s7.tabs t7 k8
          have h0 := hf.pos
          have h64 := hf.le
          have hfl : (fs.map V.int).length = fs.length := List.length_map _
          refine ⟨_, rfl, _, _, rfl, .inl (SqL.of hl8), _, rfl, by rw [hfl]; omega, by rw [hfl]; omega, fun D hD => lc_range (lo := 0) (n := ((fs.map V.int).length : Int).toNat) (fun i H' => Same H8 H' ∧ H' D = some (.lst ((chgTo fs i).map fun k : Nat => V.int (k : Int)))) ⟨Same.upd hD, upd_same⟩ ?_ ?_⟩
          · rintro j H' hj ⟨e, hd⟩
            rw [hfl] at hj
            have hj : j < fs.length := by omega
            have hS' := SqL.of (K := K) (e _ _ hl8)
            refine ⟨rfl, _, rfl, _, rfl, _, _, _, _, rfl, rfl, hS', atV (j := j) (by omega) hj, _, rfl, _, rfl, _, _, rfl, rfl, _, _, _, _, rfl, rfl, hS', at_prv (k := j) (by omega) hj, _, _, rfl, rfl, rfl, _, rfl, ?_⟩
            rw [chgTo_succ]
            have hu := unlike_iff (hf.getD j) (prv_bit hf.getD j)
            by_cases c : fs.getD j 0 = prv fs j
            · rw [if_neg (fun z => z c)]
              exact iteFe (decide_eq_false fun z => hu.mp (V.int.inj z) c) ⟨e, hd⟩
            · rw [if_pos c]
              refine iteTe (decide_eq_true (congrArg V.int (hu.mpr c))) ⟨_, rfl, _, hd, small_of (m := 64) (by rw [List.length_map]; exact Nat.le_trans (chgTo_len _ _) (by omega)), e.mut hD, ?_⟩
              rw [upd_same, List.map_append, Int.zero_add]
              rfl
          · rintro H9 ⟨e9, hd9⟩
            rw [hfl, Int.toNat_natCast] at hd9
            have hl9 := e9 _ _ hl8
            refine ⟨_, rfl, _, _, rfl, .inl (SqL.of hl9), fun hn hhn => ?_⟩
            have ea : Same H9 (upd H9 hn (.lst (fs.map V.int))) := Same.upd hhn
            have hha : upd H9 hn (.lst (fs.map V.int)) hn = some (.lst (fs.map V.int)) := upd_same
            generalize upd H9 hn (.lst (fs.map V.int)) = Ha at ea hha
            refine ⟨_, rfl, hn, fs, rfl, SqL.of hha, hf, fun Hb eb => ⟨_, rfl, hn, fs, rfl, SqL.of (eb _ _ hha), hf, fun Hc ec => ⟨(by show 2 ≤ sizeLine; decide), fun q1 hq1 => ?_⟩⟩⟩
            have ebc := eb.trans ec
            have ed : Same Hc (upd Hc q1 (.lst [.int (runsN fs), .int ((chg fs : Nat) : Int)])) := Same.upd hq1
            have hq1d : upd Hc q1 (.lst [.int (runsN fs), .int ((chg fs : Nat) : Int)]) q1 = some (.lst [.int (runsN fs), .int ((chg fs : Nat) : Int)]) := upd_same
            generalize upd Hc q1 (.lst [.int (runsN fs), .int ((chg fs : Nat) : Int)]) = Hd at ed hq1d
            have e9d := (ea.trans ebc).trans ed
            refine ⟨_, rfl, l, fs, rfl, SqL.of (e9d _ _ hl9), hf, fun He ee => ?_⟩
            have e9e := e9d.trans ee
            have hde := e9e _ _ hd9
            refine ⟨_, rfl, _, _, rfl, .inl (SqL.of hde), (by show 2 ≤ sizeLine; decide), fun q2 hq2 => ?_⟩
            rw [List.length_map]
            have eg : Same He (upd He q2 (.lst [.int (runsN fs), .int ((chg fs : Nat) : Int)])) := Same.upd hq2
            have hq2g : upd He q2 (.lst [.int (runsN fs), .int ((chg fs : Nat) : Int)]) q2 = some (.lst [.int (runsN fs), .int ((chg fs : Nat) : Int)]) := upd_same
            have hsame : SameD (upd He q2 (.lst [.int (runsN fs), .int ((chg fs : Nat) : Int)])) 1 (.ref q1) (.ref q2) := .ints (ns := [runsN fs, ((chg fs : Nat) : Int)]) (eg _ _ (ee _ _ hq1d)) hq2g (by show 2 ≤ 1000; decide) 0
            refine ⟨_, _, rfl, hsame, fun Hh eh => ⟨_, rfl, iteF ?_⟩⟩
            have e9h := (e9e.trans eg).trans eh
            have eah := (((ebc.trans ed).trans ee).trans eg).trans eh
            refine ⟨_, rfl, _, rfl, _, _, dp_ints (SqL.of (eah _ _ hha)), dp_ints (SqL.of (e9h _ _ hl9)), dI_shaped _, dI_shaped _, _, rfl, ?_⟩
            refine iteFe (by rw [dI_eqv, decide_eq_true rfl]; rfl) ?_
            have e8h := e9.trans e9h
            exact ⟨⟨_, _, _, _, _, _, _, _, _, _, _, _, rfl⟩, s8.same e8h, e8.trans e8h, tabs_same t8 e8h⟩
      cases hroom : roomB b p m with
      | false =>
        refine .inr (.inl ⟨by omega, rfl, ?_⟩)
        have hD6 : DueV b p m H6 (V.str "NoRoom") := .inr (.inl ⟨by omega, hroom, rfl⟩)
        generalize V.str "NoRoom" = vd at hD6 ⊢
        refine ⟨_, rfl, by decide, by decide, for_range (lo := 0) (n := 2) (fun q σ H' => (∃ v8 v9 v10 v11 v12 v13 : Option V, σ = [some (.ref a), some (.ref st), some (.int (0 + (i : Int))), some (.int b), some (.int p), some (.int M), some (.int m), some vd, v8, v9, v10, v11, v12, v13]) ∧ SOk K a ns st H' ∧ Same (noTab H) H' ∧ Tabs [(Pt, lamQ)] H' ∧ DueV b p m H' vd)
          ⟨⟨v8, v9, v10, v11, v12, v13, rfl⟩, s6, e6, t6, hD6⟩ ?_ ?_⟩
        · rintro q σ H7 hq ⟨⟨v8, v9, v10, v11, v12, v13, rfl⟩, s7, e7, t7, hD7⟩
          refine ⟨t7, fun H8 eN tN => ?_⟩
          have s8 := s7.extN hSm hstm e7 eN
          have e8 := extN_same e7 eN
          refine ⟨_, rfl, _, rfl, _, rfl, b, p, m, rfl, b0, b1, p0, p1, ?_⟩
          rcases hD7 with ⟨h, hv⟩ | ⟨h, hr', hv⟩ | ⟨h, hr', ld, hv, hld⟩
          · refine .inl ⟨h, fun H9 e9 => ⟨"BadRuns", 4, rfl, rfl, eBR, fun Ha ea => ?_⟩⟩
            have e8a := e9.trans ea
            refine ⟨_, rfl, _, rfl, _, _, rfl, (by rw [hv]; exact .str 1 _), fun Hb eb => ⟨_, rfl, iteF ?_⟩⟩
            refine ⟨_, rfl, _, _, _, _, _, rfl, .ty _, (.base (.str _)), kit_ty (by decide +kernel : kitB "str" "list" = some false), _, rfl, iteF ?_⟩
            exact ⟨⟨_, _, _, _, _, _, rfl⟩, s8.same (e8a.trans eb), e8.trans (e8a.trans eb), tabs_same tN (e8a.trans eb), .inl ⟨h, hv⟩⟩
          · refine .inr (.inl ⟨h, hr', fun H9 e9 => ⟨"NoRoom", 5, rfl, rfl, eNR, fun Ha ea => ?_⟩⟩)
            have e8a := e9.trans ea
            refine ⟨_, rfl, _, rfl, _, _, rfl, (by rw [hv]; exact .str 1 _), fun Hb eb => ⟨_, rfl, iteF ?_⟩⟩
            refine ⟨_, rfl, _, _, _, _, _, rfl, .ty _, (.base (.str _)), kit_ty (by decide +kernel : kitB "str" "list" = some false), _, rfl, iteF ?_⟩
            exact ⟨⟨_, _, _, _, _, _, rfl⟩, s8.same (e8a.trans eb), e8.trans (e8a.trans eb), tabs_same tN (e8a.trans eb), .inr (.inl ⟨h, hr', hv⟩)⟩
          · have hld8 := eN _ _ hld fun _ z => nomatch z
            refine .inr (.inr ⟨h, hr', fun l H9 e9 hln hl9 => ?_⟩)
            have hlen2 := runF_len b0 b1 p0 p1 h hr'
            refine ⟨_, rfl, _, rfl, _, _, rfl, (by rw [hv]; exact .ints hl9 (e9 _ _ hld8) (by omega) 0), fun Hb eb => ⟨_, rfl, iteF ?_⟩⟩
            have hlb := eb _ _ hl9
            have e8b := e9.trans eb
            refine ⟨_, rfl, _, _, _, _, _, rfl, .ty _, (.base (.lst hlb)), kit_ty (by decide +kernel : kitB "list" "list" = some true), _, rfl, iteT ?_⟩
            refine ⟨_, rfl, .inl ⟨rfl, _, SqL.of hlb⟩, l, _, _, rfl, rfl, hlb, small_of (m := 64) (by rw [List.length_map]; omega), ?_⟩
            have hlld : ld ≠ l := ne_of_none hld8 hln
            have sb := s8.same e8b
            have eb' := e8.trans e8b
            have hnm : noTab H l = none := e8.free hln
            refine ⟨⟨_, _, _, _, _, _, rfl⟩, ?_, eb'.mut hnm, ?_, .inr (.inr ⟨h, hr', ld, hv, by rw [upd_ne hlld]; exact e8b _ _ hld8⟩)⟩
            · exact sb.mut hSm hstm eb' hnm (s8.ne_of hln)
            · exact tabs_keepL (tabs_same tN e8b) hlb
        · rintro σ H7 ⟨⟨v8, v9, v10, v11, v12, v13, rfl⟩, s7, e7, t7, hD7⟩
          refine ⟨_, rfl, st, a, ns, rfl, s7, fun fs l H8 hf hl k8 s8 hl8 => ?_⟩
          have e8 : Same (noTab H) H8 := e7.keepAll hstm k8
          have t8 := s7.tabs t7 k8
          have h0 := hf.pos
          have h64 := hf.le
          have hfl : (fs.map V.int).length = fs.length := List.length_map _
          refine ⟨_, rfl, _, _, rfl, .inl (SqL.of hl8), _, rfl, by rw [hfl]; omega, by rw [hfl]; omega, fun D hD => lc_range (lo := 0) (n := ((fs.map V.int).length : Int).toNat) (fun i H' => Same H8 H' ∧ H' D = some (.lst ((chgTo fs i).map fun k : Nat => V.int (k : Int)))) ⟨Same.upd hD, upd_same⟩ ?_ ?_⟩
          · rintro j H' hj ⟨e, hd⟩
            rw [hfl] at hj
            have hj : j < fs.length := by omega
            have hS' := SqL.of (K := K) (e _ _ hl8)
            refine ⟨rfl, _, rfl, _, rfl, _, _, _, _, rfl, rfl, hS', atV (j := j) (by omega) hj, _, rfl, _, rfl, _, _, rfl, rfl, _, _, _, _, rfl, rfl, hS', at_prv (k := j) (by omega) hj, _, _, rfl, rfl, rfl, _, rfl, ?_⟩
            rw [chgTo_succ]
            have hu := unlike_iff (hf.getD j) (prv_bit hf.getD j)
            by_cases c : fs.getD j 0 = prv fs j
            · rw [if_neg (fun z => z c)]
              exact iteFe (decide_eq_false fun z => hu.mp (V.int.inj z) c) ⟨e, hd⟩
            · rw [if_pos c]
              refine iteTe (decide_eq_true (congrArg V.int (hu.mpr c))) ⟨_, rfl, _, hd, small_of (m := 64) (by rw [List.length_map]; exact Nat.le_trans (chgTo_len _ _) (by omega)), e.mut hD, ?_⟩
              rw [upd_same, List.map_append, Int.zero_add]
              rfl
          · rintro H9 ⟨e9, hd9⟩
            rw [hfl, Int.toNat_natCast] at hd9
            have hl9 := e9 _ _ hl8
            refine ⟨_, rfl, _, _, rfl, .inl (SqL.of hl9), fun hn hhn => ?_⟩
            have ea : Same H9 (upd H9 hn (.lst (fs.map V.int))) := Same.upd hhn
            have hha : upd H9 hn (.lst (fs.map V.int)) hn = some (.lst (fs.map V.int)) := upd_same
            generalize upd H9 hn (.lst (fs.map V.int)) = Ha at ea hha
            refine ⟨_, rfl, hn, fs, rfl, SqL.of hha, hf, fun Hb eb => ⟨_, rfl, hn, fs, rfl, SqL.of (eb _ _ hha), hf, fun Hc ec => ⟨(by show 2 ≤ sizeLine; decide), fun q1 hq1 => ?_⟩⟩⟩
            have ebc := eb.trans ec
            have ed : Same Hc (upd Hc q1 (.lst [.int (runsN fs), .int ((chg fs : Nat) : Int)])) := Same.upd hq1
            have hq1d : upd Hc q1 (.lst [.int (runsN fs), .int ((chg fs : Nat) : Int)]) q1 = some (.lst [.int (runsN fs), .int ((chg fs : Nat) : Int)]) := upd_same
            generalize upd Hc q1 (.lst [.int (runsN fs), .int ((chg fs : Nat) : Int)]) = Hd at ed hq1d
            have e9d := (ea.trans ebc).trans ed
            refine ⟨_, rfl, l, fs, rfl, SqL.of (e9d _ _ hl9), hf, fun He ee => ?_⟩
            have e9e := e9d.trans ee
            have hde := e9e _ _ hd9
            refine ⟨_, rfl, _, _, rfl, .inl (SqL.of hde), (by show 2 ≤ sizeLine; decide), fun q2 hq2 => ?_⟩
            rw [List.length_map]
            have eg : Same He (upd He q2 (.lst [.int (runsN fs), .int ((chg fs : Nat) : Int)])) := Same.upd hq2
            have hq2g : upd He q2 (.lst [.int (runsN fs), .int ((chg fs : Nat) : Int)]) q2 = some (.lst [.int (runsN fs), .int ((chg fs : Nat) : Int)]) := upd_same
            have hsame : SameD (upd He q2 (.lst [.int (runsN fs), .int ((chg fs : Nat) : Int)])) 1 (.ref q1) (.ref q2) := .ints (ns := [runsN fs, ((chg fs : Nat) : Int)]) (eg _ _ (ee _ _ hq1d)) hq2g (by show 2 ≤ 1000; decide) 0
            refine ⟨_, _, rfl, hsame, fun Hh eh => ⟨_, rfl, iteF ?_⟩⟩
            have e9h := (e9e.trans eg).trans eh
            have eah := (((ebc.trans ed).trans ee).trans eg).trans eh
            refine ⟨_, rfl, _, rfl, _, _, dp_ints (SqL.of (eah _ _ hha)), dp_ints (SqL.of (e9h _ _ hl9)), dI_shaped _, dI_shaped _, _, rfl, ?_⟩
            refine iteFe (by rw [dI_eqv, decide_eq_true rfl]; rfl) ?_
            have e8h := e9.trans e9h
            exact ⟨⟨_, _, _, _, _, _, _, _, _, _, _, _, rfl⟩, s8.same e8h, e8.trans e8h, tabs_same t8 e8h⟩
      | true =>
        refine .inr (.inr ⟨by omega, rfl, fun ld Hx ex hldn hld => ?_⟩)
        have hD6 : DueV b p m Hx (V.ref ld) := .inr (.inr ⟨by omega, hroom, ld, rfl, hld⟩)
        have s6 := s6.same ex
        have e6 := e6.trans ex
        have t6 := tabs_same t6 ex
        clear hp6 k6
        generalize Hx = H6 at *
        generalize V.ref ld = vd at hD6 ⊢
        refine ⟨_, rfl, by decide, by decide, for_range (lo := 0) (n := 2) (fun q σ H' => (∃ v8 v9 v10 v11 v12 v13 : Option V, σ = [some (.ref a), some (.ref st), some (.int (0 + (i : Int))), some (.int b), some (.int p), some (.int M), some (.int m), some vd, v8, v9, v10, v11, v12, v13]) ∧ SOk K a ns st H' ∧ Same (noTab H) H' ∧ Tabs [(Pt, lamQ)] H' ∧ DueV b p m H' vd)
          ⟨⟨v8, v9, v10, v11, v12, v13, rfl⟩, s6, e6, t6, hD6⟩ ?_ ?_⟩
        · rintro q σ H7 hq ⟨⟨v8, v9, v10, v11, v12, v13, rfl⟩, s7, e7, t7, hD7⟩
          refine ⟨t7, fun H8 eN tN => ?_⟩
          have s8 := s7.extN hSm hstm e7 eN
          have e8 := extN_same e7 eN
          refine ⟨_, rfl, _, rfl, _, rfl, b, p, m, rfl, b0, b1, p0, p1, ?_⟩
          rcases hD7 with ⟨h, hv⟩ | ⟨h, hr', hv⟩ | ⟨h, hr', ld, hv, hld⟩
          · refine .inl ⟨h, fun H9 e9 => ⟨"BadRuns", 4, rfl, rfl, eBR, fun Ha ea => ?_⟩⟩
            have e8a := e9.trans ea
            refine ⟨_, rfl, _, rfl, _, _, rfl, (by rw [hv]; exact .str 1 _), fun Hb eb => ⟨_, rfl, iteF ?_⟩⟩
            refine ⟨_, rfl, _, _, _, _, _, rfl, .ty _, (.base (.str _)), kit_ty (by decide +kernel : kitB "str" "list" = some false), _, rfl, iteF ?_⟩
            exact ⟨⟨_, _, _, _, _, _, rfl⟩, s8.same (e8a.trans eb), e8.trans (e8a.trans eb), tabs_same tN (e8a.trans eb), .inl ⟨h, hv⟩⟩
          · refine .inr (.inl ⟨h, hr', fun H9 e9 => ⟨"NoRoom", 5, rfl, rfl, eNR, fun Ha ea => ?_⟩⟩)
            have e8a := e9.trans ea
            refine ⟨_, rfl, _, rfl, _, _, rfl, (by rw [hv]; exact .str 1 _), fun Hb eb => ⟨_, rfl, iteF ?_⟩⟩
            refine ⟨_, rfl, _, _, _, _, _, rfl, .ty _, (.base (.str _)), kit_ty (by decide +kernel : kitB "str" "list" = some false), _, rfl, iteF ?_⟩
            exact ⟨⟨_, _, _, _, _, _, rfl⟩, s8.same (e8a.trans eb), e8.trans (e8a.trans eb), tabs_same tN (e8a.trans eb), .inr (.inl ⟨h, hr', hv⟩)⟩
          · have hld8 := eN _ _ hld fun _ z => nomatch z
            refine .inr (.inr ⟨h, hr', fun l H9 e9 hln hl9 => ?_⟩)
            have hlen2 := runF_len b0 b1 p0 p1 h hr'
            refine ⟨_, rfl, _, rfl, _, _, rfl, (by rw [hv]; exact .ints hl9 (e9 _ _ hld8) (by omega) 0), fun Hb eb => ⟨_, rfl, iteF ?_⟩⟩
            have hlb := eb _ _ hl9
            have e8b := e9.trans eb
            refine ⟨_, rfl, _, _, _, _, _, rfl, .ty _, (.base (.lst hlb)), kit_ty (by decide +kernel : kitB "list" "list" = some true), _, rfl, iteT ?_⟩
            refine ⟨_, rfl, .inl ⟨rfl, _, SqL.of hlb⟩, l, _, _, rfl, rfl, hlb, small_of (m := 64) (by rw [List.length_map]; omega), ?_⟩
            have hlld : ld ≠ l := ne_of_none hld8 hln
            have sb := s8.same e8b
            have eb' := e8.trans e8b
            have hnm : noTab H l = none := e8.free hln
            refine ⟨⟨_, _, _, _, _, _, rfl⟩, ?_, eb'.mut hnm, ?_, .inr (.inr ⟨h, hr', ld, hv, by rw [upd_ne hlld]; exact e8b _ _ hld8⟩)⟩
            · exact sb.mut hSm hstm eb' hnm (s8.ne_of hln)
            · exact tabs_keepL (tabs_same tN e8b) hlb
        · rintro σ H7 ⟨⟨v8, v9, v10, v11, v12, v13, rfl⟩, s7, e7, t7, hD7⟩
          refine ⟨_, rfl, st, a, ns, rfl, s7, fun fs l H8 hf hl k8 s8 hl8 => ?_⟩
          have e8 : Same (noTab H) H8 := e7.keepAll hstm k8
          have t8 := s7.tabs t7 k8
          have h0 := hf.pos
          have h64 := hf.le
          have hfl : (fs.map V.int).length = fs.length := List.length_map _
          refine ⟨_, rfl, _, _, rfl, .inl (SqL.of hl8), _, rfl, by rw [hfl]; omega, by rw [hfl]; omega, fun D hD => lc_range (lo := 0) (n := ((fs.map V.int).length : Int).toNat) (fun i H' => Same H8 H' ∧ H' D = some (.lst ((chgTo fs i).map fun k : Nat => V.int (k : Int)))) ⟨Same.upd hD, upd_same⟩ ?_ ?_⟩
          · rintro j H' hj ⟨e, hd⟩
            rw [hfl] at hj
            have hj : j < fs.length := by omega
            have hS' := SqL.of (K := K) (e _ _ hl8)
            refine ⟨rfl, _, rfl, _, rfl, _, _, _, _, rfl, rfl, hS', atV (j := j) (by omega) hj, _, rfl, _, rfl, _, _, rfl, rfl, _, _, _, _, rfl, rfl, hS', at_prv (k := j) (by omega) hj, _, _, rfl, rfl, rfl, _, rfl, ?_⟩
            rw [chgTo_succ]
            have hu := unlike_iff (hf.getD j) (prv_bit hf.getD j)
            by_cases c : fs.getD j 0 = prv fs j
            · rw [if_neg (fun z => z c)]
              exact iteFe (decide_eq_false fun z => hu.mp (V.int.inj z) c) ⟨e, hd⟩
            · rw [if_pos c]
              refine iteTe (decide_eq_true (congrArg V.int (hu.mpr c))) ⟨_, rfl, _, hd, small_of (m := 64) (by rw [List.length_map]; exact Nat.le_trans (chgTo_len _ _) (by omega)), e.mut hD, ?_⟩
              rw [upd_same, List.map_append, Int.zero_add]
              rfl
          · rintro H9 ⟨e9, hd9⟩
            rw [hfl, Int.toNat_natCast] at hd9
            have hl9 := e9 _ _ hl8
            refine ⟨_, rfl, _, _, rfl, .inl (SqL.of hl9), fun hn hhn => ?_⟩
            have ea : Same H9 (upd H9 hn (.lst (fs.map V.int))) := Same.upd hhn
            have hha : upd H9 hn (.lst (fs.map V.int)) hn = some (.lst (fs.map V.int)) := upd_same
            generalize upd H9 hn (.lst (fs.map V.int)) = Ha at ea hha
            refine ⟨_, rfl, hn, fs, rfl, SqL.of hha, hf, fun Hb eb => ⟨_, rfl, hn, fs, rfl, SqL.of (eb _ _ hha), hf, fun Hc ec => ⟨(by show 2 ≤ sizeLine; decide), fun q1 hq1 => ?_⟩⟩⟩
            have ebc := eb.trans ec
            have ed : Same Hc (upd Hc q1 (.lst [.int (runsN fs), .int ((chg fs : Nat) : Int)])) := Same.upd hq1
            have hq1d : upd Hc q1 (.lst [.int (runsN fs), .int ((chg fs : Nat) : Int)]) q1 = some (.lst [.int (runsN fs), .int ((chg fs : Nat) : Int)]) := upd_same
            generalize upd Hc q1 (.lst [.int (runsN fs), .int ((chg fs : Nat) : Int)]) = Hd at ed hq1d
            have e9d := (ea.trans ebc).trans ed
            refine ⟨_, rfl, l, fs, rfl, SqL.of (e9d _ _ hl9), hf, fun He ee => ?_⟩
            have e9e := e9d.trans ee
            have hde := e9e _ _ hd9
            refine ⟨_, rfl, _, _, rfl, .inl (SqL.of hde), (by show 2 ≤ sizeLine; decide), fun q2 hq2 => ?_⟩
            rw [List.length_map]
            have eg : Same He (upd He q2 (.lst [.int (runsN fs), .int ((chg fs : Nat) : Int)])) := Same.upd hq2
            have hq2g : upd He q2 (.lst [.int (runsN fs), .int ((chg fs : Nat) : Int)]) q2 = some (.lst [.int (runsN fs), .int ((chg fs : Nat) : Int)]) := upd_same
            have hsame : SameD (upd He q2 (.lst [.int (runsN fs), .int ((chg fs : Nat) : Int)])) 1 (.ref q1) (.ref q2) := .ints (ns := [runsN fs, ((chg fs : Nat) : Int)]) (eg _ _ (ee _ _ hq1d)) hq2g (by show 2 ≤ 1000; decide) 0
            refine ⟨_, _, rfl, hsame, fun Hh eh => ⟨_, rfl, iteF ?_⟩⟩
            have e9h := (e9e.trans eg).trans eh
            have eah := (((ebc.trans ed).trans ee).trans eg).trans eh
            refine ⟨_, rfl, _, rfl, _, _, dp_ints (SqL.of (eah _ _ hha)), dp_ints (SqL.of (e9h _ _ hl9)), dI_shaped _, dI_shaped _, _, rfl, ?_⟩
            refine iteFe (by rw [dI_eqv, decide_eq_true rfl]; rfl) ?_
            have e8h := e9.trans e9h
            exact ⟨⟨_, _, _, _, _, _, _, _, _, _, _, _, rfl⟩, s8.same e8h, e8.trans e8h, tabs_same t8 e8h⟩
    · rintro σ H1 ⟨⟨v2, v3, v4, v5, v6, v7, v8, v9, v10, v11, v12, v13, rfl⟩, s1, e1, t1⟩
      exact k _
end
end My

namespace My
open PySem PySem.Spec PyProof.Rows LamX L2
def dd_law_start : He.DefD := ⟨("_law_start", none), "_law_start", "_law_start", defArgs s_law_start, defBody s_law_start, defScope s_law_start, [], []⟩
def dd_law_drawn : He.DefD := ⟨("_law_drawn", none), "_law_drawn", "_law_drawn", defArgs s_law_drawn, defBody s_law_drawn, defScope s_law_drawn, [], []⟩
def dd_law_share : He.DefD := ⟨("_law_share", none), "_law_share", "_law_share", defArgs s_law_share, defBody s_law_share, defScope s_law_share, [], []⟩
def dd_law_even : He.DefD := ⟨("_law_even", none), "_law_even", "_law_even", defArgs s_law_even, defBody s_law_even, defScope s_law_even, [], []⟩
def dd_law_kind : He.DefD := ⟨("_law_kind", none), "_law_kind", "_law_kind", defArgs s_law_kind, defBody s_law_kind, defScope s_law_kind, [], []⟩
def dd_need_beats : He.DefD := ⟨("need_beats", none), "need_beats", "need_beats", defArgs s_need_beats, defBody s_need_beats, defScope s_need_beats, [], []⟩
def dd_need_share : He.DefD := ⟨("need_share", none), "need_share", "need_share", defArgs s_need_share, defBody s_need_share, defScope s_need_share, [], []⟩
def dd_law_frame : He.DefD := ⟨("_law_frame", none), "_law_frame", "_law_frame", defArgs s_law_frame, defBody s_law_frame, defScope s_law_frame, [], []⟩
def dd_need_frame : He.DefD := ⟨("need_frame", none), "need_frame", "need_frame", defArgs s_need_frame, defBody s_need_frame, defScope s_need_frame, [], []⟩
def dd_changes_of : He.DefD := ⟨("changes_of", none), "changes_of", "changes_of", defArgs s_changes_of, defBody s_changes_of, defScope s_changes_of, [], []⟩
def dd_changes : He.DefD := ⟨("changes", none), "changes", "changes", defArgs s_changes, defBody s_changes, defScope s_changes, [], []⟩
def dd_runs : He.DefD := ⟨("runs", none), "runs", "runs", defArgs s_runs, defBody s_runs, defScope s_runs, [], []⟩
def dd_parted : He.DefD := ⟨("parted", none), "parted", "parted", defArgs s_parted, defBody s_parted, defScope s_parted, [], []⟩
def dd_is_room : He.DefD := ⟨("is_room", none), "is_room", "is_room", defArgs s_is_room, defBody s_is_room, defScope s_is_room, [], []⟩
def dd_with_runs : He.DefD := ⟨("with_runs", none), "with_runs", "with_runs", defArgs s_with_runs, defBody s_with_runs, defScope s_with_runs, [], []⟩
def dd_law_due : He.DefD := ⟨("_law_due", none), "_law_due", "_law_due", defArgs s_law_due, defBody s_law_due, defScope s_law_due, [], []⟩
def dd_law_runs : He.DefD := ⟨("_law_runs", none), "_law_runs", "_law_runs", defArgs s_law_runs, defBody s_law_runs, defScope s_law_runs, [], []⟩
def dd_law_same : He.DefD := ⟨("_law_same", none), "_law_same", "_law_same", defArgs s_law_same, defBody s_law_same, defScope s_law_same, [], []⟩
def dd_law : He.DefD := ⟨("law", none), "law", "law", defArgs s_law, defBody s_law, defScope s_law, [], []⟩
def hfn : List He.DefD := [dd_law_start, dd_law_drawn, dd_law_share, dd_law_even, dd_law_kind, dd_need_beats, dd_need_share, dd_law_frame, dd_need_frame, dd_changes_of, dd_changes, dd_runs, dd_parted, dd_is_room, dd_with_runs, dd_law_due, dd_law_runs, dd_law_same, dd_law]
def hfa : List He.Fa := [.glo "_law_start", .glo "_law_drawn", .glo "_law_share", .glo "_law_even", .glo "_law_kind", .glo "need_beats", .glo "need_share", .glo "_law_frame", .glo "need_frame", .glo "changes_of", .glo "changes", .glo "runs", .glo "parted", .glo "is_room", .glo "with_runs", .glo "_law_due", .glo "_law_runs", .glo "_law_same", .glo "law", .glo "BadBegins", .glo "BadFrame", .glo "BadRuns", .glo "BadShare", .glo "BadText", .glo "BadWidth", .glo "NoRoom", .glo "PulseError", .exc "BadRuns", .exc "NoRoom", .exm "BadRuns" "PulseError" true, .exm "NoRoom" "PulseError" true, .int "MOST_BEATS" 64, .free "ValueError", .free "bool", .free "int", .free "isinstance", .free "len", .free "list", .free "min", .free "range", .free "str", .free "tuple", .free "zip"]
def exL (K : PySem.W.Frag) : List Bool := [decide (PySem.W.specialIn K (.builtin "object.__class__") "__get__" = some (some (.builtin "getset_descriptor.__get__"))),
  decide (PySem.W.takesIn K (.builtin "object.__class__") = some true),
  decide (PySem.W.findIn K (.ref (He.ga K "BadRuns")) "__getattribute__" = some (some (.builtin "BaseException.__getattribute__"))),
  decide (PySem.W.findIn K (.ref (He.ga K "BadRuns")) "__getattr__" = some none),
  decide (PySem.W.subIn K (.ref (He.ga K "BadRuns")) (.type "BaseException") = some true),
  PySem.W.hasDictIn K (He.ga K "BadRuns"),
  decide (PySem.W.findIn K (.ref (He.ga K "BadRuns")) "__class__" = some (some (.builtin "object.__class__"))),
  decide (PySem.W.mroIn K (He.ga K "BadRuns") (.type "object") = some true),
  decide (PySem.W.kitOne K (.ref (He.ga K "BadRuns")) (.ref (He.ga K "BadFrame")) = some (decide (4 = 0))),
  decide (PySem.W.kitOne K (.ref (He.ga K "BadRuns")) (.ref (He.ga K "BadShare")) = some (decide (4 = 1))),
  decide (PySem.W.kitOne K (.ref (He.ga K "BadRuns")) (.ref (He.ga K "BadWidth")) = some (decide (4 = 2))),
  decide (PySem.W.kitOne K (.ref (He.ga K "BadRuns")) (.ref (He.ga K "BadBegins")) = some (decide (4 = 3))),
  decide (PySem.W.kitOne K (.ref (He.ga K "BadRuns")) (.ref (He.ga K "BadRuns")) = some (decide (4 = 4))),
  decide (PySem.W.kitOne K (.ref (He.ga K "BadRuns")) (.ref (He.ga K "NoRoom")) = some (decide (4 = 5))),
  decide (PySem.W.kitOne K (.ref (He.ga K "BadRuns")) (.ref (He.ga K "BadText")) = some (decide (4 = 6))),
  decide (PySem.W.kitOne K (.ref (He.ga K "BadRuns")) (.type "ValueError") = some true),
  decide (PySem.W.findIn K (.ref (He.ga K "NoRoom")) "__getattribute__" = some (some (.builtin "BaseException.__getattribute__"))),
  decide (PySem.W.findIn K (.ref (He.ga K "NoRoom")) "__getattr__" = some none),
  decide (PySem.W.subIn K (.ref (He.ga K "NoRoom")) (.type "BaseException") = some true),
  PySem.W.hasDictIn K (He.ga K "NoRoom"),
  decide (PySem.W.findIn K (.ref (He.ga K "NoRoom")) "__class__" = some (some (.builtin "object.__class__"))),
  decide (PySem.W.mroIn K (He.ga K "NoRoom") (.type "object") = some true),
  decide (PySem.W.kitOne K (.ref (He.ga K "NoRoom")) (.ref (He.ga K "BadFrame")) = some (decide (5 = 0))),
  decide (PySem.W.kitOne K (.ref (He.ga K "NoRoom")) (.ref (He.ga K "BadShare")) = some (decide (5 = 1))),
  decide (PySem.W.kitOne K (.ref (He.ga K "NoRoom")) (.ref (He.ga K "BadWidth")) = some (decide (5 = 2))),
  decide (PySem.W.kitOne K (.ref (He.ga K "NoRoom")) (.ref (He.ga K "BadBegins")) = some (decide (5 = 3))),
  decide (PySem.W.kitOne K (.ref (He.ga K "NoRoom")) (.ref (He.ga K "BadRuns")) = some (decide (5 = 4))),
  decide (PySem.W.kitOne K (.ref (He.ga K "NoRoom")) (.ref (He.ga K "NoRoom")) = some (decide (5 = 5))),
  decide (PySem.W.kitOne K (.ref (He.ga K "NoRoom")) (.ref (He.ga K "BadText")) = some (decide (5 = 6))),
  decide (PySem.W.kitOne K (.ref (He.ga K "NoRoom")) (.type "ValueError") = some true)]
def hex (K : PySem.W.Frag) : Bool := (exL K).all id
theorem hex_at {K : PySem.W.Frag} (h : hex K = true) (i : Nat) {b : Bool} (e : (exL K)[i]? = some b := by rfl) : b = true := List.all_eq_true.mp h b (List.mem_of_getElem? e)
abbrev hR : PySem.W.OpenRow := PySem.W.OpenLaw.row PySem.Challenge.rw_pulseshare_k12_frames_of_told_runs
abbrev hkk : PySem.W.Hook := He.hookX 4 hfa hfn [] [("law", none)] hex
def hob (s : PySem.W.SharedT) : He.AlX := He.obsX 4 hfa hfn [] [("law", none)] hex (HandSHeadRun.getT s)
theorem hob_eq (s : PySem.W.SharedT) : hob s = hkk.obs s.abs := He.obsX_eq (HandSHeadRun.getT_eq s)
theorem hrun (w : World) : HandSHeadRun.RunEq hR (PySem.W.view hR.prog [31]) hkk hob 4000 ["PulseError", "BadFrame", "BadShare", "BadWidth", "BadBegins", "BadRuns", "NoRoom", "BadText", "MOST_BEATS", "need_frame", "need_beats", "need_share", "changes_of", "changes", "runs", "parted", "is_room", "with_runs", "_law_start", "_law_drawn", "_law_same", "_law_kind", "_law_share", "_law_frame", "_law_even", "_law_due", "_law_runs"] w := by
  intro os
  kernel_rfl
theorem fun_of_D {K : PySem.W.Frag} {x q : Str} {st : Stmt} {f : Addr} {fd : FuncData} (F : FunD K x q (defArgs st) (defBody st) (defScope st) [] [] f fd) : Fun K x q st f fd := by
  obtain ⟨oc, od, dV, kV, doc, pm, an, cdv, ct, osl, e, lk, hcd, hD, hK⟩ := F.ex
  rcases hD with ⟨_, e2⟩ | ⟨e2, _⟩
  · subst e2
    exact ⟨⟨oc, od, kV, doc, pm, an, cdv, ct, osl, e, lk, hcd⟩, F.kp⟩
  · exact absurd rfl e2
theorem facts {l : PySem.W.OpenLaw} {w : World} {K : PySem.W.Frag} {h : Heap} {mg : Str → Option Value} {fa : Addr} (KX : K.In h) (G : h.Ns mainGlobals mg) (hmg : mg ("law" : Str) = some (.ref fa)) (c : He.SaysX hfa hfn [] [("law", none)] hex w h K) : LawAtS l w K CX0 6 63 "_law_script" mg fa h := by
  obtain ⟨fd_law_start, FD_law_start⟩ := c.t.d.def_ 0 (d := dd_law_start) rfl
  have G_law_start : FunG K mg "_law_start" s_law_start (He.ga K "_law_start") fd_law_start ["_law_script"] := ⟨fun_of_D FD_law_start, He.glo_ok KX G (c.t.d.fact 0 (f := .glo "_law_start") rfl), FunD.bindsN (ps := ["_law_script"]) FD_law_start fun _ _ _ _ _ _ us hl => match us, hl with | [_], _ => rfl⟩
  obtain ⟨fd_law_drawn, FD_law_drawn⟩ := c.t.d.def_ 1 (d := dd_law_drawn) rfl
  have G_law_drawn : FunG K mg "_law_drawn" s_law_drawn (He.ga K "_law_drawn") fd_law_drawn ["_law_state", "_law_many"] := ⟨fun_of_D FD_law_drawn, He.glo_ok KX G (c.t.d.fact 1 (f := .glo "_law_drawn") rfl), FunD.bindsN (ps := ["_law_state", "_law_many"]) FD_law_drawn fun _ _ _ _ _ _ us hl => match us, hl with | [_, _], _ => rfl⟩
  obtain ⟨fd_law_share, FD_law_share⟩ := c.t.d.def_ 2 (d := dd_law_share) rfl
  have G_law_share : FunG K mg "_law_share" s_law_share (He.ga K "_law_share") fd_law_share ["_law_state"] := ⟨fun_of_D FD_law_share, He.glo_ok KX G (c.t.d.fact 2 (f := .glo "_law_share") rfl), FunD.bindsN (ps := ["_law_state"]) FD_law_share fun _ _ _ _ _ _ us hl => match us, hl with | [_], _ => rfl⟩
  obtain ⟨fd_law_even, FD_law_even⟩ := c.t.d.def_ 3 (d := dd_law_even) rfl
  have G_law_even : FunG K mg "_law_even" s_law_even (He.ga K "_law_even") fd_law_even ["_law_beats", "_law_pulses", "_law_turn"] := ⟨fun_of_D FD_law_even, He.glo_ok KX G (c.t.d.fact 3 (f := .glo "_law_even") rfl), FunD.bindsN (ps := ["_law_beats", "_law_pulses", "_law_turn"]) FD_law_even fun _ _ _ _ _ _ us hl => match us, hl with | [_, _, _], _ => rfl⟩
  obtain ⟨fd_law_kind, FD_law_kind⟩ := c.t.d.def_ 4 (d := dd_law_kind) rfl
  have G_law_kind : FunG K mg "_law_kind" s_law_kind (He.ga K "_law_kind") fd_law_kind ["_law_work"] := ⟨fun_of_D FD_law_kind, He.glo_ok KX G (c.t.d.fact 4 (f := .glo "_law_kind") rfl), FunD.bindsN (ps := ["_law_work"]) FD_law_kind fun _ _ _ _ _ _ us hl => match us, hl with | [_], _ => rfl⟩
  obtain ⟨fd_need_beats, FD_need_beats⟩ := c.t.d.def_ 5 (d := dd_need_beats) rfl
  have G_need_beats : FunG K mg "need_beats" s_need_beats (He.ga K "need_beats") fd_need_beats ["beats"] := ⟨fun_of_D FD_need_beats, He.glo_ok KX G (c.t.d.fact 5 (f := .glo "need_beats") rfl), FunD.bindsN (ps := ["beats"]) FD_need_beats fun _ _ _ _ _ _ us hl => match us, hl with | [_], _ => rfl⟩
  obtain ⟨fd_need_share, FD_need_share⟩ := c.t.d.def_ 6 (d := dd_need_share) rfl
  have G_need_share : FunG K mg "need_share" s_need_share (He.ga K "need_share") fd_need_share ["beats", "pulses"] := ⟨fun_of_D FD_need_share, He.glo_ok KX G (c.t.d.fact 6 (f := .glo "need_share") rfl), FunD.bindsN (ps := ["beats", "pulses"]) FD_need_share fun _ _ _ _ _ _ us hl => match us, hl with | [_, _], _ => rfl⟩
  obtain ⟨fd_law_frame, FD_law_frame⟩ := c.t.d.def_ 7 (d := dd_law_frame) rfl
  have G_law_frame : FunG K mg "_law_frame" s_law_frame (He.ga K "_law_frame") fd_law_frame ["_law_state"] := ⟨fun_of_D FD_law_frame, He.glo_ok KX G (c.t.d.fact 7 (f := .glo "_law_frame") rfl), FunD.bindsN (ps := ["_law_state"]) FD_law_frame fun _ _ _ _ _ _ us hl => match us, hl with | [_], _ => rfl⟩
  obtain ⟨fd_need_frame, FD_need_frame⟩ := c.t.d.def_ 8 (d := dd_need_frame) rfl
  have G_need_frame : FunG K mg "need_frame" s_need_frame (He.ga K "need_frame") fd_need_frame ["frame"] := ⟨fun_of_D FD_need_frame, He.glo_ok KX G (c.t.d.fact 8 (f := .glo "need_frame") rfl), FunD.bindsN (ps := ["frame"]) FD_need_frame fun _ _ _ _ _ _ us hl => match us, hl with | [_], _ => rfl⟩
  obtain ⟨fd_changes_of, FD_changes_of⟩ := c.t.d.def_ 9 (d := dd_changes_of) rfl
  have G_changes_of : FunG K mg "changes_of" s_changes_of (He.ga K "changes_of") fd_changes_of ["frame"] := ⟨fun_of_D FD_changes_of, He.glo_ok KX G (c.t.d.fact 9 (f := .glo "changes_of") rfl), FunD.bindsN (ps := ["frame"]) FD_changes_of fun _ _ _ _ _ _ us hl => match us, hl with | [_], _ => rfl⟩
  obtain ⟨fd_changes, FD_changes⟩ := c.t.d.def_ 10 (d := dd_changes) rfl
  have G_changes : FunG K mg "changes" s_changes (He.ga K "changes") fd_changes ["frame"] := ⟨fun_of_D FD_changes, He.glo_ok KX G (c.t.d.fact 10 (f := .glo "changes") rfl), FunD.bindsN (ps := ["frame"]) FD_changes fun _ _ _ _ _ _ us hl => match us, hl with | [_], _ => rfl⟩
  obtain ⟨fd_runs, FD_runs⟩ := c.t.d.def_ 11 (d := dd_runs) rfl
  have G_runs : FunG K mg "runs" s_runs (He.ga K "runs") fd_runs ["frame"] := ⟨fun_of_D FD_runs, He.glo_ok KX G (c.t.d.fact 11 (f := .glo "runs") rfl), FunD.bindsN (ps := ["frame"]) FD_runs fun _ _ _ _ _ _ us hl => match us, hl with | [_], _ => rfl⟩
  obtain ⟨fd_parted, FD_parted⟩ := c.t.d.def_ 12 (d := dd_parted) rfl
  have G_parted : FunG K mg "parted" s_parted (He.ga K "parted") fd_parted ["many", "parts"] := ⟨fun_of_D FD_parted, He.glo_ok KX G (c.t.d.fact 12 (f := .glo "parted") rfl), FunD.bindsN (ps := ["many", "parts"]) FD_parted fun _ _ _ _ _ _ us hl => match us, hl with | [_, _], _ => rfl⟩
  obtain ⟨fd_is_room, FD_is_room⟩ := c.t.d.def_ 13 (d := dd_is_room) rfl
  have G_is_room : FunG K mg "is_room" s_is_room (He.ga K "is_room") fd_is_room ["beats", "pulses", "many"] := ⟨fun_of_D FD_is_room, He.glo_ok KX G (c.t.d.fact 13 (f := .glo "is_room") rfl), FunD.bindsN (ps := ["beats", "pulses", "many"]) FD_is_room fun _ _ _ _ _ _ us hl => match us, hl with | [_, _, _], _ => rfl⟩
  obtain ⟨fd_with_runs, FD_with_runs⟩ := c.t.d.def_ 14 (d := dd_with_runs) rfl
  have G_with_runs : FunG K mg "with_runs" s_with_runs (He.ga K "with_runs") fd_with_runs ["beats", "pulses", "many"] := ⟨fun_of_D FD_with_runs, He.glo_ok KX G (c.t.d.fact 14 (f := .glo "with_runs") rfl), FunD.bindsN (ps := ["beats", "pulses", "many"]) FD_with_runs fun _ _ _ _ _ _ us hl => match us, hl with | [_, _, _], _ => rfl⟩
  obtain ⟨fd_law_due, FD_law_due⟩ := c.t.d.def_ 15 (d := dd_law_due) rfl
  have G_law_due : FunG K mg "_law_due" s_law_due (He.ga K "_law_due") fd_law_due ["_law_beats", "_law_pulses", "_law_many"] := ⟨fun_of_D FD_law_due, He.glo_ok KX G (c.t.d.fact 15 (f := .glo "_law_due") rfl), FunD.bindsN (ps := ["_law_beats", "_law_pulses", "_law_many"]) FD_law_due fun _ _ _ _ _ _ us hl => match us, hl with | [_, _, _], _ => rfl⟩
  obtain ⟨fd_law_runs, FD_law_runs⟩ := c.t.d.def_ 16 (d := dd_law_runs) rfl
  have G_law_runs : FunG K mg "_law_runs" s_law_runs (He.ga K "_law_runs") fd_law_runs ["_law_frame_here"] := ⟨fun_of_D FD_law_runs, He.glo_ok KX G (c.t.d.fact 16 (f := .glo "_law_runs") rfl), FunD.bindsN (ps := ["_law_frame_here"]) FD_law_runs fun _ _ _ _ _ _ us hl => match us, hl with | [_], _ => rfl⟩
  obtain ⟨fd_law_same, FD_law_same⟩ := c.t.d.def_ 17 (d := dd_law_same) rfl
  have G_law_same : FunG K mg "_law_same" s_law_same (He.ga K "_law_same") fd_law_same ["_law_found", "_law_due_here"] := ⟨fun_of_D FD_law_same, He.glo_ok KX G (c.t.d.fact 17 (f := .glo "_law_same") rfl), FunD.bindsN (ps := ["_law_found", "_law_due_here"]) FD_law_same fun _ _ _ _ _ _ us hl => match us, hl with | [_, _], _ => rfl⟩
  obtain ⟨fd_law, FD_law⟩ := c.t.d.def_ 18 (d := dd_law) rfl
  have e := hmg.symm.trans (He.glo_ok KX G (c.t.d.fact 18 (f := .glo "law") rfl))
  cases e
  have bA := FunD.bindsA (ps := ["_law_script"]) FD_law fun _ _ _ _ _ _ us hl => match us, hl with | [_], _ => rfl
  obtain ⟨oc, od, kV, doc, pm, an, cdv, ct, osl, rfl, lk, hcd⟩ := (fun_of_D (st := s_law) FD_law).ex
  obtain ⟨c0, rfl⟩ := He.codeIn_ref hcd
  have ec : He.codeOf K ("law", none) = c0 := He.codeOf_eq lk rfl
  have h1 := c.hd ("law", none) List.mem_cons_self
  have h2 := c.out ("law", none) List.mem_cons_self
  have h3 := c.empty ("law", none) List.mem_cons_self
  unfold He.cT at h1 h2 h3
  rw [ec] at h1 h2 h3
  dsimp only at h1 h2 h3
  generalize He.tabOf K c0 = Pt at h1 h2 h3
  have T : Txt K mg := ⟨He.glo_ok KX G (c.t.d.fact 19 (f := .glo "BadBegins") rfl),
    He.glo_ok KX G (c.t.d.fact 20 (f := .glo "BadFrame") rfl),
    He.glo_ok KX G (c.t.d.fact 21 (f := .glo "BadRuns") rfl),
    ⟨He.glo_ok KX G (c.t.d.fact 21 (f := .glo "BadRuns") rfl), (He.exc_ok (c.t.d.fact 27 (f := .exc "BadRuns") rfl)).1, (He.exc_ok (c.t.d.fact 27 (f := .exc "BadRuns") rfl)).2.1, (He.exc_ok (c.t.d.fact 27 (f := .exc "BadRuns") rfl)).2.2.1, (He.exc_ok (c.t.d.fact 27 (f := .exc "BadRuns") rfl)).2.2.2⟩,
    He.glo_ok KX G (c.t.d.fact 22 (f := .glo "BadShare") rfl),
    He.glo_ok KX G (c.t.d.fact 23 (f := .glo "BadText") rfl),
    He.glo_ok KX G (c.t.d.fact 24 (f := .glo "BadWidth") rfl),
    (by obtain ⟨t, e⟩ := He.int_ok KX G (c.t.d.fact 31 (f := .int "MOST_BEATS" 64) rfl); exact ⟨_, e, t, rfl⟩),
    He.glo_ok KX G (c.t.d.fact 25 (f := .glo "NoRoom") rfl),
    ⟨He.glo_ok KX G (c.t.d.fact 25 (f := .glo "NoRoom") rfl), (He.exc_ok (c.t.d.fact 28 (f := .exc "NoRoom") rfl)).1, (He.exc_ok (c.t.d.fact 28 (f := .exc "NoRoom") rfl)).2.1, (He.exc_ok (c.t.d.fact 28 (f := .exc "NoRoom") rfl)).2.2.1, (He.exc_ok (c.t.d.fact 28 (f := .exc "NoRoom") rfl)).2.2.2⟩,
    He.glo_ok KX G (c.t.d.fact 26 (f := .glo "PulseError") rfl),
    He.free_ok KX G (c.t.d.fact 32 (f := .free "ValueError") rfl),
    He.free_ok KX G (c.t.d.fact 33 (f := .free "bool") rfl),
    He.free_ok KX G (c.t.d.fact 34 (f := .free "int") rfl),
    He.free_ok KX G (c.t.d.fact 35 (f := .free "isinstance") rfl),
    He.free_ok KX G (c.t.d.fact 36 (f := .free "len") rfl),
    He.free_ok KX G (c.t.d.fact 37 (f := .free "list") rfl),
    He.free_ok KX G (c.t.d.fact 38 (f := .free "min") rfl),
    He.free_ok KX G (c.t.d.fact 39 (f := .free "range") rfl),
    He.free_ok KX G (c.t.d.fact 40 (f := .free "str") rfl),
    He.free_ok KX G (c.t.d.fact 41 (f := .free "tuple") rfl),
    He.free_ok KX G (c.t.d.fact 42 (f := .free "zip") rfl)⟩
  have e_BadRuns : ErrK K "BadRuns" 4 := ⟨⟨of_decide_eq_true (hex_at c.more 2), of_decide_eq_true (hex_at c.more 3), of_decide_eq_true (hex_at c.more 4), hex_at c.more 5, of_decide_eq_true (hex_at c.more 6), of_decide_eq_true (hex_at c.more 0), of_decide_eq_true (hex_at c.more 1), of_decide_eq_true (hex_at c.more 7)⟩, He.exm_ok (c.t.d.fact 29 (f := .exm "BadRuns" "PulseError" true) rfl), of_decide_eq_true (hex_at c.more 8), of_decide_eq_true (hex_at c.more 9), of_decide_eq_true (hex_at c.more 10), of_decide_eq_true (hex_at c.more 11), of_decide_eq_true (hex_at c.more 12), of_decide_eq_true (hex_at c.more 13), of_decide_eq_true (hex_at c.more 14), of_decide_eq_true (hex_at c.more 15), by decide, rfl⟩
  have e_NoRoom : ErrK K "NoRoom" 5 := ⟨⟨of_decide_eq_true (hex_at c.more 16), of_decide_eq_true (hex_at c.more 17), of_decide_eq_true (hex_at c.more 18), hex_at c.more 19, of_decide_eq_true (hex_at c.more 20), of_decide_eq_true (hex_at c.more 0), of_decide_eq_true (hex_at c.more 1), of_decide_eq_true (hex_at c.more 21)⟩, He.exm_ok (c.t.d.fact 30 (f := .exm "NoRoom" "PulseError" true) rfl), of_decide_eq_true (hex_at c.more 22), of_decide_eq_true (hex_at c.more 23), of_decide_eq_true (hex_at c.more 24), of_decide_eq_true (hex_at c.more 25), of_decide_eq_true (hex_at c.more 26), of_decide_eq_true (hex_at c.more 27), of_decide_eq_true (hex_at c.more 28), of_decide_eq_true (hex_at c.more 29), by decide, rfl⟩
  refine ⟨_, [(c0, Pt)], spLaw K Pt, fun p hp => ?_, fun p hp => ?_, fun p hp => ?_, fun s v => bA s [v] rfl, fun H a ns hl _ hT hS => ⟨a, ns, rfl, hS, hl, hT _ List.mem_cons_self, fun _ => rfl⟩, fun base KB GB TBs => ?_⟩
  · rw [List.mem_singleton] at hp; subst hp; exact h3
  · rw [List.mem_singleton] at hp; subst hp; exact h2
  · rw [List.mem_singleton] at hp; subst hp; exact PySem.W.codeHd_of_K KX h1
  · have TB := TBs (c0, Pt) List.mem_cons_self
    have c_law_start := G_law_start.clX (ok_law_start (P := l.prog) (w := w) (base := base) G_law_start )
    have c_law_drawn := G_law_drawn.clX (ok_law_drawn (P := l.prog) (w := w) (base := base) G_law_drawn T)
    have c_law_share := G_law_share.clX (ok_law_share (P := l.prog) (w := w) (base := base) G_law_share c_law_drawn)
    have c_law_even := G_law_even.clX (ok_law_even (P := l.prog) (w := w) (base := base) G_law_even T)
    have c_need_beats := G_need_beats.clX (ok_need_beats (P := l.prog) (w := w) (base := base) G_need_beats T)
    have c_need_share := G_need_share.clX (ok_need_share (P := l.prog) (w := w) (base := base) G_need_share c_need_beats)
    have c_law_frame := G_law_frame.clX (ok_law_frame (P := l.prog) (w := w) (base := base) G_law_frame T c_law_drawn c_law_share c_law_even)
    have c_need_frame := G_need_frame.clX (ok_need_frame (P := l.prog) (w := w) (base := base) G_need_frame T)
    have c_changes_of := G_changes_of.clX (ok_changes_of (P := l.prog) (w := w) (base := base) G_changes_of T)
    have c_changes := G_changes.clX (ok_changes (P := l.prog) (w := w) (base := base) G_changes c_need_frame c_changes_of)
    have c_runs := G_runs.clX (ok_runs (P := l.prog) (w := w) (base := base) G_runs c_need_frame c_changes_of)
    have c_parted := G_parted.clX (ok_parted (P := l.prog) (w := w) (base := base) G_parted T)
    have c_is_room := G_is_room.clX (ok_is_room (P := l.prog) (w := w) (base := base) G_is_room )
    have c_with_runs := G_with_runs.clX (ok_with_runs (P := l.prog) (w := w) (base := base) G_with_runs T c_need_share c_is_room c_parted)
    have c_law_due := G_law_due.clX (ok_law_due (P := l.prog) (w := w) (base := base) G_law_due T)
    have c_law_runs := G_law_runs.clX (ok_law_runs (P := l.prog) (w := w) (base := base) G_law_runs T)
    have c_law_same := G_law_same.clX (ok_law_same (P := l.prog) (w := w) (base := base) G_law_same T 1)
    exact ok_law (P := l.prog) (w := w) (base := base) lk hcd T TB G_law_kind c_law_start c_law_drawn c_law_share c_law_frame c_law_due c_with_runs c_law_same c_runs c_changes c_law_runs e_BadRuns e_NoRoom
end My
open PySem PySem.W PySem.Calls PyProof.Rows
theorem PySem.Challenge.cw_pulseshare_k12_frames_of_told_runs_holds : PySem.Challenge.rw_pulseshare_k12_frames_of_told_runs.Holds := by
  w_on; o_law
  refine HandSHeadRun.head_any (r := OpenLaw.row PySem.Challenge.rw_pulseshare_k12_frames_of_told_runs) (q := view (OpenLaw.row PySem.Challenge.rw_pulseshare_k12_frames_of_told_runs).prog [31]) (H := My.hkk) (ob := My.hob) (M := 4000) (loose := ["PulseError", "BadFrame", "BadShare", "BadWidth", "BadBegins", "BadRuns", "NoRoom", "BadText", "MOST_BEATS", "need_frame", "need_beats", "need_share", "changes_of", "changes", "runs", "parted", "is_room", "with_runs", "_law_start", "_law_drawn", "_law_same", "_law_kind", "_law_share", "_law_frame", "_law_even", "_law_due", "_law_runs"]) (d := HandSHeadRun.topDef (OpenLaw.row PySem.Challenge.rw_pulseshare_k12_frames_of_told_runs).prog 31) (kwd := []) My.hob_eq
    (by kernel_rfl) (fun s => by kernel_rfl) My.hrun (by kernel_rfl) (by kernel_rfl) (by kernel_rfl) (by rfl) (by first | assumption | decide +kernel) (by decide +kernel) ⟨rfl, rfl, rfl, rfl, rfl, by decide +kernel⟩ ?hw ?hc
  case hw => w_witness2
  case hc =>
    refine LamX.walk_ofTsE (l := PySem.Challenge.rw_pulseshare_k12_frames_of_told_runs) (n := 63) (k := 6) (x := "_law_script") (CX := fun _ => L2.CX0) rfl (by decide) (by kernel_rfl) ⟨rfl, by decide, by decide⟩ ?F (fun _ _ _ _ _ z => z)
    intro w mg fa h Y G hmg0
    obtain ⟨K, KX, c⟩ := Y
    have hmg : mg ("law" : PySem.Str) = some (.ref fa) := by
      have e : (HandSHeadRun.topDef (OpenLaw.row PySem.Challenge.rw_pulseshare_k12_frames_of_told_runs).prog 31).name = ("law" : PySem.Str) := by kernel_rfl
      rw [← e]
      exact hmg0
    exact ⟨K, KX, My.facts KX G hmg c⟩
