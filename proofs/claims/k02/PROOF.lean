import PyProof.Rows.All
import Wide.All
import OpenK.AllK
import Wide.FinOn
import Lean
import HandS.ForMost
import HandS.Defaults
import HandS.Head0
import HandS.Head1
import HandS.Head2
import HandS.Head3
import HandS.HeadEnd
import HandS.HeadHook1
import HandS.HeadHook2
import HandS.HeadHook3
import HandS.HeadHook4
import PySem.Challenge.RW_wherebase_k02_whole_turns_and_lines
import KE.KStateDown
import HandS.Exc
import HandS.ExcOwn
import HandS.TryOnly
import HandS.WordsExc
import HandS.Star
import HandS.IsInst
import HandS.Gcd
import HandS.WideBits
import HandS.Wide
import HandS.Style
import HandS.TupLe
import HandS.TupAny
import HandS.Conv
import HandS.Flow
import HandS.Evl
import KE.DataMinMax
set_option Elab.async false
set_option linter.all false
set_option maxRecDepth 100000
set_option maxHeartbeats 4000000
namespace Wb
open PySem PySem.Spec PyProof.Rows L2
def top (i : Nat) : Stmt := PySem.Challenge.pw_wherebase_k02_whole_turns_and_lines.main.body.getD i (.Pass ⟨0, 0, 0, 0⟩)
def mkD (x : Str) (i : Nat) (dv : List He.Dv) : He.DefD := ⟨(x, none), x, x, defArgs (top i), defBody (top i), defScope (top i), dv, []⟩
def fn : List He.DefD := [mkD "_law_bag" 31 [], mkD "_law_draw" 32 [], mkD "_law_one_of" 33 [], mkD "_law_frame" 36 [], mkD "_law_sign" 39 [], mkD "_law_sense" 38 [], mkD "_law_shared" 34 [], mkD "_law_point" 35 [], mkD "_law_spot" 37 [], mkD "shared_of" 8 [], mkD "is_integer" 7 [], mkD "is_point" 12 [], mkD "require_point" 14 [], mkD "require_points" 15 [], mkD "turn_in" 17 [], mkD "turn_of" 25 [], mkD "_law_turns_right" 40 [], mkD "require_integer" 9 [], mkD "reduced_point" 16 [], mkD "point_of" 24 [.int 1], mkD "is_side" 13 [], mkD "_law_points_right" 45 [], mkD "middle_in" 22 [], mkD "middle_of" 28 [], mkD "step_from" 18 [], mkD "is_between_in" 19 [], mkD "is_between" 26 [], mkD "_law_between_right" 41 [], mkD "reduced" 10 [], mkD "square_in" 23 [], mkD "square_between" 29 [], mkD "_law_squares_right" 42 [], mkD "line_through" 20 [], mkD "line_meet_in" 21 [], mkD "line_meet" 27 [], mkD "_law_is_refused" 44 [], mkD "_law_lines_right" 43 [], mkD "law" 46 []]
def fa0 : List He.Fa := [.glo "_law_bag", .glo "_law_draw", .glo "_law_one_of", .glo "_law_frame", .glo "_law_sign", .glo "_law_sense", .glo "_law_shared", .glo "_law_point", .glo "_law_spot", .glo "shared_of", .glo "is_integer", .glo "is_point", .glo "require_point", .glo "require_points", .glo "turn_in", .glo "turn_of", .glo "_law_turns_right", .glo "require_integer", .glo "reduced_point", .glo "point_of", .glo "is_side", .glo "_law_points_right", .glo "middle_in", .glo "middle_of", .glo "step_from"]
def fa1 : List He.Fa := [.glo "is_between_in", .glo "is_between", .glo "_law_between_right", .glo "reduced", .glo "square_in", .glo "square_between", .glo "_law_squares_right", .glo "line_through", .glo "line_meet_in", .glo "line_meet", .glo "_law_is_refused", .glo "_law_lines_right", .glo "law", .glo "InvalidOperation", .free "len", .free "abs", .free "int", .free "bool", .free "tuple", .free "list", .free "isinstance", .free "all", .free "max", .free "min", .free "sum"]
def fa2 : List He.Fa := [.free "range", .free "repr", .exc "InvalidOperation", .exm "InvalidOperation" "InvalidOperation" true]
def fa : List He.Fa := fa0 ++ fa1 ++ fa2
def lo0 : List PySem.Str := ["WhereError", "InvalidPoint", "InvalidOperation", "InvalidNumber", "is_integer", "shared_of", "require_integer", "reduced", "is_point", "is_side", "require_point", "require_points", "reduced_point", "turn_in", "step_from", "is_between_in", "line_through", "line_meet_in", "middle_in", "square_in", "point_of", "turn_of", "is_between", "line_meet", "middle_of"]
def lo1 : List PySem.Str := ["square_between", "_law_bag", "_law_draw", "_law_one_of", "_law_shared", "_law_point", "_law_frame", "_law_spot", "_law_sense", "_law_sign", "_law_turns_right", "_law_between_right", "_law_squares_right", "_law_lines_right", "_law_is_refused", "_law_points_right"]
def loose : List PySem.Str := lo0 ++ lo1
def exB (K : PySem.W.Frag) : Bool := He.eqO (PySem.W.nsIn K mainGlobals "gcd") (some (some (.builtin "math.gcd")))
abbrev R : PySem.W.OpenRow := PySem.W.OpenLaw.row PySem.Challenge.rw_wherebase_k02_whole_turns_and_lines
abbrev hk : PySem.W.Hook := He.hookX 5 fa fn [] [] exB
def ob (s : PySem.W.SharedT) : He.AlX := He.obsX 5 fa fn [] [] exB (HandSHeadRun.getT s)
theorem ob_eq (s : PySem.W.SharedT) : ob s = hk.obs s.abs := He.obsX_eq (HandSHeadRun.getT_eq s)
theorem run (w : World) : HandSHeadRun.RunEqI R (PySem.W.view R.prog [0, 46]) hk ob 4000 loose w := by
  unfold HandSHeadRun.RunEqI
  kernel_rfl
end Wb

namespace Wb
open PySem PySem.Spec PyProof.Rows L2
open Evl (Ex Ex.refl Ex.trans Ex.new)

/-! ### heaps and data -/
theorem ex_upd {H : Hp} {p : Addr} {o : HO} (h : H p = none) : Ex H (upd H p o) := Evl.Ex.new h
mutual
theorem dpMono {K : PySem.W.Frag} {H H' : Hp} (e : Ex H H') : ∀ {d : PyData} {v : V}, Dp K H v d → Dp K H' v d
  | .none, _, h => by cases h; exact .non
  | .bool _, _, h => by cases h; exact .bl _
  | .int _, _, h => by cases h; exact .int _
  | .str _, _, h => by cases h; exact .str _
  | .list ds, _, h => by
    cases h with
    | lst hs ha => exact .lst (Evl.ex_l e hs) (dpMonoA e ha)
  | .tuple ds, _, h => by
    cases h with
    | tup hs ha => exact .tup (Evl.ex_t e hs) (dpMonoA e ha)
  | .dict _, _, h => by cases h
theorem dpMonoA {K : PySem.W.Frag} {H H' : Hp} (e : Ex H H') : ∀ {ds : List PyData} {vs : List V}, DpAll K H vs ds → DpAll K H' vs ds
  | [], _, h => by cases h; exact .nil
  | d :: ds, _, h => by
    cases h with
    | cons h1 h2 => exact .cons (dpMono e h1) (dpMonoA e h2)
end
section
variable {K : PySem.W.Frag} {H H' : Hp} {v : V} {vs : List V} {d : PyData} {ds : List PyData}
theorem dpInt {i : Int} (h : Dp K H v (.int i)) : v = .int i := by cases h; rfl
theorem dpBl {b : Bool} (h : Dp K H v (.bool b)) : v = .bl b := by cases h; rfl
theorem dpStr {s : Str} (h : Dp K H v (.str s)) : v = .str s := by cases h; rfl
theorem dpNon (h : Dp K H v .none) : v = .non := by cases h; rfl
theorem dpTup (h : Dp K H v (.tuple ds)) : ∃ a vs, v = .ref a ∧ SqT K H a vs ∧ DpAll K H vs ds := by
  cases h with
  | tup hs ha => exact ⟨_, _, rfl, hs, ha⟩
theorem dpLst (h : Dp K H v (.list ds)) : ∃ a vs, v = .ref a ∧ SqL K H a vs ∧ DpAll K H vs ds := by
  cases h with
  | lst hs ha => exact ⟨_, _, rfl, hs, ha⟩
theorem dpLen : ∀ {ds : List PyData} {vs : List V}, DpAll K H vs ds → vs.length = ds.length
  | [], _, h => by cases h; rfl
  | d :: ds, _, h => by
    cases h with
    | cons h1 h2 => rw [List.length_cons, List.length_cons, dpLen h2]
theorem dpGet : ∀ {ds : List PyData} {vs : List V} {i : Nat} {d : PyData}, DpAll K H vs ds → ds[i]? = some d → ∃ v, vs[i]? = some v ∧ Dp K H v d
  | [], _, _, _, _, e => by simp at e
  | d :: ds, _, 0, _, h, e => by
    cases h with
    | cons h1 h2 =>
      have e2 : d = _ := Option.some.inj e
      subst e2
      exact ⟨_, rfl, h1⟩
  | d :: ds, _, i + 1, _, h, e => by
    cases h with
    | cons h1 h2 =>
      obtain ⟨v, q1, q2⟩ := dpGet (i := i) h2 (by simpa using e)
      exact ⟨v, by simpa using q1, q2⟩
theorem dpAt {i : Int} {d : PyData} (h : DpAll K H vs ds) (e : atI ds i = some d) : ∃ v, atI vs i = some v ∧ Dp K H v d := by
  unfold atI at e ⊢
  rw [dpLen h]
  cases q : ixN ds.length i with
  | none =>
    rw [q] at e
    cases e
  | some j =>
    rw [q] at e
    exact dpGet h e
def tyD : PyData → String
  | .none => "NoneType"
  | .bool _ => "bool"
  | .int _ => "int"
  | .str _ => "str"
  | .list _ => "list"
  | .tuple _ => "tuple"
  | .dict _ => "dict"
theorem dpTy (h : Dp K H v d) : TyX K H v (.type (tyD d)) := by
  cases h with
  | non => exact .base .non
  | bl b => exact .base (.bl b)
  | int i => exact .base (.int i)
  | str x => exact .base (.str x)
  | lst hs ha =>
    rcases hs with (h1 | ⟨o, h1⟩) | ⟨o, its, n, lk, hc, _⟩
    · exact .base (.lst h1)
    · exact .base (.frz h1)
    · exact .kList lk hc
  | tup hs ha =>
    rcases hs with (h1 | ⟨o, h1⟩) | ⟨o, its, n, lk, hc, _⟩
    · exact .base (.tup h1)
    · exact .fTuple h1
    · exact .kTuple lk hc
end
/-! ### sizes of ints -/
def Sz (n : Nat) (i : Int) : Prop := i.natAbs < 2 ^ n
theorem sz_mul {a b : Nat} {i j : Int} (ha : Sz a i) (hb : Sz b j) : Sz (a + b) (i * j) := by
  unfold Sz at *
  rw [Int.natAbs_mul, Nat.pow_add]
  exact Nat.mul_lt_mul'' ha hb
theorem sz_mono {a b : Nat} {i : Int} (h : Sz a i) (hab : a ≤ b) : Sz b i := Nat.lt_of_lt_of_le h (Nat.pow_le_pow_right (by decide) hab)
theorem sz_add {a b : Nat} {i j : Int} (ha : Sz a i) (hb : Sz b j) : Sz (a + b + 1) (i + j) := by
  have h1 := sz_mono ha (Nat.le_add_right a b)
  have h2 := sz_mono hb (Nat.le_add_left b a)
  unfold Sz at *
  rw [Nat.pow_succ]
  have := Int.natAbs_add_le i j
  omega
theorem sz_neg {a : Nat} {i : Int} (ha : Sz a i) : Sz a (-i) := by
  unfold Sz at *
  rw [Int.natAbs_neg]
  exact ha
theorem sz_sub {a b : Nat} {i j : Int} (ha : Sz a i) (hb : Sz b j) : Sz (a + b + 1) (i - j) := by
  rw [Int.sub_eq_add_neg]
  exact sz_add ha (sz_neg hb)
theorem sz_le {a : Nat} {i j : Int} (ha : Sz a j) (h : i.natAbs ≤ j.natAbs) : Sz a i := Nat.lt_of_le_of_lt h ha
theorem sz_div {a : Nat} {i j : Int} (ha : Sz a i) : Sz a (i / j) := sz_le ha (Int.natAbs_ediv_le_natAbs i j)
theorem fdiv_abs (i j : Int) : (i.fdiv j).natAbs ≤ i.natAbs := by
  rcases Int.lt_trichotomy j 0 with h | h | h
  · have e : i.fdiv j = (-i) / (-j) := by
      rw [← Int.fdiv_eq_ediv_of_nonneg (-i) (by omega), Int.neg_fdiv_neg]
    rw [e, ← Int.natAbs_neg i]
    exact Int.natAbs_ediv_le_natAbs _ _
  · subst h
    rw [Int.fdiv_zero]
    omega
  · rw [Int.fdiv_eq_ediv_of_nonneg i (by omega)]
    exact Int.natAbs_ediv_le_natAbs _ _
theorem sz_fdiv {a : Nat} {i j : Int} (ha : Sz a i) : Sz a (i.fdiv j) := sz_le ha (fdiv_abs i j)
theorem mulx {a b : Nat} {i j : Int} (ha : Sz a i) (hb : Sz b j) (h : a + b ≤ 134217728) : CMulX i j := mulx_ok ha hb h

theorem sz_lit {i : Int} (h : i.natAbs < 18446744073709551616) : Sz 64 i := h
theorem ex_at {H H' : Hp} {a : Addr} {o : HO} (e : Ex H H') (h : H a = some o) : H' a = some o := e a o h
def gd (a b : Int) : Int := ((Nat.gcd a.natAbs b.natAbs : Nat) : Int)
/-! ### own operators -/
section
variable {X : Cx}
def CPowX (i j : Int) : Prop := 0 ≤ j ∧ (Builtin.Int.intBits i : Int) * j ≤ 2 ^ 27
theorem op_powX : OpR X (binaryOp .Pow) (rI CPowX fun i j => .int (i ^ j.toNat)) := opI fun _ _ _ _ _ _ _ hc q => pow_int hc.1 hc.2 q
def CDivX (_ j : Int) : Prop := j ≠ 0 ∧ j.natAbs.log2 < 9000
theorem op_fdivX : OpR X (binaryOp .FloorDiv) (rI CDivX fun i j => .int (i.fdiv j)) := opI fun i j _ _ _ _ _ hc q =>
  floordiv_int hc.1 q (.inl (PyProof.noPylong_of_log2 hc.2))
/-- a def that may be called by its name -/
structure Cl (P : Program) (w : World) (K : PySem.W.Frag) (mg : Str → Option Value) (base : Heap) (k : Nat) (x : Str) (sp : Sp) : Prop where
  ex : ∃ (f : Addr) (fd : FuncData) (ps : List Str), FnOk P w K mg base CX0 k f fd ps sp ∧ mg x = some (.ref f) ∧ PySem.W.keepIn K (.ref f) = true ∧ Binds K fd ps []
def tCl (sp : Sp) (t : TA) : TE := fun σ H Q => t σ H fun vs H1 => sp vs H1 Q E0
theorem pc {k j : Nat} {x : Str} {sp : Sp} {p pos : Pos} {e : Expr} {es : List Expr} {t : TA} (c : Cl X.prog X.w X.K X.mg X.base k x sp) (hr : Room j X.A) (hk : k ≤ j) (hg : Gl X x) (ha : PA X (e :: es) t)
    (hdb : (x == ("__debug__" : Str)) = false := by decide) (he : starEach (e :: es) X.env = (false, eval e X.env) :: starEach es X.env := by rfl) (hpl : (backTo pos (starEach es X.env)).any (·.1) = false := by rfl) :
    PE X (.Call (.Name x p) (e :: es) [] pos) (tCl sp t) := by
  obtain ⟨f, fd, ps, F, hm, kp, b⟩ := c.ex
  have h := pe_call (p := p) F (hr.mono hk) hg hm kp b (.nil : Vals [] []) pass0 ha hdb he hpl
  have e1 : tCall sp [] E0 t = tCl sp t := by
    funext σ H Q
    show (t σ H fun vs H1 => sp (vs ++ []) H1 Q E0) = t σ H fun vs H1 => sp vs H1 Q E0
    congr 1
    funext vs H1
    rw [List.append_nil]
  rw [← e1]
  exact h
end
/-- a def with a star parameter -/
structure ClR (P : Program) (w : World) (K : PySem.W.Frag) (mg : Str → Option Value) (base : Heap) (k : Nat) (x : Str) (sp : Sp) : Prop where
  ex : ∃ (f : Addr), FnR P w K mg base CX0 k f sp ∧ mg x = some (.ref f) ∧ PySem.W.keepIn K (.ref f) = true
section
variable {X : Cx}
theorem pcR {k j : Nat} {x : Str} {sp : Sp} {p pos : Pos} {e : Expr} {es : List Expr} {t : TA} (c : ClR X.prog X.w X.K X.mg X.base k x sp) (hr : Room j X.A) (hk : k ≤ j) (hg : Gl X x) (ha : PA X (e :: es) t)
    (hdb : (x == ("__debug__" : Str)) = false := by decide) (he : starEach (e :: es) X.env = (false, eval e X.env) :: starEach es X.env := by rfl) (hpl : (backTo pos (starEach es X.env)).any (·.1) = false := by rfl) :
    PE X (.Call (.Name x p) (e :: es) [] pos) (tCl sp t) := by
  obtain ⟨f, F, hm, kp⟩ := c.ex
  refine ⟨fun pins s σ H Q I h => ?_⟩
  refine wpAny_Call_Name_kw (ld_glob I hg hm ?_ hdb)
  refine PySem.W.callWith_K (h₀ := X.base) I.ok.mod.kin kp (thn (ha.run pos pins s σ H _ I h) fun us s1 ⟨vs, H1, I1, r, q⟩ => ⟨I1.kIn, ?_⟩) he hpl
  exact wpAny_call (run_fnR F (hr.mono hk) pass0 I1 r q)
end
theorem FnR.weak {P : Program} {w : World} {K : PySem.W.Frag} {mg : Str → Option Value} {base : Heap} {CX : CXT} {k : Nat} {f : Addr} {sp sp' : Sp} (F : FnR P w K mg base CX k f sp) (h : ∀ vs H Q E, sp' vs H Q E → sp vs H Q E) : FnR P w K mg base CX k f sp' :=
  fun A outer s H us vs Q E hr e0 r hs => F A outer s H us vs Q E hr e0 r (h vs H Q E hs)
/-! ### built-ins by names of their own -/
def qLen (K : PySem.W.Frag) : List V → Hp → VK → Prop := fun xs H Q => ∃ p ys, xs = [.ref p] ∧ (SqL K H p ys ∨ SqT K H p ys) ∧ Q (.int (ys.length : Int)) H
def qAbs : List V → Hp → VK → Prop := fun xs H Q => ∃ i, xs = [.int i] ∧ Q (.int (if i < 0 then -i else i)) H
def qMax2 : List V → Hp → VK → Prop := fun xs H Q => ∃ i j, xs = [.int i, .int j] ∧ Q (.int (if j > i then j else i)) H
def qMin2 : List V → Hp → VK → Prop := fun xs H Q => ∃ i j, xs = [.int i, .int j] ∧ Q (.int (if j < i then j else i)) H
def qInt1 : List V → Hp → VK → Prop := fun xs H Q => (∃ i, xs = [.int i] ∧ Q (.int i) H) ∨ ∃ k, xs = [.bl k] ∧ Q (.int (if k then 1 else 0)) H
def qListOf (K : PySem.W.Frag) : List V → Hp → VK → Prop := fun xs H Q => ∃ p ys, xs = [.ref p] ∧ (SqL K H p ys ∨ SqT K H p ys) ∧ ∀ l, H l = none → Q (.ref l) (upd H l (.lst ys))
def qTupleOf (K : PySem.W.Frag) : List V → Hp → VK → Prop := fun xs H Q => ∃ p ys, xs = [.ref p] ∧ ((SqL K H p ys ∧ ∀ l, H l = none → Q (.ref l) (upd H l (.tup ys))) ∨ (SqT K H p ys ∧ Q (.ref p) H))
def qIsN : R2 := fun x y H Q => y = .non ∧ Q (.bl (decide (x = .non))) H
def qNotN : R2 := fun x y H Q => y = .non ∧ Q (.bl (!decide (x = .non))) H
section
variable {X : Cx}
theorem call_qlen : CallR X (.builtin "len") (qLen X.K) := call_len_seq
theorem call_qabs : CallR X (.builtin "abs") qAbs := call_abs
theorem call_qmax2 (hc : X.calm = true) : CallR X (.builtin "max") qMax2 := call_max2 hc
theorem call_qmin2 (hc : X.calm = true) : CallR X (.builtin "min") qMin2 := call_min2 hc
theorem call_qint1 : CallR X (.type "int") qInt1 := call_int1
theorem call_qlist : CallR X (.type "list") (qListOf X.K) := call_list_of
theorem call_qtuple : CallR X (.type "tuple") (qTupleOf X.K) := call_tuple_of
theorem op_qisN : OpR X (compareOp .Is) qIsN := op_isN
theorem op_qnotN : OpR X (compareOp .IsNot) qNotN := op_notN
end
def MkT (xs : List V) (H : Hp) (Q : VK) : Prop := xs.length ≤ sizeLine ∧ ∀ p, H p = none → Q (.ref p) (upd H p (.tup xs))
def MkL (xs : List V) (H : Hp) (Q : VK) : Prop := xs.length ≤ sizeLine ∧ ∀ p, H p = none → Q (.ref p) (upd H p (.lst xs))
/-! ### readings, step by step -/
section
variable {K : PySem.W.Frag} {σ : L2.St} {H H' : Hp} {Q : VK} {D : Ends} {ta tb te : TE} {t u : TS} {c c' : TT} {v w : V} {i j : Int} {n m : Nat}
theorem i_seq (h : t { D with nx := u D } σ H) : tSeq t u D σ H := h
theorem i_asg {g : TG} (h : te σ H fun x H1 => g x σ H1 D.nx) : tAsg te g D σ H := h
theorem i_name {R : L2.St → Hp → Prop} (h : R (σ.set n (some v)) H) : gName n v σ H R := h
theorem i_nameN {σ' : L2.St} {R : L2.St → Hp → Prop} (e : σ.set n (some v) = σ') (h : R σ' H) : gName n v σ H R := by subst e; exact h
theorem i_ret (h : te σ H D.rt) : tRet te D σ H := h
theorem i_ifs (h : c σ H fun b H1 => if b = true then t D σ H1 else u D σ H1) : tIfS c t u D σ H := h
theorem i_drop (h : te σ H fun _ H1 => D.nx σ H1) : tDrop te D σ H := h
theorem i_next (h : D.nx σ H) : tNext D σ H := h
theorem i_var (h : σ[n]? = some (some v)) (q : Q v H) : tVar n σ H Q := ⟨v, h, q⟩
theorem i_c (q : Q v H) : tC v σ H Q := q
theorem i_op {r : R2} (q : ta σ H fun x H1 => tb σ H1 fun y H2 => r x y H2 Q) : tOp r ta tb σ H Q := q
theorem i_un {r : V → Hp → VK → Prop} (q : ta σ H fun x H1 => r x H1 Q) : tUn r ta σ H Q := q
theorem i_I0 {g : Int → Int → V} (q : Q (g i j) H) : rI0 g (.int i) (.int j) H Q := ⟨i, j, rfl, rfl, q⟩
theorem i_I {C : Int → Int → Prop} {g : Int → Int → V} (hc : C i j) (q : Q (g i j) H) : rI C g (.int i) (.int j) H Q := ⟨i, j, rfl, rfl, hc, q⟩
theorem i_mul {a b : Nat} (ha : Sz a i) (hb : Sz b j) (h : a + b ≤ 134217728) (q : Q (.int (i * j)) H) : rI CMulX (fun i j => .int (i * j)) (.int i) (.int j) H Q := ⟨i, j, rfl, rfl, mulx ha hb h, q⟩
theorem i_modN (h : j ≠ 0) (q : Q (.int (i.fmod j)) H) : rI (fun _ j => j ≠ 0) (fun i j => .int (i.fmod j)) (.int i) (.int j) H Q := ⟨i, j, rfl, rfl, h, q⟩
theorem i_fdX {b : Nat} (h : j ≠ 0) (hb : Sz b j) (h9 : b ≤ 9000) (q : Q (.int (i.fdiv j)) H) : rI CDivX (fun i j => .int (i.fdiv j)) (.int i) (.int j) H Q := by
  refine ⟨i, j, rfl, rfl, ⟨h, ?_⟩, q⟩
  have h2 : j.natAbs < 2 ^ (b + 1) := Nat.lt_of_lt_of_le hb (Nat.pow_le_pow_right (by decide) (Nat.le_succ b))
  have h3 : j.natAbs < 2 ^ 9000 := Nat.lt_of_lt_of_le hb (Nat.pow_le_pow_right (by decide) h9)
  exact PySem.Flt.log2_lt_of (by decide) h3
theorem i_pow (h : CPowX i j) (q : Q (.int (i ^ j.toNat)) H) : rI CPowX (fun i j => .int (i ^ j.toNat)) (.int i) (.int j) H Q := ⟨i, j, rfl, rfl, h, q⟩
theorem i_U {g : Int → V} (q : Q (g i) H) : rU g (.int i) H Q := ⟨i, rfl, q⟩
theorem i_test {R : Bool → Hp → Prop} (q : te σ H fun x H' => ∃ k, x = .bl k ∧ R k H') : tTest te σ H R := q
theorem i_B {R : Bool → Hp → Prop} (q : te σ H fun x H' => ∃ k, x = .bl k ∧ R k H') : tB te σ H R := q
theorem i_k {b : Bool} {R : Bool → Prop} (q : R b) : ∃ k, V.bl b = .bl k ∧ R k := ⟨b, rfl, q⟩
theorem i_and {R : Bool → Hp → Prop} (q : c σ H fun b H1 => if b = true then c' σ H1 R else R false H1) : tAnd c c' σ H R := q
theorem i_or {R : Bool → Hp → Prop} (q : c σ H fun b H1 => if b = true then R true H1 else c' σ H1 R) : tOr c c' σ H R := q
theorem i_not {R : Bool → Hp → Prop} (q : c σ H fun b H1 => R (!b) H1) : tNot c σ H R := q
theorem i_andV (q : ta σ H fun x H1 => ∃ k, x = .bl k ∧ if k = true then tb σ H1 Q else Q (.bl false) H1) : tAndV ta tb σ H Q := q
theorem i_orV (q : ta σ H fun x H1 => ∃ k, x = .bl k ∧ if k = true then Q (.bl true) H1 else tb σ H1 Q) : tOrV ta tb σ H Q := q
theorem i_notV (q : ta σ H fun x H1 => ∃ k, x = .bl k ∧ Q (.bl (!k)) H1) : tNotV ta σ H Q := q
theorem i_if (q : c σ H fun b H1 => if b = true then ta σ H1 Q else tb σ H1 Q) : tIf c ta tb σ H Q := q
theorem i_ite {p : Prop} [Decidable p] {A B : Prop} (h1 : p → A) (h2 : ¬ p → B) : if decide p = true then A else B := by
  by_cases h : p
  · rw [if_pos (decide_eq_true h)]
    exact h1 h
  · rw [if_neg (by rw [decide_eq_false h]; decide)]
    exact h2 h
theorem i_iteN {p : Prop} [Decidable p] {A B : Prop} (h1 : ¬ p → A) (h2 : p → B) : if (!decide p) = true then A else B := by
  by_cases h : p
  · rw [decide_eq_true h]
    exact h2 h
  · rw [decide_eq_false h]
    exact h1 h
theorem i_iteB {b : Bool} {A B : Prop} (h1 : b = true → A) (h2 : b = false → B) : if b = true then A else B := by
  cases b with
  | true => exact h1 rfl
  | false => exact h2 rfl
theorem i_iteBN {b : Bool} {A B : Prop} (h1 : b = false → A) (h2 : b = true → B) : if (!b) = true then A else B := by
  cases b with
  | true => exact h2 rfl
  | false => exact h1 rfl
theorem i_iteT {A B : Prop} (h : A) : if true = true then A else B := h
theorem i_iteF {A B : Prop} (h : B) : if false = true then A else B := h
theorem i_cl {sp : Sp} {ts : TA} (q : ts σ H fun vs H1 => sp vs H1 Q E0) : tCl sp ts σ H Q := q
theorem i_nil {R : List V → Hp → Prop} (q : R [] H) : tNil σ H R := q
theorem i_cons {ts : TA} {R : List V → Hp → Prop} (q : ta σ H fun x H1 => ts σ H1 fun xs H2 => R (x :: xs) H2) : tCons ta ts σ H R := q
theorem i_cb {r : List V → Hp → VK → Prop} {ts : TA} (q : ts σ H fun vs H1 => r vs H1 Q) : tCB r ts σ H Q := q
theorem i_tup {ts : TA} (q : ts σ H fun xs H1 => MkT xs H1 Q) : tTup ts σ H Q := q
theorem i_lst {ts : TA} (q : ts σ H fun xs H1 => MkL xs H1 Q) : tLst ts σ H Q := q
theorem i_mkT {xs : List V} (hl : xs.length ≤ 100000) (q : ∀ p H2, Ex H H2 → H2 p = some (.tup xs) → Q (.ref p) H2) : MkT xs H Q :=
  ⟨Evl.sz_of hl, fun p hp => q p _ (ex_upd hp) upd_same⟩
theorem i_mkL {xs : List V} (hl : xs.length ≤ 100000) (q : ∀ p H2, H p = none → Ex H H2 → H2 p = some (.lst xs) → Q (.ref p) H2) : MkL xs H Q :=
  ⟨Evl.sz_of hl, fun p hp => q p _ hp (ex_upd hp) upd_same⟩
theorem i_ixTI {H0 : Hp} {ds : List PyData} {k : Int} (h : Dp K H0 v (.tuple ds)) (he : Ex H0 H) (e : atI ds k = some (.int i)) (q : Q (.int i) H) : rIxT K v (.int k) H Q := by
  obtain ⟨a, vs, rfl, hs, ha⟩ := dpTup (dpMono he h)
  obtain ⟨u, e1, e2⟩ := dpAt ha e
  cases dpInt e2
  exact ⟨a, vs, k, _, rfl, rfl, hs, e1, q⟩
theorem i_ixT {H0 : Hp} {ds : List PyData} {k : Int} {d : PyData} (h : Dp K H0 v (.tuple ds)) (he : Ex H0 H) (e : atI ds k = some d) (q : ∀ u, Dp K H0 u d → Q u H) : rIxT K v (.int k) H Q := by
  obtain ⟨a, vs, rfl, hs, ha⟩ := dpTup h
  obtain ⟨u, e1, e2⟩ := dpAt ha e
  exact ⟨a, vs, k, _, rfl, rfl, Evl.ex_t he hs, e1, q u e2⟩
theorem i_ixLI {H0 : Hp} {ds : List PyData} {k : Int} (h : Dp K H0 v (.list ds)) (he : Ex H0 H) (e : atI ds k = some (.int i)) (q : Q (.int i) H) : rIxL K v (.int k) H Q := by
  obtain ⟨a, vs, rfl, hs, ha⟩ := dpLst (dpMono he h)
  obtain ⟨u, e1, e2⟩ := dpAt ha e
  cases dpInt e2
  exact ⟨a, vs, k, _, rfl, rfl, hs, e1, q⟩
theorem i_ixL {H0 : Hp} {ds : List PyData} {k : Int} {d : PyData} (h : Dp K H0 v (.list ds)) (he : Ex H0 H) (e : atI ds k = some d) (q : ∀ u, Dp K H0 u d → Q u H) : rIxL K v (.int k) H Q := by
  obtain ⟨a, vs, rfl, hs, ha⟩ := dpLst h
  obtain ⟨u, e1, e2⟩ := dpAt ha e
  exact ⟨a, vs, k, _, rfl, rfl, Evl.ex_l he hs, e1, q u e2⟩
theorem i_isi {d : PyData} {T : String} {b : Bool} (h : Dp K H v d) (e : kitB (tyD d) T = some b) (q : Q (.bl b) H) : rIsi K [v, .ty T] H Q :=
  ⟨v, .ty T, _, _, b, rfl, .ty T, dpTy h, kit_ty e, q⟩
@[reducible] def dIsInt : PyData → Bool
  | .int _ => true
  | .bool _ => true
  | _ => false
@[reducible] def dIsBool : PyData → Bool
  | .bool _ => true
  | _ => false
@[reducible] def dIsTup : PyData → Bool
  | .tuple _ => true
  | _ => false
@[reducible] def dIsStr : PyData → Bool
  | .str _ => true
  | _ => false
@[reducible] def dIsLst : PyData → Bool
  | .list _ => true
  | _ => false
theorem i_isiI {d : PyData} (h : Dp K H v d) (q : Q (.bl (dIsInt d)) H) : rIsi K [v, .ty "int"] H Q := i_isi h (by cases d <;> (dsimp only [tyD, dIsInt]; decide +kernel)) q
theorem i_isiB {d : PyData} (h : Dp K H v d) (q : Q (.bl (dIsBool d)) H) : rIsi K [v, .ty "bool"] H Q := i_isi h (by cases d <;> (dsimp only [tyD, dIsBool]; decide +kernel)) q
theorem i_isiT {d : PyData} (h : Dp K H v d) (q : Q (.bl (dIsTup d)) H) : rIsi K [v, .ty "tuple"] H Q := i_isi h (by cases d <;> (dsimp only [tyD, dIsTup]; decide +kernel)) q
theorem i_isiS {d : PyData} (h : Dp K H v d) (q : Q (.bl (dIsStr d)) H) : rIsi K [v, .ty "str"] H Q := i_isi h (by cases d <;> (dsimp only [tyD, dIsStr]; decide +kernel)) q
theorem i_isiL {d : PyData} (h : Dp K H v d) (q : Q (.bl (dIsLst d)) H) : rIsi K [v, .ty "list"] H Q := i_isi h (by cases d <;> (dsimp only [tyD, dIsLst]; decide +kernel)) q
theorem i_iteTr {b : Bool} {A B : Prop} (h : b = true) (q : A) : if b = true then A else B := by subst h; exact q
theorem i_iteFr {b : Bool} {A B : Prop} (h : b = false) (q : B) : if b = true then A else B := by subst h; exact q
/-- promises by the number of arguments -/
def A1 (P : V → Hp → VK → Prop) : Sp := fun vs H Q _ => ∃ v1, vs = [v1] ∧ P v1 H Q
def A2 (P : V → V → Hp → VK → Prop) : Sp := fun vs H Q _ => ∃ v1 v2, vs = [v1, v2] ∧ P v1 v2 H Q
def A3 (P : V → V → V → Hp → VK → Prop) : Sp := fun vs H Q _ => ∃ v1 v2 v3, vs = [v1, v2, v3] ∧ P v1 v2 v3 H Q
def A4 (P : V → V → V → V → Hp → VK → Prop) : Sp := fun vs H Q _ => ∃ v1 v2 v3 v4, vs = [v1, v2, v3, v4] ∧ P v1 v2 v3 v4 H Q
def A5 (P : V → V → V → V → V → Hp → VK → Prop) : Sp := fun vs H Q _ => ∃ v1 v2 v3 v4 v5, vs = [v1, v2, v3, v4, v5] ∧ P v1 v2 v3 v4 v5 H Q
def A6 (P : V → V → V → V → V → V → Hp → VK → Prop) : Sp := fun vs H Q _ => ∃ v1 v2 v3 v4 v5 v6, vs = [v1, v2, v3, v4, v5, v6] ∧ P v1 v2 v3 v4 v5 v6 H Q
theorem A1.len {P} {vs : List V} {E : XK} (h : A1 P vs H Q E) : vs.length = 1 := by obtain ⟨_, rfl, _⟩ := h; rfl
theorem A2.len {P} {vs : List V} {E : XK} (h : A2 P vs H Q E) : vs.length = 2 := by obtain ⟨_, _, rfl, _⟩ := h; rfl
theorem A3.len {P} {vs : List V} {E : XK} (h : A3 P vs H Q E) : vs.length = 3 := by obtain ⟨_, _, _, rfl, _⟩ := h; rfl
theorem A4.len {P} {vs : List V} {E : XK} (h : A4 P vs H Q E) : vs.length = 4 := by obtain ⟨_, _, _, _, rfl, _⟩ := h; rfl
theorem A5.len {P} {vs : List V} {E : XK} (h : A5 P vs H Q E) : vs.length = 5 := by obtain ⟨_, _, _, _, _, rfl, _⟩ := h; rfl
theorem A6.len {P} {vs : List V} {E : XK} (h : A6 P vs H Q E) : vs.length = 6 := by obtain ⟨_, _, _, _, _, _, rfl, _⟩ := h; rfl
/-- what a pure def gives back -/
def Ret (K : PySem.W.Frag) (d : PyData) (H : Hp) (Q : VK) : Prop := ∀ v H2, Ex H H2 → Dp K H2 v d → Q v H2
theorem Ret.int (r : Ret K (.int i) H Q) (e : Ex H H') : Q (.int i) H' := r _ _ e (.int i)
theorem Ret.bl {b : Bool} (r : Ret K (.bool b) H Q) (e : Ex H H') : Q (.bl b) H' := r _ _ e (.bl b)
theorem Ret.non (r : Ret K .none H Q) (e : Ex H H') : Q .non H' := r _ _ e .non
theorem ret_int (q : ∀ H2, Ex H H2 → Q (.int i) H2) : Ret K (.int i) H Q := fun v H2 e h => by cases h; exact q H2 e
theorem ret_bl {b : Bool} (q : ∀ H2, Ex H H2 → Q (.bl b) H2) : Ret K (.bool b) H Q := fun v H2 e h => by cases h; exact q H2 e
theorem ret_non (q : ∀ H2, Ex H H2 → Q .non H2) : Ret K .none H Q := fun v H2 e h => by cases h; exact q H2 e
theorem Ret.use {d : PyData} (r : Ret K d H Q) (e : Ex H H') (h : Dp K H' v d) : Q v H' := r v H' e h
theorem Ret.int' {k : Int} (r : Ret K (.int k) H Q) (e : Ex H H') (h : k = i) : Q (.int i) H' := by
  subst h
  exact r.int e
theorem Ret.bl' {b k : Bool} (r : Ret K (.bool k) H Q) (e : Ex H H') (h : k = b) : Q (.bl b) H' := by
  subst h
  exact r.bl e
theorem i_eq (hs : scal v w = true) (q : Q (.bl (decide (v = w))) H) : rEq v w H Q := ⟨hs, q⟩
theorem i_ne (hs : scal v w = true) (q : Q (.bl (!decide (v = w))) H) : rNe v w H Q := ⟨hs, q⟩
theorem i_eqI (q : Q (.bl (decide (i = j))) H) : rEq (.int i) (.int j) H Q := by
  refine ⟨rfl, ?_⟩
  have e : decide (V.int i = V.int j) = decide (i = j) := by
    by_cases h : i = j
    · subst h; simp
    · rw [decide_eq_false h, decide_eq_false (fun z => h (V.int.inj z))]
  rw [e]
  exact q
theorem i_neI (q : Q (.bl (!decide (i = j))) H) : rNe (.int i) (.int j) H Q := by
  refine ⟨rfl, ?_⟩
  have e : decide (V.int i = V.int j) = decide (i = j) := by
    by_cases h : i = j
    · subst h; simp
    · rw [decide_eq_false h, decide_eq_false (fun z => h (V.int.inj z))]
  rw [e]
  exact q
theorem i_gcd (q : Q (.int (gd i j)) H) : rGcd [.int i, .int j] H Q := ⟨i, j, rfl, q⟩
theorem i_qabs (q : Q (.int (if i < 0 then -i else i)) H) : qAbs [.int i] H Q := ⟨i, rfl, q⟩
theorem i_qmax2 (q : Q (.int (if j > i then j else i)) H) : qMax2 [.int i, .int j] H Q := ⟨i, j, rfl, q⟩
theorem i_qmin2 (q : Q (.int (if j < i then j else i)) H) : qMin2 [.int i, .int j] H Q := ⟨i, j, rfl, q⟩
theorem i_qint (q : Q (.int i) H) : qInt1 [.int i] H Q := .inl ⟨i, rfl, q⟩
theorem i_qintB {b : Bool} (q : Q (.int (if b then 1 else 0)) H) : qInt1 [.bl b] H Q := .inr ⟨b, rfl, q⟩
theorem i_qlenT {ds : List PyData} (h : Dp K H v (.tuple ds)) (q : Q (.int (ds.length : Int)) H) : qLen K [v] H Q := by
  obtain ⟨a, vs, rfl, hs, ha⟩ := dpTup h
  refine ⟨a, vs, rfl, .inr hs, ?_⟩
  rw [dpLen ha]
  exact q
theorem i_qlenL {ds : List PyData} (h : Dp K H v (.list ds)) (q : Q (.int (ds.length : Int)) H) : qLen K [v] H Q := by
  obtain ⟨a, vs, rfl, hs, ha⟩ := dpLst h
  refine ⟨a, vs, rfl, .inl hs, ?_⟩
  rw [dpLen ha]
  exact q
theorem i_qtupleL {ds : List PyData} (h : Dp K H v (.list ds)) (q : ∀ p H2, Ex H H2 → (∃ vs, H2 p = some (.tup vs) ∧ DpAll K H2 vs ds) → Q (.ref p) H2) : qTupleOf K [v] H Q := by
  obtain ⟨a, vs, rfl, hs, ha⟩ := dpLst h
  exact ⟨a, vs, rfl, .inl ⟨hs, fun l hl => q l _ (ex_upd hl) ⟨vs, upd_same, dpMonoA (ex_upd hl) ha⟩⟩⟩
theorem i_qlistT {ds : List PyData} (h : Dp K H v (.tuple ds)) (q : ∀ p H2, H p = none → Ex H H2 → (∃ vs, H2 p = some (.lst vs) ∧ DpAll K H2 vs ds) → Q (.ref p) H2) : qListOf K [v] H Q := by
  obtain ⟨a, vs, rfl, hs, ha⟩ := dpTup h
  exact ⟨a, vs, rfl, .inr hs, fun l hl => q l _ hl (ex_upd hl) ⟨vs, upd_same, dpMonoA (ex_upd hl) ha⟩⟩
theorem i_qisN (q : Q (.bl (decide (v = .non))) H) : qIsN v .non H Q := ⟨rfl, q⟩
theorem i_qnotN (q : Q (.bl (!decide (v = .non))) H) : qNotN v .non H Q := ⟨rfl, q⟩
def Par2 (n m : Nat) (σ : L2.St) (R : L2.St → Hp → Prop) (vs : List V) (H : Hp) : Prop := ∃ v w, vs = [v, w] ∧ R ((σ.set n (some v)).set m (some w)) H
def Par3 (n m k : Nat) (σ : L2.St) (R : L2.St → Hp → Prop) (vs : List V) (H : Hp) : Prop := ∃ u v w, vs = [u, v, w] ∧ R (((σ.set n (some u)).set m (some v)).set k (some w)) H
theorem i_par {ts : TA} (q : ts σ H fun vs H1 => Par2 n m σ D.nx vs H1) : tPar n m ts D σ H := q
theorem i_par2 {σ' : L2.St} {R : L2.St → Hp → Prop} (e : (σ.set n (some v)).set m (some w) = σ') (q : R σ' H) : Par2 n m σ R [v, w] H := by subst e; exact ⟨v, w, rfl, q⟩
theorem i_par3 {k : Nat} {ts : TA} (q : ts σ H fun vs H1 => Par3 n m k σ D.nx vs H1) : tPar3 n m k ts D σ H := q
theorem i_par33 {σ' : L2.St} {k : Nat} {u : V} {R : L2.St → Hp → Prop} (e : ((σ.set n (some u)).set m (some v)).set k (some w) = σ') (q : R σ' H) : Par3 n m k σ R [u, v, w] H := by subst e; exact ⟨u, v, w, rfl, q⟩
theorem i_gtup {H0 : Hp} {k : Nat} {ts : TGs} {R : L2.St → Hp → Prop} {ds : List PyData} (h : Dp K H0 v (.tuple ds)) (he : Ex H0 H) (hl : ds.length = k) (q : ∀ vs, DpAll K H0 vs ds → ts vs σ H R) : gTup K k ts v σ H R := by
  obtain ⟨a, vs, rfl, hs, ha⟩ := dpTup h
  exact ⟨a, vs, rfl, Evl.ex_t he hs, (dpLen ha).trans hl, q vs ha⟩
theorem i_glst {H0 : Hp} {k : Nat} {ts : TGs} {R : L2.St → Hp → Prop} {ds : List PyData} (h : Dp K H0 v (.list ds)) (he : Ex H0 H) (hl : ds.length = k) (q : ∀ vs, DpAll K H0 vs ds → ts vs σ H R) : gLst K k ts v σ H R := by
  obtain ⟨a, vs, rfl, hs, ha⟩ := dpLst h
  exact ⟨a, vs, rfl, Evl.ex_l he hs, (dpLen ha).trans hl, q vs ha⟩
theorem i_gcons {g : TG} {ts : TGs} {vs : List V} {R : L2.St → Hp → Prop} (q : g v σ H fun σ' H' => ts vs σ' H' R) : gCons g ts (v :: vs) σ H R := ⟨v, vs, rfl, q⟩
theorem i_gnil {R : L2.St → Hp → Prop} (q : R σ H) : gNil [] σ H R := ⟨rfl, q⟩
theorem i_gconsA {H0 : Hp} {g : TG} {ts : TGs} {vs : List V} {d : PyData} {ds : List PyData} {R : L2.St → Hp → Prop} (h : DpAll K H0 vs (d :: ds)) (q : ∀ v r, Dp K H0 v d → DpAll K H0 r ds → g v σ H fun σ' H' => ts r σ' H' R) : gCons g ts vs σ H R := by
  cases h with
  | cons h1 h2 => exact ⟨_, _, rfl, q _ _ h1 h2⟩
theorem i_gconsI {H0 : Hp} {g : TG} {ts : TGs} {vs : List V} {ds : List PyData} {R : L2.St → Hp → Prop} (h : DpAll K H0 vs (.int i :: ds)) (q : ∀ r, DpAll K H0 r ds → g (.int i) σ H fun σ' H' => ts r σ' H' R) : gCons g ts vs σ H R := by
  cases h with
  | cons h1 h2 => cases dpInt h1; exact ⟨_, _, rfl, q _ h2⟩
theorem i_gnilA {H0 : Hp} {vs : List V} {R : L2.St → Hp → Prop} (h : DpAll K H0 vs []) (q : R σ H) : gNil vs σ H R := by
  cases h
  exact ⟨rfl, q⟩
theorem i_eqD {d e : PyData} (h1 : Dp K H v d) (h2 : Dp K H w e) (s1 : SeqAt.shaped d = true) (s2 : SeqAt.shaped e = true) (q : Q (.bl (PyData.eqv d e)) H) : rEqD K v w H Q := ⟨d, e, h1, h2, s1, s2, q⟩
theorem i_neD {d e : PyData} (h1 : Dp K H v d) (h2 : Dp K H w e) (s1 : SeqAt.shaped d = true) (s2 : SeqAt.shaped e = true) (q : Q (.bl (!PyData.eqv d e)) H) : rNeD K v w H Q := ⟨d, e, h1, h2, s1, s2, q⟩
theorem dpInts : ∀ {ns : List Int} {vs : List V}, DpAll K H vs (ns.map PyData.int) → vs = ns.map V.int
  | [], _, h => by cases h; rfl
  | n :: ns, _, h => by
    cases h with
    | cons h1 h2 => rw [dpInt h1, dpInts h2]; rfl
theorem i_ltT {ns ms : List Int} {ds es : List PyData} (h1 : Dp K H v (.tuple ds)) (h2 : Dp K H w (.tuple es)) (e1 : ds = ns.map PyData.int) (e2 : es = ms.map PyData.int) (q : Q (.bl (HT.lexLt ns ms)) H) : rLtT K v w H Q := by
  subst e1 e2
  obtain ⟨a, vs, rfl, hs, ha⟩ := dpTup h1
  obtain ⟨b, ws, rfl, ks, ka⟩ := dpTup h2
  rw [dpInts ha] at hs
  rw [dpInts ka] at ks
  exact ⟨a, b, ns, ms, rfl, rfl, hs, ks, q⟩
/-- a loop over a tuple whose turns only add to the heap and set the loop's name -/
theorem i_forT {tb : TS} {ds : List PyData} {j : Nat} (h : Dp K H v (.tuple ds)) (hσ : ∀ u : V, (σ.set j (some u)).set j (some u) = σ.set j (some u))
    (hs : ∀ (u : V) (d : PyData) (H2 : Hp) (y : Option V) (N : L2.St → Hp → Prop), Ex H H2 → d ∈ ds → Dp K H2 u d → (∀ H3, Ex H2 H3 → N (σ.set j (some u)) H3) → tb { D with nx := N, ct := N, bk := D.nx } (σ.set j (some u)) H2)
    (hd : ∀ (y : Option V) (H2 : Hp), Ex H H2 → D.nx (σ.set j y) H2) (h0 : σ.set j none = σ) : tFor (iTup K (tC v)) (gName j) tb D σ H := by
  obtain ⟨a, xs, rfl, hq, ha⟩ := dpTup h
  refine ⟨a, rfl, ⟨xs, hq⟩, for_tup (xs := xs) (fun i σ' H' => (∃ y, σ' = σ.set j y) ∧ Ex H H') ⟨⟨none, h0.symm⟩, Ex.refl H⟩ (fun i σ' H' _ p => Evl.ex_t p.2 hq) (fun i x σ' H' hi p => ?_) (fun σ' H' p => ?_)⟩
  · obtain ⟨⟨y, rfl⟩, e⟩ := p
    have hm : ∃ d, ds[i]? = some d ∧ Dp K H x d := by
      have hj : i < ds.length := by rw [← dpLen ha]; exact (List.getElem?_eq_some_iff.mp hi).1
      obtain ⟨u, h1, h2⟩ := dpGet ha (List.getElem?_eq_getElem hj)
      rw [hi] at h1
      cases h1
      exact ⟨_, List.getElem?_eq_getElem hj, h2⟩
    obtain ⟨d, hd1, hd2⟩ := hm
    show tb _ ((σ.set j y).set j (some x)) H'
    rw [List.set_set]
    exact hs x d H' y _ e (List.mem_of_getElem? hd1) (dpMono e hd2) fun H3 e3 => ⟨⟨some x, rfl⟩, e.trans e3⟩
  · obtain ⟨⟨y, rfl⟩, e⟩ := p
    exact hd y H' e
theorem i_forU {tb : TS} {tl : TE} {j : Nat} (q : tl σ H fun x H1 => tFor (iTup K (tC x)) (gName j) tb D σ H1) : tFor (iTup K tl) (gName j) tb D σ H := q
theorem i_forV {tb : TS} {tl : TE} {j : Nat} (q : tl σ H fun x H1 => tFor (iList K (tC x)) (gName j) tb D σ H1) : tFor (iList K tl) (gName j) tb D σ H := q
theorem i_isB {a b : Bool} (q : Q (.bl (decide (a = b))) H) : rIsB (.bl a) (.bl b) H Q := ⟨a, b, rfl, rfl, q⟩
theorem i_notB {a b : Bool} (q : Q (.bl (!decide (a = b))) H) : rNotB (.bl a) (.bl b) H Q := ⟨a, b, rfl, rfl, q⟩
theorem i_chain {r r' : R2} {tc : TE} (q : ta σ H fun x H1 => tb σ H1 fun y H2 => r x y H2 fun z H3 => ∃ k, z = .bl k ∧ (if k = true then tc σ H3 fun w' H4 => r' y w' H4 Q else Q (.bl false) H3)) : tChain r r' ta tb tc σ H Q := q
theorem i_tw (W : Nat → L2.St → Hp → Prop) (m0 : Nat) (h0 : W m0 σ H) {tb : TS}
    (hs : ∀ m σ' H', W m σ' H' → c σ' H' fun b H1 => if b = true then ∃ N : L2.St → Hp → Prop, (∀ σ2 H2, N σ2 H2 → ∃ m', m' < m ∧ W m' σ2 H2) ∧ tb { D with nx := N, ct := N, bk := D.nx } σ' H1 else D.nx σ' H1) : tWhile c tb D σ H := ⟨W, ⟨m0, h0⟩, hs⟩
theorem ret_any {d : PyData} (q : ∀ v H2, Ex H H2 → Dp K H2 v d → Q v H2) : Ret K d H Q := q
end

/-! ### comprehensions over pure data -/
mutual
/-- no list within -/
def noL : PyData → Bool
  | .list _ => false
  | .dict _ => false
  | .tuple ds => noLs ds
  | _ => true
def noLs : List PyData → Bool
  | [] => true
  | d :: ds => noL d && noLs ds
end
section
variable {K : PySem.W.Frag} {H : Hp} {D : Addr} {xs ys : List V}
theorem sqt_upd {a : Addr} {zs : List V} (hD : H D = some (.lst xs)) (h : SqT K H a zs) : SqT K (upd H D (.lst ys)) a zs := by
  rcases h with (h | ⟨o, h⟩) | h
  · exact .inl (.inl (by rw [upd_ne (ne_of h hD (by intro z; cases z))]; exact h))
  · exact .inl (.inr ⟨o, by rw [upd_ne (ne_of h hD (by intro z; cases z))]; exact h⟩)
  · exact .inr h
mutual
theorem dpUpd (hD : H D = some (.lst xs)) : ∀ {d : PyData} {v : V}, noL d = true → Dp K H v d → Dp K (upd H D (.lst ys)) v d
  | .none, _, _, h => by cases h; exact .non
  | .bool _, _, _, h => by cases h; exact .bl _
  | .int _, _, _, h => by cases h; exact .int _
  | .str _, _, _, h => by cases h; exact .str _
  | .list ds, _, n, h => by cases n
  | .tuple ds, _, n, h => by
    cases h with
    | tup hs ha => exact .tup (sqt_upd hD hs) (dpUpdA hD n ha)
  | .dict _, _, _, h => by cases h
theorem dpUpdA (hD : H D = some (.lst xs)) : ∀ {ds : List PyData} {vs : List V}, noLs ds = true → DpAll K H vs ds → DpAll K (upd H D (.lst ys)) vs ds
  | [], _, _, h => by cases h; exact .nil
  | d :: ds, _, n, h => by
    cases h with
    | cons h1 h2 =>
      have n2 := Bool.and_eq_true_iff.mp (show (noL d && noLs ds) = true from n)
      exact .cons (dpUpd hD n2.1 h1) (dpUpdA hD n2.2 h2)
end
theorem noLs_all : ∀ {ds : List PyData}, (∀ d ∈ ds, noL d = true) → noLs ds = true
  | [], _ => rfl
  | d :: ds, h => by
    show (noL d && noLs ds) = true
    rw [h d List.mem_cons_self, noLs_all fun e he => h e (List.mem_cons_of_mem _ he)]
    rfl
theorem dpAllApp : ∀ {ds es : List PyData} {vs ws : List V}, DpAll K H vs ds → DpAll K H ws es → DpAll K H (vs ++ ws) (ds ++ es)
  | [], _, _, _, h, k => by cases h; exact k
  | d :: ds, _, _, _, h, k => by
    cases h with
    | cons h1 h2 => exact .cons h1 (dpAllApp h2 k)
end
section
variable {K : PySem.W.Frag} {σ : L2.St} {H : Hp} {Q : VK} {j : Nat} {te tl : TE} {tt : TT} {vs : List Nat} {v : V}
theorem i_lcU (q : tl σ H fun x H1 => tLc (iTup K (tC x)) (gName j) tt te vs σ H1 Q) : tLc (iTup K tl) (gName j) tt te vs σ H Q := q
theorem i_lcM (q : tl σ H fun x H1 => tLc (iList K (tC x)) (gName j) tt te vs σ H1 Q) : tLc (iList K tl) (gName j) tt te vs σ H Q := q
/-- one turn of a pure comprehension keeps what it made so far -/
def Lcv (K : PySem.W.Frag) (H1 : Hp) (D : Addr) (ds : List PyData) (c : PyData → Bool) (f : PyData → PyData) (i : Nat) (H' : Hp) : Prop :=
  H1 D = none ∧ Ex H1 H' ∧ ∃ acc, H' D = some (.lst acc) ∧ DpAll K H' acc (((ds.take i).filter c).map f)
theorem lcv_turn {H1 H' : Hp} {D : Addr} {ds : List PyData} {c : PyData → Bool} {f : PyData → PyData} {i : Nat} {d : PyData} {σ2 : L2.St} (p : Lcv K H1 D ds c f i H') (hd : ds[i]? = some d) (hl : ds.length ≤ 100000) (hn : ∀ d ∈ ds, noL (f d) = true)
    (ht : ∀ (H2 : Hp) (R : Bool → Hp → Prop), Ex H1 H2 → (∀ H3, Ex H2 H3 → R (c d) H3) → tt σ2 H2 R)
    (he : c d = true → ∀ (H2 : Hp) (R : VK), Ex H1 H2 → (∀ w H3, Ex H2 H3 → Dp K H3 w (f d) → R w H3) → te σ2 H2 R) :
    tt σ2 H' fun b H3 => if b = true then te σ2 H3 fun y H4 => ∃ acc, H4 D = some (.lst acc) ∧ acc.length < sizeLine ∧ Lcv K H1 D ds c f (i + 1) (upd H4 D (.lst (acc ++ [y]))) else Lcv K H1 D ds c f (i + 1) H3 := by
  obtain ⟨p1, p2, acc, p3, p4⟩ := p
  have ht1 : ds.take (i + 1) = ds.take i ++ [d] := by rw [List.take_add_one, hd]; rfl
  refine ht H' _ p2 fun H3 e3 => ?_
  cases hc : c d with
  | true =>
    refine he hc H3 _ (p2.trans e3) fun y H4 e4 hy => ?_
    have hD4 : H4 D = some (.lst acc) := e4 _ _ (e3 _ _ p3)
    have hlen : acc.length ≤ ds.length := by
      rw [dpLen p4, List.length_map]
      exact Nat.le_trans (List.length_filter_le _ _) (by rw [List.length_take]; omega)
    refine ⟨acc, hD4, Evl.sz_lt (by
      have hi : i < ds.length := (List.getElem?_eq_some_iff.mp hd).1
      have : acc.length ≤ i := by
        rw [dpLen p4, List.length_map]
        exact Nat.le_trans (List.length_filter_le _ _) (by rw [List.length_take]; omega)
      omega), p1, Evl.Ex.mut ((p2.trans e3).trans e4) p1, acc ++ [y], upd_same, ?_⟩
    rw [ht1, List.filter_append, List.map_append, List.filter_cons, if_pos hc]
    refine dpUpdA hD4 (noLs_all fun z hz => ?_) (dpAllApp (dpMonoA (e3.trans e4) p4) (.cons hy .nil))
    rcases List.mem_append.mp hz with h | h
    · obtain ⟨z0, h1, rfl⟩ := List.mem_map.mp h
      exact hn z0 (List.mem_of_mem_take (List.mem_filter.mp h1).1)
    · rcases List.mem_singleton.mp h with rfl
      exact hn d (List.mem_of_getElem? hd)
  | false =>
    refine ⟨p1, p2.trans e3, acc, e3 _ _ p3, ?_⟩
    rw [ht1, List.filter_append, List.filter_cons, if_neg (by rw [hc]; decide), List.filter_nil, List.append_nil]
    exact dpMonoA e3 p4
theorem dpIdx {H : Hp} {xs : List V} {ds : List PyData} {i : Nat} {x : V} (h : DpAll K H xs ds) (e : xs[i]? = some x) : ∃ d, ds[i]? = some d ∧ Dp K H x d := by
  have hi : i < xs.length := (List.getElem?_eq_some_iff.mp e).1
  have hj : i < ds.length := by rw [← dpLen h]; exact hi
  obtain ⟨u, h1, h2⟩ := dpGet h (List.getElem?_eq_getElem hj)
  rw [e] at h1
  cases h1
  exact ⟨_, List.getElem?_eq_getElem hj, h2⟩
theorem i_lcT {ds : List PyData} (c : PyData → Bool) (f : PyData → PyData) (h : Dp K H v (.tuple ds)) (hl : ds.length ≤ 100000) (hn : ∀ d ∈ ds, noL (f d) = true) (hw : ∀ x, wipe ((wipe σ vs).set j (some x)) vs = wipe σ vs)
    (ht : ∀ (u : V) (d : PyData) (H2 : Hp) (R : Bool → Hp → Prop), Ex H H2 → d ∈ ds → Dp K H2 u d → (∀ H3, Ex H2 H3 → R (c d) H3) → tt ((wipe σ vs).set j (some u)) H2 R)
    (he : ∀ (u : V) (d : PyData) (H2 : Hp) (R : VK), Ex H H2 → d ∈ ds → c d = true → Dp K H2 u d → (∀ w H3, Ex H2 H3 → Dp K H3 w (f d) → R w H3) → te ((wipe σ vs).set j (some u)) H2 R)
    (q : ∀ p H2, H p = none → Ex H H2 → (∃ acc, H2 p = some (.lst acc) ∧ DpAll K H2 acc ((ds.filter c).map f)) → Q (.ref p) H2) : tLc (iTup K (tC v)) (gName j) tt te vs σ H Q := by
  obtain ⟨a, xs, rfl, hs, ha⟩ := dpTup h
  refine ⟨a, rfl, ⟨xs, hs⟩, fun D hD => lc_tup (xs := xs) (Lcv K H D ds c f) ⟨hD, Ex.new hD, [], upd_same, .nil⟩ (fun i H' _ p => Evl.ex_t p.2.1 hs) (fun i x H' hi p => ⟨hw x, ?_⟩) (fun H' p => ?_)⟩
  · obtain ⟨d, hd, hx⟩ := dpIdx ha hi
    have hm := List.mem_of_getElem? hd
    exact lcv_turn p hd hl hn (fun H2 R e2 r => ht x d H2 R e2 hm (dpMono e2 hx) r) (fun hc H2 R e2 r => he x d H2 R e2 hm hc (dpMono e2 hx) r)
  · obtain ⟨p1, p2, acc, p3, p4⟩ := p
    rw [dpLen ha, List.take_length] at p4
    exact q D H' p1 p2 ⟨acc, p3, p4⟩
theorem i_lcL {ds : List PyData} (c : PyData → Bool) (f : PyData → PyData) (h : Dp K H v (.list ds)) (hl : ds.length ≤ 100000) (hn : ∀ d ∈ ds, noL (f d) = true) (hw : ∀ x, wipe ((wipe σ vs).set j (some x)) vs = wipe σ vs)
    (ht : ∀ (u : V) (d : PyData) (H2 : Hp) (R : Bool → Hp → Prop), Ex H H2 → d ∈ ds → Dp K H2 u d → (∀ H3, Ex H2 H3 → R (c d) H3) → tt ((wipe σ vs).set j (some u)) H2 R)
    (he : ∀ (u : V) (d : PyData) (H2 : Hp) (R : VK), Ex H H2 → d ∈ ds → c d = true → Dp K H2 u d → (∀ w H3, Ex H2 H3 → Dp K H3 w (f d) → R w H3) → te ((wipe σ vs).set j (some u)) H2 R)
    (q : ∀ p H2, H p = none → Ex H H2 → (∃ acc, H2 p = some (.lst acc) ∧ DpAll K H2 acc ((ds.filter c).map f)) → Q (.ref p) H2) : tLc (iList K (tC v)) (gName j) tt te vs σ H Q := by
  obtain ⟨a, xs, rfl, hs, ha⟩ := dpLst h
  refine ⟨a, rfl, ⟨xs, hs⟩, fun D hD => lc_list (xs := xs) (Lcv K H D ds c f) ⟨hD, Ex.new hD, [], upd_same, .nil⟩ (fun i H' _ p => Evl.ex_l p.2.1 hs) (fun i x H' hi p => ⟨hw x, ?_⟩) (fun H' p => ?_)⟩
  · obtain ⟨d, hd, hx⟩ := dpIdx ha hi
    have hm := List.mem_of_getElem? hd
    exact lcv_turn p hd hl hn (fun H2 R e2 r => ht x d H2 R e2 hm (dpMono e2 hx) r) (fun hc H2 R e2 r => he x d H2 R e2 hm hc (dpMono e2 hx) r)
  · obtain ⟨p1, p2, acc, p3, p4⟩ := p
    rw [dpLen ha, List.take_length] at p4
    exact q D H' p1 p2 ⟨acc, p3, p4⟩
theorem i_yes {R : Bool → Hp → Prop} (q : R true H) : tYes σ H R := q
theorem i_all {ds : List PyData} {bs : List Bool} (h : Dp K H v (.list ds)) (e : ds = bs.map PyData.bool) (q : Q (.bl (bs.all id)) H) : rAll K [v] H Q := by
  obtain ⟨a, xs, rfl, hs, ha⟩ := dpLst h
  subst e
  have ex : ∀ {bs : List Bool} {xs : List V}, DpAll K H xs (bs.map PyData.bool) → xs = bs.map V.bl := by
    intro bs
    induction bs with
    | nil => intro xs h; cases h; rfl
    | cons b bs ih =>
      intro xs h
      cases h with
      | cons h1 h2 => rw [dpBl h1, ih h2]; rfl
  rw [ex ha] at hs
  exact ⟨a, bs, rfl, hs, q⟩
theorem wipe1 (x : V) : wipe ((wipe σ [j]).set j (some x)) [j] = wipe σ [j] := by
  show ((σ.set j none).set j (some x)).set j none = σ.set j none
  rw [List.set_set, List.set_set]
end
end Wb

namespace Wb
open PySem PySem.Spec PyProof.Rows L2
open Evl (Ex Ex.refl Ex.trans Ex.new)
/-! ### the bag of draws: a list of three ints that is changed by each draw; all else is told of the heap without it -/
def hid (b : Addr) (H : Hp) : Hp := fun a => if a = b then none else H a
theorem hid_of {b a : Addr} {H : Hp} {o : HO} (h : H a = some o) (hn : a ≠ b) : hid b H a = some o := by
  unfold hid
  rw [if_neg hn]
  exact h
theorem of_hid {b a : Addr} {H : Hp} {o : HO} (h : hid b H a = some o) : a ≠ b ∧ H a = some o := by
  unfold hid at h
  by_cases e : a = b
  · rw [if_pos e] at h
    cases h
  · rw [if_neg e] at h
    exact ⟨e, h⟩
theorem ex_hid {b : Addr} {H : Hp} : Ex (hid b H) H := fun _ _ h => (of_hid h).2
theorem hid_ex {b : Addr} {H H' : Hp} (e : Ex H H') : Ex (hid b H) (hid b H') := fun a o h => hid_of (e a o (of_hid h).2) (of_hid h).1
theorem hid_upd {b : Addr} {H : Hp} {o : HO} : Ex (hid b H) (hid b (upd H b o)) := fun a u h => hid_of (by rw [upd_ne (of_hid h).1]; exact (of_hid h).2) (of_hid h).1
/-- what did not know the bag stays known -/
theorem ex_unhid {b : Addr} {H0 H H' : Hp} (h0 : H0 b = none) (e : Ex H0 H) (e2 : Ex (hid b H) (hid b H')) : Ex H0 H' := fun a o h => (of_hid (e2 a o (hid_of (e a o h) (ne_of_none h h0)))).2
theorem ex_tohid {b : Addr} {H0 H : Hp} (h0 : H0 b = none) (e : Ex H0 H) : Ex H0 (hid b H) := fun a o h => hid_of (e a o h) (ne_of_none h h0)
structure Bag (b : Addr) (H : Hp) : Prop where
  ex : ∃ x y z : Int, H b = some (.lst [.int x, .int y, .int z]) ∧ 0 ≤ x ∧ Sz 2100 x
theorem Bag.mono {b : Addr} {H H' : Hp} (h : Bag b H) (e : Ex H H') : Bag b H' := by
  obtain ⟨x, y, z, h1, h2, h3⟩ := h.ex
  exact ⟨x, y, z, e _ _ h1, h2, h3⟩
theorem Bag.ne {b p : Addr} {H : Hp} (h : Bag b H) (hp : H p = none) : p ≠ b := by
  obtain ⟨x, y, z, h1, _⟩ := h.ex
  exact (ne_of_none h1 hp).symm
theorem hid_tup {b p : Addr} {H : Hp} {xs : List V} (h : Bag b H) (hp : H p = some (.tup xs)) : hid b H p = some (.tup xs) := by
  obtain ⟨x, y, z, h1, _⟩ := h.ex
  exact hid_of hp (ne_of hp h1 (by intro z; cases z))
theorem hid_new {b p : Addr} {H H' : Hp} {o : HO} (h : Bag b H) (hn : H p = none) (hp : H' p = some o) : hid b H' p = some o := hid_of hp (h.ne hn)
section
variable {K : PySem.W.Frag} {σ : L2.St} {H H' : Hp} {Q : VK} {D : Ends} {ta tb te : TE} {v : V} {i j : Int} {b : Addr}
theorem i_mkTB {xs : List V} (hl : xs.length ≤ 100000) (hb : Bag b H) (q : ∀ p H2, Ex H H2 → Bag b H2 → hid b H2 p = some (.tup xs) → Q (.ref p) H2) : MkT xs H Q :=
  i_mkT hl fun p H2 e hp => q p H2 e (hb.mono e) (hid_tup (hb.mono e) hp)
theorem i_mkLB {xs : List V} (hl : xs.length ≤ 100000) (hb : Bag b H) (q : ∀ p H2, H p = none → Ex H H2 → Bag b H2 → hid b H2 p = some (.lst xs) → Q (.ref p) H2) : MkL xs H Q :=
  i_mkL hl fun p H2 hn e hp => q p H2 hn e (hb.mono e) (hid_new hb hn hp)
theorem i_mulC (h : CMul i j) (q : Q (.int (i * j)) H) : rI CMul (fun i j => .int (i * j)) (.int i) (.int j) H Q := ⟨i, j, rfl, rfl, h, q⟩
theorem cmul_l (h : i.natAbs < 18446744073709551616) : CMul i j := .inl ⟨by omega, by omega⟩
theorem cmul_r (h : j.natAbs < 18446744073709551616) : CMul i j := .inr ⟨by omega, by omega⟩
theorem i_ixLr {xs : List V} {k : Int} (h : H b = some (.lst xs)) (e : atI xs k = some v) (q : Q v H) : rIxL K (.ref b) (.int k) H Q := ⟨b, xs, k, v, rfl, rfl, .inl (.inl h), e, q⟩
theorem i_sub {to ti : TE} {ts : TSet} {R : L2.St → Hp → Prop} (q : to σ H fun o H1 => ti σ H1 fun i H2 => ts o i v H2 fun H3 => R σ H3) : gSub to ti ts v σ H R := q
theorem i_setL {xs : List V} {k : Int} {n : Nat} {R : Hp → Prop} (h : H b = some (.lst xs)) (e : ixN xs.length k = some n) (q : ∀ H2, H2 b = some (.lst (xs.set n v)) → Ex (hid b H) (hid b H2) → R H2) : rSetL (.ref b) (.int k) v H R :=
  ⟨b, xs, k, n, rfl, rfl, h, e, q _ upd_same hid_upd⟩
theorem fmod_lt (a : Int) {b : Int} (hb : b ≠ 0) : (a.fmod b).natAbs < b.natAbs := by
  rcases Int.lt_or_gt_of_ne hb with h | h
  · rw [Int.fmod_eq_emod]
    have h1 := Int.emod_nonneg a hb
    have h2 := Int.emod_lt a hb
    have h3 : b ∣ a → a % b = 0 := Int.emod_eq_zero_of_dvd
    by_cases hd : b ∣ a
    · rw [if_pos (Or.inr hd), h3 hd]
      omega
    · rw [if_neg (by omega)]
      have h4 : a % b ≠ 0 := fun z => hd (Int.dvd_of_emod_eq_zero z)
      omega
  · have h1 := Int.fmod_nonneg_of_pos a h
    have h2 := Int.fmod_lt_of_pos a h
    omega
theorem sz_fmod {a : Nat} {i j : Int} (hj : j ≠ 0) (ha : Sz a j) : Sz a (i.fmod j) := sz_le ha (Nat.le_of_lt (fmod_lt i hj))
theorem i_qlenS {xs : List V} (h : SqL K H b xs) (q : Q (.int (xs.length : Int)) H) : qLen K [.ref b] H Q := ⟨b, xs, rfl, .inl h, q⟩
theorem i_sl {r : V → Option Int → Option Int → Hp → VK → Prop} {tl th : TO} (q : te σ H fun x H1 => tl σ H1 fun l H2 => th σ H2 fun u H3 => r x l u H3 Q) : tSl r te tl th σ H Q := q
theorem i_nopart {R : Option Int → Hp → Prop} (q : R none H) : tNoPart σ H R := q
theorem i_part {R : Option Int → Hp → Prop} (q : te σ H fun x H1 => ∃ i, x = .int i ∧ R (some i) H1) : tPart te σ H R := q
theorem i_part1 {R : Int → Prop} (q : R i) : ∃ k, V.int i = .int k ∧ R k := ⟨i, rfl, q⟩
theorem i_slL {xs : List V} {lo hi : Option Int} (h : SqL K H b xs) (q : ∀ p H2, H p = none → Ex H H2 → H2 p = some (.lst (cutV xs lo hi)) → Q (.ref p) H2) : rSlL K (.ref b) lo hi H Q := ⟨b, xs, rfl, h, fun p hp => q p _ hp (ex_upd hp) upd_same⟩
theorem i_sum {ns : List Int} (h : SqL K H b (ns.map V.int)) (q : Q (.int ns.sum) H) : rSum K [.ref b] H Q := ⟨b, ns, rfl, h, q⟩
theorem i_ixLs {xs : List V} {k : Int} (h : SqL K H b xs) (e : atI xs k = some v) (q : Q v H) : rIxL K (.ref b) (.int k) H Q := ⟨b, xs, k, v, rfl, rfl, h, e, q⟩
end
end Wb

namespace Wb
open PySem PySem.Spec PyProof.Rows L2
open Evl (Ex Ex.refl Ex.trans Ex.new)
local macro_rules | `(tactic| wtm_at "dp") => `(tactic| first | with_reducible assumption | with_reducible exact Dp.int _ | with_reducible exact Dp.bl _ | with_reducible exact Dp.str _ | with_reducible exact Dp.non | ((with_reducible refine' dpMono ?dme (by with_reducible assumption)); (case dme => wtm_at "ex")) | ((with_reducible refine' Dp.tup (Evl.st_of ?dph) ?dpa); (case dph => wtm_at "hs"); (case dpa => wtm_at "dpa")) | ((with_reducible refine' Dp.lst (Evl.sq_of ?dph) ?dpa); (case dph => wtm_at "hs"); (case dpa => wtm_at "dpa")))
local macro_rules | `(tactic| wtm_at "dpa") => `(tactic| first | with_reducible exact DpAll.nil | ((with_reducible refine' DpAll.cons ?dp1 ?dp2); (case dp1 => wtm_at "dp"); (case dp2 => wtm_at "dpa")) | with_reducible assumption | ((with_reducible refine' dpMonoA ?dme (by with_reducible assumption)); (case dme => wtm_at "ex")))
local macro_rules | `(tactic| wtm_at "sz") => `(tactic| first | with_reducible assumption | ((with_reducible refine' sz_mul ?sz1 ?sz2); (case sz1 => wtm_at "sz"); (case sz2 => wtm_at "sz")) | ((with_reducible refine' sz_add ?sz1 ?sz2); (case sz1 => wtm_at "sz"); (case sz2 => wtm_at "sz")) | ((with_reducible refine' sz_sub ?sz1 ?sz2); (case sz1 => wtm_at "sz"); (case sz2 => wtm_at "sz")) | ((with_reducible refine' sz_neg ?sz1); (case sz1 => wtm_at "sz")) | ((with_reducible refine' sz_div ?sz1); (case sz1 => wtm_at "sz")) | ((with_reducible refine' sz_fdiv ?sz1); (case sz1 => wtm_at "sz")) | exact sz_lit (by decide) | wtm_at "sz2")
local macro_rules | `(tactic| wtm_at "szb") => `(tactic| first | with_reducible assumption | ((with_reducible refine' sz_mono ?szb1 ?szb2); (case szb1 => wtm_at "sz"); (case szb2 => decide)))
local macro_rules | `(tactic| wtm_at "nz") => `(tactic| first | assumption | decide | omega)
local macro_rules | `(tactic| wtm_at "shaped") => `(tactic| first | rfl | decide)
local macro_rules | `(tactic| wtm_at "sset") => `(tactic| ((dsimp only [L2.wipe, List.set, List.set_cons_zero, List.set_cons_succ]) <;> exact rfl))
local macro_rules | `(tactic| wtm_at "nrm") => `(tactic| dsimp only [L2.start, L2.wipe, List.set, List.append, List.map, List.map_cons, List.map_nil, List.length_cons, List.length_nil, Nat.reduceAdd, Nat.reduceSub, List.reduceReplicate, List.replicate, List.cons_append, List.nil_append, List.set_cons_zero, List.set_cons_succ])
local macro_rules | `(tactic| wtm_at "st") => `(tactic| first
  | ((with_reducible refine' i_var (v := ?u0) ?u1 ?uq); (case u1 => exact rfl))
  | ((with_reducible refine' i_nameN ?u0 ?uq); (case u0 => wtm_at "sset"))
  | (with_reducible refine' i_op ?uq)
  | (with_reducible refine' i_c ?uq)
  | (with_reducible refine' i_I0 ?uq)
  | ((with_reducible refine' i_ixTI (i := ?u0) ?u1 ?u2 ?u3 ?uq); (case u1 => wtm_at "dp"); (case u2 => wtm_at "ex"); (case u3 => exact rfl))
  | ((with_reducible refine' i_ixT (d := ?u0) ?u1 ?u2 ?u3 (fun xu hxu => ?uq)); (case u1 => wtm_at "dp"); (case u2 => wtm_at "ex"); (case u3 => exact rfl))
  | ((with_reducible refine' i_mul ?u0 ?u1 ?u2 ?uq); (case u0 => wtm_at "sz"); (case u1 => wtm_at "sz"); (case u2 => first | decide | omega))
  | (with_reducible refine' i_seq ?uq)
  | (with_reducible refine' i_asg ?uq)
  | (with_reducible refine' i_ret ?uq)
  | (with_reducible refine' i_ifs ?uq)
  | (with_reducible refine' i_drop ?uq)
  | (with_reducible refine' i_next ?uq)
  | (with_reducible refine' i_cons ?uq)
  | (with_reducible refine' i_nil ?uq)
  | (with_reducible refine' i_cl ?uq)
  | (with_reducible refine' i_cb ?uq)
  | (with_reducible refine' i_tup ?uq)
  | (with_reducible refine' i_lst ?uq)
  | ((with_reducible refine' i_mkT ?u0 (fun np nH nhe nhp => ?uq)); (case u0 => exact Nat.le_of_ble_eq_true rfl))
  | (with_reducible refine' i_test ?uq)
  | (with_reducible refine' i_B ?uq)
  | (with_reducible refine' i_k ?uq)
  | (with_reducible refine' i_and ?uq)
  | (with_reducible refine' i_or ?uq)
  | (with_reducible refine' i_not ?uq)
  | (with_reducible refine' i_andV ?uq)
  | (with_reducible refine' i_orV ?uq)
  | (with_reducible refine' i_notV ?uq)
  | (with_reducible refine' i_if ?uq)
  | (with_reducible refine' i_un ?uq)
  | (with_reducible refine' i_U ?uq)
  | (with_reducible refine' i_iteT ?uq)
  | (with_reducible refine' i_iteF ?uq)
  | ((with_reducible refine' i_iteTr ?u0 ?uq); (case u0 => first | with_reducible rfl | decide | (simp only [dIsInt, dIsBool, dIsTup, dIsStr, dIsLst, Bool.not_true, Bool.not_false]; done)))
  | ((with_reducible refine' i_iteFr ?u0 ?uq); (case u0 => first | with_reducible rfl | decide | (simp only [dIsInt, dIsBool, dIsTup, dIsStr, dIsLst, Bool.not_true, Bool.not_false]; done)))
  | (with_reducible refine' i_ite (fun hif => ?uqa) (fun hif => ?uqb))
  | (with_reducible refine' i_iteN (fun hif => ?uqa) (fun hif => ?uqb))
  | (with_reducible refine' i_iteBN (fun hif => ?uqa) (fun hif => ?uqb))
  | (with_reducible refine' i_iteB (fun hif => ?uqa) (fun hif => ?uqb))
  | ((with_reducible refine' i_modN ?u0 ?uq); (case u0 => wtm_at "nz"))
  | ((with_reducible refine' i_fdX ?u0 ?u1 ?u2 ?uq); (case u0 => wtm_at "nz"); (case u1 => wtm_at "sz"); (case u2 => first | decide | omega))
  | ((with_reducible refine' i_pow ?u0 ?uq); (case u0 => exact ⟨by decide, by decide +kernel⟩))
  | (with_reducible refine' i_eqI ?uq)
  | (with_reducible refine' i_neI ?uq)
  | (with_reducible refine' i_gcd ?uq)
  | (with_reducible refine' i_qabs ?uq)
  | (with_reducible refine' i_qint ?uq)
  | (with_reducible refine' i_qintB ?uq)
  | (with_reducible refine' i_qmax2 ?uq)
  | (with_reducible refine' i_qmin2 ?uq)
  | (with_reducible refine' i_isB ?uq)
  | (with_reducible refine' i_notB ?uq)
  | (with_reducible refine' i_chain ?uq)
  | (with_reducible refine' i_qisN ?uq)
  | (with_reducible refine' i_qnotN ?uq)
  | (with_reducible refine' i_yes ?uq)
  | (with_reducible refine' i_par ?uq)
  | (with_reducible refine' i_par3 ?uq)
  | ((with_reducible refine' i_par2 ?u0 ?uq); (case u0 => wtm_at "sset"))
  | ((with_reducible refine' i_par33 ?u0 ?uq); (case u0 => wtm_at "sset"))
  | ((with_reducible refine' i_ixLI (i := ?u0) ?u1 ?u2 ?u3 ?uq); (case u1 => wtm_at "dp"); (case u2 => wtm_at "ex"); (case u3 => exact rfl))
  | ((with_reducible refine' i_ixL (d := ?u0) ?u1 ?u2 ?u3 (fun xu hxu => ?uq)); (case u1 => wtm_at "dp"); (case u2 => wtm_at "ex"); (case u3 => exact rfl))
  | ((with_reducible refine' i_qlenT ?u0 ?uq); (case u0 => wtm_at "dp"))
  | ((with_reducible refine' i_qlenL ?u0 ?uq); (case u0 => wtm_at "dp"))
  | ((with_reducible refine' i_gtup ?u0 ?u1 ?u2 (fun gvs gdp => ?uq)); (case u0 => wtm_at "dp"); (case u1 => wtm_at "ex"); (case u2 => exact rfl))
  | ((with_reducible refine' i_glst ?u0 ?u1 ?u2 (fun gvs gdp => ?uq)); (case u0 => wtm_at "dp"); (case u1 => wtm_at "ex"); (case u2 => exact rfl))
  | ((with_reducible refine' i_gconsI ?u0 (fun gr gh => ?uq)); (case u0 => with_reducible assumption))
  | ((with_reducible refine' i_gconsA ?u0 (fun gv gr gh1 gh2 => ?uq)); (case u0 => with_reducible assumption))
  | ((with_reducible refine' i_gnilA ?u0 ?uq); (case u0 => with_reducible assumption))
  | ((with_reducible refine' i_isiI ?u0 ?uq); (case u0 => wtm_at "dp"))
  | ((with_reducible refine' i_isiB ?u0 ?uq); (case u0 => wtm_at "dp"))
  | ((with_reducible refine' i_isiT ?u0 ?uq); (case u0 => wtm_at "dp"))
  | ((with_reducible refine' i_isiS ?u0 ?uq); (case u0 => wtm_at "dp"))
  | ((with_reducible refine' i_isiL ?u0 ?uq); (case u0 => wtm_at "dp"))
  | ((with_reducible refine' i_eqD ?u0 ?u1 ?u2 ?u3 ?uq); (case u0 => wtm_at "dp"); (case u1 => wtm_at "dp"); (case u2 => wtm_at "shaped"); (case u3 => wtm_at "shaped"))
  | ((with_reducible refine' i_neD ?u0 ?u1 ?u2 ?u3 ?uq); (case u0 => wtm_at "dp"); (case u1 => wtm_at "dp"); (case u2 => wtm_at "shaped"); (case u3 => wtm_at "shaped"))
  | wtm_at "st2"
  | wtm_at "use")
local macro_rules | `(tactic| wtm_at "go") => `(tactic| repeat' (wtm_at "st"))
local macro_rules | `(tactic| wtm_at "go0") => `(tactic| ((try dsimp only [L2.cxOf, L2.Cx.nox, L2.Cx.wish, L2.Cx.tr, L2.Cx.blk]); (try wtm_at "nrm"); wtm_at "go"))
local macro_rules | `(tactic| wtm_at "fin") => `(tactic| ((try dsimp only); first | with_reducible assumption | assumption | ((with_reducible refine' Ret.use ?rur ?rue ?rud); (case rur => with_reducible assumption); (case rue => wtm_at "ex"); (case rud => wtm_at "dp"))))
local macro_rules | `(tactic| wtm_at "ex") => `(tactic| first | with_reducible assumption | with_reducible exact Ex.refl _ | with_reducible exact ex_hid | ((with_reducible refine' Ex.trans ?exe (by with_reducible assumption)); (case exe => wtm_at "ex")) | ((with_reducible refine' Ex.trans ?exe (hid_ex (by with_reducible assumption))); (case exe => wtm_at "ex")) | ((with_reducible refine' Ex.trans ?exe ex_hid); (case exe => wtm_at "ex")))
local macro_rules | `(tactic| wtm_at "bag") => `(tactic| first | with_reducible assumption | ((with_reducible refine' Bag.mono ?bgm (by with_reducible assumption)); (case bgm => wtm_at "bag")))
local macro_rules | `(tactic| wtm_at "hs") => `(tactic| first | with_reducible assumption | ((with_reducible refine' hid_tup ?hb ?hp); (case hp => with_reducible assumption); (case hb => wtm_at "bag")) | ((with_reducible refine' hid_new ?hb ?hn ?hp); (case hp => with_reducible assumption); (case hn => with_reducible assumption); (case hb => wtm_at "bag")) | ((with_reducible refine' ex_at ?exe (by with_reducible assumption)); (case exe => wtm_at "ex")))
local macro_rules | `(tactic| wtm_at "st2") => `(tactic| first
  | ((with_reducible refine' i_mulC ?u0 ?uq); (case u0 => first | exact cmul_l (by decide) | exact cmul_r (by decide)))
  | ((with_reducible refine' i_ixLr (v := ?u0) ?u1 ?u2 ?uq); (case u1 => with_reducible assumption); (case u2 => exact rfl))
  | (with_reducible refine' i_sub ?uq)
  | ((with_reducible refine' i_mkL ?u0 (fun np nH nfr nhe nhp => ?uq)); (case u0 => exact Nat.le_of_ble_eq_true rfl))
  | ((with_reducible refine' i_setL (n := ?u0) ?u1 ?u2 (fun sH sh se => ?uq)); (case u1 => with_reducible assumption); (case u2 => exact rfl))
  | (with_reducible refine' i_sl ?uq)
  | (with_reducible refine' i_nopart ?uq)
  | (with_reducible refine' i_part ?uq)
  | (with_reducible refine' i_part1 ?uq))
local macro_rules | `(tactic| wtm_at "sz2") => `(tactic| ((with_reducible refine' sz_fmod ?sz1 ?sz2); (case sz1 => wtm_at "nz"); (case sz2 => wtm_at "sz")))
local macro_rules | `(tactic| wtm_at "stb") => `(tactic| first
  | ((with_reducible refine' i_mkTB ?u0 ?u1 (fun np nH nhe nhb nhp => ?uq)); (case u0 => exact Nat.le_of_ble_eq_true rfl); (case u1 => wtm_at "bag"))
  | ((with_reducible refine' i_mkLB ?u0 ?u1 (fun np nH nfr nhe nhb nhp => ?uq)); (case u0 => exact Nat.le_of_ble_eq_true rfl); (case u1 => wtm_at "bag"))
  | wtm_at "st")
local macro_rules | `(tactic| wtm_at "gob") => `(tactic| repeat' (wtm_at "stb"))
local macro_rules | `(tactic| wtm_at "gob0") => `(tactic| ((try dsimp only [L2.cxOf, L2.Cx.nox, L2.Cx.wish, L2.Cx.tr, L2.Cx.blk]); (try wtm_at "nrm"); wtm_at "gob"))
structure G (mg : Str → Option Value) : Prop where
  f_len : mg "len" = none
  f_abs : mg "abs" = none
  f_int : mg "int" = none
  f_bool : mg "bool" = none
  f_tuple : mg "tuple" = none
  f_list : mg "list" = none
  f_isinstance : mg "isinstance" = none
  f_all : mg "all" = none
  f_max : mg "max" = none
  f_min : mg "min" = none
  f_sum : mg "sum" = none
  f_range : mg "range" = none
  f_repr : mg "repr" = none
  b_gcd : mg "gcd" = some (.builtin "math.gcd")
abbrev FnP (K : PySem.W.Frag) (x : Str) (st : Stmt) (f : Addr) (fd : FuncData) : Prop := FunD K x x (defArgs st) (defBody st) (defScope st) [] [] f fd
abbrev pt (x y w : Int) : PyData := .tuple [.int x, .int y, .int w]
abbrev B0 : Nat := 400
def sgn (s : Int) : Int := if 0 < s then 1 else if s < 0 then -1 else 0
abbrev det (x1 y1 w1 x2 y2 w2 x3 y3 w3 : Int) : Int := x1 * (y2 * w3 - y3 * w2) - y1 * (x2 * w3 - x3 * w2) + w1 * (x2 * y3 - x3 * y2)
@[reducible] def isInt : PyData → Bool
  | .int _ => true
  | _ => false
/-- the common divisor, with the sign of the bottom -/
def sg (g w : Int) : Int := if w < 0 then -gd g w else gd g w
theorem sg_ne {g w : Int} (h : w ≠ 0) : sg g w ≠ 0 := by
  have h1 : gd g w ≠ 0 := by
    unfold gd
    have := Nat.gcd_pos_of_pos_right (m := g.natAbs) (Int.natAbs_pos.mpr h)
    omega
  unfold sg
  split <;> omega
theorem gd_abs {g w : Int} (h : w ≠ 0) : (gd g w).natAbs ≤ w.natAbs := by
  unfold gd
  rw [Int.natAbs_natCast]
  exact Nat.gcd_le_right _ (Int.natAbs_pos.mpr h)
theorem sg_abs (g w : Int) : (sg g w).natAbs = (gd g w).natAbs := by
  unfold sg
  split
  · rw [Int.natAbs_neg]
  · rfl
theorem sz_sg {a : Nat} {g w : Int} (ha : Sz a w ∧ w ≠ 0) : Sz a (sg g w) := sz_le ha.1 (by rw [sg_abs]; exact gd_abs ha.2)
abbrev rp (x y w : Int) : PyData := pt (x.fdiv (sg (gd x y) w)) (y.fdiv (sg (gd x y) w)) (w.fdiv (sg (gd x y) w))
abbrev rf (x w : Int) : PyData := .tuple [.int (x.fdiv (sg x w)), .int (w.fdiv (sg x w))]
section
variable {P : Program} {w : World} {K : PySem.W.Frag} {mg : Str → Option Value} {base : Heap} {H H' : Hp} {Q : VK} {E : XK} {v1 v2 v3 v4 : V} {x1 y1 w1 x2 y2 w2 x3 y3 w3 x4 y4 w4 : Int}
def sp_is_integer (K : PySem.W.Frag) : Sp := A1 fun v1 H Q => ∃ d, Dp K H v1 d ∧ Q (.bl (isInt d)) H
abbrev s_is_integer : Stmt := top 7
theorem sc_is_integer : FnScope ["value"] ["value"] (defScope s_is_integer) := ⟨rfl, rfl, rfl, by decide +kernel, rfl, by decide +kernel, by decide +kernel⟩
theorem ok_is_integer {f : Addr} {fd : FuncData} (F : FnP K "is_integer" s_is_integer f fd) (g : G mg)   : FnOk P w K mg base CX0 1 f fd ["value"] (sp_is_integer K) := by
  have nd := sc_is_integer.nd
  refine F.ok sc_is_integer (fun vs H Q E h => h.len) (fun cdv A outer s H vs Q E hr h => ?_)
  obtain ⟨v1, rfl, h⟩ := h
  refine ⟨_, PSs.nox (pss_one (ps_ret (pe_and (pe_callB call_isi (by rfl) g.f_isinstance boot_isinstance (pa_cons (pv 0) (pa_cons (pe_bltn (v := .ty "int") (by rfl) g.f_int boot_int rfl) pa_nil))) (pe_one (pe_not (pe_callB call_isi (by rfl) g.f_isinstance boot_isinstance (pa_cons (pv 0) (pa_cons (pe_bltn (v := .ty "bool") (by rfl) g.f_bool boot_bool rfl) pa_nil)))))))), ?_⟩
  obtain ⟨d, hd, q⟩ := h
  cases d <;> wtm_at "go0" <;> wtm_at "fin"
theorem use_is_integer {d : PyData} (h : Dp K H v1 d) (q : Q (.bl (isInt d)) H) : sp_is_integer K [v1] H Q E := ⟨_, rfl, _, h, q⟩
def sp_shared_of (K : PySem.W.Frag) : Sp := A2 fun v1 v2 H Q => ∃ a b, v1 = .int a ∧ v2 = .int b ∧ Q (.int (gd a b)) H
theorem gd_step (a b : Int) : gd b (a.fmod b) = gd a b := by
  unfold gd
  congr 1
  have e : (Nat.gcd b.natAbs (a.fmod b).natAbs) = Nat.gcd b.natAbs a.natAbs := by
    have h : (Int.gcd b (a.fmod b)) = Int.gcd b a := by
      rw [Int.fmod_def, Int.sub_eq_add_neg, ← Int.mul_neg]
      exact Int.gcd_add_mul_left_right b a _
    exact h
  rw [e, Nat.gcd_comm]
abbrev s_shared_of : Stmt := top 8
theorem sc_shared_of : FnScope ["one", "other"] ["one", "other"] (defScope s_shared_of) := ⟨rfl, rfl, rfl, by decide +kernel, rfl, by decide +kernel, by decide +kernel⟩
theorem ok_shared_of {f : Addr} {fd : FuncData} (F : FnP K "shared_of" s_shared_of f fd) (g : G mg)   : FnOk P w K mg base CX0 1 f fd ["one", "other"] (sp_shared_of K) := by
  have nd := sc_shared_of.nd
  refine F.ok sc_shared_of (fun vs H Q E h => h.len) (fun cdv A outer s H vs Q E hr h => ?_)
  obtain ⟨v1, v2, rfl, h⟩ := h
  refine ⟨_, PSs.nox (pss_cons (ps_while PassesOwn.never (pt_cmpR op_ne (pv 1) pe_int (nomark _)) (pss_one (ps_par (i := 0) (j := 1) (by rfl) nd rfl rfl (by decide) rfl rfl (pa_cons (pv 1) (pa_cons (pe_op op_modN (pv 0) (pv 1)) pa_nil)) (by rfl)))) (pss_one (ps_ret (pe_callB call_qabs (by rfl) g.f_abs boot_abs (pa_cons (pv 0) pa_nil))))), ?_⟩
  obtain ⟨a, b, rfl, rfl, q⟩ := h
  try dsimp only [L2.cxOf, L2.Cx.nox, L2.Cx.wish]
  refine i_seq (i_tw (fun m σ H' => ∃ a' b' : Int, m = b'.natAbs ∧ σ = [some (.int a'), some (.int b')] ∧ H' = H ∧ gd a' b' = gd a b) b.natAbs ⟨a, b, rfl, rfl, rfl, rfl⟩ ?_)
  rintro m σ H' ⟨a', b', rfl, rfl, rfl, hg⟩
  wtm_at "go"
  · refine ⟨fun σ2 H2 => σ2 = [some (.int b'), some (.int (a'.fmod b'))] ∧ H2 = H', ?_, ?_⟩
    · rintro σ2 H2 ⟨rfl, rfl⟩
      refine ⟨(a'.fmod b').natAbs, ?_, b', a'.fmod b', rfl, rfl, rfl, (gd_step a' b').trans hg⟩
      have hb : b' ≠ 0 := by assumption
      exact fmod_lt a' hb
    · wtm_at "go"
      exact ⟨rfl, rfl⟩
  · dsimp only
    have hb : b' = 0 := by assumption
    subst hb
    have e : (if a' < 0 then -a' else a') = gd a b := by
      rw [← hg]
      unfold gd
      rw [Int.natAbs_zero, Nat.gcd_zero_right]
      split <;> omega
    rw [e]
    exact q
theorem use_shared_of {a b : Int} (q : Q (.int (gd a b)) H) : sp_shared_of K [.int a, .int b] H Q E := ⟨_, _, rfl, _, _, rfl, rfl, q⟩
def sp_turn_in (K : PySem.W.Frag) : Sp := A3 fun v1 v2 v3 H Q => ∃ x1 y1 w1 x2 y2 w2 x3 y3 w3, Dp K H v1 (pt x1 y1 w1) ∧ Dp K H v2 (pt x2 y2 w2) ∧ Dp K H v3 (pt x3 y3 w3) ∧ (Sz B0 x1 ∧ Sz B0 y1 ∧ Sz B0 w1) ∧ (Sz B0 x2 ∧ Sz B0 y2 ∧ Sz B0 w2) ∧ (Sz B0 x3 ∧ Sz B0 y3 ∧ Sz B0 w3) ∧ Q (.int (sgn (det x1 y1 w1 x2 y2 w2 x3 y3 w3))) H
abbrev s_turn_in : Stmt := top 17
theorem sc_turn_in : FnScope ["one", "two", "three", "across", "along", "part", "sign"] ["one", "two", "three"] (defScope s_turn_in) := ⟨rfl, rfl, rfl, by decide +kernel, rfl, by decide +kernel, by decide +kernel⟩
theorem ok_turn_in {f : Addr} {fd : FuncData} (F : FnP K "turn_in" s_turn_in f fd) (g : G mg)   : FnOk P w K mg base CX0 1 f fd ["one", "two", "three"] (sp_turn_in K) := by
  have nd := sc_turn_in.nd
  refine F.ok sc_turn_in (fun vs H Q E h => h.len) (fun cdv A outer s H vs Q E hr h => ?_)
  obtain ⟨v1, v2, v3, rfl, h⟩ := h
  refine ⟨_, PSs.nox (pss_cons (ps_set (i := 3) nd rfl (Or.inl rfl) (pe_op op_sub (pe_op op_mulX (pe_ix ix_tup (pv 1) pe_int (fun _ _ => rfl)) (pe_ix ix_tup (pv 2) pe_int (fun _ _ => rfl))) (pe_op op_mulX (pe_ix ix_tup (pv 2) pe_int (fun _ _ => rfl)) (pe_ix ix_tup (pv 1) pe_int (fun _ _ => rfl))))) (pss_cons (ps_set (i := 4) nd rfl (Or.inl rfl) (pe_op op_sub (pe_op op_mulX (pe_ix ix_tup (pv 1) pe_int (fun _ _ => rfl)) (pe_ix ix_tup (pv 2) pe_int (fun _ _ => rfl))) (pe_op op_mulX (pe_ix ix_tup (pv 2) pe_int (fun _ _ => rfl)) (pe_ix ix_tup (pv 1) pe_int (fun _ _ => rfl))))) (pss_cons (ps_set (i := 5) nd rfl (Or.inl rfl) (pe_op op_sub (pe_op op_mulX (pe_ix ix_tup (pv 1) pe_int (fun _ _ => rfl)) (pe_ix ix_tup (pv 2) pe_int (fun _ _ => rfl))) (pe_op op_mulX (pe_ix ix_tup (pv 2) pe_int (fun _ _ => rfl)) (pe_ix ix_tup (pv 1) pe_int (fun _ _ => rfl))))) (pss_cons (ps_set (i := 6) nd rfl (Or.inl rfl) (pe_op op_add (pe_op op_sub (pe_op op_mulX (pe_ix ix_tup (pv 0) pe_int (fun _ _ => rfl)) (pv 3)) (pe_op op_mulX (pe_ix ix_tup (pv 0) pe_int (fun _ _ => rfl)) (pv 4))) (pe_op op_mulX (pe_ix ix_tup (pv 0) pe_int (fun _ _ => rfl)) (pv 5)))) (pss_cons (ps_if (pt_cmpR op_gt (pv 6) pe_int (nomark _)) (pss_one (ps_ret pe_int)) pss_nil) (pss_one (ps_ret (pe_ifExp (pt_cmpR op_lt (pv 6) pe_int (nomark _)) (pe_un un_neg pe_int) pe_int)))))))), ?_⟩
  obtain ⟨x1, y1, w1, x2, y2, w2, x3, y3, w3, h1, h2, h3, ⟨a1, a2, a3⟩, ⟨b1, b2, b3⟩, ⟨c1, c2, c3⟩, q⟩ := h
  unfold sgn at q
  wtm_at "go0"
  all_goals (dsimp only; simpa only [*, if_true, if_false] using q)
theorem use_turn_in (h1 : Dp K H v1 (pt x1 y1 w1)) (h2 : Dp K H v2 (pt x2 y2 w2)) (h3 : Dp K H v3 (pt x3 y3 w3)) (a1 : Sz B0 x1) (a2 : Sz B0 y1) (a3 : Sz B0 w1) (b1 : Sz B0 x2) (b2 : Sz B0 y2) (b3 : Sz B0 w2) (c1 : Sz B0 x3) (c2 : Sz B0 y3) (c3 : Sz B0 w3)
    (q : Q (.int (sgn (det x1 y1 w1 x2 y2 w2 x3 y3 w3))) H) : sp_turn_in K [v1, v2, v3] H Q E := ⟨_, _, _, rfl, _, _, _, _, _, _, _, _, _, h1, h2, h3, ⟨a1, a2, a3⟩, ⟨b1, b2, b3⟩, ⟨c1, c2, c3⟩, q⟩
def sp_step_from (K : PySem.W.Frag) : Sp := A2 fun v1 v2 H Q => ∃ x1 y1 w1 x2 y2 w2, Dp K H v1 (pt x1 y1 w1) ∧ Dp K H v2 (pt x2 y2 w2) ∧ (Sz B0 x1 ∧ Sz B0 y1 ∧ Sz B0 w1) ∧ (Sz B0 x2 ∧ Sz B0 y2 ∧ Sz B0 w2) ∧ Ret K (.tuple [.int (x2 * w1 - x1 * w2), .int (y2 * w1 - y1 * w2)]) H Q
abbrev s_step_from : Stmt := top 18
theorem sc_step_from : FnScope ["centre", "point"] ["centre", "point"] (defScope s_step_from) := ⟨rfl, rfl, rfl, by decide +kernel, rfl, by decide +kernel, by decide +kernel⟩
theorem ok_step_from {f : Addr} {fd : FuncData} (F : FnP K "step_from" s_step_from f fd) (g : G mg)   : FnOk P w K mg base CX0 1 f fd ["centre", "point"] (sp_step_from K) := by
  have nd := sc_step_from.nd
  refine F.ok sc_step_from (fun vs H Q E h => h.len) (fun cdv A outer s H vs Q E hr h => ?_)
  obtain ⟨v1, v2, rfl, h⟩ := h
  refine ⟨_, PSs.nox (pss_one (ps_ret (pe_tup (pa_cons (pe_op op_sub (pe_op op_mulX (pe_ix ix_tup (pv 1) pe_int (fun _ _ => rfl)) (pe_ix ix_tup (pv 0) pe_int (fun _ _ => rfl))) (pe_op op_mulX (pe_ix ix_tup (pv 0) pe_int (fun _ _ => rfl)) (pe_ix ix_tup (pv 1) pe_int (fun _ _ => rfl)))) (pa_cons (pe_op op_sub (pe_op op_mulX (pe_ix ix_tup (pv 1) pe_int (fun _ _ => rfl)) (pe_ix ix_tup (pv 0) pe_int (fun _ _ => rfl))) (pe_op op_mulX (pe_ix ix_tup (pv 0) pe_int (fun _ _ => rfl)) (pe_ix ix_tup (pv 1) pe_int (fun _ _ => rfl)))) pa_nil))))), ?_⟩
  obtain ⟨x1, y1, w1, x2, y2, w2, h1, h2, ⟨a1, a2, a3⟩, ⟨b1, b2, b3⟩, q⟩ := h
  wtm_at "go0"
  all_goals wtm_at "fin"
theorem use_step_from (h1 : Dp K H v1 (pt x1 y1 w1)) (h2 : Dp K H v2 (pt x2 y2 w2)) (a1 : Sz B0 x1) (a2 : Sz B0 y1) (a3 : Sz B0 w1) (b1 : Sz B0 x2) (b2 : Sz B0 y2) (b3 : Sz B0 w2)
    (q : ∀ v H2, Ex H H2 → Dp K H2 v (.tuple [.int (x2 * w1 - x1 * w2), .int (y2 * w1 - y1 * w2)]) → Q v H2) : sp_step_from K [v1, v2] H Q E := ⟨_, _, rfl, _, _, _, _, _, _, h1, h2, ⟨a1, a2, a3⟩, ⟨b1, b2, b3⟩, q⟩
local macro_rules | `(tactic| wtm_at "use") => `(tactic| ((with_reducible refine' use_turn_in ?u0 ?u1 ?u2 ?u3 ?u4 ?u5 ?u6 ?u7 ?u8 ?u9 ?u10 ?u11 ?uq); (case u0 => wtm_at "dp"); (case u1 => wtm_at "dp"); (case u2 => wtm_at "dp"); (case u3 => wtm_at "szb"); (case u4 => wtm_at "szb"); (case u5 => wtm_at "szb"); (case u6 => wtm_at "szb"); (case u7 => wtm_at "szb"); (case u8 => wtm_at "szb"); (case u9 => wtm_at "szb"); (case u10 => wtm_at "szb"); (case u11 => wtm_at "szb")))
local macro_rules | `(tactic| wtm_at "use") => `(tactic| ((with_reducible refine' use_step_from ?u0 ?u1 ?u2 ?u3 ?u4 ?u5 ?u6 ?u7 (fun ur uH ue ud => ?uq)); (case u0 => wtm_at "dp"); (case u1 => wtm_at "dp"); (case u2 => wtm_at "szb"); (case u3 => wtm_at "szb"); (case u4 => wtm_at "szb"); (case u5 => wtm_at "szb"); (case u6 => wtm_at "szb"); (case u7 => wtm_at "szb")))
local macro_rules | `(tactic| wtm_at "use") => `(tactic| (with_reducible refine' use_shared_of ?uq))
local macro_rules | `(tactic| wtm_at "use") => `(tactic| ((with_reducible refine' use_is_integer ?u0 ?uq); (case u0 => wtm_at "dp")))
/-- whether p lies on the piece from 1 to 2 -/
def btw (x1 y1 w1 x2 y2 w2 x3 y3 w3 : Int) : Bool := decide (det x1 y1 w1 x2 y2 w2 x3 y3 w3 = 0) && decide ((x2 * w1 - x1 * w2) * (x3 * w1 - x1 * w3) + (y2 * w1 - y1 * w2) * (y3 * w1 - y1 * w3) ≤ 0)
theorem sgn_zero {s : Int} : sgn s = 0 ↔ s = 0 := by
  unfold sgn
  split
  · omega
  · split <;> omega
def sp_is_between_in (K : PySem.W.Frag) : Sp := A3 fun v1 v2 v3 H Q => ∃ x1 y1 w1 x2 y2 w2 x3 y3 w3, Dp K H v1 (pt x1 y1 w1) ∧ Dp K H v2 (pt x2 y2 w2) ∧ Dp K H v3 (pt x3 y3 w3) ∧ (Sz B0 x1 ∧ Sz B0 y1 ∧ Sz B0 w1) ∧ (Sz B0 x2 ∧ Sz B0 y2 ∧ Sz B0 w2) ∧ (Sz B0 x3 ∧ Sz B0 y3 ∧ Sz B0 w3) ∧ Ret K (.bool (btw x1 y1 w1 x2 y2 w2 x3 y3 w3)) H Q
abbrev s_is_between_in : Stmt := top 19
theorem sc_is_between_in : FnScope ["point", "one", "two", "back", "ahead"] ["point", "one", "two"] (defScope s_is_between_in) := ⟨rfl, rfl, rfl, by decide +kernel, rfl, by decide +kernel, by decide +kernel⟩
theorem ok_is_between_in {f : Addr} {fd : FuncData} (F : FnP K "is_between_in" s_is_between_in f fd) (g : G mg) (c_step_from : Cl P w K mg base 1 "step_from" (sp_step_from K)) (c_turn_in : Cl P w K mg base 1 "turn_in" (sp_turn_in K))  : FnOk P w K mg base CX0 2 f fd ["point", "one", "two"] (sp_is_between_in K) := by
  have nd := sc_is_between_in.nd
  refine F.ok sc_is_between_in (fun vs H Q E h => h.len) (fun cdv A outer s H vs Q E hr h => ?_)
  obtain ⟨v1, v2, v3, rfl, h⟩ := h
  refine ⟨_, PSs.nox (pss_cons (ps_if (pt_cmpR op_ne (pc c_turn_in hr (by decide) (by rfl) (pa_cons (pv 0) (pa_cons (pv 1) (pa_cons (pv 2) pa_nil)))) pe_int (nomark _)) (pss_one (ps_ret pe_bl)) pss_nil) (pss_cons (ps_set (i := 3) nd rfl (Or.inl rfl) (pc c_step_from hr (by decide) (by rfl) (pa_cons (pv 0) (pa_cons (pv 1) pa_nil)))) (pss_cons (ps_set (i := 4) nd rfl (Or.inl rfl) (pc c_step_from hr (by decide) (by rfl) (pa_cons (pv 0) (pa_cons (pv 2) pa_nil)))) (pss_one (ps_ret (pe_cmpR op_le (pe_op op_add (pe_op op_mulX (pe_ix ix_tup (pv 3) pe_int (fun _ _ => rfl)) (pe_ix ix_tup (pv 4) pe_int (fun _ _ => rfl))) (pe_op op_mulX (pe_ix ix_tup (pv 3) pe_int (fun _ _ => rfl)) (pe_ix ix_tup (pv 4) pe_int (fun _ _ => rfl)))) pe_int (nomark _))))))), ?_⟩
  obtain ⟨x1, y1, w1, x2, y2, w2, x3, y3, w3, h1, h2, h3, ⟨a1, a2, a3⟩, ⟨b1, b2, b3⟩, ⟨c1, c2, c3⟩, q⟩ := h
  wtm_at "go0"
  · rename_i hn
    dsimp only
    refine Ret.bl' q (by wtm_at "ex") ?_
    unfold btw
    rw [decide_eq_false (fun z => hn (sgn_zero.mpr z)), Bool.false_and]
  · have hn : sgn (det x1 y1 w1 x2 y2 w2 x3 y3 w3) = 0 := by assumption
    dsimp only
    refine Ret.bl' q (by wtm_at "ex") ?_
    unfold btw
    rw [decide_eq_true (sgn_zero.mp hn), Bool.true_and]
theorem use_is_between_in (h1 : Dp K H v1 (pt x1 y1 w1)) (h2 : Dp K H v2 (pt x2 y2 w2)) (h3 : Dp K H v3 (pt x3 y3 w3)) (a1 : Sz B0 x1) (a2 : Sz B0 y1) (a3 : Sz B0 w1) (b1 : Sz B0 x2) (b2 : Sz B0 y2) (b3 : Sz B0 w2) (c1 : Sz B0 x3) (c2 : Sz B0 y3) (c3 : Sz B0 w3)
    (q : ∀ H2, Ex H H2 → Q (.bl (btw x1 y1 w1 x2 y2 w2 x3 y3 w3)) H2) : sp_is_between_in K [v1, v2, v3] H Q E := ⟨_, _, _, rfl, _, _, _, _, _, _, _, _, _, h1, h2, h3, ⟨a1, a2, a3⟩, ⟨b1, b2, b3⟩, ⟨c1, c2, c3⟩, ret_bl q⟩
def sp_line_through (K : PySem.W.Frag) : Sp := A2 fun v1 v2 H Q => ∃ x1 y1 w1 x2 y2 w2, Dp K H v1 (pt x1 y1 w1) ∧ Dp K H v2 (pt x2 y2 w2) ∧ (Sz B0 x1 ∧ Sz B0 y1 ∧ Sz B0 w1) ∧ (Sz B0 x2 ∧ Sz B0 y2 ∧ Sz B0 w2) ∧ Ret K (pt (y1 * w2 - y2 * w1) (w1 * x2 - w2 * x1) (x1 * y2 - x2 * y1)) H Q
abbrev s_line_through : Stmt := top 20
theorem sc_line_through : FnScope ["one", "two"] ["one", "two"] (defScope s_line_through) := ⟨rfl, rfl, rfl, by decide +kernel, rfl, by decide +kernel, by decide +kernel⟩
theorem ok_line_through {f : Addr} {fd : FuncData} (F : FnP K "line_through" s_line_through f fd) (g : G mg)   : FnOk P w K mg base CX0 1 f fd ["one", "two"] (sp_line_through K) := by
  have nd := sc_line_through.nd
  refine F.ok sc_line_through (fun vs H Q E h => h.len) (fun cdv A outer s H vs Q E hr h => ?_)
  obtain ⟨v1, v2, rfl, h⟩ := h
  refine ⟨_, PSs.nox (pss_one (ps_ret (pe_tup (pa_cons (pe_op op_sub (pe_op op_mulX (pe_ix ix_tup (pv 0) pe_int (fun _ _ => rfl)) (pe_ix ix_tup (pv 1) pe_int (fun _ _ => rfl))) (pe_op op_mulX (pe_ix ix_tup (pv 1) pe_int (fun _ _ => rfl)) (pe_ix ix_tup (pv 0) pe_int (fun _ _ => rfl)))) (pa_cons (pe_op op_sub (pe_op op_mulX (pe_ix ix_tup (pv 0) pe_int (fun _ _ => rfl)) (pe_ix ix_tup (pv 1) pe_int (fun _ _ => rfl))) (pe_op op_mulX (pe_ix ix_tup (pv 1) pe_int (fun _ _ => rfl)) (pe_ix ix_tup (pv 0) pe_int (fun _ _ => rfl)))) (pa_cons (pe_op op_sub (pe_op op_mulX (pe_ix ix_tup (pv 0) pe_int (fun _ _ => rfl)) (pe_ix ix_tup (pv 1) pe_int (fun _ _ => rfl))) (pe_op op_mulX (pe_ix ix_tup (pv 1) pe_int (fun _ _ => rfl)) (pe_ix ix_tup (pv 0) pe_int (fun _ _ => rfl)))) pa_nil)))))), ?_⟩
  obtain ⟨x1, y1, w1, x2, y2, w2, h1, h2, ⟨a1, a2, a3⟩, ⟨b1, b2, b3⟩, q⟩ := h
  wtm_at "go0"
  all_goals wtm_at "fin"
theorem use_line_through (h1 : Dp K H v1 (pt x1 y1 w1)) (h2 : Dp K H v2 (pt x2 y2 w2)) (a1 : Sz B0 x1) (a2 : Sz B0 y1) (a3 : Sz B0 w1) (b1 : Sz B0 x2) (b2 : Sz B0 y2) (b3 : Sz B0 w2)
    (q : ∀ v H2, Ex H H2 → Dp K H2 v (pt (y1 * w2 - y2 * w1) (w1 * x2 - w2 * x1) (x1 * y2 - x2 * y1)) → Q v H2) : sp_line_through K [v1, v2] H Q E := ⟨_, _, rfl, _, _, _, _, _, _, h1, h2, ⟨a1, a2, a3⟩, ⟨b1, b2, b3⟩, q⟩
def sp_reduced_point (K : PySem.W.Frag) : Sp := A3 fun v1 v2 v3 H Q => ∃ x y w : Int, v1 = .int x ∧ v2 = .int y ∧ v3 = .int w ∧ w ≠ 0 ∧ Sz 9000 w ∧ Ret K (rp x y w) H Q
abbrev s_reduced_point : Stmt := top 16
theorem sc_reduced_point : FnScope ["x", "y", "w", "shared"] ["x", "y", "w"] (defScope s_reduced_point) := ⟨rfl, rfl, rfl, by decide +kernel, rfl, by decide +kernel, by decide +kernel⟩
theorem ok_reduced_point {f : Addr} {fd : FuncData} (F : FnP K "reduced_point" s_reduced_point f fd) (g : G mg)   : FnOk P w K mg base CX0 1 f fd ["x", "y", "w"] (sp_reduced_point K) := by
  have nd := sc_reduced_point.nd
  refine F.ok sc_reduced_point (fun vs H Q E h => h.len) (fun cdv A outer s H vs Q E hr h => ?_)
  obtain ⟨v1, v2, v3, rfl, h⟩ := h
  refine ⟨_, PSs.nox (pss_cons (ps_set (i := 3) nd rfl (Or.inl rfl) (pe_callBfun cr_gcd (by rfl) g.b_gcd (pa_cons (pe_callBfun cr_gcd (by rfl) g.b_gcd (pa_cons (pv 0) (pa_cons (pv 1) pa_nil))) (pa_cons (pv 2) pa_nil)))) (pss_cons (ps_if (pt_cmpR op_lt (pv 2) pe_int (nomark _)) (pss_one (ps_set (i := 3) nd rfl (Or.inl rfl) (pe_un un_neg (pv 3)))) pss_nil) (pss_one (ps_ret (pe_tup (pa_cons (pe_op op_fdivX (pv 0) (pv 3)) (pa_cons (pe_op op_fdivX (pv 1) (pv 3)) (pa_cons (pe_op op_fdivX (pv 2) (pv 3)) pa_nil)))))))), ?_⟩
  obtain ⟨x, y, w', rfl, rfl, rfl, hw, sw, q⟩ := h
  have s1 : Sz 9000 (gd (gd x y) w') := sz_le sw (gd_abs hw)
  have s2 : Sz 9000 (-gd (gd x y) w') := sz_neg s1
  have n1 : gd (gd x y) w' ≠ 0 := by
    have := sg_ne (g := gd x y) hw
    unfold sg at this
    split at this <;> omega
  have n2 : -gd (gd x y) w' ≠ 0 := by omega
  wtm_at "go0"
  all_goals (simp only [rp, sg, *, if_true, if_false] at q)
  all_goals wtm_at "fin"
theorem use_reduced_point {x y w : Int} (hw : w ≠ 0) (sw : Sz 9000 w) (q : ∀ v H2, Ex H H2 → Dp K H2 v (rp x y w) → Q v H2) : sp_reduced_point K [.int x, .int y, .int w] H Q E := ⟨_, _, _, rfl, _, _, _, rfl, rfl, rfl, hw, sw, q⟩
def sp_reduced (K : PySem.W.Frag) : Sp := A2 fun v1 v2 H Q => ∃ x w : Int, v1 = .int x ∧ v2 = .int w ∧ w ≠ 0 ∧ Sz 9000 w ∧ Ret K (rf x w) H Q
abbrev s_reduced : Stmt := top 10
theorem sc_reduced : FnScope ["top", "bottom", "shared"] ["top", "bottom"] (defScope s_reduced) := ⟨rfl, rfl, rfl, by decide +kernel, rfl, by decide +kernel, by decide +kernel⟩
theorem ok_reduced {f : Addr} {fd : FuncData} (F : FnP K "reduced" s_reduced f fd) (g : G mg)   : FnOk P w K mg base CX0 1 f fd ["top", "bottom"] (sp_reduced K) := by
  have nd := sc_reduced.nd
  refine F.ok sc_reduced (fun vs H Q E h => h.len) (fun cdv A outer s H vs Q E hr h => ?_)
  obtain ⟨v1, v2, rfl, h⟩ := h
  refine ⟨_, PSs.nox (pss_cons (ps_set (i := 2) nd rfl (Or.inl rfl) (pe_callBfun cr_gcd (by rfl) g.b_gcd (pa_cons (pv 0) (pa_cons (pv 1) pa_nil)))) (pss_cons (ps_if (pt_cmpR op_lt (pv 1) pe_int (nomark _)) (pss_one (ps_set (i := 2) nd rfl (Or.inl rfl) (pe_un un_neg (pv 2)))) pss_nil) (pss_one (ps_ret (pe_tup (pa_cons (pe_op op_fdivX (pv 0) (pv 2)) (pa_cons (pe_op op_fdivX (pv 1) (pv 2)) pa_nil))))))), ?_⟩
  obtain ⟨x, w', rfl, rfl, hw, sw, q⟩ := h
  have s1 : Sz 9000 (gd x w') := sz_le sw (gd_abs hw)
  have s2 : Sz 9000 (-gd x w') := sz_neg s1
  have n1 : gd x w' ≠ 0 := by
    have := sg_ne (g := x) hw
    unfold sg at this
    split at this <;> omega
  have n2 : -gd x w' ≠ 0 := by omega
  wtm_at "go0"
  all_goals (simp only [rf, sg, *, if_true, if_false] at q)
  all_goals wtm_at "fin"
theorem use_reduced {x w : Int} (hw : w ≠ 0) (sw : Sz 9000 w) (q : ∀ v H2, Ex H H2 → Dp K H2 v (rf x w) → Q v H2) : sp_reduced K [.int x, .int w] H Q E := ⟨_, _, rfl, _, _, rfl, rfl, hw, sw, q⟩
end
end Wb

namespace Wb
open PySem PySem.Spec PyProof.Rows L2
open Evl (Ex Ex.refl Ex.trans Ex.new)
local macro_rules | `(tactic| wtm_at "dp") => `(tactic| first | with_reducible assumption | with_reducible exact Dp.int _ | with_reducible exact Dp.bl _ | with_reducible exact Dp.str _ | with_reducible exact Dp.non | ((with_reducible refine' dpMono ?dme (by with_reducible assumption)); (case dme => wtm_at "ex")) | ((with_reducible refine' Dp.tup (Evl.st_of ?dph) ?dpa); (case dph => wtm_at "hs"); (case dpa => wtm_at "dpa")) | ((with_reducible refine' Dp.lst (Evl.sq_of ?dph) ?dpa); (case dph => wtm_at "hs"); (case dpa => wtm_at "dpa")))
local macro_rules | `(tactic| wtm_at "dpa") => `(tactic| first | with_reducible exact DpAll.nil | ((with_reducible refine' DpAll.cons ?dp1 ?dp2); (case dp1 => wtm_at "dp"); (case dp2 => wtm_at "dpa")) | with_reducible assumption | ((with_reducible refine' dpMonoA ?dme (by with_reducible assumption)); (case dme => wtm_at "ex")))
local macro_rules | `(tactic| wtm_at "sz") => `(tactic| first | with_reducible assumption | ((with_reducible refine' sz_mul ?sz1 ?sz2); (case sz1 => wtm_at "sz"); (case sz2 => wtm_at "sz")) | ((with_reducible refine' sz_add ?sz1 ?sz2); (case sz1 => wtm_at "sz"); (case sz2 => wtm_at "sz")) | ((with_reducible refine' sz_sub ?sz1 ?sz2); (case sz1 => wtm_at "sz"); (case sz2 => wtm_at "sz")) | ((with_reducible refine' sz_neg ?sz1); (case sz1 => wtm_at "sz")) | ((with_reducible refine' sz_div ?sz1); (case sz1 => wtm_at "sz")) | ((with_reducible refine' sz_fdiv ?sz1); (case sz1 => wtm_at "sz")) | exact sz_lit (by decide) | wtm_at "sz2")
local macro_rules | `(tactic| wtm_at "szb") => `(tactic| first | with_reducible assumption | ((with_reducible refine' sz_mono ?szb1 ?szb2); (case szb1 => wtm_at "sz"); (case szb2 => decide)))
local macro_rules | `(tactic| wtm_at "nz") => `(tactic| first | assumption | decide | omega)
local macro_rules | `(tactic| wtm_at "shaped") => `(tactic| first | rfl | decide)
local macro_rules | `(tactic| wtm_at "sset") => `(tactic| ((dsimp only [L2.wipe, List.set, List.set_cons_zero, List.set_cons_succ]) <;> exact rfl))
local macro_rules | `(tactic| wtm_at "nrm") => `(tactic| dsimp only [L2.start, L2.wipe, List.set, List.append, List.map, List.map_cons, List.map_nil, List.length_cons, List.length_nil, Nat.reduceAdd, Nat.reduceSub, List.reduceReplicate, List.replicate, List.cons_append, List.nil_append, List.set_cons_zero, List.set_cons_succ])
local macro_rules | `(tactic| wtm_at "st") => `(tactic| first
  | ((with_reducible refine' i_var (v := ?u0) ?u1 ?uq); (case u1 => exact rfl))
  | ((with_reducible refine' i_nameN ?u0 ?uq); (case u0 => wtm_at "sset"))
  | (with_reducible refine' i_op ?uq)
  | (with_reducible refine' i_c ?uq)
  | (with_reducible refine' i_I0 ?uq)
  | ((with_reducible refine' i_ixTI (i := ?u0) ?u1 ?u2 ?u3 ?uq); (case u1 => wtm_at "dp"); (case u2 => wtm_at "ex"); (case u3 => exact rfl))
  | ((with_reducible refine' i_ixT (d := ?u0) ?u1 ?u2 ?u3 (fun xu hxu => ?uq)); (case u1 => wtm_at "dp"); (case u2 => wtm_at "ex"); (case u3 => exact rfl))
  | ((with_reducible refine' i_mul ?u0 ?u1 ?u2 ?uq); (case u0 => wtm_at "sz"); (case u1 => wtm_at "sz"); (case u2 => first | decide | omega))
  | (with_reducible refine' i_seq ?uq)
  | (with_reducible refine' i_asg ?uq)
  | (with_reducible refine' i_ret ?uq)
  | (with_reducible refine' i_ifs ?uq)
  | (with_reducible refine' i_drop ?uq)
  | (with_reducible refine' i_next ?uq)
  | (with_reducible refine' i_cons ?uq)
  | (with_reducible refine' i_nil ?uq)
  | (with_reducible refine' i_cl ?uq)
  | (with_reducible refine' i_cb ?uq)
  | (with_reducible refine' i_tup ?uq)
  | (with_reducible refine' i_lst ?uq)
  | ((with_reducible refine' i_mkT ?u0 (fun np nH nhe nhp => ?uq)); (case u0 => exact Nat.le_of_ble_eq_true rfl))
  | (with_reducible refine' i_test ?uq)
  | (with_reducible refine' i_B ?uq)
  | (with_reducible refine' i_k ?uq)
  | (with_reducible refine' i_and ?uq)
  | (with_reducible refine' i_or ?uq)
  | (with_reducible refine' i_not ?uq)
  | (with_reducible refine' i_andV ?uq)
  | (with_reducible refine' i_orV ?uq)
  | (with_reducible refine' i_notV ?uq)
  | (with_reducible refine' i_if ?uq)
  | (with_reducible refine' i_un ?uq)
  | (with_reducible refine' i_U ?uq)
  | (with_reducible refine' i_iteT ?uq)
  | (with_reducible refine' i_iteF ?uq)
  | ((with_reducible refine' i_iteTr ?u0 ?uq); (case u0 => first | with_reducible rfl | decide | (simp only [dIsInt, dIsBool, dIsTup, dIsStr, dIsLst, Bool.not_true, Bool.not_false]; done)))
  | ((with_reducible refine' i_iteFr ?u0 ?uq); (case u0 => first | with_reducible rfl | decide | (simp only [dIsInt, dIsBool, dIsTup, dIsStr, dIsLst, Bool.not_true, Bool.not_false]; done)))
  | (with_reducible refine' i_ite (fun hif => ?uqa) (fun hif => ?uqb))
  | (with_reducible refine' i_iteN (fun hif => ?uqa) (fun hif => ?uqb))
  | (with_reducible refine' i_iteBN (fun hif => ?uqa) (fun hif => ?uqb))
  | (with_reducible refine' i_iteB (fun hif => ?uqa) (fun hif => ?uqb))
  | ((with_reducible refine' i_modN ?u0 ?uq); (case u0 => wtm_at "nz"))
  | ((with_reducible refine' i_fdX ?u0 ?u1 ?u2 ?uq); (case u0 => wtm_at "nz"); (case u1 => wtm_at "sz"); (case u2 => first | decide | omega))
  | ((with_reducible refine' i_pow ?u0 ?uq); (case u0 => exact ⟨by decide, by decide +kernel⟩))
  | (with_reducible refine' i_eqI ?uq)
  | (with_reducible refine' i_neI ?uq)
  | (with_reducible refine' i_gcd ?uq)
  | (with_reducible refine' i_qabs ?uq)
  | (with_reducible refine' i_qint ?uq)
  | (with_reducible refine' i_qintB ?uq)
  | (with_reducible refine' i_qmax2 ?uq)
  | (with_reducible refine' i_qmin2 ?uq)
  | (with_reducible refine' i_isB ?uq)
  | (with_reducible refine' i_notB ?uq)
  | (with_reducible refine' i_chain ?uq)
  | (with_reducible refine' i_qisN ?uq)
  | (with_reducible refine' i_qnotN ?uq)
  | (with_reducible refine' i_yes ?uq)
  | (with_reducible refine' i_par ?uq)
  | (with_reducible refine' i_par3 ?uq)
  | ((with_reducible refine' i_par2 ?u0 ?uq); (case u0 => wtm_at "sset"))
  | ((with_reducible refine' i_par33 ?u0 ?uq); (case u0 => wtm_at "sset"))
  | ((with_reducible refine' i_ixLI (i := ?u0) ?u1 ?u2 ?u3 ?uq); (case u1 => wtm_at "dp"); (case u2 => wtm_at "ex"); (case u3 => exact rfl))
  | ((with_reducible refine' i_ixL (d := ?u0) ?u1 ?u2 ?u3 (fun xu hxu => ?uq)); (case u1 => wtm_at "dp"); (case u2 => wtm_at "ex"); (case u3 => exact rfl))
  | ((with_reducible refine' i_qlenT ?u0 ?uq); (case u0 => wtm_at "dp"))
  | ((with_reducible refine' i_qlenL ?u0 ?uq); (case u0 => wtm_at "dp"))
  | ((with_reducible refine' i_gtup ?u0 ?u1 ?u2 (fun gvs gdp => ?uq)); (case u0 => wtm_at "dp"); (case u1 => wtm_at "ex"); (case u2 => exact rfl))
  | ((with_reducible refine' i_glst ?u0 ?u1 ?u2 (fun gvs gdp => ?uq)); (case u0 => wtm_at "dp"); (case u1 => wtm_at "ex"); (case u2 => exact rfl))
  | ((with_reducible refine' i_gconsI ?u0 (fun gr gh => ?uq)); (case u0 => with_reducible assumption))
  | ((with_reducible refine' i_gconsA ?u0 (fun gv gr gh1 gh2 => ?uq)); (case u0 => with_reducible assumption))
  | ((with_reducible refine' i_gnilA ?u0 ?uq); (case u0 => with_reducible assumption))
  | ((with_reducible refine' i_isiI ?u0 ?uq); (case u0 => wtm_at "dp"))
  | ((with_reducible refine' i_isiB ?u0 ?uq); (case u0 => wtm_at "dp"))
  | ((with_reducible refine' i_isiT ?u0 ?uq); (case u0 => wtm_at "dp"))
  | ((with_reducible refine' i_isiS ?u0 ?uq); (case u0 => wtm_at "dp"))
  | ((with_reducible refine' i_isiL ?u0 ?uq); (case u0 => wtm_at "dp"))
  | ((with_reducible refine' i_eqD ?u0 ?u1 ?u2 ?u3 ?uq); (case u0 => wtm_at "dp"); (case u1 => wtm_at "dp"); (case u2 => wtm_at "shaped"); (case u3 => wtm_at "shaped"))
  | ((with_reducible refine' i_neD ?u0 ?u1 ?u2 ?u3 ?uq); (case u0 => wtm_at "dp"); (case u1 => wtm_at "dp"); (case u2 => wtm_at "shaped"); (case u3 => wtm_at "shaped"))
  | wtm_at "st2"
  | wtm_at "use")
local macro_rules | `(tactic| wtm_at "go") => `(tactic| repeat' (wtm_at "st"))
local macro_rules | `(tactic| wtm_at "go0") => `(tactic| ((try dsimp only [L2.cxOf, L2.Cx.nox, L2.Cx.wish, L2.Cx.tr, L2.Cx.blk]); (try wtm_at "nrm"); wtm_at "go"))
local macro_rules | `(tactic| wtm_at "fin") => `(tactic| ((try dsimp only); first | with_reducible assumption | assumption | ((with_reducible refine' Ret.use ?rur ?rue ?rud); (case rur => with_reducible assumption); (case rue => wtm_at "ex"); (case rud => wtm_at "dp"))))
local macro_rules | `(tactic| wtm_at "ex") => `(tactic| first | with_reducible assumption | with_reducible exact Ex.refl _ | with_reducible exact ex_hid | ((with_reducible refine' Ex.trans ?exe (by with_reducible assumption)); (case exe => wtm_at "ex")) | ((with_reducible refine' Ex.trans ?exe (hid_ex (by with_reducible assumption))); (case exe => wtm_at "ex")) | ((with_reducible refine' Ex.trans ?exe ex_hid); (case exe => wtm_at "ex")))
local macro_rules | `(tactic| wtm_at "bag") => `(tactic| first | with_reducible assumption | ((with_reducible refine' Bag.mono ?bgm (by with_reducible assumption)); (case bgm => wtm_at "bag")))
local macro_rules | `(tactic| wtm_at "hs") => `(tactic| first | with_reducible assumption | ((with_reducible refine' hid_tup ?hb ?hp); (case hp => with_reducible assumption); (case hb => wtm_at "bag")) | ((with_reducible refine' hid_new ?hb ?hn ?hp); (case hp => with_reducible assumption); (case hn => with_reducible assumption); (case hb => wtm_at "bag")) | ((with_reducible refine' ex_at ?exe (by with_reducible assumption)); (case exe => wtm_at "ex")))
local macro_rules | `(tactic| wtm_at "st2") => `(tactic| first
  | ((with_reducible refine' i_mulC ?u0 ?uq); (case u0 => first | exact cmul_l (by decide) | exact cmul_r (by decide)))
  | ((with_reducible refine' i_ixLr (v := ?u0) ?u1 ?u2 ?uq); (case u1 => with_reducible assumption); (case u2 => exact rfl))
  | (with_reducible refine' i_sub ?uq)
  | ((with_reducible refine' i_mkL ?u0 (fun np nH nfr nhe nhp => ?uq)); (case u0 => exact Nat.le_of_ble_eq_true rfl))
  | ((with_reducible refine' i_setL (n := ?u0) ?u1 ?u2 (fun sH sh se => ?uq)); (case u1 => with_reducible assumption); (case u2 => exact rfl))
  | (with_reducible refine' i_sl ?uq)
  | (with_reducible refine' i_nopart ?uq)
  | (with_reducible refine' i_part ?uq)
  | (with_reducible refine' i_part1 ?uq))
local macro_rules | `(tactic| wtm_at "sz2") => `(tactic| ((with_reducible refine' sz_fmod ?sz1 ?sz2); (case sz1 => wtm_at "nz"); (case sz2 => wtm_at "sz")))
local macro_rules | `(tactic| wtm_at "stb") => `(tactic| first
  | ((with_reducible refine' i_mkTB ?u0 ?u1 (fun np nH nhe nhb nhp => ?uq)); (case u0 => exact Nat.le_of_ble_eq_true rfl); (case u1 => wtm_at "bag"))
  | ((with_reducible refine' i_mkLB ?u0 ?u1 (fun np nH nfr nhe nhb nhp => ?uq)); (case u0 => exact Nat.le_of_ble_eq_true rfl); (case u1 => wtm_at "bag"))
  | wtm_at "st")
local macro_rules | `(tactic| wtm_at "gob") => `(tactic| repeat' (wtm_at "stb"))
local macro_rules | `(tactic| wtm_at "gob0") => `(tactic| ((try dsimp only [L2.cxOf, L2.Cx.nox, L2.Cx.wish, L2.Cx.tr, L2.Cx.blk]); (try wtm_at "nrm"); wtm_at "gob"))
local macro_rules | `(tactic| wtm_at "use") => `(tactic| ((with_reducible refine' use_turn_in ?u0 ?u1 ?u2 ?u3 ?u4 ?u5 ?u6 ?u7 ?u8 ?u9 ?u10 ?u11 ?uq); (case u0 => wtm_at "dp"); (case u1 => wtm_at "dp"); (case u2 => wtm_at "dp"); (case u3 => wtm_at "szb"); (case u4 => wtm_at "szb"); (case u5 => wtm_at "szb"); (case u6 => wtm_at "szb"); (case u7 => wtm_at "szb"); (case u8 => wtm_at "szb"); (case u9 => wtm_at "szb"); (case u10 => wtm_at "szb"); (case u11 => wtm_at "szb")))
local macro_rules | `(tactic| wtm_at "use") => `(tactic| ((with_reducible refine' use_step_from ?u0 ?u1 ?u2 ?u3 ?u4 ?u5 ?u6 ?u7 (fun ur uH ue ud => ?uq)); (case u0 => wtm_at "dp"); (case u1 => wtm_at "dp"); (case u2 => wtm_at "szb"); (case u3 => wtm_at "szb"); (case u4 => wtm_at "szb"); (case u5 => wtm_at "szb"); (case u6 => wtm_at "szb"); (case u7 => wtm_at "szb")))
local macro_rules | `(tactic| wtm_at "use") => `(tactic| (with_reducible refine' use_shared_of ?uq))
local macro_rules | `(tactic| wtm_at "use") => `(tactic| ((with_reducible refine' use_is_integer ?u0 ?uq); (case u0 => wtm_at "dp")))
local macro_rules | `(tactic| wtm_at "use") => `(tactic| ((with_reducible refine' use_is_between_in ?u0 ?u1 ?u2 ?u3 ?u4 ?u5 ?u6 ?u7 ?u8 ?u9 ?u10 ?u11 (fun uH ue => ?uq)); (case u0 => wtm_at "dp"); (case u1 => wtm_at "dp"); (case u2 => wtm_at "dp"); (case u3 => wtm_at "szb"); (case u4 => wtm_at "szb"); (case u5 => wtm_at "szb"); (case u6 => wtm_at "szb"); (case u7 => wtm_at "szb"); (case u8 => wtm_at "szb"); (case u9 => wtm_at "szb"); (case u10 => wtm_at "szb"); (case u11 => wtm_at "szb")))
local macro_rules | `(tactic| wtm_at "use") => `(tactic| ((with_reducible refine' use_line_through ?u0 ?u1 ?u2 ?u3 ?u4 ?u5 ?u6 ?u7 (fun ur uH ue ud => ?uq)); (case u0 => wtm_at "dp"); (case u1 => wtm_at "dp"); (case u2 => wtm_at "szb"); (case u3 => wtm_at "szb"); (case u4 => wtm_at "szb"); (case u5 => wtm_at "szb"); (case u6 => wtm_at "szb"); (case u7 => wtm_at "szb")))
local macro_rules | `(tactic| wtm_at "use") => `(tactic| ((with_reducible refine' use_reduced_point ?u0 ?u1 (fun ur uH ue ud => ?uq)); (case u0 => wtm_at "nz"); (case u1 => wtm_at "szb")))
local macro_rules | `(tactic| wtm_at "use") => `(tactic| ((with_reducible refine' use_reduced ?u0 ?u1 (fun ur uH ue ud => ?uq)); (case u0 => wtm_at "nz"); (case u1 => wtm_at "szb")))
section
variable {P : Program} {w : World} {K : PySem.W.Frag} {mg : Str → Option Value} {base : Heap} {H H' : Hp} {Q : VK} {E : XK} {v1 v2 v3 v4 : V} {x1 y1 w1 x2 y2 w2 x3 y3 w3 x4 y4 w4 : Int}
def isPoint : PyData → Bool
  | .tuple [.int x, .int y, .int w] => decide (1 ≤ w) && decide (gd (gd x y) w = 1)
  | _ => false
theorem len3 {α : Type} {ds : List α} (h : (ds.length : Int) = 3) : ∃ a b c, ds = [a, b, c] := by
  match ds, h with
  | [a, b, c], _ => exact ⟨a, b, c, rfl⟩
  | [], h => simp at h
  | [_], h => simp at h
  | [_, _], h => simp at h
  | _ :: _ :: _ :: _ :: r, h =>
    simp only [List.length_cons] at h
    omega
theorem isPoint_len {ds : List PyData} (h : ¬ (ds.length : Int) = 3) : isPoint (.tuple ds) = false := by
  unfold isPoint
  split
  · rename_i e
    cases e
    exact absurd rfl h
  · rfl
theorem isInt_ex {d : PyData} (h : isInt d = true) : ∃ i, d = .int i := by
  cases d with
  | int i => exact ⟨i, rfl⟩
  | _ => cases h
theorem isPoint_no {a b c : PyData} (h : ([isInt a, isInt b, isInt c].all id) = false) : isPoint (.tuple [a, b, c]) = false := by
  unfold isPoint
  split
  · rename_i e
    cases e
    cases h
  · rfl
def sp_is_point (K : PySem.W.Frag) : Sp := A1 fun v1 H Q => ∃ d, Dp K H v1 d ∧ Ret K (.bool (isPoint d)) H Q
abbrev s_is_point : Stmt := top 12
theorem sc_is_point : FnScope ["value", "part"] ["value"] (defScope s_is_point) := ⟨rfl, rfl, rfl, by decide +kernel, rfl, by decide +kernel, by decide +kernel⟩
theorem ok_is_point {f : Addr} {fd : FuncData} (F : FnP K "is_point" s_is_point f fd) (g : G mg) (c_shared_of : Cl P w K mg base 1 "shared_of" (sp_shared_of K)) (c_is_integer : Cl P w K mg base 1 "is_integer" (sp_is_integer K))  : FnOk P w K mg base CX0 2 f fd ["value"] (sp_is_point K) := by
  have nd := sc_is_point.nd
  refine F.ok sc_is_point (fun vs H Q E h => h.len) (fun cdv A outer s H vs Q E hr h => ?_)
  obtain ⟨v1, rfl, h⟩ := h
  refine ⟨_, PSs.nox (pss_cons (ps_if (PW.pt (pw_or (pt_not (pt_val (pe_callB call_isi (by rfl) g.f_isinstance boot_isinstance (pa_cons (pv 0) (pa_cons (pe_bltn (v := .ty "tuple") (by rfl) g.f_tuple boot_tuple rfl) pa_nil))))) (pw_or1 (pt_cmpR op_ne (pe_callB call_qlen (by rfl) g.f_len boot_len (pa_cons (pv 0) pa_nil)) pe_int (nomark _))))) (pss_one (ps_ret pe_bl)) pss_nil) (pss_cons (ps_if (pt_not (pt_val (pe_callB (cr_all rfl) (by rfl) g.f_all boot_all (pa_cons (pe_lc (own := [("part", 1)]) (g := gName 1) (by rfl) nd (pi_tup (pv 0)) (blkOk_by (N := ["value", "part"]) (sc := defScope s_is_point) (own := [("part", 1)]) (by decide +kernel)) (fun _ _ _ _ _ => (pg_name (i := 1) nd rfl (Or.inl rfl))) (fun _ _ _ _ _ => pts_nil) (fun _ _ _ _ _ => (pc c_is_integer hr (by decide) (by rfl) (pa_cons (pv 1) pa_nil)))) pa_nil)))) (pss_one (ps_ret pe_bl)) pss_nil) (pss_one (ps_ret (pe_and (pe_cmpR op_ge (pe_ix ix_tup (pv 0) pe_int (fun _ _ => rfl)) pe_int (nomark _)) (pe_one (pe_cmpR op_eq (pc c_shared_of hr (by decide) (by rfl) (pa_cons (pc c_shared_of hr (by decide) (by rfl) (pa_cons (pe_ix ix_tup (pv 0) pe_int (fun _ _ => rfl)) (pa_cons (pe_ix ix_tup (pv 0) pe_int (fun _ _ => rfl)) pa_nil))) (pa_cons (pe_ix ix_tup (pv 0) pe_int (fun _ _ => rfl)) pa_nil))) pe_int (nomark _)))))))), ?_⟩
  obtain ⟨d, hd, q⟩ := h
  cases d with
  | tuple ds =>
    wtm_at "go0"
    · rename_i hn
      dsimp only
      exact Ret.bl' q (by wtm_at "ex") (isPoint_len hn)
    · rename_i hn
      obtain ⟨a, b, c, rfl⟩ := len3 hn
      refine i_lcU ?_
      wtm_at "go"
      refine i_lcT (fun _ => true) (fun d => .bool (isInt d)) hd (Nat.le_of_ble_eq_true rfl) (fun _ _ => rfl) (fun x => wipe1 x) (fun u d H2 R e2 hm hu r => ?_) (fun u d H2 R e2 hm hc hu r => ?_) (fun p H2 hp e2 hacc => ?_)
      · wtm_at "go"
        exact r _ (Ex.refl _)
      · wtm_at "go"
        exact r _ _ (Ex.refl _) (Dp.bl _)
      · obtain ⟨acc, h3, h4⟩ := hacc
        have hl : Dp K H2 (.ref p) (.list [.bool (isInt a), .bool (isInt b), .bool (isInt c)]) := .lst (Evl.sq_of h3) h4
        wtm_at "go"
        refine i_all (bs := [isInt a, isInt b, isInt c]) hl rfl ?_
        wtm_at "st"
        refine i_iteBN (fun hb => ?_) (fun hb => ?_)
        · wtm_at "go"
          dsimp only
          exact Ret.bl' q (by wtm_at "ex") (isPoint_no hb)
        · have hb2 : (isInt a && (isInt b && (isInt c && true))) = true := hb
          obtain ⟨k1, k2⟩ := Bool.and_eq_true_iff.mp hb2
          obtain ⟨k3, k4⟩ := Bool.and_eq_true_iff.mp k2
          obtain ⟨k5, _⟩ := Bool.and_eq_true_iff.mp k4
          obtain ⟨x, rfl⟩ := isInt_ex k1
          obtain ⟨y, rfl⟩ := isInt_ex k3
          obtain ⟨z, rfl⟩ := isInt_ex k5
          wtm_at "go"
          · rename_i h1
            dsimp only
            refine Ret.bl' q (by wtm_at "ex") ?_
            show (decide (1 ≤ z) && decide (gd (gd x y) z = 1)) = _
            rw [decide_eq_true h1, Bool.true_and]
          · rename_i h1
            dsimp only
            refine Ret.bl' q (by wtm_at "ex") ?_
            show (decide (1 ≤ z) && decide (gd (gd x y) z = 1)) = _
            rw [decide_eq_false h1, Bool.false_and]
  | _ =>
    wtm_at "go0"
    all_goals (dsimp only; exact Ret.bl' q (Ex.refl _) rfl)
theorem use_is_point {d : PyData} (h : Dp K H v1 d) (q : ∀ H2, Ex H H2 → Q (.bl (isPoint d)) H2) : sp_is_point K [v1] H Q E := ⟨_, rfl, _, h, ret_bl q⟩
/-- the meet of the lines through 1, 2 and 3, 4 -/
abbrev lw (x1 y1 w1 x2 y2 w2 x3 y3 w3 x4 y4 w4 : Int) : Int := (y1 * w2 - y2 * w1) * (w3 * x4 - w4 * x3) - (y3 * w4 - y4 * w3) * (w1 * x2 - w2 * x1)
abbrev lx (x1 y1 w1 x2 y2 w2 x3 y3 w3 x4 y4 w4 : Int) : Int := (w1 * x2 - w2 * x1) * (x3 * y4 - x4 * y3) - (w3 * x4 - w4 * x3) * (x1 * y2 - x2 * y1)
abbrev ly (x1 y1 w1 x2 y2 w2 x3 y3 w3 x4 y4 w4 : Int) : Int := (x1 * y2 - x2 * y1) * (y3 * w4 - y4 * w3) - (x3 * y4 - x4 * y3) * (y1 * w2 - y2 * w1)
def lmeet (x1 y1 w1 x2 y2 w2 x3 y3 w3 x4 y4 w4 : Int) : PyData := if lw x1 y1 w1 x2 y2 w2 x3 y3 w3 x4 y4 w4 = 0 then .none else
  rp (lx x1 y1 w1 x2 y2 w2 x3 y3 w3 x4 y4 w4) (ly x1 y1 w1 x2 y2 w2 x3 y3 w3 x4 y4 w4) (lw x1 y1 w1 x2 y2 w2 x3 y3 w3 x4 y4 w4)
def sp_line_meet_in (K : PySem.W.Frag) : Sp := A4 fun v1 v2 v3 v4 H Q => ∃ x1 y1 w1 x2 y2 w2 x3 y3 w3 x4 y4 w4, Dp K H v1 (pt x1 y1 w1) ∧ Dp K H v2 (pt x2 y2 w2) ∧ Dp K H v3 (pt x3 y3 w3) ∧ Dp K H v4 (pt x4 y4 w4) ∧
  (Sz B0 x1 ∧ Sz B0 y1 ∧ Sz B0 w1) ∧ (Sz B0 x2 ∧ Sz B0 y2 ∧ Sz B0 w2) ∧ (Sz B0 x3 ∧ Sz B0 y3 ∧ Sz B0 w3) ∧ (Sz B0 x4 ∧ Sz B0 y4 ∧ Sz B0 w4) ∧
  Ret K (lmeet x1 y1 w1 x2 y2 w2 x3 y3 w3 x4 y4 w4) H Q
abbrev s_line_meet_in : Stmt := top 21
theorem sc_line_meet_in : FnScope ["one", "two", "three", "four", "a", "b", "c", "d", "e", "f", "w"] ["one", "two", "three", "four"] (defScope s_line_meet_in) := ⟨rfl, rfl, rfl, by decide +kernel, rfl, by decide +kernel, by decide +kernel⟩
theorem ok_line_meet_in {f : Addr} {fd : FuncData} (F : FnP K "line_meet_in" s_line_meet_in f fd) (g : G mg) (c_line_through : Cl P w K mg base 1 "line_through" (sp_line_through K)) (c_reduced_point : Cl P w K mg base 1 "reduced_point" (sp_reduced_point K))  : FnOk P w K mg base CX0 2 f fd ["one", "two", "three", "four"] (sp_line_meet_in K) := by
  have nd := sc_line_meet_in.nd
  refine F.ok sc_line_meet_in (fun vs H Q E h => h.len) (fun cdv A outer s H vs Q E hr h => ?_)
  obtain ⟨v1, v2, v3, v4, rfl, h⟩ := h
  refine ⟨_, PSs.nox (pss_cons (ps_asg (pc c_line_through hr (by decide) (by rfl) (pa_cons (pv 0) (pa_cons (pv 1) pa_nil))) (pg_tup (n := 3) (by rfl) (pgs_cons (pg_name (i := 4) nd rfl (Or.inl rfl)) (pgs_cons (pg_name (i := 5) nd rfl (Or.inl rfl)) (pgs_cons (pg_name (i := 6) nd rfl (Or.inl rfl)) pgs_nil))))) (pss_cons (ps_asg (pc c_line_through hr (by decide) (by rfl) (pa_cons (pv 2) (pa_cons (pv 3) pa_nil))) (pg_tup (n := 3) (by rfl) (pgs_cons (pg_name (i := 7) nd rfl (Or.inl rfl)) (pgs_cons (pg_name (i := 8) nd rfl (Or.inl rfl)) (pgs_cons (pg_name (i := 9) nd rfl (Or.inl rfl)) pgs_nil))))) (pss_cons (ps_set (i := 10) nd rfl (Or.inl rfl) (pe_op op_sub (pe_op op_mulX (pv 4) (pv 8)) (pe_op op_mulX (pv 7) (pv 5)))) (pss_cons (ps_if (pt_cmpR op_eq (pv 10) pe_int (nomark _)) (pss_one (ps_ret pe_non)) pss_nil) (pss_one (ps_ret (pc c_reduced_point hr (by decide) (by rfl) (pa_cons (pe_op op_sub (pe_op op_mulX (pv 5) (pv 9)) (pe_op op_mulX (pv 8) (pv 6))) (pa_cons (pe_op op_sub (pe_op op_mulX (pv 6) (pv 7)) (pe_op op_mulX (pv 9) (pv 4))) (pa_cons (pv 10) pa_nil)))))))))), ?_⟩
  obtain ⟨x1, y1, w1, x2, y2, w2, x3, y3, w3, x4, y4, w4, h1, h2, h3, h4, ⟨a1, a2, a3⟩, ⟨b1, b2, b3⟩, ⟨c1, c2, c3⟩, ⟨d1, d2, d3⟩, q⟩ := h
  unfold lmeet at q
  wtm_at "go0"
  · rename_i hz
    rw [if_pos hz] at q
    wtm_at "fin"
  · have hz : ¬ lw x1 y1 w1 x2 y2 w2 x3 y3 w3 x4 y4 w4 = 0 := by assumption
    rw [if_neg hz] at q
    wtm_at "fin"
theorem use_line_meet_in (h1 : Dp K H v1 (pt x1 y1 w1)) (h2 : Dp K H v2 (pt x2 y2 w2)) (h3 : Dp K H v3 (pt x3 y3 w3)) (h4 : Dp K H v4 (pt x4 y4 w4)) (a1 : Sz B0 x1) (a2 : Sz B0 y1) (a3 : Sz B0 w1) (b1 : Sz B0 x2) (b2 : Sz B0 y2) (b3 : Sz B0 w2) (c1 : Sz B0 x3) (c2 : Sz B0 y3) (c3 : Sz B0 w3)
    (d1 : Sz B0 x4) (d2 : Sz B0 y4) (d3 : Sz B0 w4) (q : ∀ v H2, Ex H H2 → Dp K H2 v (lmeet x1 y1 w1 x2 y2 w2 x3 y3 w3 x4 y4 w4) → Q v H2) : sp_line_meet_in K [v1, v2, v3, v4] H Q E :=
  ⟨_, _, _, _, rfl, _, _, _, _, _, _, _, _, _, _, _, _, h1, h2, h3, h4, ⟨a1, a2, a3⟩, ⟨b1, b2, b3⟩, ⟨c1, c2, c3⟩, ⟨d1, d2, d3⟩, q⟩
def sp_middle_in (K : PySem.W.Frag) : Sp := A2 fun v1 v2 H Q => ∃ x1 y1 w1 x2 y2 w2, Dp K H v1 (pt x1 y1 w1) ∧ Dp K H v2 (pt x2 y2 w2) ∧ (Sz B0 x1 ∧ Sz B0 y1 ∧ Sz B0 w1) ∧ (Sz B0 x2 ∧ Sz B0 y2 ∧ Sz B0 w2) ∧ w1 ≠ 0 ∧ w2 ≠ 0 ∧ Ret K (rp (x1 * w2 + x2 * w1) (y1 * w2 + y2 * w1) (2 * w1 * w2)) H Q
theorem mul3_ne {a b : Int} (h1 : a ≠ 0) (h2 : b ≠ 0) : 2 * a * b ≠ 0 := Int.mul_ne_zero (Int.mul_ne_zero (by decide) h1) h2
abbrev s_middle_in : Stmt := top 22
theorem sc_middle_in : FnScope ["one", "two"] ["one", "two"] (defScope s_middle_in) := ⟨rfl, rfl, rfl, by decide +kernel, rfl, by decide +kernel, by decide +kernel⟩
theorem ok_middle_in {f : Addr} {fd : FuncData} (F : FnP K "middle_in" s_middle_in f fd) (g : G mg) (c_reduced_point : Cl P w K mg base 1 "reduced_point" (sp_reduced_point K))  : FnOk P w K mg base CX0 2 f fd ["one", "two"] (sp_middle_in K) := by
  have nd := sc_middle_in.nd
  refine F.ok sc_middle_in (fun vs H Q E h => h.len) (fun cdv A outer s H vs Q E hr h => ?_)
  obtain ⟨v1, v2, rfl, h⟩ := h
  refine ⟨_, PSs.nox (pss_one (ps_ret (pc c_reduced_point hr (by decide) (by rfl) (pa_cons (pe_op op_add (pe_op op_mulX (pe_ix ix_tup (pv 0) pe_int (fun _ _ => rfl)) (pe_ix ix_tup (pv 1) pe_int (fun _ _ => rfl))) (pe_op op_mulX (pe_ix ix_tup (pv 1) pe_int (fun _ _ => rfl)) (pe_ix ix_tup (pv 0) pe_int (fun _ _ => rfl)))) (pa_cons (pe_op op_add (pe_op op_mulX (pe_ix ix_tup (pv 0) pe_int (fun _ _ => rfl)) (pe_ix ix_tup (pv 1) pe_int (fun _ _ => rfl))) (pe_op op_mulX (pe_ix ix_tup (pv 1) pe_int (fun _ _ => rfl)) (pe_ix ix_tup (pv 0) pe_int (fun _ _ => rfl)))) (pa_cons (pe_op op_mulX (pe_op op_mul pe_int (pe_ix ix_tup (pv 0) pe_int (fun _ _ => rfl))) (pe_ix ix_tup (pv 1) pe_int (fun _ _ => rfl))) pa_nil)))))), ?_⟩
  obtain ⟨x1, y1, w1, x2, y2, w2, h1, h2, ⟨a1, a2, a3⟩, ⟨b1, b2, b3⟩, n1, n2, q⟩ := h
  have n3 := mul3_ne n1 n2
  wtm_at "go0"
  all_goals wtm_at "fin"
theorem use_middle_in (h1 : Dp K H v1 (pt x1 y1 w1)) (h2 : Dp K H v2 (pt x2 y2 w2)) (a1 : Sz B0 x1) (a2 : Sz B0 y1) (a3 : Sz B0 w1) (b1 : Sz B0 x2) (b2 : Sz B0 y2) (b3 : Sz B0 w2) (n1 : w1 ≠ 0) (n2 : w2 ≠ 0)
    (q : ∀ v H2, Ex H H2 → Dp K H2 v (rp (x1 * w2 + x2 * w1) (y1 * w2 + y2 * w1) (2 * w1 * w2)) → Q v H2) : sp_middle_in K [v1, v2] H Q E := ⟨_, _, rfl, _, _, _, _, _, _, h1, h2, ⟨a1, a2, a3⟩, ⟨b1, b2, b3⟩, n1, n2, q⟩
abbrev sqx (x1 w1 x2 w2 : Int) : Int := x2 * w1 - x1 * w2
def sp_square_in (K : PySem.W.Frag) : Sp := A2 fun v1 v2 H Q => ∃ x1 y1 w1 x2 y2 w2, Dp K H v1 (pt x1 y1 w1) ∧ Dp K H v2 (pt x2 y2 w2) ∧ (Sz B0 x1 ∧ Sz B0 y1 ∧ Sz B0 w1) ∧ (Sz B0 x2 ∧ Sz B0 y2 ∧ Sz B0 w2) ∧ w1 ≠ 0 ∧ w2 ≠ 0 ∧
  Ret K (rf ((x2 * w1 - x1 * w2) * (x2 * w1 - x1 * w2) + (y2 * w1 - y1 * w2) * (y2 * w1 - y1 * w2)) (w1 * w2 * (w1 * w2))) H Q
abbrev s_square_in : Stmt := top 23
theorem sc_square_in : FnScope ["one", "two", "across", "along", "bottom"] ["one", "two"] (defScope s_square_in) := ⟨rfl, rfl, rfl, by decide +kernel, rfl, by decide +kernel, by decide +kernel⟩
theorem ok_square_in {f : Addr} {fd : FuncData} (F : FnP K "square_in" s_square_in f fd) (g : G mg) (c_step_from : Cl P w K mg base 1 "step_from" (sp_step_from K)) (c_reduced : Cl P w K mg base 1 "reduced" (sp_reduced K))  : FnOk P w K mg base CX0 2 f fd ["one", "two"] (sp_square_in K) := by
  have nd := sc_square_in.nd
  refine F.ok sc_square_in (fun vs H Q E h => h.len) (fun cdv A outer s H vs Q E hr h => ?_)
  obtain ⟨v1, v2, rfl, h⟩ := h
  refine ⟨_, PSs.nox (pss_cons (ps_asg (pc c_step_from hr (by decide) (by rfl) (pa_cons (pv 0) (pa_cons (pv 1) pa_nil))) (pg_tup (n := 2) (by rfl) (pgs_cons (pg_name (i := 2) nd rfl (Or.inl rfl)) (pgs_cons (pg_name (i := 3) nd rfl (Or.inl rfl)) pgs_nil)))) (pss_cons (ps_set (i := 4) nd rfl (Or.inl rfl) (pe_op op_mulX (pe_ix ix_tup (pv 0) pe_int (fun _ _ => rfl)) (pe_ix ix_tup (pv 1) pe_int (fun _ _ => rfl)))) (pss_one (ps_ret (pc c_reduced hr (by decide) (by rfl) (pa_cons (pe_op op_add (pe_op op_mulX (pv 2) (pv 2)) (pe_op op_mulX (pv 3) (pv 3))) (pa_cons (pe_op op_mulX (pv 4) (pv 4)) pa_nil))))))), ?_⟩
  obtain ⟨x1, y1, w1, x2, y2, w2, h1, h2, ⟨a1, a2, a3⟩, ⟨b1, b2, b3⟩, n1, n2, q⟩ := h
  have n3 := Int.mul_ne_zero (Int.mul_ne_zero n1 n2) (Int.mul_ne_zero n1 n2)
  wtm_at "go0"
  all_goals wtm_at "fin"
theorem use_square_in (h1 : Dp K H v1 (pt x1 y1 w1)) (h2 : Dp K H v2 (pt x2 y2 w2)) (a1 : Sz B0 x1) (a2 : Sz B0 y1) (a3 : Sz B0 w1) (b1 : Sz B0 x2) (b2 : Sz B0 y2) (b3 : Sz B0 w2) (n1 : w1 ≠ 0) (n2 : w2 ≠ 0)
    (q : ∀ v H2, Ex H H2 → Dp K H2 v (rf ((x2 * w1 - x1 * w2) * (x2 * w1 - x1 * w2) + (y2 * w1 - y1 * w2) * (y2 * w1 - y1 * w2)) (w1 * w2 * (w1 * w2))) → Q v H2) : sp_square_in K [v1, v2] H Q E := ⟨_, _, rfl, _, _, _, _, _, _, h1, h2, ⟨a1, a2, a3⟩, ⟨b1, b2, b3⟩, n1, n2, q⟩
end
end Wb

namespace Wb
open PySem PySem.Spec PyProof.Rows L2
open Evl (Ex Ex.refl Ex.trans Ex.new)
local macro_rules | `(tactic| wtm_at "dp") => `(tactic| first | with_reducible assumption | with_reducible exact Dp.int _ | with_reducible exact Dp.bl _ | with_reducible exact Dp.str _ | with_reducible exact Dp.non | ((with_reducible refine' dpMono ?dme (by with_reducible assumption)); (case dme => wtm_at "ex")) | ((with_reducible refine' Dp.tup (Evl.st_of ?dph) ?dpa); (case dph => wtm_at "hs"); (case dpa => wtm_at "dpa")) | ((with_reducible refine' Dp.lst (Evl.sq_of ?dph) ?dpa); (case dph => wtm_at "hs"); (case dpa => wtm_at "dpa")))
local macro_rules | `(tactic| wtm_at "dpa") => `(tactic| first | with_reducible exact DpAll.nil | ((with_reducible refine' DpAll.cons ?dp1 ?dp2); (case dp1 => wtm_at "dp"); (case dp2 => wtm_at "dpa")) | with_reducible assumption | ((with_reducible refine' dpMonoA ?dme (by with_reducible assumption)); (case dme => wtm_at "ex")))
local macro_rules | `(tactic| wtm_at "sz") => `(tactic| first | with_reducible assumption | ((with_reducible refine' sz_mul ?sz1 ?sz2); (case sz1 => wtm_at "sz"); (case sz2 => wtm_at "sz")) | ((with_reducible refine' sz_add ?sz1 ?sz2); (case sz1 => wtm_at "sz"); (case sz2 => wtm_at "sz")) | ((with_reducible refine' sz_sub ?sz1 ?sz2); (case sz1 => wtm_at "sz"); (case sz2 => wtm_at "sz")) | ((with_reducible refine' sz_neg ?sz1); (case sz1 => wtm_at "sz")) | ((with_reducible refine' sz_div ?sz1); (case sz1 => wtm_at "sz")) | ((with_reducible refine' sz_fdiv ?sz1); (case sz1 => wtm_at "sz")) | exact sz_lit (by decide) | wtm_at "sz2")
local macro_rules | `(tactic| wtm_at "szb") => `(tactic| first | with_reducible assumption | ((with_reducible refine' sz_mono ?szb1 ?szb2); (case szb1 => wtm_at "sz"); (case szb2 => decide)))
local macro_rules | `(tactic| wtm_at "nz") => `(tactic| first | assumption | decide | omega)
local macro_rules | `(tactic| wtm_at "shaped") => `(tactic| first | rfl | decide)
local macro_rules | `(tactic| wtm_at "sset") => `(tactic| ((dsimp only [L2.wipe, List.set, List.set_cons_zero, List.set_cons_succ]) <;> exact rfl))
local macro_rules | `(tactic| wtm_at "nrm") => `(tactic| dsimp only [L2.start, L2.wipe, List.set, List.append, List.map, List.map_cons, List.map_nil, List.length_cons, List.length_nil, Nat.reduceAdd, Nat.reduceSub, List.reduceReplicate, List.replicate, List.cons_append, List.nil_append, List.set_cons_zero, List.set_cons_succ])
local macro_rules | `(tactic| wtm_at "st") => `(tactic| first
  | ((with_reducible refine' i_var (v := ?u0) ?u1 ?uq); (case u1 => exact rfl))
  | ((with_reducible refine' i_nameN ?u0 ?uq); (case u0 => wtm_at "sset"))
  | (with_reducible refine' i_op ?uq)
  | (with_reducible refine' i_c ?uq)
  | (with_reducible refine' i_I0 ?uq)
  | ((with_reducible refine' i_ixTI (i := ?u0) ?u1 ?u2 ?u3 ?uq); (case u1 => wtm_at "dp"); (case u2 => wtm_at "ex"); (case u3 => exact rfl))
  | ((with_reducible refine' i_ixT (d := ?u0) ?u1 ?u2 ?u3 (fun xu hxu => ?uq)); (case u1 => wtm_at "dp"); (case u2 => wtm_at "ex"); (case u3 => exact rfl))
  | ((with_reducible refine' i_mul ?u0 ?u1 ?u2 ?uq); (case u0 => wtm_at "sz"); (case u1 => wtm_at "sz"); (case u2 => first | decide | omega))
  | (with_reducible refine' i_seq ?uq)
  | (with_reducible refine' i_asg ?uq)
  | (with_reducible refine' i_ret ?uq)
  | (with_reducible refine' i_ifs ?uq)
  | (with_reducible refine' i_drop ?uq)
  | (with_reducible refine' i_next ?uq)
  | (with_reducible refine' i_cons ?uq)
  | (with_reducible refine' i_nil ?uq)
  | (with_reducible refine' i_cl ?uq)
  | (with_reducible refine' i_cb ?uq)
  | (with_reducible refine' i_tup ?uq)
  | (with_reducible refine' i_lst ?uq)
  | ((with_reducible refine' i_mkT ?u0 (fun np nH nhe nhp => ?uq)); (case u0 => exact Nat.le_of_ble_eq_true rfl))
  | (with_reducible refine' i_test ?uq)
  | (with_reducible refine' i_B ?uq)
  | (with_reducible refine' i_k ?uq)
  | (with_reducible refine' i_and ?uq)
  | (with_reducible refine' i_or ?uq)
  | (with_reducible refine' i_not ?uq)
  | (with_reducible refine' i_andV ?uq)
  | (with_reducible refine' i_orV ?uq)
  | (with_reducible refine' i_notV ?uq)
  | (with_reducible refine' i_if ?uq)
  | (with_reducible refine' i_un ?uq)
  | (with_reducible refine' i_U ?uq)
  | (with_reducible refine' i_iteT ?uq)
  | (with_reducible refine' i_iteF ?uq)
  | ((with_reducible refine' i_iteTr ?u0 ?uq); (case u0 => first | with_reducible rfl | decide | (simp only [dIsInt, dIsBool, dIsTup, dIsStr, dIsLst, Bool.not_true, Bool.not_false]; done)))
  | ((with_reducible refine' i_iteFr ?u0 ?uq); (case u0 => first | with_reducible rfl | decide | (simp only [dIsInt, dIsBool, dIsTup, dIsStr, dIsLst, Bool.not_true, Bool.not_false]; done)))
  | (with_reducible refine' i_ite (fun hif => ?uqa) (fun hif => ?uqb))
  | (with_reducible refine' i_iteN (fun hif => ?uqa) (fun hif => ?uqb))
  | (with_reducible refine' i_iteBN (fun hif => ?uqa) (fun hif => ?uqb))
  | (with_reducible refine' i_iteB (fun hif => ?uqa) (fun hif => ?uqb))
  | ((with_reducible refine' i_modN ?u0 ?uq); (case u0 => wtm_at "nz"))
  | ((with_reducible refine' i_fdX ?u0 ?u1 ?u2 ?uq); (case u0 => wtm_at "nz"); (case u1 => wtm_at "sz"); (case u2 => first | decide | omega))
  | ((with_reducible refine' i_pow ?u0 ?uq); (case u0 => exact ⟨by decide, by decide +kernel⟩))
  | (with_reducible refine' i_eqI ?uq)
  | (with_reducible refine' i_neI ?uq)
  | (with_reducible refine' i_gcd ?uq)
  | (with_reducible refine' i_qabs ?uq)
  | (with_reducible refine' i_qint ?uq)
  | (with_reducible refine' i_qintB ?uq)
  | (with_reducible refine' i_qmax2 ?uq)
  | (with_reducible refine' i_qmin2 ?uq)
  | (with_reducible refine' i_isB ?uq)
  | (with_reducible refine' i_notB ?uq)
  | (with_reducible refine' i_chain ?uq)
  | (with_reducible refine' i_qisN ?uq)
  | (with_reducible refine' i_qnotN ?uq)
  | (with_reducible refine' i_yes ?uq)
  | (with_reducible refine' i_par ?uq)
  | (with_reducible refine' i_par3 ?uq)
  | ((with_reducible refine' i_par2 ?u0 ?uq); (case u0 => wtm_at "sset"))
  | ((with_reducible refine' i_par33 ?u0 ?uq); (case u0 => wtm_at "sset"))
  | ((with_reducible refine' i_ixLI (i := ?u0) ?u1 ?u2 ?u3 ?uq); (case u1 => wtm_at "dp"); (case u2 => wtm_at "ex"); (case u3 => exact rfl))
  | ((with_reducible refine' i_ixL (d := ?u0) ?u1 ?u2 ?u3 (fun xu hxu => ?uq)); (case u1 => wtm_at "dp"); (case u2 => wtm_at "ex"); (case u3 => exact rfl))
  | ((with_reducible refine' i_qlenT ?u0 ?uq); (case u0 => wtm_at "dp"))
  | ((with_reducible refine' i_qlenL ?u0 ?uq); (case u0 => wtm_at "dp"))
  | ((with_reducible refine' i_gtup ?u0 ?u1 ?u2 (fun gvs gdp => ?uq)); (case u0 => wtm_at "dp"); (case u1 => wtm_at "ex"); (case u2 => exact rfl))
  | ((with_reducible refine' i_glst ?u0 ?u1 ?u2 (fun gvs gdp => ?uq)); (case u0 => wtm_at "dp"); (case u1 => wtm_at "ex"); (case u2 => exact rfl))
  | ((with_reducible refine' i_gconsI ?u0 (fun gr gh => ?uq)); (case u0 => with_reducible assumption))
  | ((with_reducible refine' i_gconsA ?u0 (fun gv gr gh1 gh2 => ?uq)); (case u0 => with_reducible assumption))
  | ((with_reducible refine' i_gnilA ?u0 ?uq); (case u0 => with_reducible assumption))
  | ((with_reducible refine' i_isiI ?u0 ?uq); (case u0 => wtm_at "dp"))
  | ((with_reducible refine' i_isiB ?u0 ?uq); (case u0 => wtm_at "dp"))
  | ((with_reducible refine' i_isiT ?u0 ?uq); (case u0 => wtm_at "dp"))
  | ((with_reducible refine' i_isiS ?u0 ?uq); (case u0 => wtm_at "dp"))
  | ((with_reducible refine' i_isiL ?u0 ?uq); (case u0 => wtm_at "dp"))
  | ((with_reducible refine' i_eqD ?u0 ?u1 ?u2 ?u3 ?uq); (case u0 => wtm_at "dp"); (case u1 => wtm_at "dp"); (case u2 => wtm_at "shaped"); (case u3 => wtm_at "shaped"))
  | ((with_reducible refine' i_neD ?u0 ?u1 ?u2 ?u3 ?uq); (case u0 => wtm_at "dp"); (case u1 => wtm_at "dp"); (case u2 => wtm_at "shaped"); (case u3 => wtm_at "shaped"))
  | wtm_at "st2"
  | wtm_at "use")
local macro_rules | `(tactic| wtm_at "go") => `(tactic| repeat' (wtm_at "st"))
local macro_rules | `(tactic| wtm_at "go0") => `(tactic| ((try dsimp only [L2.cxOf, L2.Cx.nox, L2.Cx.wish, L2.Cx.tr, L2.Cx.blk]); (try wtm_at "nrm"); wtm_at "go"))
local macro_rules | `(tactic| wtm_at "fin") => `(tactic| ((try dsimp only); first | with_reducible assumption | assumption | ((with_reducible refine' Ret.use ?rur ?rue ?rud); (case rur => with_reducible assumption); (case rue => wtm_at "ex"); (case rud => wtm_at "dp"))))
local macro_rules | `(tactic| wtm_at "ex") => `(tactic| first | with_reducible assumption | with_reducible exact Ex.refl _ | with_reducible exact ex_hid | ((with_reducible refine' Ex.trans ?exe (by with_reducible assumption)); (case exe => wtm_at "ex")) | ((with_reducible refine' Ex.trans ?exe (hid_ex (by with_reducible assumption))); (case exe => wtm_at "ex")) | ((with_reducible refine' Ex.trans ?exe ex_hid); (case exe => wtm_at "ex")))
local macro_rules | `(tactic| wtm_at "bag") => `(tactic| first | with_reducible assumption | ((with_reducible refine' Bag.mono ?bgm (by with_reducible assumption)); (case bgm => wtm_at "bag")))
local macro_rules | `(tactic| wtm_at "hs") => `(tactic| first | with_reducible assumption | ((with_reducible refine' hid_tup ?hb ?hp); (case hp => with_reducible assumption); (case hb => wtm_at "bag")) | ((with_reducible refine' hid_new ?hb ?hn ?hp); (case hp => with_reducible assumption); (case hn => with_reducible assumption); (case hb => wtm_at "bag")) | ((with_reducible refine' ex_at ?exe (by with_reducible assumption)); (case exe => wtm_at "ex")))
local macro_rules | `(tactic| wtm_at "st2") => `(tactic| first
  | ((with_reducible refine' i_mulC ?u0 ?uq); (case u0 => first | exact cmul_l (by decide) | exact cmul_r (by decide)))
  | ((with_reducible refine' i_ixLr (v := ?u0) ?u1 ?u2 ?uq); (case u1 => with_reducible assumption); (case u2 => exact rfl))
  | (with_reducible refine' i_sub ?uq)
  | ((with_reducible refine' i_mkL ?u0 (fun np nH nfr nhe nhp => ?uq)); (case u0 => exact Nat.le_of_ble_eq_true rfl))
  | ((with_reducible refine' i_setL (n := ?u0) ?u1 ?u2 (fun sH sh se => ?uq)); (case u1 => with_reducible assumption); (case u2 => exact rfl))
  | (with_reducible refine' i_sl ?uq)
  | (with_reducible refine' i_nopart ?uq)
  | (with_reducible refine' i_part ?uq)
  | (with_reducible refine' i_part1 ?uq))
local macro_rules | `(tactic| wtm_at "sz2") => `(tactic| ((with_reducible refine' sz_fmod ?sz1 ?sz2); (case sz1 => wtm_at "nz"); (case sz2 => wtm_at "sz")))
local macro_rules | `(tactic| wtm_at "stb") => `(tactic| first
  | ((with_reducible refine' i_mkTB ?u0 ?u1 (fun np nH nhe nhb nhp => ?uq)); (case u0 => exact Nat.le_of_ble_eq_true rfl); (case u1 => wtm_at "bag"))
  | ((with_reducible refine' i_mkLB ?u0 ?u1 (fun np nH nfr nhe nhb nhp => ?uq)); (case u0 => exact Nat.le_of_ble_eq_true rfl); (case u1 => wtm_at "bag"))
  | wtm_at "st")
local macro_rules | `(tactic| wtm_at "gob") => `(tactic| repeat' (wtm_at "stb"))
local macro_rules | `(tactic| wtm_at "gob0") => `(tactic| ((try dsimp only [L2.cxOf, L2.Cx.nox, L2.Cx.wish, L2.Cx.tr, L2.Cx.blk]); (try wtm_at "nrm"); wtm_at "gob"))
local macro_rules | `(tactic| wtm_at "use") => `(tactic| ((with_reducible refine' use_turn_in ?u0 ?u1 ?u2 ?u3 ?u4 ?u5 ?u6 ?u7 ?u8 ?u9 ?u10 ?u11 ?uq); (case u0 => wtm_at "dp"); (case u1 => wtm_at "dp"); (case u2 => wtm_at "dp"); (case u3 => wtm_at "szb"); (case u4 => wtm_at "szb"); (case u5 => wtm_at "szb"); (case u6 => wtm_at "szb"); (case u7 => wtm_at "szb"); (case u8 => wtm_at "szb"); (case u9 => wtm_at "szb"); (case u10 => wtm_at "szb"); (case u11 => wtm_at "szb")))
local macro_rules | `(tactic| wtm_at "use") => `(tactic| ((with_reducible refine' use_step_from ?u0 ?u1 ?u2 ?u3 ?u4 ?u5 ?u6 ?u7 (fun ur uH ue ud => ?uq)); (case u0 => wtm_at "dp"); (case u1 => wtm_at "dp"); (case u2 => wtm_at "szb"); (case u3 => wtm_at "szb"); (case u4 => wtm_at "szb"); (case u5 => wtm_at "szb"); (case u6 => wtm_at "szb"); (case u7 => wtm_at "szb")))
local macro_rules | `(tactic| wtm_at "use") => `(tactic| (with_reducible refine' use_shared_of ?uq))
local macro_rules | `(tactic| wtm_at "use") => `(tactic| ((with_reducible refine' use_is_integer ?u0 ?uq); (case u0 => wtm_at "dp")))
local macro_rules | `(tactic| wtm_at "use") => `(tactic| ((with_reducible refine' use_is_between_in ?u0 ?u1 ?u2 ?u3 ?u4 ?u5 ?u6 ?u7 ?u8 ?u9 ?u10 ?u11 (fun uH ue => ?uq)); (case u0 => wtm_at "dp"); (case u1 => wtm_at "dp"); (case u2 => wtm_at "dp"); (case u3 => wtm_at "szb"); (case u4 => wtm_at "szb"); (case u5 => wtm_at "szb"); (case u6 => wtm_at "szb"); (case u7 => wtm_at "szb"); (case u8 => wtm_at "szb"); (case u9 => wtm_at "szb"); (case u10 => wtm_at "szb"); (case u11 => wtm_at "szb")))
local macro_rules | `(tactic| wtm_at "use") => `(tactic| ((with_reducible refine' use_line_through ?u0 ?u1 ?u2 ?u3 ?u4 ?u5 ?u6 ?u7 (fun ur uH ue ud => ?uq)); (case u0 => wtm_at "dp"); (case u1 => wtm_at "dp"); (case u2 => wtm_at "szb"); (case u3 => wtm_at "szb"); (case u4 => wtm_at "szb"); (case u5 => wtm_at "szb"); (case u6 => wtm_at "szb"); (case u7 => wtm_at "szb")))
local macro_rules | `(tactic| wtm_at "use") => `(tactic| ((with_reducible refine' use_reduced_point ?u0 ?u1 (fun ur uH ue ud => ?uq)); (case u0 => wtm_at "nz"); (case u1 => wtm_at "szb")))
local macro_rules | `(tactic| wtm_at "use") => `(tactic| ((with_reducible refine' use_reduced ?u0 ?u1 (fun ur uH ue ud => ?uq)); (case u0 => wtm_at "nz"); (case u1 => wtm_at "szb")))
local macro_rules | `(tactic| wtm_at "use") => `(tactic| ((with_reducible refine' use_is_point ?u0 (fun uH ue => ?uq)); (case u0 => wtm_at "dp")))
local macro_rules | `(tactic| wtm_at "use") => `(tactic| ((with_reducible refine' use_line_meet_in ?u0 ?u1 ?u2 ?u3 ?u4 ?u5 ?u6 ?u7 ?u8 ?u9 ?u10 ?u11 ?u12 ?u13 ?u14 ?u15 (fun ur uH ue ud => ?uq)); (case u0 => wtm_at "dp"); (case u1 => wtm_at "dp"); (case u2 => wtm_at "dp"); (case u3 => wtm_at "dp"); (case u4 => wtm_at "szb"); (case u5 => wtm_at "szb"); (case u6 => wtm_at "szb"); (case u7 => wtm_at "szb"); (case u8 => wtm_at "szb"); (case u9 => wtm_at "szb"); (case u10 => wtm_at "szb"); (case u11 => wtm_at "szb"); (case u12 => wtm_at "szb"); (case u13 => wtm_at "szb"); (case u14 => wtm_at "szb"); (case u15 => wtm_at "szb")))
local macro_rules | `(tactic| wtm_at "use") => `(tactic| ((with_reducible refine' use_middle_in ?u0 ?u1 ?u2 ?u3 ?u4 ?u5 ?u6 ?u7 ?u8 ?u9 (fun ur uH ue ud => ?uq)); (case u0 => wtm_at "dp"); (case u1 => wtm_at "dp"); (case u2 => wtm_at "szb"); (case u3 => wtm_at "szb"); (case u4 => wtm_at "szb"); (case u5 => wtm_at "szb"); (case u6 => wtm_at "szb"); (case u7 => wtm_at "szb"); (case u8 => wtm_at "nz"); (case u9 => wtm_at "nz")))
local macro_rules | `(tactic| wtm_at "use") => `(tactic| ((with_reducible refine' use_square_in ?u0 ?u1 ?u2 ?u3 ?u4 ?u5 ?u6 ?u7 ?u8 ?u9 (fun ur uH ue ud => ?uq)); (case u0 => wtm_at "dp"); (case u1 => wtm_at "dp"); (case u2 => wtm_at "szb"); (case u3 => wtm_at "szb"); (case u4 => wtm_at "szb"); (case u5 => wtm_at "szb"); (case u6 => wtm_at "szb"); (case u7 => wtm_at "szb"); (case u8 => wtm_at "nz"); (case u9 => wtm_at "nz")))
section
variable {P : Program} {w : World} {K : PySem.W.Frag} {mg : Str → Option Value} {base : Heap} {H H' : Hp} {Q : VK} {E : XK} {v1 v2 v3 v4 : V} {x1 y1 w1 x2 y2 w2 x3 y3 w3 x4 y4 w4 : Int}
def ptLt : PyData → PyData → Bool
  | .tuple [.int x, .int y, .int w], .tuple [.int x', .int y', .int w'] => HT.lexLt [x, y, w] [x', y', w']
  | _, _ => false
def isSide : PyData → Bool
  | .tuple [a, b] => isPoint a && isPoint b && ptLt a b
  | _ => false
theorem isPoint_ex {d : PyData} (h : isPoint d = true) : ∃ x y w, d = pt x y w ∧ 1 ≤ w ∧ gd (gd x y) w = 1 := by
  unfold isPoint at h
  split at h
  · rename_i x y w
    have h2 := Bool.and_eq_true_iff.mp h
    exact ⟨x, y, w, rfl, of_decide_eq_true h2.1, of_decide_eq_true h2.2⟩
  · cases h
theorem len2 {α : Type} {ds : List α} (h : (ds.length : Int) = 2) : ∃ a b, ds = [a, b] := by
  match ds, h with
  | [a, b], _ => exact ⟨a, b, rfl⟩
  | [], h => simp at h
  | [_], h => simp at h
  | _ :: _ :: _ :: r, h =>
    simp only [List.length_cons] at h
    omega
theorem isSide_len {ds : List PyData} (h : ¬ (ds.length : Int) = 2) : isSide (.tuple ds) = false := by
  unfold isSide
  split
  · rename_i e
    cases e
    exact absurd rfl h
  · rfl
def sp_is_side (K : PySem.W.Frag) : Sp := A1 fun v1 H Q => ∃ d, Dp K H v1 d ∧ Ret K (.bool (isSide d)) H Q
abbrev s_is_side : Stmt := top 13
theorem sc_is_side : FnScope ["value"] ["value"] (defScope s_is_side) := ⟨rfl, rfl, rfl, by decide +kernel, rfl, by decide +kernel, by decide +kernel⟩
theorem ok_is_side {f : Addr} {fd : FuncData} (F : FnP K "is_side" s_is_side f fd) (g : G mg) (c_is_point : Cl P w K mg base 2 "is_point" (sp_is_point K))  : FnOk P w K mg base CX0 3 f fd ["value"] (sp_is_side K) := by
  have nd := sc_is_side.nd
  refine F.ok sc_is_side (fun vs H Q E h => h.len) (fun cdv A outer s H vs Q E hr h => ?_)
  obtain ⟨v1, rfl, h⟩ := h
  refine ⟨_, PSs.nox (pss_cons (ps_if (PW.pt (pw_or (pt_not (pt_val (pe_callB call_isi (by rfl) g.f_isinstance boot_isinstance (pa_cons (pv 0) (pa_cons (pe_bltn (v := .ty "tuple") (by rfl) g.f_tuple boot_tuple rfl) pa_nil))))) (pw_or1 (pt_cmpR op_ne (pe_callB call_qlen (by rfl) g.f_len boot_len (pa_cons (pv 0) pa_nil)) pe_int (nomark _))))) (pss_one (ps_ret pe_bl)) pss_nil) (pss_one (ps_ret (pe_and (pc c_is_point hr (by decide) (by rfl) (pa_cons (pe_ix ix_tup (pv 0) pe_int (fun _ _ => rfl)) pa_nil)) (pe_and (pc c_is_point hr (by decide) (by rfl) (pa_cons (pe_ix ix_tup (pv 0) pe_int (fun _ _ => rfl)) pa_nil)) (pe_one (pe_cmpR (op_ltT hr.units0) (pe_ix ix_tup (pv 0) pe_int (fun _ _ => rfl)) (pe_ix ix_tup (pv 0) pe_int (fun _ _ => rfl)) (nomark _)))))))), ?_⟩
  obtain ⟨d, hd, q⟩ := h
  cases d with
  | tuple ds =>
    wtm_at "go0"
    · rename_i hn
      dsimp only
      exact Ret.bl' q (by wtm_at "ex") (isSide_len hn)
    · rename_i hn
      obtain ⟨a, b, rfl⟩ := len2 hn
      wtm_at "go"
      · have ha : isPoint a = true := by assumption
        have hb : isPoint b = true := by assumption
        obtain ⟨x, y, w', rfl, _, _⟩ := isPoint_ex ha
        obtain ⟨x', y', w'', rfl, _, _⟩ := isPoint_ex hb
        refine i_ltT (ns := [x, y, w']) (ms := [x', y', w'']) (ds := [.int x, .int y, .int w']) (es := [.int x', .int y', .int w'']) (by wtm_at "dp") (by wtm_at "dp") rfl rfl ?_
        dsimp only
        refine Ret.bl' q (by wtm_at "ex") ?_
        show (isPoint (pt x y w') && isPoint (pt x' y' w'') && HT.lexLt [x, y, w'] [x', y', w'']) = _
        rw [ha, hb]
        rfl
      · have ha : isPoint a = true := by assumption
        have hb : isPoint b = false := by assumption
        dsimp only
        refine Ret.bl' q (by wtm_at "ex") ?_
        show (isPoint a && isPoint b && ptLt a b) = _
        rw [ha, hb]
        rfl
      · have ha : isPoint a = false := by assumption
        dsimp only
        refine Ret.bl' q (by wtm_at "ex") ?_
        show (isPoint a && isPoint b && ptLt a b) = _
        rw [ha]
        rfl
  | _ =>
    wtm_at "go0"
    all_goals (dsimp only; exact Ret.bl' q (Ex.refl _) rfl)
theorem use_is_side {d : PyData} (h : Dp K H v1 d) (q : ∀ H2, Ex H H2 → Q (.bl (isSide d)) H2) : sp_is_side K [v1] H Q E := ⟨_, rfl, _, h, ret_bl q⟩
def sp_require_integer (K : PySem.W.Frag) : Sp := A1 fun v1 H Q => ∃ i, v1 = .int i ∧ Q .non H
abbrev s_require_integer : Stmt := top 9
theorem sc_require_integer : FnScope ["value"] ["value"] (defScope s_require_integer) := ⟨rfl, rfl, rfl, by decide +kernel, rfl, by decide +kernel, by decide +kernel⟩
theorem ok_require_integer {f : Addr} {fd : FuncData} (F : FnP K "require_integer" s_require_integer f fd) (g : G mg) (c_is_integer : Cl P w K mg base 1 "is_integer" (sp_is_integer K))  : FnOk P w K mg base CX0 2 f fd ["value"] (sp_require_integer K) := by
  have nd := sc_require_integer.nd
  refine F.ok sc_require_integer (fun vs H Q E h => h.len) (fun cdv A outer s H vs Q E hr h => ?_)
  obtain ⟨v1, rfl, h⟩ := h
  refine ⟨_, PSs.nox (pss_one (ps_if (pt_not (pt_val (pc c_is_integer hr (by decide) (by rfl) (pa_cons (pv 0) pa_nil)))) (pss_one ps_never) pss_nil)), ?_⟩
  obtain ⟨i, rfl, q⟩ := h
  wtm_at "go0"
  all_goals wtm_at "fin"
theorem use_require_integer {i : Int} (q : Q .non H) : sp_require_integer K [.int i] H Q E := ⟨_, rfl, _, rfl, q⟩
def sp_require_point (K : PySem.W.Frag) : Sp := A1 fun v1 H Q => ∃ d, Dp K H v1 d ∧ isPoint d = true ∧ Ret K .none H Q
abbrev s_require_point : Stmt := top 14
theorem sc_require_point : FnScope ["value"] ["value"] (defScope s_require_point) := ⟨rfl, rfl, rfl, by decide +kernel, rfl, by decide +kernel, by decide +kernel⟩
theorem ok_require_point {f : Addr} {fd : FuncData} (F : FnP K "require_point" s_require_point f fd) (g : G mg) (c_is_point : Cl P w K mg base 2 "is_point" (sp_is_point K))  : FnOk P w K mg base CX0 3 f fd ["value"] (sp_require_point K) := by
  have nd := sc_require_point.nd
  refine F.ok sc_require_point (fun vs H Q E h => h.len) (fun cdv A outer s H vs Q E hr h => ?_)
  obtain ⟨v1, rfl, h⟩ := h
  refine ⟨_, PSs.nox (pss_one (ps_if (pt_not (pt_val (pc c_is_point hr (by decide) (by rfl) (pa_cons (pv 0) pa_nil)))) (pss_one ps_never) pss_nil)), ?_⟩
  obtain ⟨d, hd, hp, q⟩ := h
  wtm_at "go0"
  · have hn : isPoint d = false := by assumption
    rw [hp] at hn
    cases hn
  · wtm_at "fin"
theorem use_require_point {d : PyData} (h : Dp K H v1 d) (hp : isPoint d = true) (q : ∀ H2, Ex H H2 → Q .non H2) : sp_require_point K [v1] H Q E := ⟨_, rfl, _, h, hp, ret_non q⟩
local macro_rules | `(tactic| wtm_at "use") => `(tactic| ((with_reducible refine' use_require_point ?u0 ?u1 (fun uH ue => ?uq)); (case u0 => wtm_at "dp"); (case u1 => assumption)))
def sp_require_points (K : PySem.W.Frag) : Sp := fun vs H Q _ => ∃ ds, DpAll K H vs ds ∧ ds.length ≤ 100000 ∧ (∀ d ∈ ds, isPoint d = true) ∧ Ret K .none H Q
abbrev s_require_points : Stmt := top 15
theorem sc_require_points : FnScope ["values", "value"] ["values"] (defScope s_require_points) := ⟨rfl, rfl, rfl, by decide +kernel, rfl, by decide +kernel, by decide +kernel⟩
theorem ok_require_points {f : Addr} {fd : FuncData} (F : FnP K "require_points" s_require_points f fd) (g : G mg) (c_require_point : Cl P w K mg base 4 "require_point" (sp_require_point K)) : FnR P w K mg base CX0 5 f (sp_require_points K) := by
  have nd := sc_require_points.nd
  obtain ⟨oc, od, dV, kV, doc, pm, an, cdv, ct, osl, rfl, lk, hcd, hD, _⟩ := F.ex
  rcases hD with ⟨_, rfl⟩ | ⟨e, _⟩
  · refine (StX.fn_star (ps := []) (pv := "values") (k := 4) (sp := fun vs H Q E => ∃ a xs ds, vs = [.ref a] ∧ H a = some (.tup xs) ∧ DpAll K H xs ds ∧ (∀ d ∈ ds, isPoint d = true) ∧ Ret K .none H Q) lk hcd sc_require_points StX.cxUp_none (fun us rest hu => ?_) (fun A outer s H vs Q E hr h => ?_)).imp (fun vs H Q E h => ?_)
    · cases us with
      | nil => cases rest <;> rfl
      | cons _ _ => cases hu
    · obtain ⟨a, xs, ds, rfl, ha, hx, hp, q⟩ := h
      refine ⟨_, PSs.nox (pss_one (ps_for PassesOwn.never rfl (pi_tup (pv 0)) (pg_name (i := 1) nd rfl (Or.inl rfl)) (pss_one (ps_expr (pc c_require_point hr (by decide) (by rfl) (pa_cons (pv 1) pa_nil)))))), ?_⟩
      (try dsimp only [L2.cxOf, L2.Cx.nox, L2.Cx.wish, L2.Cx.tr, L2.Cx.blk])
      refine i_forU ?_
      wtm_at "go"
      refine i_forT (ds := ds) (.tup (Evl.st_of ha) hx) (fun _ => rfl) (fun u d H2 y N e2 hm hu hN => ?_) (fun y H2 e2 => ?_) rfl
      · have hpd := hp d hm
        wtm_at "go"
        exact hN _ (by wtm_at "ex")
      · wtm_at "fin"
    · obtain ⟨ds, hd, hl, hp, q⟩ := h
      refine ⟨[], vs, rfl, rfl, Evl.sz_of (by rw [dpLen hd]; exact hl), fun p hpn => ⟨p, vs, ds, rfl, upd_same, dpMonoA (ex_upd hpn) hd, hp, fun v H2 e => q v H2 ((ex_upd hpn).trans e)⟩⟩
  · exact absurd rfl e
theorem use_require_points {vs : List V} {ds : List PyData} (h : DpAll K H vs ds) (hl : ds.length ≤ 100000) (hp : ∀ d ∈ ds, isPoint d = true) (q : ∀ H2, Ex H H2 → Q .non H2) : sp_require_points K vs H Q E := ⟨ds, h, hl, hp, ret_non q⟩
theorem pts2 {a b : PyData} (h1 : isPoint a = true) (h2 : isPoint b = true) : ∀ d ∈ [a, b], isPoint d = true := by
  intro d hd
  simp only [List.mem_cons, List.not_mem_nil, or_false] at hd
  rcases hd with rfl | rfl <;> assumption
theorem pts3 {a b c : PyData} (h1 : isPoint a = true) (h2 : isPoint b = true) (h3 : isPoint c = true) : ∀ d ∈ [a, b, c], isPoint d = true := by
  intro d hd
  simp only [List.mem_cons, List.not_mem_nil, or_false] at hd
  rcases hd with rfl | rfl | rfl <;> assumption
theorem pts4 {a b c e : PyData} (h1 : isPoint a = true) (h2 : isPoint b = true) (h3 : isPoint c = true) (h4 : isPoint e = true) : ∀ d ∈ [a, b, c, e], isPoint d = true := by
  intro d hd
  simp only [List.mem_cons, List.not_mem_nil, or_false] at hd
  rcases hd with rfl | rfl | rfl | rfl <;> assumption
end
end Wb

namespace Wb
open PySem PySem.Spec PyProof.Rows L2
open Evl (Ex Ex.refl Ex.trans Ex.new)
local macro_rules | `(tactic| wtm_at "dp") => `(tactic| first | with_reducible assumption | with_reducible exact Dp.int _ | with_reducible exact Dp.bl _ | with_reducible exact Dp.str _ | with_reducible exact Dp.non | ((with_reducible refine' dpMono ?dme (by with_reducible assumption)); (case dme => wtm_at "ex")) | ((with_reducible refine' Dp.tup (Evl.st_of ?dph) ?dpa); (case dph => wtm_at "hs"); (case dpa => wtm_at "dpa")) | ((with_reducible refine' Dp.lst (Evl.sq_of ?dph) ?dpa); (case dph => wtm_at "hs"); (case dpa => wtm_at "dpa")))
local macro_rules | `(tactic| wtm_at "dpa") => `(tactic| first | with_reducible exact DpAll.nil | ((with_reducible refine' DpAll.cons ?dp1 ?dp2); (case dp1 => wtm_at "dp"); (case dp2 => wtm_at "dpa")) | with_reducible assumption | ((with_reducible refine' dpMonoA ?dme (by with_reducible assumption)); (case dme => wtm_at "ex")))
local macro_rules | `(tactic| wtm_at "sz") => `(tactic| first | with_reducible assumption | ((with_reducible refine' sz_mul ?sz1 ?sz2); (case sz1 => wtm_at "sz"); (case sz2 => wtm_at "sz")) | ((with_reducible refine' sz_add ?sz1 ?sz2); (case sz1 => wtm_at "sz"); (case sz2 => wtm_at "sz")) | ((with_reducible refine' sz_sub ?sz1 ?sz2); (case sz1 => wtm_at "sz"); (case sz2 => wtm_at "sz")) | ((with_reducible refine' sz_neg ?sz1); (case sz1 => wtm_at "sz")) | ((with_reducible refine' sz_div ?sz1); (case sz1 => wtm_at "sz")) | ((with_reducible refine' sz_fdiv ?sz1); (case sz1 => wtm_at "sz")) | exact sz_lit (by decide) | wtm_at "sz2")
local macro_rules | `(tactic| wtm_at "szb") => `(tactic| first | with_reducible assumption | ((with_reducible refine' sz_mono ?szb1 ?szb2); (case szb1 => wtm_at "sz"); (case szb2 => decide)))
local macro_rules | `(tactic| wtm_at "nz") => `(tactic| first | assumption | decide | omega)
local macro_rules | `(tactic| wtm_at "shaped") => `(tactic| first | rfl | decide)
local macro_rules | `(tactic| wtm_at "sset") => `(tactic| ((dsimp only [L2.wipe, List.set, List.set_cons_zero, List.set_cons_succ]) <;> exact rfl))
local macro_rules | `(tactic| wtm_at "nrm") => `(tactic| dsimp only [L2.start, L2.wipe, List.set, List.append, List.map, List.map_cons, List.map_nil, List.length_cons, List.length_nil, Nat.reduceAdd, Nat.reduceSub, List.reduceReplicate, List.replicate, List.cons_append, List.nil_append, List.set_cons_zero, List.set_cons_succ])
local macro_rules | `(tactic| wtm_at "st") => `(tactic| first
  | ((with_reducible refine' i_var (v := ?u0) ?u1 ?uq); (case u1 => exact rfl))
  | ((with_reducible refine' i_nameN ?u0 ?uq); (case u0 => wtm_at "sset"))
  | (with_reducible refine' i_op ?uq)
  | (with_reducible refine' i_c ?uq)
  | (with_reducible refine' i_I0 ?uq)
  | ((with_reducible refine' i_ixTI (i := ?u0) ?u1 ?u2 ?u3 ?uq); (case u1 => wtm_at "dp"); (case u2 => wtm_at "ex"); (case u3 => exact rfl))
  | ((with_reducible refine' i_ixT (d := ?u0) ?u1 ?u2 ?u3 (fun xu hxu => ?uq)); (case u1 => wtm_at "dp"); (case u2 => wtm_at "ex"); (case u3 => exact rfl))
  | ((with_reducible refine' i_mul ?u0 ?u1 ?u2 ?uq); (case u0 => wtm_at "sz"); (case u1 => wtm_at "sz"); (case u2 => first | decide | omega))
  | (with_reducible refine' i_seq ?uq)
  | (with_reducible refine' i_asg ?uq)
  | (with_reducible refine' i_ret ?uq)
  | (with_reducible refine' i_ifs ?uq)
  | (with_reducible refine' i_drop ?uq)
  | (with_reducible refine' i_next ?uq)
  | (with_reducible refine' i_cons ?uq)
  | (with_reducible refine' i_nil ?uq)
  | (with_reducible refine' i_cl ?uq)
  | (with_reducible refine' i_cb ?uq)
  | (with_reducible refine' i_tup ?uq)
  | (with_reducible refine' i_lst ?uq)
  | ((with_reducible refine' i_mkT ?u0 (fun np nH nhe nhp => ?uq)); (case u0 => exact Nat.le_of_ble_eq_true rfl))
  | (with_reducible refine' i_test ?uq)
  | (with_reducible refine' i_B ?uq)
  | (with_reducible refine' i_k ?uq)
  | (with_reducible refine' i_and ?uq)
  | (with_reducible refine' i_or ?uq)
  | (with_reducible refine' i_not ?uq)
  | (with_reducible refine' i_andV ?uq)
  | (with_reducible refine' i_orV ?uq)
  | (with_reducible refine' i_notV ?uq)
  | (with_reducible refine' i_if ?uq)
  | (with_reducible refine' i_un ?uq)
  | (with_reducible refine' i_U ?uq)
  | (with_reducible refine' i_iteT ?uq)
  | (with_reducible refine' i_iteF ?uq)
  | ((with_reducible refine' i_iteTr ?u0 ?uq); (case u0 => first | with_reducible rfl | decide | (simp only [dIsInt, dIsBool, dIsTup, dIsStr, dIsLst, Bool.not_true, Bool.not_false]; done)))
  | ((with_reducible refine' i_iteFr ?u0 ?uq); (case u0 => first | with_reducible rfl | decide | (simp only [dIsInt, dIsBool, dIsTup, dIsStr, dIsLst, Bool.not_true, Bool.not_false]; done)))
  | (with_reducible refine' i_ite (fun hif => ?uqa) (fun hif => ?uqb))
  | (with_reducible refine' i_iteN (fun hif => ?uqa) (fun hif => ?uqb))
  | (with_reducible refine' i_iteBN (fun hif => ?uqa) (fun hif => ?uqb))
  | (with_reducible refine' i_iteB (fun hif => ?uqa) (fun hif => ?uqb))
  | ((with_reducible refine' i_modN ?u0 ?uq); (case u0 => wtm_at "nz"))
  | ((with_reducible refine' i_fdX ?u0 ?u1 ?u2 ?uq); (case u0 => wtm_at "nz"); (case u1 => wtm_at "sz"); (case u2 => first | decide | omega))
  | ((with_reducible refine' i_pow ?u0 ?uq); (case u0 => exact ⟨by decide, by decide +kernel⟩))
  | (with_reducible refine' i_eqI ?uq)
  | (with_reducible refine' i_neI ?uq)
  | (with_reducible refine' i_gcd ?uq)
  | (with_reducible refine' i_qabs ?uq)
  | (with_reducible refine' i_qint ?uq)
  | (with_reducible refine' i_qintB ?uq)
  | (with_reducible refine' i_qmax2 ?uq)
  | (with_reducible refine' i_qmin2 ?uq)
  | (with_reducible refine' i_isB ?uq)
  | (with_reducible refine' i_notB ?uq)
  | (with_reducible refine' i_chain ?uq)
  | (with_reducible refine' i_qisN ?uq)
  | (with_reducible refine' i_qnotN ?uq)
  | (with_reducible refine' i_yes ?uq)
  | (with_reducible refine' i_par ?uq)
  | (with_reducible refine' i_par3 ?uq)
  | ((with_reducible refine' i_par2 ?u0 ?uq); (case u0 => wtm_at "sset"))
  | ((with_reducible refine' i_par33 ?u0 ?uq); (case u0 => wtm_at "sset"))
  | ((with_reducible refine' i_ixLI (i := ?u0) ?u1 ?u2 ?u3 ?uq); (case u1 => wtm_at "dp"); (case u2 => wtm_at "ex"); (case u3 => exact rfl))
  | ((with_reducible refine' i_ixL (d := ?u0) ?u1 ?u2 ?u3 (fun xu hxu => ?uq)); (case u1 => wtm_at "dp"); (case u2 => wtm_at "ex"); (case u3 => exact rfl))
  | ((with_reducible refine' i_qlenT ?u0 ?uq); (case u0 => wtm_at "dp"))
  | ((with_reducible refine' i_qlenL ?u0 ?uq); (case u0 => wtm_at "dp"))
  | ((with_reducible refine' i_gtup ?u0 ?u1 ?u2 (fun gvs gdp => ?uq)); (case u0 => wtm_at "dp"); (case u1 => wtm_at "ex"); (case u2 => exact rfl))
  | ((with_reducible refine' i_glst ?u0 ?u1 ?u2 (fun gvs gdp => ?uq)); (case u0 => wtm_at "dp"); (case u1 => wtm_at "ex"); (case u2 => exact rfl))
  | ((with_reducible refine' i_gconsI ?u0 (fun gr gh => ?uq)); (case u0 => with_reducible assumption))
  | ((with_reducible refine' i_gconsA ?u0 (fun gv gr gh1 gh2 => ?uq)); (case u0 => with_reducible assumption))
  | ((with_reducible refine' i_gnilA ?u0 ?uq); (case u0 => with_reducible assumption))
  | ((with_reducible refine' i_isiI ?u0 ?uq); (case u0 => wtm_at "dp"))
  | ((with_reducible refine' i_isiB ?u0 ?uq); (case u0 => wtm_at "dp"))
  | ((with_reducible refine' i_isiT ?u0 ?uq); (case u0 => wtm_at "dp"))
  | ((with_reducible refine' i_isiS ?u0 ?uq); (case u0 => wtm_at "dp"))
  | ((with_reducible refine' i_isiL ?u0 ?uq); (case u0 => wtm_at "dp"))
  | ((with_reducible refine' i_eqD ?u0 ?u1 ?u2 ?u3 ?uq); (case u0 => wtm_at "dp"); (case u1 => wtm_at "dp"); (case u2 => wtm_at "shaped"); (case u3 => wtm_at "shaped"))
  | ((with_reducible refine' i_neD ?u0 ?u1 ?u2 ?u3 ?uq); (case u0 => wtm_at "dp"); (case u1 => wtm_at "dp"); (case u2 => wtm_at "shaped"); (case u3 => wtm_at "shaped"))
  | wtm_at "st2"
  | wtm_at "use")
local macro_rules | `(tactic| wtm_at "go") => `(tactic| repeat' (wtm_at "st"))
local macro_rules | `(tactic| wtm_at "go0") => `(tactic| ((try dsimp only [L2.cxOf, L2.Cx.nox, L2.Cx.wish, L2.Cx.tr, L2.Cx.blk]); (try wtm_at "nrm"); wtm_at "go"))
local macro_rules | `(tactic| wtm_at "fin") => `(tactic| ((try dsimp only); first | with_reducible assumption | assumption | ((with_reducible refine' Ret.use ?rur ?rue ?rud); (case rur => with_reducible assumption); (case rue => wtm_at "ex"); (case rud => wtm_at "dp"))))
local macro_rules | `(tactic| wtm_at "ex") => `(tactic| first | with_reducible assumption | with_reducible exact Ex.refl _ | with_reducible exact ex_hid | ((with_reducible refine' Ex.trans ?exe (by with_reducible assumption)); (case exe => wtm_at "ex")) | ((with_reducible refine' Ex.trans ?exe (hid_ex (by with_reducible assumption))); (case exe => wtm_at "ex")) | ((with_reducible refine' Ex.trans ?exe ex_hid); (case exe => wtm_at "ex")))
local macro_rules | `(tactic| wtm_at "bag") => `(tactic| first | with_reducible assumption | ((with_reducible refine' Bag.mono ?bgm (by with_reducible assumption)); (case bgm => wtm_at "bag")))
local macro_rules | `(tactic| wtm_at "hs") => `(tactic| first | with_reducible assumption | ((with_reducible refine' hid_tup ?hb ?hp); (case hp => with_reducible assumption); (case hb => wtm_at "bag")) | ((with_reducible refine' hid_new ?hb ?hn ?hp); (case hp => with_reducible assumption); (case hn => with_reducible assumption); (case hb => wtm_at "bag")) | ((with_reducible refine' ex_at ?exe (by with_reducible assumption)); (case exe => wtm_at "ex")))
local macro_rules | `(tactic| wtm_at "st2") => `(tactic| first
  | ((with_reducible refine' i_mulC ?u0 ?uq); (case u0 => first | exact cmul_l (by decide) | exact cmul_r (by decide)))
  | ((with_reducible refine' i_ixLr (v := ?u0) ?u1 ?u2 ?uq); (case u1 => with_reducible assumption); (case u2 => exact rfl))
  | (with_reducible refine' i_sub ?uq)
  | ((with_reducible refine' i_mkL ?u0 (fun np nH nfr nhe nhp => ?uq)); (case u0 => exact Nat.le_of_ble_eq_true rfl))
  | ((with_reducible refine' i_setL (n := ?u0) ?u1 ?u2 (fun sH sh se => ?uq)); (case u1 => with_reducible assumption); (case u2 => exact rfl))
  | (with_reducible refine' i_sl ?uq)
  | (with_reducible refine' i_nopart ?uq)
  | (with_reducible refine' i_part ?uq)
  | (with_reducible refine' i_part1 ?uq))
local macro_rules | `(tactic| wtm_at "sz2") => `(tactic| ((with_reducible refine' sz_fmod ?sz1 ?sz2); (case sz1 => wtm_at "nz"); (case sz2 => wtm_at "sz")))
local macro_rules | `(tactic| wtm_at "stb") => `(tactic| first
  | ((with_reducible refine' i_mkTB ?u0 ?u1 (fun np nH nhe nhb nhp => ?uq)); (case u0 => exact Nat.le_of_ble_eq_true rfl); (case u1 => wtm_at "bag"))
  | ((with_reducible refine' i_mkLB ?u0 ?u1 (fun np nH nfr nhe nhb nhp => ?uq)); (case u0 => exact Nat.le_of_ble_eq_true rfl); (case u1 => wtm_at "bag"))
  | wtm_at "st")
local macro_rules | `(tactic| wtm_at "gob") => `(tactic| repeat' (wtm_at "stb"))
local macro_rules | `(tactic| wtm_at "gob0") => `(tactic| ((try dsimp only [L2.cxOf, L2.Cx.nox, L2.Cx.wish, L2.Cx.tr, L2.Cx.blk]); (try wtm_at "nrm"); wtm_at "gob"))
local macro_rules | `(tactic| wtm_at "use") => `(tactic| ((with_reducible refine' use_turn_in ?u0 ?u1 ?u2 ?u3 ?u4 ?u5 ?u6 ?u7 ?u8 ?u9 ?u10 ?u11 ?uq); (case u0 => wtm_at "dp"); (case u1 => wtm_at "dp"); (case u2 => wtm_at "dp"); (case u3 => wtm_at "szb"); (case u4 => wtm_at "szb"); (case u5 => wtm_at "szb"); (case u6 => wtm_at "szb"); (case u7 => wtm_at "szb"); (case u8 => wtm_at "szb"); (case u9 => wtm_at "szb"); (case u10 => wtm_at "szb"); (case u11 => wtm_at "szb")))
local macro_rules | `(tactic| wtm_at "use") => `(tactic| ((with_reducible refine' use_step_from ?u0 ?u1 ?u2 ?u3 ?u4 ?u5 ?u6 ?u7 (fun ur uH ue ud => ?uq)); (case u0 => wtm_at "dp"); (case u1 => wtm_at "dp"); (case u2 => wtm_at "szb"); (case u3 => wtm_at "szb"); (case u4 => wtm_at "szb"); (case u5 => wtm_at "szb"); (case u6 => wtm_at "szb"); (case u7 => wtm_at "szb")))
local macro_rules | `(tactic| wtm_at "use") => `(tactic| (with_reducible refine' use_shared_of ?uq))
local macro_rules | `(tactic| wtm_at "use") => `(tactic| ((with_reducible refine' use_is_integer ?u0 ?uq); (case u0 => wtm_at "dp")))
local macro_rules | `(tactic| wtm_at "use") => `(tactic| ((with_reducible refine' use_is_between_in ?u0 ?u1 ?u2 ?u3 ?u4 ?u5 ?u6 ?u7 ?u8 ?u9 ?u10 ?u11 (fun uH ue => ?uq)); (case u0 => wtm_at "dp"); (case u1 => wtm_at "dp"); (case u2 => wtm_at "dp"); (case u3 => wtm_at "szb"); (case u4 => wtm_at "szb"); (case u5 => wtm_at "szb"); (case u6 => wtm_at "szb"); (case u7 => wtm_at "szb"); (case u8 => wtm_at "szb"); (case u9 => wtm_at "szb"); (case u10 => wtm_at "szb"); (case u11 => wtm_at "szb")))
local macro_rules | `(tactic| wtm_at "use") => `(tactic| ((with_reducible refine' use_line_through ?u0 ?u1 ?u2 ?u3 ?u4 ?u5 ?u6 ?u7 (fun ur uH ue ud => ?uq)); (case u0 => wtm_at "dp"); (case u1 => wtm_at "dp"); (case u2 => wtm_at "szb"); (case u3 => wtm_at "szb"); (case u4 => wtm_at "szb"); (case u5 => wtm_at "szb"); (case u6 => wtm_at "szb"); (case u7 => wtm_at "szb")))
local macro_rules | `(tactic| wtm_at "use") => `(tactic| ((with_reducible refine' use_reduced_point ?u0 ?u1 (fun ur uH ue ud => ?uq)); (case u0 => wtm_at "nz"); (case u1 => wtm_at "szb")))
local macro_rules | `(tactic| wtm_at "use") => `(tactic| ((with_reducible refine' use_reduced ?u0 ?u1 (fun ur uH ue ud => ?uq)); (case u0 => wtm_at "nz"); (case u1 => wtm_at "szb")))
local macro_rules | `(tactic| wtm_at "use") => `(tactic| ((with_reducible refine' use_is_point ?u0 (fun uH ue => ?uq)); (case u0 => wtm_at "dp")))
local macro_rules | `(tactic| wtm_at "use") => `(tactic| ((with_reducible refine' use_line_meet_in ?u0 ?u1 ?u2 ?u3 ?u4 ?u5 ?u6 ?u7 ?u8 ?u9 ?u10 ?u11 ?u12 ?u13 ?u14 ?u15 (fun ur uH ue ud => ?uq)); (case u0 => wtm_at "dp"); (case u1 => wtm_at "dp"); (case u2 => wtm_at "dp"); (case u3 => wtm_at "dp"); (case u4 => wtm_at "szb"); (case u5 => wtm_at "szb"); (case u6 => wtm_at "szb"); (case u7 => wtm_at "szb"); (case u8 => wtm_at "szb"); (case u9 => wtm_at "szb"); (case u10 => wtm_at "szb"); (case u11 => wtm_at "szb"); (case u12 => wtm_at "szb"); (case u13 => wtm_at "szb"); (case u14 => wtm_at "szb"); (case u15 => wtm_at "szb")))
local macro_rules | `(tactic| wtm_at "use") => `(tactic| ((with_reducible refine' use_middle_in ?u0 ?u1 ?u2 ?u3 ?u4 ?u5 ?u6 ?u7 ?u8 ?u9 (fun ur uH ue ud => ?uq)); (case u0 => wtm_at "dp"); (case u1 => wtm_at "dp"); (case u2 => wtm_at "szb"); (case u3 => wtm_at "szb"); (case u4 => wtm_at "szb"); (case u5 => wtm_at "szb"); (case u6 => wtm_at "szb"); (case u7 => wtm_at "szb"); (case u8 => wtm_at "nz"); (case u9 => wtm_at "nz")))
local macro_rules | `(tactic| wtm_at "use") => `(tactic| ((with_reducible refine' use_square_in ?u0 ?u1 ?u2 ?u3 ?u4 ?u5 ?u6 ?u7 ?u8 ?u9 (fun ur uH ue ud => ?uq)); (case u0 => wtm_at "dp"); (case u1 => wtm_at "dp"); (case u2 => wtm_at "szb"); (case u3 => wtm_at "szb"); (case u4 => wtm_at "szb"); (case u5 => wtm_at "szb"); (case u6 => wtm_at "szb"); (case u7 => wtm_at "szb"); (case u8 => wtm_at "nz"); (case u9 => wtm_at "nz")))
local macro_rules | `(tactic| wtm_at "use") => `(tactic| ((with_reducible refine' use_is_side ?u0 (fun uH ue => ?uq)); (case u0 => wtm_at "dp")))
local macro_rules | `(tactic| wtm_at "use") => `(tactic| (with_reducible refine' use_require_integer ?uq))
local macro_rules | `(tactic| wtm_at "use") => `(tactic| ((with_reducible refine' use_require_point ?u0 ?u1 (fun uH ue => ?uq)); (case u0 => wtm_at "dp"); (case u1 => with_reducible assumption)))
local macro_rules | `(tactic| wtm_at "use") => `(tactic| ((with_reducible refine' use_require_points ?u0 ?u1 ?u2 (fun uH ue => ?uq)); (case u0 => wtm_at "dpa"); (case u1 => exact Nat.le_of_ble_eq_true rfl); (case u2 => wtm_at "pts")))
local macro_rules | `(tactic| wtm_at "pts") => `(tactic| first | with_reducible exact pts4 (by assumption) (by assumption) (by assumption) (by assumption) | with_reducible exact pts3 (by assumption) (by assumption) (by assumption) | with_reducible exact pts2 (by assumption) (by assumption))
theorem isPoint_w {x y w : Int} (h : isPoint (pt x y w) = true) : w ≠ 0 := by
  obtain ⟨_, _, _, e, h1, _⟩ := isPoint_ex h
  cases e
  omega
structure Exc1 (K : PySem.W.Frag) (mg : Str → Option Value) (x : Str) (C : Addr) : Prop where
  g : mg x = some (.ref C)
  x : PySem.W.excIn K C [.type "ValueError", .type "Exception", .type "BaseException", .type "object"] "ValueError.__new__" = true
  k : PySem.W.keepIn K (.ref C) = true
  b : PySem.W.subIn K (.ref C) (.type "BaseException") = some true
  t : PySem.W.typeIn K (.ref C) = some (.type "type")
  m : PySem.W.exmOne K (.ref C) (.ref C) = some true
section
variable {P : Program} {w : World} {K : PySem.W.Frag} {mg : Str → Option Value} {base : Heap} {H H' : Hp} {Q : VK} {E : XK} {v1 v2 v3 v4 : V} {x1 y1 w1 x2 y2 w2 x3 y3 w3 x4 y4 w4 : Int}
def sp_turn_of (K : PySem.W.Frag) : Sp := A3 fun v1 v2 v3 H Q => ∃ x1 y1 w1 x2 y2 w2 x3 y3 w3, Dp K H v1 (pt x1 y1 w1) ∧ Dp K H v2 (pt x2 y2 w2) ∧ Dp K H v3 (pt x3 y3 w3) ∧ (Sz B0 x1 ∧ Sz B0 y1 ∧ Sz B0 w1) ∧ (Sz B0 x2 ∧ Sz B0 y2 ∧ Sz B0 w2) ∧ (Sz B0 x3 ∧ Sz B0 y3 ∧ Sz B0 w3) ∧
  (isPoint (pt x1 y1 w1) = true ∧ isPoint (pt x2 y2 w2) = true ∧ isPoint (pt x3 y3 w3) = true) ∧ Ret K (.int (sgn (det x1 y1 w1 x2 y2 w2 x3 y3 w3))) H Q
abbrev s_turn_of : Stmt := top 25
theorem sc_turn_of : FnScope ["one", "two", "three"] ["one", "two", "three"] (defScope s_turn_of) := ⟨rfl, rfl, rfl, by decide +kernel, rfl, by decide +kernel, by decide +kernel⟩
theorem ok_turn_of {f : Addr} {fd : FuncData} (F : FnP K "turn_of" s_turn_of f fd) (g : G mg) (c_require_points : ClR P w K mg base 5 "require_points" (sp_require_points K)) (c_turn_in : Cl P w K mg base 1 "turn_in" (sp_turn_in K))  : FnOk P w K mg base CX0 6 f fd ["one", "two", "three"] (sp_turn_of K) := by
  have nd := sc_turn_of.nd
  refine F.ok sc_turn_of (fun vs H Q E h => h.len) (fun cdv A outer s H vs Q E hr h => ?_)
  obtain ⟨v1, v2, v3, rfl, h⟩ := h
  refine ⟨_, PSs.nox (pss_cons (ps_expr (pcR c_require_points hr (by decide) (by rfl) (pa_cons (pv 0) (pa_cons (pv 1) (pa_cons (pv 2) pa_nil))))) (pss_one (ps_ret (pc c_turn_in hr (by decide) (by rfl) (pa_cons (pv 0) (pa_cons (pv 1) (pa_cons (pv 2) pa_nil))))))), ?_⟩
  obtain ⟨x1, y1, w1, x2, y2, w2, x3, y3, w3, h1, h2, h3, ⟨a1, a2, a3⟩, ⟨b1, b2, b3⟩, ⟨c1, c2, c3⟩, ⟨p1, p2, p3⟩, q⟩ := h
  wtm_at "go0"
  all_goals wtm_at "fin"
theorem use_turn_of (h1 : Dp K H v1 (pt x1 y1 w1)) (h2 : Dp K H v2 (pt x2 y2 w2)) (h3 : Dp K H v3 (pt x3 y3 w3)) (a1 : Sz B0 x1) (a2 : Sz B0 y1) (a3 : Sz B0 w1) (b1 : Sz B0 x2) (b2 : Sz B0 y2) (b3 : Sz B0 w2) (c1 : Sz B0 x3) (c2 : Sz B0 y3) (c3 : Sz B0 w3)
    (p1 : isPoint (pt x1 y1 w1) = true) (p2 : isPoint (pt x2 y2 w2) = true) (p3 : isPoint (pt x3 y3 w3) = true) (q : ∀ H2, Ex H H2 → Q (.int (sgn (det x1 y1 w1 x2 y2 w2 x3 y3 w3))) H2) : sp_turn_of K [v1, v2, v3] H Q E := ⟨_, _, _, rfl, _, _, _, _, _, _, _, _, _, h1, h2, h3, ⟨a1, a2, a3⟩, ⟨b1, b2, b3⟩, ⟨c1, c2, c3⟩, ⟨p1, p2, p3⟩, ret_int q⟩
def sp_is_between (K : PySem.W.Frag) : Sp := A3 fun v1 v2 v3 H Q => ∃ x1 y1 w1 x2 y2 w2 x3 y3 w3, Dp K H v1 (pt x1 y1 w1) ∧ Dp K H v2 (pt x2 y2 w2) ∧ Dp K H v3 (pt x3 y3 w3) ∧ (Sz B0 x1 ∧ Sz B0 y1 ∧ Sz B0 w1) ∧ (Sz B0 x2 ∧ Sz B0 y2 ∧ Sz B0 w2) ∧ (Sz B0 x3 ∧ Sz B0 y3 ∧ Sz B0 w3) ∧
  (isPoint (pt x1 y1 w1) = true ∧ isPoint (pt x2 y2 w2) = true ∧ isPoint (pt x3 y3 w3) = true) ∧ Ret K (.bool (btw x1 y1 w1 x2 y2 w2 x3 y3 w3)) H Q
abbrev s_is_between : Stmt := top 26
theorem sc_is_between : FnScope ["point", "one", "two"] ["point", "one", "two"] (defScope s_is_between) := ⟨rfl, rfl, rfl, by decide +kernel, rfl, by decide +kernel, by decide +kernel⟩
theorem ok_is_between {f : Addr} {fd : FuncData} (F : FnP K "is_between" s_is_between f fd) (g : G mg) (c_require_points : ClR P w K mg base 5 "require_points" (sp_require_points K)) (c_is_between_in : Cl P w K mg base 2 "is_between_in" (sp_is_between_in K))  : FnOk P w K mg base CX0 6 f fd ["point", "one", "two"] (sp_is_between K) := by
  have nd := sc_is_between.nd
  refine F.ok sc_is_between (fun vs H Q E h => h.len) (fun cdv A outer s H vs Q E hr h => ?_)
  obtain ⟨v1, v2, v3, rfl, h⟩ := h
  refine ⟨_, PSs.nox (pss_cons (ps_expr (pcR c_require_points hr (by decide) (by rfl) (pa_cons (pv 0) (pa_cons (pv 1) (pa_cons (pv 2) pa_nil))))) (pss_one (ps_ret (pc c_is_between_in hr (by decide) (by rfl) (pa_cons (pv 0) (pa_cons (pv 1) (pa_cons (pv 2) pa_nil))))))), ?_⟩
  obtain ⟨x1, y1, w1, x2, y2, w2, x3, y3, w3, h1, h2, h3, ⟨a1, a2, a3⟩, ⟨b1, b2, b3⟩, ⟨c1, c2, c3⟩, ⟨p1, p2, p3⟩, q⟩ := h
  wtm_at "go0"
  all_goals wtm_at "fin"
theorem use_is_between (h1 : Dp K H v1 (pt x1 y1 w1)) (h2 : Dp K H v2 (pt x2 y2 w2)) (h3 : Dp K H v3 (pt x3 y3 w3)) (a1 : Sz B0 x1) (a2 : Sz B0 y1) (a3 : Sz B0 w1) (b1 : Sz B0 x2) (b2 : Sz B0 y2) (b3 : Sz B0 w2) (c1 : Sz B0 x3) (c2 : Sz B0 y3) (c3 : Sz B0 w3)
    (p1 : isPoint (pt x1 y1 w1) = true) (p2 : isPoint (pt x2 y2 w2) = true) (p3 : isPoint (pt x3 y3 w3) = true) (q : ∀ H2, Ex H H2 → Q (.bl (btw x1 y1 w1 x2 y2 w2 x3 y3 w3)) H2) : sp_is_between K [v1, v2, v3] H Q E := ⟨_, _, _, rfl, _, _, _, _, _, _, _, _, _, h1, h2, h3, ⟨a1, a2, a3⟩, ⟨b1, b2, b3⟩, ⟨c1, c2, c3⟩, ⟨p1, p2, p3⟩, ret_bl q⟩
def sp_middle_of (K : PySem.W.Frag) : Sp := A2 fun v1 v2 H Q => ∃ x1 y1 w1 x2 y2 w2, Dp K H v1 (pt x1 y1 w1) ∧ Dp K H v2 (pt x2 y2 w2) ∧ (Sz B0 x1 ∧ Sz B0 y1 ∧ Sz B0 w1) ∧ (Sz B0 x2 ∧ Sz B0 y2 ∧ Sz B0 w2) ∧ (isPoint (pt x1 y1 w1) = true ∧ isPoint (pt x2 y2 w2) = true) ∧ Ret K (rp (x1 * w2 + x2 * w1) (y1 * w2 + y2 * w1) (2 * w1 * w2)) H Q
abbrev s_middle_of : Stmt := top 28
theorem sc_middle_of : FnScope ["one", "two"] ["one", "two"] (defScope s_middle_of) := ⟨rfl, rfl, rfl, by decide +kernel, rfl, by decide +kernel, by decide +kernel⟩
theorem ok_middle_of {f : Addr} {fd : FuncData} (F : FnP K "middle_of" s_middle_of f fd) (g : G mg) (c_require_points : ClR P w K mg base 5 "require_points" (sp_require_points K)) (c_middle_in : Cl P w K mg base 2 "middle_in" (sp_middle_in K))  : FnOk P w K mg base CX0 6 f fd ["one", "two"] (sp_middle_of K) := by
  have nd := sc_middle_of.nd
  refine F.ok sc_middle_of (fun vs H Q E h => h.len) (fun cdv A outer s H vs Q E hr h => ?_)
  obtain ⟨v1, v2, rfl, h⟩ := h
  refine ⟨_, PSs.nox (pss_cons (ps_expr (pcR c_require_points hr (by decide) (by rfl) (pa_cons (pv 0) (pa_cons (pv 1) pa_nil)))) (pss_one (ps_ret (pc c_middle_in hr (by decide) (by rfl) (pa_cons (pv 0) (pa_cons (pv 1) pa_nil)))))), ?_⟩
  obtain ⟨x1, y1, w1, x2, y2, w2, h1, h2, ⟨a1, a2, a3⟩, ⟨b1, b2, b3⟩, ⟨p1, p2⟩, q⟩ := h
  have n1 := isPoint_w p1
  have n2 := isPoint_w p2
  wtm_at "go0"
  all_goals wtm_at "fin"
theorem use_middle_of (h1 : Dp K H v1 (pt x1 y1 w1)) (h2 : Dp K H v2 (pt x2 y2 w2)) (a1 : Sz B0 x1) (a2 : Sz B0 y1) (a3 : Sz B0 w1) (b1 : Sz B0 x2) (b2 : Sz B0 y2) (b3 : Sz B0 w2) (p1 : isPoint (pt x1 y1 w1) = true) (p2 : isPoint (pt x2 y2 w2) = true)
    (q : ∀ v H2, Ex H H2 → Dp K H2 v (rp (x1 * w2 + x2 * w1) (y1 * w2 + y2 * w1) (2 * w1 * w2)) → Q v H2) : sp_middle_of K [v1, v2] H Q E := ⟨_, _, rfl, _, _, _, _, _, _, h1, h2, ⟨a1, a2, a3⟩, ⟨b1, b2, b3⟩, ⟨p1, p2⟩, q⟩
def sp_square_between (K : PySem.W.Frag) : Sp := A2 fun v1 v2 H Q => ∃ x1 y1 w1 x2 y2 w2, Dp K H v1 (pt x1 y1 w1) ∧ Dp K H v2 (pt x2 y2 w2) ∧ (Sz B0 x1 ∧ Sz B0 y1 ∧ Sz B0 w1) ∧ (Sz B0 x2 ∧ Sz B0 y2 ∧ Sz B0 w2) ∧ (isPoint (pt x1 y1 w1) = true ∧ isPoint (pt x2 y2 w2) = true) ∧
  Ret K (rf ((x2 * w1 - x1 * w2) * (x2 * w1 - x1 * w2) + (y2 * w1 - y1 * w2) * (y2 * w1 - y1 * w2)) (w1 * w2 * (w1 * w2))) H Q
abbrev s_square_between : Stmt := top 29
theorem sc_square_between : FnScope ["one", "two"] ["one", "two"] (defScope s_square_between) := ⟨rfl, rfl, rfl, by decide +kernel, rfl, by decide +kernel, by decide +kernel⟩
theorem ok_square_between {f : Addr} {fd : FuncData} (F : FnP K "square_between" s_square_between f fd) (g : G mg) (c_require_points : ClR P w K mg base 5 "require_points" (sp_require_points K)) (c_square_in : Cl P w K mg base 2 "square_in" (sp_square_in K))  : FnOk P w K mg base CX0 6 f fd ["one", "two"] (sp_square_between K) := by
  have nd := sc_square_between.nd
  refine F.ok sc_square_between (fun vs H Q E h => h.len) (fun cdv A outer s H vs Q E hr h => ?_)
  obtain ⟨v1, v2, rfl, h⟩ := h
  refine ⟨_, PSs.nox (pss_cons (ps_expr (pcR c_require_points hr (by decide) (by rfl) (pa_cons (pv 0) (pa_cons (pv 1) pa_nil)))) (pss_one (ps_ret (pc c_square_in hr (by decide) (by rfl) (pa_cons (pv 0) (pa_cons (pv 1) pa_nil)))))), ?_⟩
  obtain ⟨x1, y1, w1, x2, y2, w2, h1, h2, ⟨a1, a2, a3⟩, ⟨b1, b2, b3⟩, ⟨p1, p2⟩, q⟩ := h
  have n1 := isPoint_w p1
  have n2 := isPoint_w p2
  wtm_at "go0"
  all_goals wtm_at "fin"
theorem use_square_between (h1 : Dp K H v1 (pt x1 y1 w1)) (h2 : Dp K H v2 (pt x2 y2 w2)) (a1 : Sz B0 x1) (a2 : Sz B0 y1) (a3 : Sz B0 w1) (b1 : Sz B0 x2) (b2 : Sz B0 y2) (b3 : Sz B0 w2) (p1 : isPoint (pt x1 y1 w1) = true) (p2 : isPoint (pt x2 y2 w2) = true)
    (q : ∀ v H2, Ex H H2 → Dp K H2 v (rf ((x2 * w1 - x1 * w2) * (x2 * w1 - x1 * w2) + (y2 * w1 - y1 * w2) * (y2 * w1 - y1 * w2)) (w1 * w2 * (w1 * w2))) → Q v H2) : sp_square_between K [v1, v2] H Q E := ⟨_, _, rfl, _, _, _, _, _, _, h1, h2, ⟨a1, a2, a3⟩, ⟨b1, b2, b3⟩, ⟨p1, p2⟩, q⟩
def sp_line_meet (K : PySem.W.Frag) : Sp := A4 fun v1 v2 v3 v4 H Q => ∃ x1 y1 w1 x2 y2 w2 x3 y3 w3 x4 y4 w4, Dp K H v1 (pt x1 y1 w1) ∧ Dp K H v2 (pt x2 y2 w2) ∧ Dp K H v3 (pt x3 y3 w3) ∧ Dp K H v4 (pt x4 y4 w4) ∧
  (Sz B0 x1 ∧ Sz B0 y1 ∧ Sz B0 w1) ∧ (Sz B0 x2 ∧ Sz B0 y2 ∧ Sz B0 w2) ∧ (Sz B0 x3 ∧ Sz B0 y3 ∧ Sz B0 w3) ∧ (Sz B0 x4 ∧ Sz B0 y4 ∧ Sz B0 w4) ∧
  (isPoint (pt x1 y1 w1) = true ∧ isPoint (pt x2 y2 w2) = true ∧ isPoint (pt x3 y3 w3) = true ∧ isPoint (pt x4 y4 w4) = true) ∧ PyData.eqv (pt x1 y1 w1) (pt x2 y2 w2) = false ∧ PyData.eqv (pt x3 y3 w3) (pt x4 y4 w4) = false ∧ Ret K (lmeet x1 y1 w1 x2 y2 w2 x3 y3 w3 x4 y4 w4) H Q
abbrev s_line_meet : Stmt := top 27
theorem sc_line_meet : FnScope ["one", "two", "three", "four"] ["one", "two", "three", "four"] (defScope s_line_meet) := ⟨rfl, rfl, rfl, by decide +kernel, rfl, by decide +kernel, by decide +kernel⟩
theorem ok_line_meet {f : Addr} {fd : FuncData} (F : FnP K "line_meet" s_line_meet f fd) (g : G mg) (c_require_points : ClR P w K mg base 5 "require_points" (sp_require_points K)) (c_line_meet_in : Cl P w K mg base 2 "line_meet_in" (sp_line_meet_in K))  : FnOk P w K mg base CX0 6 f fd ["one", "two", "three", "four"] (sp_line_meet K) := by
  have nd := sc_line_meet.nd
  refine F.ok sc_line_meet (fun vs H Q E h => h.len) (fun cdv A outer s H vs Q E hr h => ?_)
  obtain ⟨v1, v2, v3, v4, rfl, h⟩ := h
  refine ⟨_, PSs.nox (pss_cons (ps_expr (pcR c_require_points hr (by decide) (by rfl) (pa_cons (pv 0) (pa_cons (pv 1) (pa_cons (pv 2) (pa_cons (pv 3) pa_nil)))))) (pss_cons (ps_if (PW.pt (pw_or (pt_cmpR (op_eqD hr.units) (pv 0) (pv 1) (nomark _)) (pw_or1 (pt_cmpR (op_eqD hr.units) (pv 2) (pv 3) (nomark _))))) (pss_one ps_never) pss_nil) (pss_one (ps_ret (pc c_line_meet_in hr (by decide) (by rfl) (pa_cons (pv 0) (pa_cons (pv 1) (pa_cons (pv 2) (pa_cons (pv 3) pa_nil))))))))), ?_⟩
  obtain ⟨x1, y1, w1, x2, y2, w2, x3, y3, w3, x4, y4, w4, h1, h2, h3, h4, ⟨a1, a2, a3⟩, ⟨b1, b2, b3⟩, ⟨c1, c2, c3⟩, ⟨d1, d2, d3⟩, ⟨p1, p2, p3, p4⟩, e1, e2, q⟩ := h
  wtm_at "go0"
  · rename_i hz
    rw [e1] at hz
    cases hz
  · rename_i hz
    rw [e2] at hz
    cases hz
  · wtm_at "fin"
theorem use_line_meet (h1 : Dp K H v1 (pt x1 y1 w1)) (h2 : Dp K H v2 (pt x2 y2 w2)) (h3 : Dp K H v3 (pt x3 y3 w3)) (h4 : Dp K H v4 (pt x4 y4 w4)) (a1 : Sz B0 x1) (a2 : Sz B0 y1) (a3 : Sz B0 w1) (b1 : Sz B0 x2) (b2 : Sz B0 y2) (b3 : Sz B0 w2) (c1 : Sz B0 x3) (c2 : Sz B0 y3) (c3 : Sz B0 w3)
    (d1 : Sz B0 x4) (d2 : Sz B0 y4) (d3 : Sz B0 w4) (p1 : isPoint (pt x1 y1 w1) = true) (p2 : isPoint (pt x2 y2 w2) = true) (p3 : isPoint (pt x3 y3 w3) = true) (p4 : isPoint (pt x4 y4 w4) = true) (e1 : PyData.eqv (pt x1 y1 w1) (pt x2 y2 w2) = false) (e2 : PyData.eqv (pt x3 y3 w3) (pt x4 y4 w4) = false)
    (q : ∀ v H2, Ex H H2 → Dp K H2 v (lmeet x1 y1 w1 x2 y2 w2 x3 y3 w3 x4 y4 w4) → Q v H2) : sp_line_meet K [v1, v2, v3, v4] H Q E :=
  ⟨_, _, _, _, rfl, _, _, _, _, _, _, _, _, _, _, _, _, h1, h2, h3, h4, ⟨a1, a2, a3⟩, ⟨b1, b2, b3⟩, ⟨c1, c2, c3⟩, ⟨d1, d2, d3⟩, ⟨p1, p2, p3, p4⟩, e1, e2, q⟩
/-- line_meet of equal points raises -/
def sp_line_meetX (K : PySem.W.Frag) (C : Addr) : Sp := fun vs H _ E => ∃ v1 v2 v3 v4 x1 y1 w1 x2 y2 w2 x3 y3 w3 x4 y4 w4, vs = [v1, v2, v3, v4] ∧ Dp K H v1 (pt x1 y1 w1) ∧ Dp K H v2 (pt x2 y2 w2) ∧ Dp K H v3 (pt x3 y3 w3) ∧ Dp K H v4 (pt x4 y4 w4) ∧
  (isPoint (pt x1 y1 w1) = true ∧ isPoint (pt x2 y2 w2) = true ∧ isPoint (pt x3 y3 w3) = true ∧ isPoint (pt x4 y4 w4) = true) ∧ (PyData.eqv (pt x1 y1 w1) (pt x2 y2 w2) = true ∨ PyData.eqv (pt x3 y3 w3) (pt x4 y4 w4) = true) ∧ ∀ H2, Ex H H2 → E (.ref C) none H2
theorem ok_line_meetX {f : Addr} {fd : FuncData} {C : Addr} (F : FnP K "line_meet" s_line_meet f fd) (g : G mg) (e : Exc1 K mg "InvalidOperation" C) (c_require_points : ClR P w K mg base 5 "require_points" (sp_require_points K)) (c_line_meet_in : Cl P w K mg base 2 "line_meet_in" (sp_line_meet_in K)) : FnOk P w K mg base (L2.CX P w) 6 f fd ["one", "two", "three", "four"] (sp_line_meetX K C) := by
  have nd := sc_line_meet.nd
  refine F.ok sc_line_meet (fun vs H Q E h => ?_) (fun cdv A outer s H vs Q E hr h => ?_)
  · obtain ⟨v1, v2, v3, v4, _, _, _, _, _, _, _, _, _, _, _, _, rfl, _⟩ := h
    rfl
  obtain ⟨v1, v2, v3, v4, x1, y1, w1, x2, y2, w2, x3, y3, w3, x4, y4, w4, rfl, h1, h2, h3, h4, ⟨p1, p2, p3, p4⟩, he, q⟩ := h
  refine ⟨_, (pss_cons (ps_expr (pcR c_require_points hr (by decide) (by rfl) (pa_cons (pv 0) (pa_cons (pv 1) (pa_cons (pv 2) (pa_cons (pv 3) pa_nil)))))) (pss_cons (ps_if (PW.pt (pw_or (pt_cmpR (op_eqD hr.units) (pv 0) (pv 1) (nomark _)) (pw_or1 (pt_cmpR (op_eqD hr.units) (pv 2) (pv 3) (nomark _))))) (pss_one (ps_raise rfl (takes_of rfl rfl rfl rfl) (pmk_own PySem.F.excBase_ValueError e.x e.g e.k (raises_own e.b e.t) rfl))) pss_nil) (pss_one ps_never))), ?_⟩
  wtm_at "go0"
  · exact q _ (by wtm_at "ex")
  · exact q _ (by wtm_at "ex")
  · rename_i z1 z2
    rcases he with h | h
    · rw [z1] at h
      cases h
    · rw [z2] at h
      cases h
def sp_point_of (K : PySem.W.Frag) : Sp := A3 fun v1 v2 v3 H Q => ∃ x y w : Int, v1 = .int x ∧ v2 = .int y ∧ v3 = .int w ∧ w ≠ 0 ∧ Sz 9000 w ∧ Ret K (rp x y w) H Q
abbrev s_point_of : Stmt := top 24
theorem sc_point_of : FnScope ["x", "y", "w"] ["x", "y", "w"] (defScope s_point_of) := ⟨rfl, rfl, rfl, by decide +kernel, rfl, by decide +kernel, by decide +kernel⟩
theorem ok_point_of {f : Addr} {fd : FuncData} {dvs : List V} (F : FunD K "point_of" "point_of" (defArgs s_point_of) (defBody s_point_of) (defScope s_point_of) dvs [] f fd) (g : G mg) (c_require_integer : Cl P w K mg base 2 "require_integer" (sp_require_integer K)) (c_is_integer : Cl P w K mg base 1 "is_integer" (sp_is_integer K)) (c_reduced_point : Cl P w K mg base 1 "reduced_point" (sp_reduced_point K)) : FnOk P w K mg base CX0 3 f fd ["x", "y", "w"] (sp_point_of K) := by
  have nd := sc_point_of.nd
  refine F.ok sc_point_of (fun vs H Q E h => h.len) (fun cdv A outer s H vs Q E hr h => ?_)
  obtain ⟨v1, v2, v3, rfl, h⟩ := h
  refine ⟨_, PSs.nox (pss_cons (ps_expr (pc c_require_integer hr (by decide) (by rfl) (pa_cons (pv 0) pa_nil))) (pss_cons (ps_expr (pc c_require_integer hr (by decide) (by rfl) (pa_cons (pv 1) pa_nil))) (pss_cons (ps_if (PW.pt (pw_or (pt_not (pt_val (pc c_is_integer hr (by decide) (by rfl) (pa_cons (pv 2) pa_nil)))) (pw_or1 (pt_cmpR op_eq (pv 2) pe_int (nomark _))))) (pss_one ps_never) pss_nil) (pss_one (ps_ret (pc c_reduced_point hr (by decide) (by rfl) (pa_cons (pv 0) (pa_cons (pv 1) (pa_cons (pv 2) pa_nil))))))))), ?_⟩
  obtain ⟨x, y, w', rfl, rfl, rfl, hw, sw, q⟩ := h
  wtm_at "go0"
  · rename_i hz
    exact absurd hz hw
  · wtm_at "fin"
theorem use_point_of {x y w : Int} (hw : w ≠ 0) (sw : Sz 9000 w) (q : ∀ v H2, Ex H H2 → Dp K H2 v (rp x y w) → Q v H2) : sp_point_of K [.int x, .int y, .int w] H Q E := ⟨_, _, _, rfl, _, _, _, rfl, rfl, rfl, hw, sw, q⟩
end
end Wb

namespace Wb
open PySem PySem.Spec PyProof.Rows L2
open Evl (Ex Ex.refl Ex.trans Ex.new)
local macro_rules | `(tactic| wtm_at "dp") => `(tactic| first | with_reducible assumption | with_reducible exact Dp.int _ | with_reducible exact Dp.bl _ | with_reducible exact Dp.str _ | with_reducible exact Dp.non | ((with_reducible refine' dpMono ?dme (by with_reducible assumption)); (case dme => wtm_at "ex")) | ((with_reducible refine' Dp.tup (Evl.st_of ?dph) ?dpa); (case dph => wtm_at "hs"); (case dpa => wtm_at "dpa")) | ((with_reducible refine' Dp.lst (Evl.sq_of ?dph) ?dpa); (case dph => wtm_at "hs"); (case dpa => wtm_at "dpa")))
local macro_rules | `(tactic| wtm_at "dpa") => `(tactic| first | with_reducible exact DpAll.nil | ((with_reducible refine' DpAll.cons ?dp1 ?dp2); (case dp1 => wtm_at "dp"); (case dp2 => wtm_at "dpa")) | with_reducible assumption | ((with_reducible refine' dpMonoA ?dme (by with_reducible assumption)); (case dme => wtm_at "ex")))
local macro_rules | `(tactic| wtm_at "sz") => `(tactic| first | with_reducible assumption | ((with_reducible refine' sz_mul ?sz1 ?sz2); (case sz1 => wtm_at "sz"); (case sz2 => wtm_at "sz")) | ((with_reducible refine' sz_add ?sz1 ?sz2); (case sz1 => wtm_at "sz"); (case sz2 => wtm_at "sz")) | ((with_reducible refine' sz_sub ?sz1 ?sz2); (case sz1 => wtm_at "sz"); (case sz2 => wtm_at "sz")) | ((with_reducible refine' sz_neg ?sz1); (case sz1 => wtm_at "sz")) | ((with_reducible refine' sz_div ?sz1); (case sz1 => wtm_at "sz")) | ((with_reducible refine' sz_fdiv ?sz1); (case sz1 => wtm_at "sz")) | exact sz_lit (by decide) | wtm_at "sz2")
local macro_rules | `(tactic| wtm_at "szb") => `(tactic| first | with_reducible assumption | ((with_reducible refine' sz_mono ?szb1 ?szb2); (case szb1 => wtm_at "sz"); (case szb2 => decide)))
local macro_rules | `(tactic| wtm_at "nz") => `(tactic| first | assumption | decide | omega)
local macro_rules | `(tactic| wtm_at "shaped") => `(tactic| first | rfl | decide)
local macro_rules | `(tactic| wtm_at "sset") => `(tactic| ((dsimp only [L2.wipe, List.set, List.set_cons_zero, List.set_cons_succ]) <;> exact rfl))
local macro_rules | `(tactic| wtm_at "nrm") => `(tactic| dsimp only [L2.start, L2.wipe, List.set, List.append, List.map, List.map_cons, List.map_nil, List.length_cons, List.length_nil, Nat.reduceAdd, Nat.reduceSub, List.reduceReplicate, List.replicate, List.cons_append, List.nil_append, List.set_cons_zero, List.set_cons_succ])
local macro_rules | `(tactic| wtm_at "st") => `(tactic| first
  | ((with_reducible refine' i_var (v := ?u0) ?u1 ?uq); (case u1 => exact rfl))
  | ((with_reducible refine' i_nameN ?u0 ?uq); (case u0 => wtm_at "sset"))
  | (with_reducible refine' i_op ?uq)
  | (with_reducible refine' i_c ?uq)
  | (with_reducible refine' i_I0 ?uq)
  | ((with_reducible refine' i_ixTI (i := ?u0) ?u1 ?u2 ?u3 ?uq); (case u1 => wtm_at "dp"); (case u2 => wtm_at "ex"); (case u3 => exact rfl))
  | ((with_reducible refine' i_ixT (d := ?u0) ?u1 ?u2 ?u3 (fun xu hxu => ?uq)); (case u1 => wtm_at "dp"); (case u2 => wtm_at "ex"); (case u3 => exact rfl))
  | ((with_reducible refine' i_mul ?u0 ?u1 ?u2 ?uq); (case u0 => wtm_at "sz"); (case u1 => wtm_at "sz"); (case u2 => first | decide | omega))
  | (with_reducible refine' i_seq ?uq)
  | (with_reducible refine' i_asg ?uq)
  | (with_reducible refine' i_ret ?uq)
  | (with_reducible refine' i_ifs ?uq)
  | (with_reducible refine' i_drop ?uq)
  | (with_reducible refine' i_next ?uq)
  | (with_reducible refine' i_cons ?uq)
  | (with_reducible refine' i_nil ?uq)
  | (with_reducible refine' i_cl ?uq)
  | (with_reducible refine' i_cb ?uq)
  | (with_reducible refine' i_tup ?uq)
  | (with_reducible refine' i_lst ?uq)
  | ((with_reducible refine' i_mkT ?u0 (fun np nH nhe nhp => ?uq)); (case u0 => exact Nat.le_of_ble_eq_true rfl))
  | (with_reducible refine' i_test ?uq)
  | (with_reducible refine' i_B ?uq)
  | (with_reducible refine' i_k ?uq)
  | (with_reducible refine' i_and ?uq)
  | (with_reducible refine' i_or ?uq)
  | (with_reducible refine' i_not ?uq)
  | (with_reducible refine' i_andV ?uq)
  | (with_reducible refine' i_orV ?uq)
  | (with_reducible refine' i_notV ?uq)
  | (with_reducible refine' i_if ?uq)
  | (with_reducible refine' i_un ?uq)
  | (with_reducible refine' i_U ?uq)
  | (with_reducible refine' i_iteT ?uq)
  | (with_reducible refine' i_iteF ?uq)
  | ((with_reducible refine' i_iteTr ?u0 ?uq); (case u0 => first | with_reducible rfl | decide | (simp only [dIsInt, dIsBool, dIsTup, dIsStr, dIsLst, Bool.not_true, Bool.not_false]; done)))
  | ((with_reducible refine' i_iteFr ?u0 ?uq); (case u0 => first | with_reducible rfl | decide | (simp only [dIsInt, dIsBool, dIsTup, dIsStr, dIsLst, Bool.not_true, Bool.not_false]; done)))
  | (with_reducible refine' i_ite (fun hif => ?uqa) (fun hif => ?uqb))
  | (with_reducible refine' i_iteN (fun hif => ?uqa) (fun hif => ?uqb))
  | (with_reducible refine' i_iteBN (fun hif => ?uqa) (fun hif => ?uqb))
  | (with_reducible refine' i_iteB (fun hif => ?uqa) (fun hif => ?uqb))
  | ((with_reducible refine' i_modN ?u0 ?uq); (case u0 => wtm_at "nz"))
  | ((with_reducible refine' i_fdX ?u0 ?u1 ?u2 ?uq); (case u0 => wtm_at "nz"); (case u1 => wtm_at "sz"); (case u2 => first | decide | omega))
  | ((with_reducible refine' i_pow ?u0 ?uq); (case u0 => exact ⟨by decide, by decide +kernel⟩))
  | (with_reducible refine' i_eqI ?uq)
  | (with_reducible refine' i_neI ?uq)
  | (with_reducible refine' i_gcd ?uq)
  | (with_reducible refine' i_qabs ?uq)
  | (with_reducible refine' i_qint ?uq)
  | (with_reducible refine' i_qintB ?uq)
  | (with_reducible refine' i_qmax2 ?uq)
  | (with_reducible refine' i_qmin2 ?uq)
  | (with_reducible refine' i_isB ?uq)
  | (with_reducible refine' i_notB ?uq)
  | (with_reducible refine' i_chain ?uq)
  | (with_reducible refine' i_qisN ?uq)
  | (with_reducible refine' i_qnotN ?uq)
  | (with_reducible refine' i_yes ?uq)
  | (with_reducible refine' i_par ?uq)
  | (with_reducible refine' i_par3 ?uq)
  | ((with_reducible refine' i_par2 ?u0 ?uq); (case u0 => wtm_at "sset"))
  | ((with_reducible refine' i_par33 ?u0 ?uq); (case u0 => wtm_at "sset"))
  | ((with_reducible refine' i_ixLI (i := ?u0) ?u1 ?u2 ?u3 ?uq); (case u1 => wtm_at "dp"); (case u2 => wtm_at "ex"); (case u3 => exact rfl))
  | ((with_reducible refine' i_ixL (d := ?u0) ?u1 ?u2 ?u3 (fun xu hxu => ?uq)); (case u1 => wtm_at "dp"); (case u2 => wtm_at "ex"); (case u3 => exact rfl))
  | ((with_reducible refine' i_qlenT ?u0 ?uq); (case u0 => wtm_at "dp"))
  | ((with_reducible refine' i_qlenL ?u0 ?uq); (case u0 => wtm_at "dp"))
  | ((with_reducible refine' i_gtup ?u0 ?u1 ?u2 (fun gvs gdp => ?uq)); (case u0 => wtm_at "dp"); (case u1 => wtm_at "ex"); (case u2 => exact rfl))
  | ((with_reducible refine' i_glst ?u0 ?u1 ?u2 (fun gvs gdp => ?uq)); (case u0 => wtm_at "dp"); (case u1 => wtm_at "ex"); (case u2 => exact rfl))
  | ((with_reducible refine' i_gconsI ?u0 (fun gr gh => ?uq)); (case u0 => with_reducible assumption))
  | ((with_reducible refine' i_gconsA ?u0 (fun gv gr gh1 gh2 => ?uq)); (case u0 => with_reducible assumption))
  | ((with_reducible refine' i_gnilA ?u0 ?uq); (case u0 => with_reducible assumption))
  | ((with_reducible refine' i_isiI ?u0 ?uq); (case u0 => wtm_at "dp"))
  | ((with_reducible refine' i_isiB ?u0 ?uq); (case u0 => wtm_at "dp"))
  | ((with_reducible refine' i_isiT ?u0 ?uq); (case u0 => wtm_at "dp"))
  | ((with_reducible refine' i_isiS ?u0 ?uq); (case u0 => wtm_at "dp"))
  | ((with_reducible refine' i_isiL ?u0 ?uq); (case u0 => wtm_at "dp"))
  | ((with_reducible refine' i_eqD ?u0 ?u1 ?u2 ?u3 ?uq); (case u0 => wtm_at "dp"); (case u1 => wtm_at "dp"); (case u2 => wtm_at "shaped"); (case u3 => wtm_at "shaped"))
  | ((with_reducible refine' i_neD ?u0 ?u1 ?u2 ?u3 ?uq); (case u0 => wtm_at "dp"); (case u1 => wtm_at "dp"); (case u2 => wtm_at "shaped"); (case u3 => wtm_at "shaped"))
  | wtm_at "st2"
  | wtm_at "use")
local macro_rules | `(tactic| wtm_at "go") => `(tactic| repeat' (wtm_at "st"))
local macro_rules | `(tactic| wtm_at "go0") => `(tactic| ((try dsimp only [L2.cxOf, L2.Cx.nox, L2.Cx.wish, L2.Cx.tr, L2.Cx.blk]); (try wtm_at "nrm"); wtm_at "go"))
local macro_rules | `(tactic| wtm_at "fin") => `(tactic| ((try dsimp only); first | with_reducible assumption | assumption | ((with_reducible refine' Ret.use ?rur ?rue ?rud); (case rur => with_reducible assumption); (case rue => wtm_at "ex"); (case rud => wtm_at "dp"))))
local macro_rules | `(tactic| wtm_at "ex") => `(tactic| first | with_reducible assumption | with_reducible exact Ex.refl _ | with_reducible exact ex_hid | ((with_reducible refine' Ex.trans ?exe (by with_reducible assumption)); (case exe => wtm_at "ex")) | ((with_reducible refine' Ex.trans ?exe (hid_ex (by with_reducible assumption))); (case exe => wtm_at "ex")) | ((with_reducible refine' Ex.trans ?exe ex_hid); (case exe => wtm_at "ex")))
local macro_rules | `(tactic| wtm_at "bag") => `(tactic| first | with_reducible assumption | ((with_reducible refine' Bag.mono ?bgm (by with_reducible assumption)); (case bgm => wtm_at "bag")))
local macro_rules | `(tactic| wtm_at "hs") => `(tactic| first | with_reducible assumption | ((with_reducible refine' hid_tup ?hb ?hp); (case hp => with_reducible assumption); (case hb => wtm_at "bag")) | ((with_reducible refine' hid_new ?hb ?hn ?hp); (case hp => with_reducible assumption); (case hn => with_reducible assumption); (case hb => wtm_at "bag")) | ((with_reducible refine' ex_at ?exe (by with_reducible assumption)); (case exe => wtm_at "ex")))
local macro_rules | `(tactic| wtm_at "st2") => `(tactic| first
  | ((with_reducible refine' i_mulC ?u0 ?uq); (case u0 => first | exact cmul_l (by decide) | exact cmul_r (by decide)))
  | ((with_reducible refine' i_ixLr (v := ?u0) ?u1 ?u2 ?uq); (case u1 => with_reducible assumption); (case u2 => exact rfl))
  | (with_reducible refine' i_sub ?uq)
  | ((with_reducible refine' i_mkL ?u0 (fun np nH nfr nhe nhp => ?uq)); (case u0 => exact Nat.le_of_ble_eq_true rfl))
  | ((with_reducible refine' i_setL (n := ?u0) ?u1 ?u2 (fun sH sh se => ?uq)); (case u1 => with_reducible assumption); (case u2 => exact rfl))
  | (with_reducible refine' i_sl ?uq)
  | (with_reducible refine' i_nopart ?uq)
  | (with_reducible refine' i_part ?uq)
  | (with_reducible refine' i_part1 ?uq))
local macro_rules | `(tactic| wtm_at "sz2") => `(tactic| ((with_reducible refine' sz_fmod ?sz1 ?sz2); (case sz1 => wtm_at "nz"); (case sz2 => wtm_at "sz")))
local macro_rules | `(tactic| wtm_at "stb") => `(tactic| first
  | ((with_reducible refine' i_mkTB ?u0 ?u1 (fun np nH nhe nhb nhp => ?uq)); (case u0 => exact Nat.le_of_ble_eq_true rfl); (case u1 => wtm_at "bag"))
  | ((with_reducible refine' i_mkLB ?u0 ?u1 (fun np nH nfr nhe nhb nhp => ?uq)); (case u0 => exact Nat.le_of_ble_eq_true rfl); (case u1 => wtm_at "bag"))
  | wtm_at "st")
local macro_rules | `(tactic| wtm_at "gob") => `(tactic| repeat' (wtm_at "stb"))
local macro_rules | `(tactic| wtm_at "gob0") => `(tactic| ((try dsimp only [L2.cxOf, L2.Cx.nox, L2.Cx.wish, L2.Cx.tr, L2.Cx.blk]); (try wtm_at "nrm"); wtm_at "gob"))
local macro_rules | `(tactic| wtm_at "use") => `(tactic| ((with_reducible refine' use_turn_in ?u0 ?u1 ?u2 ?u3 ?u4 ?u5 ?u6 ?u7 ?u8 ?u9 ?u10 ?u11 ?uq); (case u0 => wtm_at "dp"); (case u1 => wtm_at "dp"); (case u2 => wtm_at "dp"); (case u3 => wtm_at "szb"); (case u4 => wtm_at "szb"); (case u5 => wtm_at "szb"); (case u6 => wtm_at "szb"); (case u7 => wtm_at "szb"); (case u8 => wtm_at "szb"); (case u9 => wtm_at "szb"); (case u10 => wtm_at "szb"); (case u11 => wtm_at "szb")))
local macro_rules | `(tactic| wtm_at "use") => `(tactic| ((with_reducible refine' use_step_from ?u0 ?u1 ?u2 ?u3 ?u4 ?u5 ?u6 ?u7 (fun ur uH ue ud => ?uq)); (case u0 => wtm_at "dp"); (case u1 => wtm_at "dp"); (case u2 => wtm_at "szb"); (case u3 => wtm_at "szb"); (case u4 => wtm_at "szb"); (case u5 => wtm_at "szb"); (case u6 => wtm_at "szb"); (case u7 => wtm_at "szb")))
local macro_rules | `(tactic| wtm_at "use") => `(tactic| (with_reducible refine' use_shared_of ?uq))
local macro_rules | `(tactic| wtm_at "use") => `(tactic| ((with_reducible refine' use_is_integer ?u0 ?uq); (case u0 => wtm_at "dp")))
local macro_rules | `(tactic| wtm_at "use") => `(tactic| ((with_reducible refine' use_is_between_in ?u0 ?u1 ?u2 ?u3 ?u4 ?u5 ?u6 ?u7 ?u8 ?u9 ?u10 ?u11 (fun uH ue => ?uq)); (case u0 => wtm_at "dp"); (case u1 => wtm_at "dp"); (case u2 => wtm_at "dp"); (case u3 => wtm_at "szb"); (case u4 => wtm_at "szb"); (case u5 => wtm_at "szb"); (case u6 => wtm_at "szb"); (case u7 => wtm_at "szb"); (case u8 => wtm_at "szb"); (case u9 => wtm_at "szb"); (case u10 => wtm_at "szb"); (case u11 => wtm_at "szb")))
local macro_rules | `(tactic| wtm_at "use") => `(tactic| ((with_reducible refine' use_line_through ?u0 ?u1 ?u2 ?u3 ?u4 ?u5 ?u6 ?u7 (fun ur uH ue ud => ?uq)); (case u0 => wtm_at "dp"); (case u1 => wtm_at "dp"); (case u2 => wtm_at "szb"); (case u3 => wtm_at "szb"); (case u4 => wtm_at "szb"); (case u5 => wtm_at "szb"); (case u6 => wtm_at "szb"); (case u7 => wtm_at "szb")))
local macro_rules | `(tactic| wtm_at "use") => `(tactic| ((with_reducible refine' use_reduced_point ?u0 ?u1 (fun ur uH ue ud => ?uq)); (case u0 => wtm_at "nz"); (case u1 => wtm_at "szb")))
local macro_rules | `(tactic| wtm_at "use") => `(tactic| ((with_reducible refine' use_reduced ?u0 ?u1 (fun ur uH ue ud => ?uq)); (case u0 => wtm_at "nz"); (case u1 => wtm_at "szb")))
local macro_rules | `(tactic| wtm_at "use") => `(tactic| ((with_reducible refine' use_is_point ?u0 (fun uH ue => ?uq)); (case u0 => wtm_at "dp")))
local macro_rules | `(tactic| wtm_at "use") => `(tactic| ((with_reducible refine' use_line_meet_in ?u0 ?u1 ?u2 ?u3 ?u4 ?u5 ?u6 ?u7 ?u8 ?u9 ?u10 ?u11 ?u12 ?u13 ?u14 ?u15 (fun ur uH ue ud => ?uq)); (case u0 => wtm_at "dp"); (case u1 => wtm_at "dp"); (case u2 => wtm_at "dp"); (case u3 => wtm_at "dp"); (case u4 => wtm_at "szb"); (case u5 => wtm_at "szb"); (case u6 => wtm_at "szb"); (case u7 => wtm_at "szb"); (case u8 => wtm_at "szb"); (case u9 => wtm_at "szb"); (case u10 => wtm_at "szb"); (case u11 => wtm_at "szb"); (case u12 => wtm_at "szb"); (case u13 => wtm_at "szb"); (case u14 => wtm_at "szb"); (case u15 => wtm_at "szb")))
local macro_rules | `(tactic| wtm_at "use") => `(tactic| ((with_reducible refine' use_middle_in ?u0 ?u1 ?u2 ?u3 ?u4 ?u5 ?u6 ?u7 ?u8 ?u9 (fun ur uH ue ud => ?uq)); (case u0 => wtm_at "dp"); (case u1 => wtm_at "dp"); (case u2 => wtm_at "szb"); (case u3 => wtm_at "szb"); (case u4 => wtm_at "szb"); (case u5 => wtm_at "szb"); (case u6 => wtm_at "szb"); (case u7 => wtm_at "szb"); (case u8 => wtm_at "nz"); (case u9 => wtm_at "nz")))
local macro_rules | `(tactic| wtm_at "use") => `(tactic| ((with_reducible refine' use_square_in ?u0 ?u1 ?u2 ?u3 ?u4 ?u5 ?u6 ?u7 ?u8 ?u9 (fun ur uH ue ud => ?uq)); (case u0 => wtm_at "dp"); (case u1 => wtm_at "dp"); (case u2 => wtm_at "szb"); (case u3 => wtm_at "szb"); (case u4 => wtm_at "szb"); (case u5 => wtm_at "szb"); (case u6 => wtm_at "szb"); (case u7 => wtm_at "szb"); (case u8 => wtm_at "nz"); (case u9 => wtm_at "nz")))
local macro_rules | `(tactic| wtm_at "use") => `(tactic| ((with_reducible refine' use_is_side ?u0 (fun uH ue => ?uq)); (case u0 => wtm_at "dp")))
local macro_rules | `(tactic| wtm_at "use") => `(tactic| (with_reducible refine' use_require_integer ?uq))
local macro_rules | `(tactic| wtm_at "use") => `(tactic| ((with_reducible refine' use_require_point ?u0 ?u1 (fun uH ue => ?uq)); (case u0 => wtm_at "dp"); (case u1 => with_reducible assumption)))
local macro_rules | `(tactic| wtm_at "use") => `(tactic| ((with_reducible refine' use_require_points ?u0 ?u1 ?u2 (fun uH ue => ?uq)); (case u0 => wtm_at "dpa"); (case u1 => exact Nat.le_of_ble_eq_true rfl); (case u2 => wtm_at "pts")))
local macro_rules | `(tactic| wtm_at "pts") => `(tactic| first | with_reducible exact pts4 (by assumption) (by assumption) (by assumption) (by assumption) | with_reducible exact pts3 (by assumption) (by assumption) (by assumption) | with_reducible exact pts2 (by assumption) (by assumption))
section
variable {P : Program} {w : World} {K : PySem.W.Frag} {mg : Str → Option Value} {base : Heap} {H H' : Hp} {Q : VK} {E : XK} {v1 v2 v3 v4 : V} {x1 y1 w1 x2 y2 w2 x3 y3 w3 x4 y4 w4 : Int}
def sp__law_draw (K : PySem.W.Frag) : Sp := A2 fun v1 v2 H Q => ∃ (b : Addr) (t : Int), v1 = .ref b ∧ v2 = .int t ∧ Bag b H ∧ 0 < t ∧ Sz 9000 t ∧ ∀ n H2, 0 ≤ n → n < t → Ex (hid b H) (hid b H2) → Bag b H2 → Q (.int n) H2
abbrev s__law_draw : Stmt := top 32
theorem sc__law_draw : FnScope ["_law_bag_here", "_law_total", "_law_found", "_law_one", "_law_two"] ["_law_bag_here", "_law_total"] (defScope s__law_draw) := ⟨rfl, rfl, rfl, by decide +kernel, rfl, by decide +kernel, by decide +kernel⟩
theorem ok__law_draw {f : Addr} {fd : FuncData} (F : FnP K "_law_draw" s__law_draw f fd) (g : G mg)   : FnOk P w K mg base CX0 1 f fd ["_law_bag_here", "_law_total"] (sp__law_draw K) := by
  have nd := sc__law_draw.nd
  refine F.ok sc__law_draw (fun vs H Q E h => h.len) (fun cdv A outer s H vs Q E hr h => ?_)
  obtain ⟨v1, v2, rfl, h⟩ := h
  refine ⟨_, PSs.nox (pss_cons (ps_if (pt_cmpR op_gt (pe_ix ix_list (pv 0) pe_int (fun _ _ => rfl)) pe_int (nomark _)) (pss_cons (ps_set (i := 2) nd rfl (Or.inl rfl) (pe_op op_modN (pe_callTy call_qint1 (by rfl) g.f_int boot_int (pa_cons (pe_ix ix_list (pv 0) pe_int (fun _ _ => rfl)) pa_nil)) (pv 1))) (pss_cons (ps_asg (pe_op op_fdivX (pe_ix ix_list (pv 0) pe_int (fun _ _ => rfl)) (pv 1)) (pg_sub (pv 0) pe_int set_list)) (pss_one (ps_ret (pv 2))))) pss_nil) (pss_cons (ps_asg (pe_op op_add (pe_ix ix_list (pv 0) pe_int (fun _ _ => rfl)) pe_int) (pg_sub (pv 0) pe_int set_list)) (pss_cons (ps_set (i := 3) nd rfl (Or.inl rfl) (pe_op op_modN (pe_callTy call_qint1 (by rfl) g.f_int boot_int (pa_cons (pe_op op_add (pe_ix ix_list (pv 0) pe_int (fun _ _ => rfl)) (pe_op op_mul pe_int (pe_ix ix_list (pv 0) pe_int (fun _ _ => rfl)))) pa_nil)) pe_int)) (pss_cons (ps_set (i := 4) nd rfl (Or.inl rfl) (pe_op op_add (pe_op op_mulX (pe_op op_modN (pe_callTy call_qint1 (by rfl) g.f_int boot_int (pa_cons (pe_op op_mulX (pv 3) (pv 3)) pa_nil)) pe_int) (pv 3)) (pe_op op_mul pe_int (pe_ix ix_list (pv 0) pe_int (fun _ _ => rfl))))) (pss_one (ps_ret (pe_op op_modN (pe_callTy call_qint1 (by rfl) g.f_int boot_int (pa_cons (pe_op op_fdivX (pe_op op_modN (pe_callTy call_qint1 (by rfl) g.f_int boot_int (pa_cons (pv 4) pa_nil)) pe_int) pe_int) pa_nil)) (pv 1)))))))), ?_⟩
  obtain ⟨b, t, rfl, rfl, hb, ht, st, q⟩ := h
  obtain ⟨x, y, z, hb1, hx, sx⟩ := hb.ex
  have nt : t ≠ 0 := by omega
  wtm_at "go0"
  · dsimp only
    rename_i H2 sh se
    refine q _ _ (Int.fmod_nonneg_of_pos _ ht) (Int.fmod_lt_of_pos _ ht) (by wtm_at "ex") ⟨_, _, _, sh, ?_, sz_fdiv sx⟩
    rw [Int.fdiv_eq_ediv_of_nonneg _ (by omega)]
    exact Int.ediv_nonneg hx (by omega)
  · dsimp only
    rename_i H2 sh se
    exact q _ _ (Int.fmod_nonneg_of_pos _ ht) (Int.fmod_lt_of_pos _ ht) (by wtm_at "ex") ⟨_, _, _, sh, hx, sx⟩
theorem use__law_draw {b : Addr} {t : Int} (hb : Bag b H) (ht : 0 < t) (st : Sz 9000 t) (q : ∀ n H2, 0 ≤ n → n < t → Ex (hid b H) (hid b H2) → Bag b H2 → Q (.int n) H2) : sp__law_draw K [.ref b, .int t] H Q E := ⟨_, _, rfl, _, _, rfl, rfl, hb, ht, st, q⟩
def sp__law_bag (K : PySem.W.Frag) : Sp := A2 fun v1 v2 H Q => ∃ (a : Addr) (ns : List Int) (k : Int), v1 = .ref a ∧ v2 = .int k ∧ SqL K H a (ns.map V.int) ∧ 0 ≤ k ∧ k < 100 ∧ ∀ b H2, H b = none → Ex H H2 → Bag b H2 → Q (.ref b) H2
theorem great_pos : (0 : Int) < ((10 : Int) ^ (47 : Int).toNat) ^ (13 : Int).toNat := by decide +kernel
theorem great_sz : Sz 2100 (((10 : Int) ^ (47 : Int).toNat) ^ (13 : Int).toNat) := by
  unfold Sz
  decide +kernel
theorem bag_x {g m : Int} (hm : 0 < m) (sm : Sz 2100 m) (c : Int) : 0 ≤ (if g.fmod m - c > 0 then g.fmod m - c else 0) ∧ (0 ≤ c → Sz 2100 (if g.fmod m - c > 0 then g.fmod m - c else 0)) := by
  have h0 := Int.fmod_nonneg_of_pos g hm
  have h1 := Int.fmod_lt_of_pos g hm
  refine ⟨by split <;> omega, fun hc => sz_le sm ?_⟩
  split <;> omega
theorem atI_ok {ns : List Int} {k : Int} (h0 : 0 ≤ k) (h : k < ((ns.map V.int).length : Int)) : ∃ c, atI (ns.map V.int) k = some (.int c) := by
  rw [List.length_map] at h
  obtain ⟨j, rfl⟩ : ∃ j : Nat, k = j := ⟨k.toNat, by omega⟩
  have hk : j < ns.length := by omega
  exact ⟨ns[j], atI_nat (by
    rw [List.getElem?_map, List.getElem?_eq_getElem hk]
    rfl)⟩
theorem cut_ints (ns : List Int) (lo hi : Option Int) : ∃ ms : List Int, cutV (ns.map V.int) lo hi = ms.map V.int := by
  unfold cutV
  exact ⟨_, by rw [← List.map_drop, ← List.map_take]⟩
theorem atD {ds : List PyData} {k : Int} (h0 : 0 ≤ k) (h : k < (ds.length : Int)) : ∃ d, d ∈ ds ∧ atI ds k = some d := by
  obtain ⟨j, rfl⟩ : ∃ j : Nat, k = j := ⟨k.toNat, by omega⟩
  have hk : j < ds.length := by omega
  refine ⟨ds[j], List.getElem_mem hk, ?_⟩
  exact atI_nat (List.getElem?_eq_getElem hk)
theorem i_ixLh {b : Addr} {v : V} {ds : List PyData} {k : Int} {d : PyData} (h : Dp K (hid b H) v (.list ds)) (e : atI ds k = some d) (q : ∀ u, Dp K (hid b H) u d → Q u H) : rIxL K v (.int k) H Q := by
  obtain ⟨a, vs, rfl, hs, ha⟩ := dpLst h
  obtain ⟨u, e1, e2⟩ := dpAt ha e
  exact ⟨a, vs, k, _, rfl, rfl, Evl.ex_l ex_hid hs, e1, q u e2⟩
abbrev s__law_bag : Stmt := top 31
theorem sc__law_bag : FnScope ["_law_script", "_law_at", "_law_cell", "_law_great", "_law_mixed"] ["_law_script", "_law_at"] (defScope s__law_bag) := ⟨rfl, rfl, rfl, by decide +kernel, rfl, by decide +kernel, by decide +kernel⟩
theorem ok__law_bag {f : Addr} {fd : FuncData} (F : FnP K "_law_bag" s__law_bag f fd) (g : G mg)   : FnOk P w K mg base CX0 1 f fd ["_law_script", "_law_at"] (sp__law_bag K) := by
  have nd := sc__law_bag.nd
  refine F.ok sc__law_bag (fun vs H Q E h => h.len) (fun cdv A outer s H vs Q E hr h => ?_)
  obtain ⟨v1, v2, rfl, h⟩ := h
  refine ⟨_, PSs.nox (pss_cons (ps_set (i := 2) nd rfl (Or.inl rfl) (pe_ifExp (pt_cmpR op_lt (pv 1) (pe_callB call_qlen (by rfl) g.f_len boot_len (pa_cons (pv 0) pa_nil)) (nomark _)) (pe_ix ix_list (pv 0) (pv 1) (fun _ _ => rfl)) (pe_op op_add (pe_op op_add (pe_callB (cr_sum rfl) (by rfl) g.f_sum boot_sum (pa_cons (pe_slice sl_list (pv 0) po_none (po_some pe_int)) pa_nil)) (pe_op op_mul pe_int (pv 1))) pe_int))) (pss_cons (ps_set (i := 3) nd rfl (Or.inl rfl) (pe_op op_modN (pe_callTy call_qint1 (by rfl) g.f_int boot_int (pa_cons (pe_callB call_qabs (by rfl) g.f_abs boot_abs (pa_cons (pv 2) pa_nil)) pa_nil)) (pe_op op_powX (pe_op op_powX pe_int pe_int) pe_int))) (pss_cons (ps_set (i := 4) nd rfl (Or.inl rfl) (pe_op op_add (pe_op op_add (pe_op op_add (pe_op op_mul (pe_op op_modN (pe_callTy call_qint1 (by rfl) g.f_int boot_int (pa_cons (pv 3) pa_nil)) pe_int) pe_int) (pe_op op_mul pe_int (pv 1))) (pe_op op_mul pe_int (pe_callTy call_qint1 (by rfl) g.f_int boot_int (pa_cons (pe_cmpR op_lt (pv 2) pe_int (nomark _)) pa_nil)))) pe_int)) (pss_one (ps_ret (pe_lst (pa_cons (pe_callB (call_qmax2 rfl) (by rfl) g.f_max boot_max (pa_cons pe_int (pa_cons (pe_op op_sub (pv 3) (pe_op op_powX pe_int pe_int)) pa_nil))) (pa_cons (pe_op op_modN (pe_callTy call_qint1 (by rfl) g.f_int boot_int (pa_cons (pv 4) pa_nil)) pe_int) (pa_cons pe_int pa_nil))))))))), ?_⟩
  obtain ⟨a, ns, k, rfl, rfl, hS, hk, hk2, q⟩ := h
  have hg := great_pos
  have hgn : ((10 : Int) ^ (47 : Int).toNat) ^ (13 : Int).toNat ≠ 0 := by omega
  wtm_at "go0"
  refine i_qlenS hS ?_
  wtm_at "go"
  · rename_i hlt
    obtain ⟨c, hc⟩ := atI_ok hk hlt
    refine i_ixLs hS hc ?_
    wtm_at "go"
    dsimp only
    rename_i b H2 hn he hb
    exact q b H2 hn (by wtm_at "ex") ⟨_, _, _, hb, (bag_x hg great_sz _).1, (bag_x hg great_sz _).2 (by decide)⟩
  · refine i_slL hS (fun p H2 hp e2 h2 => ?_)
    obtain ⟨ms, hms⟩ := cut_ints ns none (some 1)
    rw [hms] at h2
    wtm_at "go"
    refine i_sum (Evl.sq_of h2) ?_
    wtm_at "go"
    dsimp only
    rename_i b H2 hn he hb
    exact q b H2 (Evl.fresh_back e2 hn) (by wtm_at "ex") ⟨_, _, _, hb, (bag_x hg great_sz _).1, (bag_x hg great_sz _).2 (by decide)⟩
theorem use__law_bag {a : Addr} {ns : List Int} {k : Int} (hS : SqL K H a (ns.map V.int)) (h0 : 0 ≤ k) (h1 : k < 100) (q : ∀ b H2, H b = none → Ex H H2 → Bag b H2 → Q (.ref b) H2) : sp__law_bag K [.ref a, .int k] H Q E := ⟨_, _, rfl, _, _, _, rfl, rfl, hS, h0, h1, q⟩
def sp__law_one_of (K : PySem.W.Frag) : Sp := A2 fun v1 v2 H Q => ∃ (b : Addr) (ds : List PyData), v1 = .ref b ∧ Bag b H ∧ Dp K (hid b H) v2 (.list ds) ∧ 0 < ds.length ∧ ds.length ≤ 1000 ∧ ∀ d v H2, d ∈ ds → Ex (hid b H) (hid b H2) → Bag b H2 → Dp K (hid b H2) v d → Q v H2
local macro_rules | `(tactic| wtm_at "use") => `(tactic| ((with_reducible refine' use__law_draw ?u0 ?u1 ?u2 (fun dn dH dn0 dn1 de db => ?uq)); (case u0 => wtm_at "bag"); (case u1 => wtm_at "pos"); (case u2 => wtm_at "szb")))
local macro_rules | `(tactic| wtm_at "pos") => `(tactic| first | assumption | decide | omega)
abbrev s__law_one_of : Stmt := top 33
theorem sc__law_one_of : FnScope ["_law_bag_here", "_law_items"] ["_law_bag_here", "_law_items"] (defScope s__law_one_of) := ⟨rfl, rfl, rfl, by decide +kernel, rfl, by decide +kernel, by decide +kernel⟩
theorem ok__law_one_of {f : Addr} {fd : FuncData} (F : FnP K "_law_one_of" s__law_one_of f fd) (g : G mg) (c__law_draw : Cl P w K mg base 1 "_law_draw" (sp__law_draw K))  : FnOk P w K mg base CX0 2 f fd ["_law_bag_here", "_law_items"] (sp__law_one_of K) := by
  have nd := sc__law_one_of.nd
  refine F.ok sc__law_one_of (fun vs H Q E h => h.len) (fun cdv A outer s H vs Q E hr h => ?_)
  obtain ⟨v1, v2, rfl, h⟩ := h
  refine ⟨_, PSs.nox (pss_one (ps_ret (pe_ix ix_list (pv 1) (pc c__law_draw hr (by decide) (by rfl) (pa_cons (pv 0) (pa_cons (pe_callB call_qlen (by rfl) g.f_len boot_len (pa_cons (pv 1) pa_nil)) pa_nil))) (fun _ _ => rfl)))), ?_⟩
  obtain ⟨b, ds, rfl, hb, hd, h0, h1, q⟩ := h
  have hl : Sz 9000 (ds.length : Int) := sz_mono (sz_lit (by omega)) (by decide)
  wtm_at "go0"
  dsimp only
  rename_i n H2 n0 n1 de db
  obtain ⟨d, hm, hat⟩ := atD n0 n1
  exact i_ixLh (b := b) (dpMono de hd) hat fun u hu => q d u H2 hm de db hu
theorem use__law_one_of {b : Addr} {ds : List PyData} (hb : Bag b H) (hd : Dp K (hid b H) v2 (.list ds)) (h0 : 0 < ds.length) (h1 : ds.length ≤ 1000) (q : ∀ d v H2, d ∈ ds → Ex (hid b H) (hid b H2) → Bag b H2 → Dp K (hid b H2) v d → Q v H2) : sp__law_one_of K [.ref b, v2] H Q E := ⟨_, _, rfl, _, _, rfl, hb, hd, h0, h1, q⟩
end
end Wb

namespace Wb
open PySem PySem.Spec PyProof.Rows L2
open Evl (Ex Ex.refl Ex.trans Ex.new)
local macro_rules | `(tactic| wtm_at "dp") => `(tactic| first | with_reducible assumption | with_reducible exact Dp.int _ | with_reducible exact Dp.bl _ | with_reducible exact Dp.str _ | with_reducible exact Dp.non | ((with_reducible refine' dpMono ?dme (by with_reducible assumption)); (case dme => wtm_at "ex")) | ((with_reducible refine' Dp.tup (Evl.st_of ?dph) ?dpa); (case dph => wtm_at "hs"); (case dpa => wtm_at "dpa")) | ((with_reducible refine' Dp.lst (Evl.sq_of ?dph) ?dpa); (case dph => wtm_at "hs"); (case dpa => wtm_at "dpa")))
local macro_rules | `(tactic| wtm_at "dpa") => `(tactic| first | with_reducible exact DpAll.nil | ((with_reducible refine' DpAll.cons ?dp1 ?dp2); (case dp1 => wtm_at "dp"); (case dp2 => wtm_at "dpa")) | with_reducible assumption | ((with_reducible refine' dpMonoA ?dme (by with_reducible assumption)); (case dme => wtm_at "ex")))
local macro_rules | `(tactic| wtm_at "sz") => `(tactic| first | with_reducible assumption | ((with_reducible refine' sz_mul ?sz1 ?sz2); (case sz1 => wtm_at "sz"); (case sz2 => wtm_at "sz")) | ((with_reducible refine' sz_add ?sz1 ?sz2); (case sz1 => wtm_at "sz"); (case sz2 => wtm_at "sz")) | ((with_reducible refine' sz_sub ?sz1 ?sz2); (case sz1 => wtm_at "sz"); (case sz2 => wtm_at "sz")) | ((with_reducible refine' sz_neg ?sz1); (case sz1 => wtm_at "sz")) | ((with_reducible refine' sz_div ?sz1); (case sz1 => wtm_at "sz")) | ((with_reducible refine' sz_fdiv ?sz1); (case sz1 => wtm_at "sz")) | exact sz_lit (by decide) | wtm_at "sz2")
local macro_rules | `(tactic| wtm_at "szb") => `(tactic| first | with_reducible assumption | ((with_reducible refine' sz_mono ?szb1 ?szb2); (case szb1 => wtm_at "sz"); (case szb2 => decide)))
local macro_rules | `(tactic| wtm_at "nz") => `(tactic| first | assumption | decide | omega)
local macro_rules | `(tactic| wtm_at "shaped") => `(tactic| first | rfl | decide)
local macro_rules | `(tactic| wtm_at "sset") => `(tactic| ((dsimp only [L2.wipe, List.set, List.set_cons_zero, List.set_cons_succ]) <;> exact rfl))
local macro_rules | `(tactic| wtm_at "nrm") => `(tactic| dsimp only [L2.start, L2.wipe, List.set, List.append, List.map, List.map_cons, List.map_nil, List.length_cons, List.length_nil, Nat.reduceAdd, Nat.reduceSub, List.reduceReplicate, List.replicate, List.cons_append, List.nil_append, List.set_cons_zero, List.set_cons_succ])
local macro_rules | `(tactic| wtm_at "st") => `(tactic| first
  | ((with_reducible refine' i_var (v := ?u0) ?u1 ?uq); (case u1 => exact rfl))
  | ((with_reducible refine' i_nameN ?u0 ?uq); (case u0 => wtm_at "sset"))
  | (with_reducible refine' i_op ?uq)
  | (with_reducible refine' i_c ?uq)
  | (with_reducible refine' i_I0 ?uq)
  | ((with_reducible refine' i_ixTI (i := ?u0) ?u1 ?u2 ?u3 ?uq); (case u1 => wtm_at "dp"); (case u2 => wtm_at "ex"); (case u3 => exact rfl))
  | ((with_reducible refine' i_ixT (d := ?u0) ?u1 ?u2 ?u3 (fun xu hxu => ?uq)); (case u1 => wtm_at "dp"); (case u2 => wtm_at "ex"); (case u3 => exact rfl))
  | ((with_reducible refine' i_mul ?u0 ?u1 ?u2 ?uq); (case u0 => wtm_at "sz"); (case u1 => wtm_at "sz"); (case u2 => first | decide | omega))
  | (with_reducible refine' i_seq ?uq)
  | (with_reducible refine' i_asg ?uq)
  | (with_reducible refine' i_ret ?uq)
  | (with_reducible refine' i_ifs ?uq)
  | (with_reducible refine' i_drop ?uq)
  | (with_reducible refine' i_next ?uq)
  | (with_reducible refine' i_cons ?uq)
  | (with_reducible refine' i_nil ?uq)
  | (with_reducible refine' i_cl ?uq)
  | (with_reducible refine' i_cb ?uq)
  | (with_reducible refine' i_tup ?uq)
  | (with_reducible refine' i_lst ?uq)
  | ((with_reducible refine' i_mkT ?u0 (fun np nH nhe nhp => ?uq)); (case u0 => exact Nat.le_of_ble_eq_true rfl))
  | (with_reducible refine' i_test ?uq)
  | (with_reducible refine' i_B ?uq)
  | (with_reducible refine' i_k ?uq)
  | (with_reducible refine' i_and ?uq)
  | (with_reducible refine' i_or ?uq)
  | (with_reducible refine' i_not ?uq)
  | (with_reducible refine' i_andV ?uq)
  | (with_reducible refine' i_orV ?uq)
  | (with_reducible refine' i_notV ?uq)
  | (with_reducible refine' i_if ?uq)
  | (with_reducible refine' i_un ?uq)
  | (with_reducible refine' i_U ?uq)
  | (with_reducible refine' i_iteT ?uq)
  | (with_reducible refine' i_iteF ?uq)
  | ((with_reducible refine' i_iteTr ?u0 ?uq); (case u0 => first | with_reducible rfl | decide | (simp only [dIsInt, dIsBool, dIsTup, dIsStr, dIsLst, Bool.not_true, Bool.not_false]; done)))
  | ((with_reducible refine' i_iteFr ?u0 ?uq); (case u0 => first | with_reducible rfl | decide | (simp only [dIsInt, dIsBool, dIsTup, dIsStr, dIsLst, Bool.not_true, Bool.not_false]; done)))
  | (with_reducible refine' i_ite (fun hif => ?uqa) (fun hif => ?uqb))
  | (with_reducible refine' i_iteN (fun hif => ?uqa) (fun hif => ?uqb))
  | (with_reducible refine' i_iteBN (fun hif => ?uqa) (fun hif => ?uqb))
  | (with_reducible refine' i_iteB (fun hif => ?uqa) (fun hif => ?uqb))
  | ((with_reducible refine' i_modN ?u0 ?uq); (case u0 => wtm_at "nz"))
  | ((with_reducible refine' i_fdX ?u0 ?u1 ?u2 ?uq); (case u0 => wtm_at "nz"); (case u1 => wtm_at "sz"); (case u2 => first | decide | omega))
  | ((with_reducible refine' i_pow ?u0 ?uq); (case u0 => exact ⟨by decide, by decide +kernel⟩))
  | (with_reducible refine' i_eqI ?uq)
  | (with_reducible refine' i_neI ?uq)
  | (with_reducible refine' i_gcd ?uq)
  | (with_reducible refine' i_qabs ?uq)
  | (with_reducible refine' i_qint ?uq)
  | (with_reducible refine' i_qintB ?uq)
  | (with_reducible refine' i_qmax2 ?uq)
  | (with_reducible refine' i_qmin2 ?uq)
  | (with_reducible refine' i_isB ?uq)
  | (with_reducible refine' i_notB ?uq)
  | (with_reducible refine' i_chain ?uq)
  | (with_reducible refine' i_qisN ?uq)
  | (with_reducible refine' i_qnotN ?uq)
  | (with_reducible refine' i_yes ?uq)
  | (with_reducible refine' i_par ?uq)
  | (with_reducible refine' i_par3 ?uq)
  | ((with_reducible refine' i_par2 ?u0 ?uq); (case u0 => wtm_at "sset"))
  | ((with_reducible refine' i_par33 ?u0 ?uq); (case u0 => wtm_at "sset"))
  | ((with_reducible refine' i_ixLI (i := ?u0) ?u1 ?u2 ?u3 ?uq); (case u1 => wtm_at "dp"); (case u2 => wtm_at "ex"); (case u3 => exact rfl))
  | ((with_reducible refine' i_ixL (d := ?u0) ?u1 ?u2 ?u3 (fun xu hxu => ?uq)); (case u1 => wtm_at "dp"); (case u2 => wtm_at "ex"); (case u3 => exact rfl))
  | ((with_reducible refine' i_qlenT ?u0 ?uq); (case u0 => wtm_at "dp"))
  | ((with_reducible refine' i_qlenL ?u0 ?uq); (case u0 => wtm_at "dp"))
  | ((with_reducible refine' i_gtup ?u0 ?u1 ?u2 (fun gvs gdp => ?uq)); (case u0 => wtm_at "dp"); (case u1 => wtm_at "ex"); (case u2 => exact rfl))
  | ((with_reducible refine' i_glst ?u0 ?u1 ?u2 (fun gvs gdp => ?uq)); (case u0 => wtm_at "dp"); (case u1 => wtm_at "ex"); (case u2 => exact rfl))
  | ((with_reducible refine' i_gconsI ?u0 (fun gr gh => ?uq)); (case u0 => with_reducible assumption))
  | ((with_reducible refine' i_gconsA ?u0 (fun gv gr gh1 gh2 => ?uq)); (case u0 => with_reducible assumption))
  | ((with_reducible refine' i_gnilA ?u0 ?uq); (case u0 => with_reducible assumption))
  | ((with_reducible refine' i_isiI ?u0 ?uq); (case u0 => wtm_at "dp"))
  | ((with_reducible refine' i_isiB ?u0 ?uq); (case u0 => wtm_at "dp"))
  | ((with_reducible refine' i_isiT ?u0 ?uq); (case u0 => wtm_at "dp"))
  | ((with_reducible refine' i_isiS ?u0 ?uq); (case u0 => wtm_at "dp"))
  | ((with_reducible refine' i_isiL ?u0 ?uq); (case u0 => wtm_at "dp"))
  | ((with_reducible refine' i_eqD ?u0 ?u1 ?u2 ?u3 ?uq); (case u0 => wtm_at "dp"); (case u1 => wtm_at "dp"); (case u2 => wtm_at "shaped"); (case u3 => wtm_at "shaped"))
  | ((with_reducible refine' i_neD ?u0 ?u1 ?u2 ?u3 ?uq); (case u0 => wtm_at "dp"); (case u1 => wtm_at "dp"); (case u2 => wtm_at "shaped"); (case u3 => wtm_at "shaped"))
  | wtm_at "st2"
  | wtm_at "use")
local macro_rules | `(tactic| wtm_at "go") => `(tactic| repeat' (wtm_at "st"))
local macro_rules | `(tactic| wtm_at "go0") => `(tactic| ((try dsimp only [L2.cxOf, L2.Cx.nox, L2.Cx.wish, L2.Cx.tr, L2.Cx.blk]); (try wtm_at "nrm"); wtm_at "go"))
local macro_rules | `(tactic| wtm_at "fin") => `(tactic| ((try dsimp only); first | with_reducible assumption | assumption | ((with_reducible refine' Ret.use ?rur ?rue ?rud); (case rur => with_reducible assumption); (case rue => wtm_at "ex"); (case rud => wtm_at "dp"))))
local macro_rules | `(tactic| wtm_at "ex") => `(tactic| first | with_reducible assumption | with_reducible exact Ex.refl _ | with_reducible exact ex_hid | ((with_reducible refine' Ex.trans ?exe (by with_reducible assumption)); (case exe => wtm_at "ex")) | ((with_reducible refine' Ex.trans ?exe (hid_ex (by with_reducible assumption))); (case exe => wtm_at "ex")) | ((with_reducible refine' Ex.trans ?exe ex_hid); (case exe => wtm_at "ex")))
local macro_rules | `(tactic| wtm_at "bag") => `(tactic| first | with_reducible assumption | ((with_reducible refine' Bag.mono ?bgm (by with_reducible assumption)); (case bgm => wtm_at "bag")))
local macro_rules | `(tactic| wtm_at "hs") => `(tactic| first | with_reducible assumption | ((with_reducible refine' hid_tup ?hb ?hp); (case hp => with_reducible assumption); (case hb => wtm_at "bag")) | ((with_reducible refine' hid_new ?hb ?hn ?hp); (case hp => with_reducible assumption); (case hn => with_reducible assumption); (case hb => wtm_at "bag")) | ((with_reducible refine' ex_at ?exe (by with_reducible assumption)); (case exe => wtm_at "ex")))
local macro_rules | `(tactic| wtm_at "st2") => `(tactic| first
  | ((with_reducible refine' i_mulC ?u0 ?uq); (case u0 => first | exact cmul_l (by decide) | exact cmul_r (by decide)))
  | ((with_reducible refine' i_ixLr (v := ?u0) ?u1 ?u2 ?uq); (case u1 => with_reducible assumption); (case u2 => exact rfl))
  | (with_reducible refine' i_sub ?uq)
  | ((with_reducible refine' i_mkL ?u0 (fun np nH nfr nhe nhp => ?uq)); (case u0 => exact Nat.le_of_ble_eq_true rfl))
  | ((with_reducible refine' i_setL (n := ?u0) ?u1 ?u2 (fun sH sh se => ?uq)); (case u1 => with_reducible assumption); (case u2 => exact rfl))
  | (with_reducible refine' i_sl ?uq)
  | (with_reducible refine' i_nopart ?uq)
  | (with_reducible refine' i_part ?uq)
  | (with_reducible refine' i_part1 ?uq))
local macro_rules | `(tactic| wtm_at "sz2") => `(tactic| ((with_reducible refine' sz_fmod ?sz1 ?sz2); (case sz1 => wtm_at "nz"); (case sz2 => wtm_at "sz")))
local macro_rules | `(tactic| wtm_at "stb") => `(tactic| first
  | ((with_reducible refine' i_mkTB ?u0 ?u1 (fun np nH nhe nhb nhp => ?uq)); (case u0 => exact Nat.le_of_ble_eq_true rfl); (case u1 => wtm_at "bag"))
  | ((with_reducible refine' i_mkLB ?u0 ?u1 (fun np nH nfr nhe nhb nhp => ?uq)); (case u0 => exact Nat.le_of_ble_eq_true rfl); (case u1 => wtm_at "bag"))
  | wtm_at "st")
local macro_rules | `(tactic| wtm_at "gob") => `(tactic| repeat' (wtm_at "stb"))
local macro_rules | `(tactic| wtm_at "gob0") => `(tactic| ((try dsimp only [L2.cxOf, L2.Cx.nox, L2.Cx.wish, L2.Cx.tr, L2.Cx.blk]); (try wtm_at "nrm"); wtm_at "gob"))
local macro_rules | `(tactic| wtm_at "use") => `(tactic| ((with_reducible refine' use_turn_in ?u0 ?u1 ?u2 ?u3 ?u4 ?u5 ?u6 ?u7 ?u8 ?u9 ?u10 ?u11 ?uq); (case u0 => wtm_at "dp"); (case u1 => wtm_at "dp"); (case u2 => wtm_at "dp"); (case u3 => wtm_at "szb"); (case u4 => wtm_at "szb"); (case u5 => wtm_at "szb"); (case u6 => wtm_at "szb"); (case u7 => wtm_at "szb"); (case u8 => wtm_at "szb"); (case u9 => wtm_at "szb"); (case u10 => wtm_at "szb"); (case u11 => wtm_at "szb")))
local macro_rules | `(tactic| wtm_at "use") => `(tactic| ((with_reducible refine' use_step_from ?u0 ?u1 ?u2 ?u3 ?u4 ?u5 ?u6 ?u7 (fun ur uH ue ud => ?uq)); (case u0 => wtm_at "dp"); (case u1 => wtm_at "dp"); (case u2 => wtm_at "szb"); (case u3 => wtm_at "szb"); (case u4 => wtm_at "szb"); (case u5 => wtm_at "szb"); (case u6 => wtm_at "szb"); (case u7 => wtm_at "szb")))
local macro_rules | `(tactic| wtm_at "use") => `(tactic| (with_reducible refine' use_shared_of ?uq))
local macro_rules | `(tactic| wtm_at "use") => `(tactic| ((with_reducible refine' use_is_integer ?u0 ?uq); (case u0 => wtm_at "dp")))
local macro_rules | `(tactic| wtm_at "use") => `(tactic| ((with_reducible refine' use_is_between_in ?u0 ?u1 ?u2 ?u3 ?u4 ?u5 ?u6 ?u7 ?u8 ?u9 ?u10 ?u11 (fun uH ue => ?uq)); (case u0 => wtm_at "dp"); (case u1 => wtm_at "dp"); (case u2 => wtm_at "dp"); (case u3 => wtm_at "szb"); (case u4 => wtm_at "szb"); (case u5 => wtm_at "szb"); (case u6 => wtm_at "szb"); (case u7 => wtm_at "szb"); (case u8 => wtm_at "szb"); (case u9 => wtm_at "szb"); (case u10 => wtm_at "szb"); (case u11 => wtm_at "szb")))
local macro_rules | `(tactic| wtm_at "use") => `(tactic| ((with_reducible refine' use_line_through ?u0 ?u1 ?u2 ?u3 ?u4 ?u5 ?u6 ?u7 (fun ur uH ue ud => ?uq)); (case u0 => wtm_at "dp"); (case u1 => wtm_at "dp"); (case u2 => wtm_at "szb"); (case u3 => wtm_at "szb"); (case u4 => wtm_at "szb"); (case u5 => wtm_at "szb"); (case u6 => wtm_at "szb"); (case u7 => wtm_at "szb")))
local macro_rules | `(tactic| wtm_at "use") => `(tactic| ((with_reducible refine' use_reduced_point ?u0 ?u1 (fun ur uH ue ud => ?uq)); (case u0 => wtm_at "nz"); (case u1 => wtm_at "szb")))
local macro_rules | `(tactic| wtm_at "use") => `(tactic| ((with_reducible refine' use_reduced ?u0 ?u1 (fun ur uH ue ud => ?uq)); (case u0 => wtm_at "nz"); (case u1 => wtm_at "szb")))
local macro_rules | `(tactic| wtm_at "use") => `(tactic| ((with_reducible refine' use_is_point ?u0 (fun uH ue => ?uq)); (case u0 => wtm_at "dp")))
local macro_rules | `(tactic| wtm_at "use") => `(tactic| ((with_reducible refine' use_line_meet_in ?u0 ?u1 ?u2 ?u3 ?u4 ?u5 ?u6 ?u7 ?u8 ?u9 ?u10 ?u11 ?u12 ?u13 ?u14 ?u15 (fun ur uH ue ud => ?uq)); (case u0 => wtm_at "dp"); (case u1 => wtm_at "dp"); (case u2 => wtm_at "dp"); (case u3 => wtm_at "dp"); (case u4 => wtm_at "szb"); (case u5 => wtm_at "szb"); (case u6 => wtm_at "szb"); (case u7 => wtm_at "szb"); (case u8 => wtm_at "szb"); (case u9 => wtm_at "szb"); (case u10 => wtm_at "szb"); (case u11 => wtm_at "szb"); (case u12 => wtm_at "szb"); (case u13 => wtm_at "szb"); (case u14 => wtm_at "szb"); (case u15 => wtm_at "szb")))
local macro_rules | `(tactic| wtm_at "use") => `(tactic| ((with_reducible refine' use_middle_in ?u0 ?u1 ?u2 ?u3 ?u4 ?u5 ?u6 ?u7 ?u8 ?u9 (fun ur uH ue ud => ?uq)); (case u0 => wtm_at "dp"); (case u1 => wtm_at "dp"); (case u2 => wtm_at "szb"); (case u3 => wtm_at "szb"); (case u4 => wtm_at "szb"); (case u5 => wtm_at "szb"); (case u6 => wtm_at "szb"); (case u7 => wtm_at "szb"); (case u8 => wtm_at "nz"); (case u9 => wtm_at "nz")))
local macro_rules | `(tactic| wtm_at "use") => `(tactic| ((with_reducible refine' use_square_in ?u0 ?u1 ?u2 ?u3 ?u4 ?u5 ?u6 ?u7 ?u8 ?u9 (fun ur uH ue ud => ?uq)); (case u0 => wtm_at "dp"); (case u1 => wtm_at "dp"); (case u2 => wtm_at "szb"); (case u3 => wtm_at "szb"); (case u4 => wtm_at "szb"); (case u5 => wtm_at "szb"); (case u6 => wtm_at "szb"); (case u7 => wtm_at "szb"); (case u8 => wtm_at "nz"); (case u9 => wtm_at "nz")))
local macro_rules | `(tactic| wtm_at "use") => `(tactic| ((with_reducible refine' use_is_side ?u0 (fun uH ue => ?uq)); (case u0 => wtm_at "dp")))
local macro_rules | `(tactic| wtm_at "use") => `(tactic| (with_reducible refine' use_require_integer ?uq))
local macro_rules | `(tactic| wtm_at "use") => `(tactic| ((with_reducible refine' use_require_point ?u0 ?u1 (fun uH ue => ?uq)); (case u0 => wtm_at "dp"); (case u1 => with_reducible assumption)))
local macro_rules | `(tactic| wtm_at "use") => `(tactic| ((with_reducible refine' use_require_points ?u0 ?u1 ?u2 (fun uH ue => ?uq)); (case u0 => wtm_at "dpa"); (case u1 => exact Nat.le_of_ble_eq_true rfl); (case u2 => wtm_at "pts")))
local macro_rules | `(tactic| wtm_at "pts") => `(tactic| first | with_reducible exact pts4 (by assumption) (by assumption) (by assumption) (by assumption) | with_reducible exact pts3 (by assumption) (by assumption) (by assumption) | with_reducible exact pts2 (by assumption) (by assumption))
local macro_rules | `(tactic| wtm_at "use") => `(tactic| ((with_reducible refine' use__law_draw ?u0 ?u1 ?u2 (fun dn dH dn0 dn1 de db => ?uq)); (case u0 => wtm_at "bag"); (case u1 => wtm_at "pos"); (case u2 => wtm_at "szb")))
local macro_rules | `(tactic| wtm_at "pos") => `(tactic| first | assumption | decide | omega)
local macro_rules | `(tactic| wtm_at "oneof") => `(tactic| ((with_reducible refine' use__law_one_of ?u0 ?u1 ?u2 ?u3 ?uq); (case u0 => wtm_at "bag"); (case u1 => wtm_at "dp"); (case u2 => exact Nat.le_of_ble_eq_true rfl); (case u3 => exact Nat.le_of_ble_eq_true rfl)))
section
variable {P : Program} {w : World} {K : PySem.W.Frag} {mg : Str → Option Value} {base : Heap} {H H' : Hp} {Q : VK} {E : XK} {v1 v2 v3 v4 : V} {x1 y1 w1 x2 y2 w2 x3 y3 w3 x4 y4 w4 : Int}
def sp__law_shared (K : PySem.W.Frag) : Sp := A2 fun v1 v2 H Q => ∃ a b, v1 = .int a ∧ v2 = .int b ∧ Q (.int (gd a b)) H
theorem gd_abs2 (a b : Int) : gd (if a < 0 then -a else a) (if b < 0 then -b else b) = gd a b := by
  unfold gd
  have h : ∀ c : Int, (if c < 0 then -c else c).natAbs = c.natAbs := fun c => by split <;> omega
  rw [h, h]
abbrev s__law_shared : Stmt := top 34
theorem sc__law_shared : FnScope ["_law_one", "_law_other", "_law_big", "_law_low"] ["_law_one", "_law_other"] (defScope s__law_shared) := ⟨rfl, rfl, rfl, by decide +kernel, rfl, by decide +kernel, by decide +kernel⟩
theorem ok__law_shared {f : Addr} {fd : FuncData} (F : FnP K "_law_shared" s__law_shared f fd) (g : G mg)   : FnOk P w K mg base CX0 1 f fd ["_law_one", "_law_other"] (sp__law_shared K) := by
  have nd := sc__law_shared.nd
  refine F.ok sc__law_shared (fun vs H Q E h => h.len) (fun cdv A outer s H vs Q E hr h => ?_)
  obtain ⟨v1, v2, rfl, h⟩ := h
  refine ⟨_, PSs.nox (pss_cons (ps_par (i := 2) (j := 3) (by rfl) nd rfl rfl (by decide) rfl rfl (pa_cons (pe_callB call_qabs (by rfl) g.f_abs boot_abs (pa_cons (pv 0) pa_nil)) (pa_cons (pe_callB call_qabs (by rfl) g.f_abs boot_abs (pa_cons (pv 1) pa_nil)) pa_nil)) (by rfl)) (pss_cons (ps_while PassesOwn.never (pt_cmpR op_gt (pv 3) pe_int (nomark _)) (pss_one (ps_par (i := 2) (j := 3) (by rfl) nd rfl rfl (by decide) rfl rfl (pa_cons (pv 3) (pa_cons (pe_op op_modN (pe_callTy call_qint1 (by rfl) g.f_int boot_int (pa_cons (pv 2) pa_nil)) (pv 3)) pa_nil)) (by rfl)))) (pss_one (ps_ret (pv 2))))), ?_⟩
  obtain ⟨a, b, rfl, rfl, q⟩ := h
  wtm_at "go0"
  refine i_tw (fun m σ H' => ∃ a' b' : Int, m = b'.natAbs ∧ σ = [some (.int a), some (.int b), some (.int a'), some (.int b')] ∧ H' = H ∧ 0 ≤ a' ∧ 0 ≤ b' ∧ gd a' b' = gd a b) _ ⟨_, _, rfl, rfl, rfl, by split <;> omega, by split <;> omega, gd_abs2 a b⟩ ?_
  rintro m σ H' ⟨a', b', rfl, rfl, rfl, ha, hb, hg⟩
  wtm_at "go"
  · rename_i hb0
    have nb : b' ≠ 0 := by omega
    refine ⟨fun σ2 H2 => σ2 = [some (.int a), some (.int b), some (.int b'), some (.int (a'.fmod b'))] ∧ H2 = H', ?_, ?_⟩
    · rintro σ2 H2 ⟨rfl, rfl⟩
      exact ⟨_, fmod_lt a' nb, b', a'.fmod b', rfl, rfl, rfl, hb, Int.fmod_nonneg_of_pos _ hb0, (gd_step a' b').trans hg⟩
    · wtm_at "go"
      exact ⟨rfl, rfl⟩
  · rename_i hb0
    dsimp only
    have e0 : b' = 0 := by omega
    subst e0
    have e : a' = gd a b := by
      rw [← hg]
      unfold gd
      rw [Int.natAbs_zero, Nat.gcd_zero_right]
      omega
    rw [e]
    exact q
theorem use__law_shared {a b : Int} (q : Q (.int (gd a b)) H) : sp__law_shared K [.int a, .int b] H Q E := ⟨_, _, rfl, _, _, rfl, rfl, q⟩
local macro_rules | `(tactic| wtm_at "use") => `(tactic| (with_reducible refine' use__law_shared ?_))
def sp__law_point (K : PySem.W.Frag) : Sp := A3 fun v1 v2 v3 H Q => ∃ x y w : Int, v1 = .int x ∧ v2 = .int y ∧ v3 = .int w ∧ 0 < w ∧ Sz 9000 w ∧ Ret K (rp x y w) H Q
abbrev s__law_point : Stmt := top 35
theorem sc__law_point : FnScope ["_law_x", "_law_y", "_law_w", "_law_shared_here"] ["_law_x", "_law_y", "_law_w"] (defScope s__law_point) := ⟨rfl, rfl, rfl, by decide +kernel, rfl, by decide +kernel, by decide +kernel⟩
theorem ok__law_point {f : Addr} {fd : FuncData} (F : FnP K "_law_point" s__law_point f fd) (g : G mg) (c__law_shared : Cl P w K mg base 1 "_law_shared" (sp__law_shared K))  : FnOk P w K mg base CX0 2 f fd ["_law_x", "_law_y", "_law_w"] (sp__law_point K) := by
  have nd := sc__law_point.nd
  refine F.ok sc__law_point (fun vs H Q E h => h.len) (fun cdv A outer s H vs Q E hr h => ?_)
  obtain ⟨v1, v2, v3, rfl, h⟩ := h
  refine ⟨_, PSs.nox (pss_cons (ps_set (i := 3) nd rfl (Or.inl rfl) (pc c__law_shared hr (by decide) (by rfl) (pa_cons (pc c__law_shared hr (by decide) (by rfl) (pa_cons (pv 0) (pa_cons (pv 1) pa_nil))) (pa_cons (pv 2) pa_nil)))) (pss_one (ps_ret (pe_tup (pa_cons (pe_op op_fdivX (pv 0) (pv 3)) (pa_cons (pe_op op_fdivX (pv 1) (pv 3)) (pa_cons (pe_op op_fdivX (pv 2) (pv 3)) pa_nil))))))), ?_⟩
  obtain ⟨x, y, w', rfl, rfl, rfl, hw, sw, q⟩ := h
  have hw0 : w' ≠ 0 := by omega
  have s1 : Sz 9000 (gd (gd x y) w') := sz_le sw (gd_abs hw0)
  have e1 : sg (gd x y) w' = gd (gd x y) w' := by
    unfold sg
    rw [if_neg (by omega)]
  have n1 : gd (gd x y) w' ≠ 0 := by
    rw [← e1]
    exact sg_ne hw0
  unfold rp at q
  rw [e1] at q
  wtm_at "go0"
  all_goals wtm_at "fin"
theorem use__law_point {x y w : Int} (hw : 0 < w) (sw : Sz 9000 w) (q : ∀ v H2, Ex H H2 → Dp K H2 v (rp x y w) → Q v H2) : sp__law_point K [.int x, .int y, .int w] H Q E := ⟨_, _, _, rfl, _, _, _, rfl, rfl, rfl, hw, sw, q⟩
abbrev fr (sx sy sw ux uy vx vy : Int) : PyData := .tuple [.list [.int sx, .int sy, .int sw], .tuple [.int ux, .int uy], .tuple [.int vx, .int vy]]
structure FrOk (sx sy sw ux uy vx vy : Int) : Prop where
  w : 1 ≤ sw
  det : ux * vy ≠ uy * vx
  s1 : Sz 80 sx
  s2 : Sz 80 sy
  s3 : Sz 80 sw
  s4 : Sz 80 ux
  s5 : Sz 80 uy
  s6 : Sz 80 vx
  s7 : Sz 80 vy
def sp__law_frame (K : PySem.W.Frag) : Sp := A1 fun v1 H Q => ∃ b, v1 = .ref b ∧ Bag b H ∧ ∀ sx sy sw ux uy vx vy v H2, FrOk sx sy sw ux uy vx vy → Ex (hid b H) (hid b H2) → Bag b H2 → Dp K (hid b H2) v (fr sx sy sw ux uy vx vy) → Q v H2
theorem sz80 {n s : Int} (h0 : 0 ≤ n) (h1 : n < 2 * s + 1) (hs : s ≤ 100000000000000000000) : Sz 80 (n - s) := by
  unfold Sz
  omega
local macro_rules | `(tactic| wtm_at "sz") => `(tactic| (with_reducible refine' sz80 ?s0 ?s1 ?s2; (case s0 => assumption); (case s1 => assumption); (case s2 => assumption)))
abbrev s__law_frame : Stmt := top 36
theorem sc__law_frame : FnScope ["_law_bag_here", "_law_size", "_law_spot_here", "_law_one", "_law_two"] ["_law_bag_here"] (defScope s__law_frame) := ⟨rfl, rfl, rfl, by decide +kernel, rfl, by decide +kernel, by decide +kernel⟩
theorem ok__law_frame {f : Addr} {fd : FuncData} (F : FnP K "_law_frame" s__law_frame f fd) (g : G mg) (c__law_one_of : Cl P w K mg base 2 "_law_one_of" (sp__law_one_of K)) (c__law_draw : Cl P w K mg base 1 "_law_draw" (sp__law_draw K))  : FnOk P w K mg base CX0 3 f fd ["_law_bag_here"] (sp__law_frame K) := by
  have nd := sc__law_frame.nd
  refine F.ok sc__law_frame (fun vs H Q E h => h.len) (fun cdv A outer s H vs Q E hr h => ?_)
  obtain ⟨v1, rfl, h⟩ := h
  refine ⟨_, PSs.nox (pss_cons (ps_set (i := 1) nd rfl (Or.inl rfl) (pc c__law_one_of hr (by decide) (by rfl) (pa_cons (pv 0) (pa_cons (pe_lst (pa_cons pe_int (pa_cons pe_int (pa_cons pe_int (pa_cons (pe_op op_powX pe_int pe_int) (pa_cons (pe_op op_powX pe_int pe_int) pa_nil)))))) pa_nil)))) (pss_cons (ps_set (i := 2) nd rfl (Or.inl rfl) (pe_lst (pa_cons (pe_op op_sub (pc c__law_draw hr (by decide) (by rfl) (pa_cons (pv 0) (pa_cons (pe_op op_add (pe_op op_mul pe_int (pv 1)) pe_int) pa_nil))) (pv 1)) (pa_cons (pe_op op_sub (pc c__law_draw hr (by decide) (by rfl) (pa_cons (pv 0) (pa_cons (pe_op op_add (pe_op op_mul pe_int (pv 1)) pe_int) pa_nil))) (pv 1)) (pa_cons (pe_op op_add pe_int (pc c__law_draw hr (by decide) (by rfl) (pa_cons (pv 0) (pa_cons (pc c__law_one_of hr (by decide) (by rfl) (pa_cons (pv 0) (pa_cons (pe_lst (pa_cons pe_int (pa_cons pe_int (pa_cons (pv 1) pa_nil)))) pa_nil))) pa_nil)))) pa_nil))))) (pss_cons (ps_set (i := 3) nd rfl (Or.inl rfl) (pe_tup (pa_cons (pe_op op_sub (pc c__law_draw hr (by decide) (by rfl) (pa_cons (pv 0) (pa_cons (pe_op op_add (pe_op op_mul pe_int (pv 1)) pe_int) pa_nil))) (pv 1)) (pa_cons (pe_op op_sub (pc c__law_draw hr (by decide) (by rfl) (pa_cons (pv 0) (pa_cons (pe_op op_add (pe_op op_mul pe_int (pv 1)) pe_int) pa_nil))) (pv 1)) pa_nil)))) (pss_cons (ps_set (i := 4) nd rfl (Or.inl rfl) (pe_tup (pa_cons (pe_op op_sub (pc c__law_draw hr (by decide) (by rfl) (pa_cons (pv 0) (pa_cons (pe_op op_add (pe_op op_mul pe_int (pv 1)) pe_int) pa_nil))) (pv 1)) (pa_cons (pe_op op_sub (pc c__law_draw hr (by decide) (by rfl) (pa_cons (pv 0) (pa_cons (pe_op op_add (pe_op op_mul pe_int (pv 1)) pe_int) pa_nil))) (pv 1)) pa_nil)))) (pss_cons (ps_if (pt_cmpR op_eq (pe_op op_mulX (pe_ix ix_tup (pv 3) pe_int (fun _ _ => rfl)) (pe_ix ix_tup (pv 4) pe_int (fun _ _ => rfl))) (pe_op op_mulX (pe_ix ix_tup (pv 3) pe_int (fun _ _ => rfl)) (pe_ix ix_tup (pv 4) pe_int (fun _ _ => rfl))) (nomark _)) (pss_one (ps_asg (pc c__law_one_of hr (by decide) (by rfl) (pa_cons (pv 0) (pa_cons (pe_lst (pa_cons (pe_tup (pa_cons (pe_tup (pa_cons pe_int (pa_cons pe_int pa_nil))) (pa_cons (pe_tup (pa_cons pe_int (pa_cons pe_int pa_nil))) pa_nil))) (pa_cons (pe_tup (pa_cons (pe_tup (pa_cons pe_int (pa_cons pe_int pa_nil))) (pa_cons (pe_tup (pa_cons pe_int (pa_cons pe_int pa_nil))) pa_nil))) (pa_cons (pe_tup (pa_cons (pe_tup (pa_cons pe_int (pa_cons (pe_un un_neg pe_int) pa_nil))) (pa_cons (pe_tup (pa_cons pe_int (pa_cons pe_int pa_nil))) pa_nil))) (pa_cons (pe_tup (pa_cons (pe_tup (pa_cons (pe_un un_neg pe_int) (pa_cons pe_int pa_nil))) (pa_cons (pe_tup (pa_cons pe_int (pa_cons pe_int pa_nil))) pa_nil))) pa_nil))))) pa_nil))) (pg_tup (n := 2) (by rfl) (pgs_cons (pg_name (i := 3) nd rfl (Or.inl rfl)) (pgs_cons (pg_name (i := 4) nd rfl (Or.inl rfl)) pgs_nil))))) pss_nil) (pss_one (ps_ret (pe_tup (pa_cons (pv 2) (pa_cons (pv 3) (pa_cons (pv 4) pa_nil))))))))))), ?_⟩
  obtain ⟨b, rfl, hb, q⟩ := h
  wtm_at "gob0"
  wtm_at "oneof"
  intro d v H2 hd e2 b2 hv
  obtain ⟨s, rfl, hs1, hs2⟩ : ∃ s : Int, v = .int s ∧ 1 ≤ s ∧ s ≤ 100000000000000000000 := by
    simp only [List.mem_cons, List.not_mem_nil, or_false] at hd
    rcases hd with rfl | rfl | rfl | rfl | rfl <;> exact ⟨_, dpInt hv, by decide, by decide⟩
  have ss : Sz 80 s := by unfold Sz; omega
  wtm_at "gob"
  wtm_at "oneof"
  intro d2 v2 H3 hd2 e3 b3 hv2
  obtain ⟨s2, rfl, hs3, hs4⟩ : ∃ s2 : Int, v2 = .int s2 ∧ 1 ≤ s2 ∧ s2 ≤ 100000000000000000000 := by
    simp only [List.mem_cons, List.not_mem_nil, or_false] at hd2
    rcases hd2 with rfl | rfl | rfl
    · exact ⟨_, dpInt hv2, by decide, by decide⟩
    · exact ⟨_, dpInt hv2, by decide, by decide⟩
    · exact ⟨_, dpInt hv2, hs1, hs2⟩
  have ss2 : Sz 80 s2 := by unfold Sz; omega
  wtm_at "gob"
  · wtm_at "oneof"
    intro d3 v3 H4 hd3 e4 b4 hv3
    simp only [List.mem_cons, List.not_mem_nil, or_false] at hd3
    rcases hd3 with rfl | rfl | rfl | rfl <;> wtm_at "gob"
    all_goals (dsimp only; refine' q _ _ _ _ _ _ _ _ _ ?fok ?fex ?fbg ?fdp; (case fdp => wtm_at "dp"); (case fex => wtm_at "ex"); (case fbg => wtm_at "bag"); (case fok => exact ⟨by omega, by decide, by unfold Sz; omega, by unfold Sz; omega, by unfold Sz; omega, by unfold Sz; decide, by unfold Sz; decide, by unfold Sz; decide, by unfold Sz; decide⟩))
  · dsimp only
    refine' q _ _ _ _ _ _ _ _ _ ?fok ?fex ?fbg ?fdp
    (case fdp => wtm_at "dp")
    (case fex => wtm_at "ex")
    (case fbg => wtm_at "bag")
    (case fok => exact ⟨by omega, by assumption, by unfold Sz; omega, by unfold Sz; omega, by unfold Sz; omega, by unfold Sz; omega, by unfold Sz; omega, by unfold Sz; omega, by unfold Sz; omega⟩)
theorem use__law_frame {b : Addr} (hb : Bag b H) (q : ∀ sx sy sw ux uy vx vy v H2, FrOk sx sy sw ux uy vx vy → Ex (hid b H) (hid b H2) → Bag b H2 → Dp K (hid b H2) v (fr sx sy sw ux uy vx vy) → Q v H2) : sp__law_frame K [.ref b] H Q E := ⟨_, rfl, _, rfl, hb, q⟩
end
end Wb

namespace Wb
open PySem PySem.Spec PyProof.Rows L2
open Evl (Ex Ex.refl Ex.trans Ex.new)
local macro_rules | `(tactic| wtm_at "dp") => `(tactic| first | with_reducible assumption | with_reducible exact Dp.int _ | with_reducible exact Dp.bl _ | with_reducible exact Dp.str _ | with_reducible exact Dp.non | ((with_reducible refine' dpMono ?dme (by with_reducible assumption)); (case dme => wtm_at "ex")) | ((with_reducible refine' Dp.tup (Evl.st_of ?dph) ?dpa); (case dph => wtm_at "hs"); (case dpa => wtm_at "dpa")) | ((with_reducible refine' Dp.lst (Evl.sq_of ?dph) ?dpa); (case dph => wtm_at "hs"); (case dpa => wtm_at "dpa")))
local macro_rules | `(tactic| wtm_at "dpa") => `(tactic| first | with_reducible exact DpAll.nil | ((with_reducible refine' DpAll.cons ?dp1 ?dp2); (case dp1 => wtm_at "dp"); (case dp2 => wtm_at "dpa")) | with_reducible assumption | ((with_reducible refine' dpMonoA ?dme (by with_reducible assumption)); (case dme => wtm_at "ex")))
local macro_rules | `(tactic| wtm_at "sz") => `(tactic| first | with_reducible assumption | ((with_reducible refine' sz_mul ?sz1 ?sz2); (case sz1 => wtm_at "sz"); (case sz2 => wtm_at "sz")) | ((with_reducible refine' sz_add ?sz1 ?sz2); (case sz1 => wtm_at "sz"); (case sz2 => wtm_at "sz")) | ((with_reducible refine' sz_sub ?sz1 ?sz2); (case sz1 => wtm_at "sz"); (case sz2 => wtm_at "sz")) | ((with_reducible refine' sz_neg ?sz1); (case sz1 => wtm_at "sz")) | ((with_reducible refine' sz_div ?sz1); (case sz1 => wtm_at "sz")) | ((with_reducible refine' sz_fdiv ?sz1); (case sz1 => wtm_at "sz")) | exact sz_lit (by decide) | wtm_at "sz2")
local macro_rules | `(tactic| wtm_at "szb") => `(tactic| first | with_reducible assumption | ((with_reducible refine' sz_mono ?szb1 ?szb2); (case szb1 => wtm_at "sz"); (case szb2 => decide)))
local macro_rules | `(tactic| wtm_at "nz") => `(tactic| first | assumption | decide | omega)
local macro_rules | `(tactic| wtm_at "shaped") => `(tactic| first | rfl | decide)
local macro_rules | `(tactic| wtm_at "sset") => `(tactic| ((dsimp only [L2.wipe, List.set, List.set_cons_zero, List.set_cons_succ]) <;> exact rfl))
local macro_rules | `(tactic| wtm_at "nrm") => `(tactic| dsimp only [L2.start, L2.wipe, List.set, List.append, List.map, List.map_cons, List.map_nil, List.length_cons, List.length_nil, Nat.reduceAdd, Nat.reduceSub, List.reduceReplicate, List.replicate, List.cons_append, List.nil_append, List.set_cons_zero, List.set_cons_succ])
local macro_rules | `(tactic| wtm_at "st") => `(tactic| first
  | ((with_reducible refine' i_var (v := ?u0) ?u1 ?uq); (case u1 => exact rfl))
  | ((with_reducible refine' i_nameN ?u0 ?uq); (case u0 => wtm_at "sset"))
  | (with_reducible refine' i_op ?uq)
  | (with_reducible refine' i_c ?uq)
  | (with_reducible refine' i_I0 ?uq)
  | ((with_reducible refine' i_ixTI (i := ?u0) ?u1 ?u2 ?u3 ?uq); (case u1 => wtm_at "dp"); (case u2 => wtm_at "ex"); (case u3 => exact rfl))
  | ((with_reducible refine' i_ixT (d := ?u0) ?u1 ?u2 ?u3 (fun xu hxu => ?uq)); (case u1 => wtm_at "dp"); (case u2 => wtm_at "ex"); (case u3 => exact rfl))
  | ((with_reducible refine' i_mul ?u0 ?u1 ?u2 ?uq); (case u0 => wtm_at "sz"); (case u1 => wtm_at "sz"); (case u2 => first | decide | omega))
  | (with_reducible refine' i_seq ?uq)
  | (with_reducible refine' i_asg ?uq)
  | (with_reducible refine' i_ret ?uq)
  | (with_reducible refine' i_ifs ?uq)
  | (with_reducible refine' i_drop ?uq)
  | (with_reducible refine' i_next ?uq)
  | (with_reducible refine' i_cons ?uq)
  | (with_reducible refine' i_nil ?uq)
  | (with_reducible refine' i_cl ?uq)
  | (with_reducible refine' i_cb ?uq)
  | (with_reducible refine' i_tup ?uq)
  | (with_reducible refine' i_lst ?uq)
  | ((with_reducible refine' i_mkT ?u0 (fun np nH nhe nhp => ?uq)); (case u0 => exact Nat.le_of_ble_eq_true rfl))
  | (with_reducible refine' i_test ?uq)
  | (with_reducible refine' i_B ?uq)
  | (with_reducible refine' i_k ?uq)
  | (with_reducible refine' i_and ?uq)
  | (with_reducible refine' i_or ?uq)
  | (with_reducible refine' i_not ?uq)
  | (with_reducible refine' i_andV ?uq)
  | (with_reducible refine' i_orV ?uq)
  | (with_reducible refine' i_notV ?uq)
  | (with_reducible refine' i_if ?uq)
  | (with_reducible refine' i_un ?uq)
  | (with_reducible refine' i_U ?uq)
  | (with_reducible refine' i_iteT ?uq)
  | (with_reducible refine' i_iteF ?uq)
  | ((with_reducible refine' i_iteTr ?u0 ?uq); (case u0 => first | with_reducible rfl | decide | (simp only [dIsInt, dIsBool, dIsTup, dIsStr, dIsLst, Bool.not_true, Bool.not_false]; done)))
  | ((with_reducible refine' i_iteFr ?u0 ?uq); (case u0 => first | with_reducible rfl | decide | (simp only [dIsInt, dIsBool, dIsTup, dIsStr, dIsLst, Bool.not_true, Bool.not_false]; done)))
  | (with_reducible refine' i_ite (fun hif => ?uqa) (fun hif => ?uqb))
  | (with_reducible refine' i_iteN (fun hif => ?uqa) (fun hif => ?uqb))
  | (with_reducible refine' i_iteBN (fun hif => ?uqa) (fun hif => ?uqb))
  | (with_reducible refine' i_iteB (fun hif => ?uqa) (fun hif => ?uqb))
  | ((with_reducible refine' i_modN ?u0 ?uq); (case u0 => wtm_at "nz"))
  | ((with_reducible refine' i_fdX ?u0 ?u1 ?u2 ?uq); (case u0 => wtm_at "nz"); (case u1 => wtm_at "sz"); (case u2 => first | decide | omega))
  | ((with_reducible refine' i_pow ?u0 ?uq); (case u0 => exact ⟨by decide, by decide +kernel⟩))
  | (with_reducible refine' i_eqI ?uq)
  | (with_reducible refine' i_neI ?uq)
  | (with_reducible refine' i_gcd ?uq)
  | (with_reducible refine' i_qabs ?uq)
  | (with_reducible refine' i_qint ?uq)
  | (with_reducible refine' i_qintB ?uq)
  | (with_reducible refine' i_qmax2 ?uq)
  | (with_reducible refine' i_qmin2 ?uq)
  | (with_reducible refine' i_isB ?uq)
  | (with_reducible refine' i_notB ?uq)
  | (with_reducible refine' i_chain ?uq)
  | (with_reducible refine' i_qisN ?uq)
  | (with_reducible refine' i_qnotN ?uq)
  | (with_reducible refine' i_yes ?uq)
  | (with_reducible refine' i_par ?uq)
  | (with_reducible refine' i_par3 ?uq)
  | ((with_reducible refine' i_par2 ?u0 ?uq); (case u0 => wtm_at "sset"))
  | ((with_reducible refine' i_par33 ?u0 ?uq); (case u0 => wtm_at "sset"))
  | ((with_reducible refine' i_ixLI (i := ?u0) ?u1 ?u2 ?u3 ?uq); (case u1 => wtm_at "dp"); (case u2 => wtm_at "ex"); (case u3 => exact rfl))
  | ((with_reducible refine' i_ixL (d := ?u0) ?u1 ?u2 ?u3 (fun xu hxu => ?uq)); (case u1 => wtm_at "dp"); (case u2 => wtm_at "ex"); (case u3 => exact rfl))
  | ((with_reducible refine' i_qlenT ?u0 ?uq); (case u0 => wtm_at "dp"))
  | ((with_reducible refine' i_qlenL ?u0 ?uq); (case u0 => wtm_at "dp"))
  | ((with_reducible refine' i_gtup ?u0 ?u1 ?u2 (fun gvs gdp => ?uq)); (case u0 => wtm_at "dp"); (case u1 => wtm_at "ex"); (case u2 => exact rfl))
  | ((with_reducible refine' i_glst ?u0 ?u1 ?u2 (fun gvs gdp => ?uq)); (case u0 => wtm_at "dp"); (case u1 => wtm_at "ex"); (case u2 => exact rfl))
  | ((with_reducible refine' i_gconsI ?u0 (fun gr gh => ?uq)); (case u0 => with_reducible assumption))
  | ((with_reducible refine' i_gconsA ?u0 (fun gv gr gh1 gh2 => ?uq)); (case u0 => with_reducible assumption))
  | ((with_reducible refine' i_gnilA ?u0 ?uq); (case u0 => with_reducible assumption))
  | ((with_reducible refine' i_isiI ?u0 ?uq); (case u0 => wtm_at "dp"))
  | ((with_reducible refine' i_isiB ?u0 ?uq); (case u0 => wtm_at "dp"))
  | ((with_reducible refine' i_isiT ?u0 ?uq); (case u0 => wtm_at "dp"))
  | ((with_reducible refine' i_isiS ?u0 ?uq); (case u0 => wtm_at "dp"))
  | ((with_reducible refine' i_isiL ?u0 ?uq); (case u0 => wtm_at "dp"))
  | ((with_reducible refine' i_eqD ?u0 ?u1 ?u2 ?u3 ?uq); (case u0 => wtm_at "dp"); (case u1 => wtm_at "dp"); (case u2 => wtm_at "shaped"); (case u3 => wtm_at "shaped"))
  | ((with_reducible refine' i_neD ?u0 ?u1 ?u2 ?u3 ?uq); (case u0 => wtm_at "dp"); (case u1 => wtm_at "dp"); (case u2 => wtm_at "shaped"); (case u3 => wtm_at "shaped"))
  | wtm_at "st2"
  | wtm_at "use")
local macro_rules | `(tactic| wtm_at "go") => `(tactic| repeat' (wtm_at "st"))
local macro_rules | `(tactic| wtm_at "go0") => `(tactic| ((try dsimp only [L2.cxOf, L2.Cx.nox, L2.Cx.wish, L2.Cx.tr, L2.Cx.blk]); (try wtm_at "nrm"); wtm_at "go"))
local macro_rules | `(tactic| wtm_at "fin") => `(tactic| ((try dsimp only); first | with_reducible assumption | assumption | ((with_reducible refine' Ret.use ?rur ?rue ?rud); (case rur => with_reducible assumption); (case rue => wtm_at "ex"); (case rud => wtm_at "dp"))))
local macro_rules | `(tactic| wtm_at "ex") => `(tactic| first | with_reducible assumption | with_reducible exact Ex.refl _ | with_reducible exact ex_hid | ((with_reducible refine' Ex.trans ?exe (by with_reducible assumption)); (case exe => wtm_at "ex")) | ((with_reducible refine' Ex.trans ?exe (hid_ex (by with_reducible assumption))); (case exe => wtm_at "ex")) | ((with_reducible refine' Ex.trans ?exe ex_hid); (case exe => wtm_at "ex")))
local macro_rules | `(tactic| wtm_at "bag") => `(tactic| first | with_reducible assumption | ((with_reducible refine' Bag.mono ?bgm (by with_reducible assumption)); (case bgm => wtm_at "bag")))
local macro_rules | `(tactic| wtm_at "hs") => `(tactic| first | with_reducible assumption | ((with_reducible refine' hid_tup ?hb ?hp); (case hp => with_reducible assumption); (case hb => wtm_at "bag")) | ((with_reducible refine' hid_new ?hb ?hn ?hp); (case hp => with_reducible assumption); (case hn => with_reducible assumption); (case hb => wtm_at "bag")) | ((with_reducible refine' ex_at ?exe (by with_reducible assumption)); (case exe => wtm_at "ex")))
local macro_rules | `(tactic| wtm_at "st2") => `(tactic| first
  | ((with_reducible refine' i_mulC ?u0 ?uq); (case u0 => first | exact cmul_l (by decide) | exact cmul_r (by decide)))
  | ((with_reducible refine' i_ixLr (v := ?u0) ?u1 ?u2 ?uq); (case u1 => with_reducible assumption); (case u2 => exact rfl))
  | (with_reducible refine' i_sub ?uq)
  | ((with_reducible refine' i_mkL ?u0 (fun np nH nfr nhe nhp => ?uq)); (case u0 => exact Nat.le_of_ble_eq_true rfl))
  | ((with_reducible refine' i_setL (n := ?u0) ?u1 ?u2 (fun sH sh se => ?uq)); (case u1 => with_reducible assumption); (case u2 => exact rfl))
  | (with_reducible refine' i_sl ?uq)
  | (with_reducible refine' i_nopart ?uq)
  | (with_reducible refine' i_part ?uq)
  | (with_reducible refine' i_part1 ?uq))
local macro_rules | `(tactic| wtm_at "sz2") => `(tactic| ((with_reducible refine' sz_fmod ?sz1 ?sz2); (case sz1 => wtm_at "nz"); (case sz2 => wtm_at "sz")))
local macro_rules | `(tactic| wtm_at "stb") => `(tactic| first
  | ((with_reducible refine' i_mkTB ?u0 ?u1 (fun np nH nhe nhb nhp => ?uq)); (case u0 => exact Nat.le_of_ble_eq_true rfl); (case u1 => wtm_at "bag"))
  | ((with_reducible refine' i_mkLB ?u0 ?u1 (fun np nH nfr nhe nhb nhp => ?uq)); (case u0 => exact Nat.le_of_ble_eq_true rfl); (case u1 => wtm_at "bag"))
  | wtm_at "st")
local macro_rules | `(tactic| wtm_at "gob") => `(tactic| repeat' (wtm_at "stb"))
local macro_rules | `(tactic| wtm_at "gob0") => `(tactic| ((try dsimp only [L2.cxOf, L2.Cx.nox, L2.Cx.wish, L2.Cx.tr, L2.Cx.blk]); (try wtm_at "nrm"); wtm_at "gob"))
local macro_rules | `(tactic| wtm_at "use") => `(tactic| ((with_reducible refine' use_turn_in ?u0 ?u1 ?u2 ?u3 ?u4 ?u5 ?u6 ?u7 ?u8 ?u9 ?u10 ?u11 ?uq); (case u0 => wtm_at "dp"); (case u1 => wtm_at "dp"); (case u2 => wtm_at "dp"); (case u3 => wtm_at "szb"); (case u4 => wtm_at "szb"); (case u5 => wtm_at "szb"); (case u6 => wtm_at "szb"); (case u7 => wtm_at "szb"); (case u8 => wtm_at "szb"); (case u9 => wtm_at "szb"); (case u10 => wtm_at "szb"); (case u11 => wtm_at "szb")))
local macro_rules | `(tactic| wtm_at "use") => `(tactic| ((with_reducible refine' use_step_from ?u0 ?u1 ?u2 ?u3 ?u4 ?u5 ?u6 ?u7 (fun ur uH ue ud => ?uq)); (case u0 => wtm_at "dp"); (case u1 => wtm_at "dp"); (case u2 => wtm_at "szb"); (case u3 => wtm_at "szb"); (case u4 => wtm_at "szb"); (case u5 => wtm_at "szb"); (case u6 => wtm_at "szb"); (case u7 => wtm_at "szb")))
local macro_rules | `(tactic| wtm_at "use") => `(tactic| (with_reducible refine' use_shared_of ?uq))
local macro_rules | `(tactic| wtm_at "use") => `(tactic| ((with_reducible refine' use_is_integer ?u0 ?uq); (case u0 => wtm_at "dp")))
local macro_rules | `(tactic| wtm_at "use") => `(tactic| ((with_reducible refine' use_is_between_in ?u0 ?u1 ?u2 ?u3 ?u4 ?u5 ?u6 ?u7 ?u8 ?u9 ?u10 ?u11 (fun uH ue => ?uq)); (case u0 => wtm_at "dp"); (case u1 => wtm_at "dp"); (case u2 => wtm_at "dp"); (case u3 => wtm_at "szb"); (case u4 => wtm_at "szb"); (case u5 => wtm_at "szb"); (case u6 => wtm_at "szb"); (case u7 => wtm_at "szb"); (case u8 => wtm_at "szb"); (case u9 => wtm_at "szb"); (case u10 => wtm_at "szb"); (case u11 => wtm_at "szb")))
local macro_rules | `(tactic| wtm_at "use") => `(tactic| ((with_reducible refine' use_line_through ?u0 ?u1 ?u2 ?u3 ?u4 ?u5 ?u6 ?u7 (fun ur uH ue ud => ?uq)); (case u0 => wtm_at "dp"); (case u1 => wtm_at "dp"); (case u2 => wtm_at "szb"); (case u3 => wtm_at "szb"); (case u4 => wtm_at "szb"); (case u5 => wtm_at "szb"); (case u6 => wtm_at "szb"); (case u7 => wtm_at "szb")))
local macro_rules | `(tactic| wtm_at "use") => `(tactic| ((with_reducible refine' use_reduced_point ?u0 ?u1 (fun ur uH ue ud => ?uq)); (case u0 => wtm_at "nz"); (case u1 => wtm_at "szb")))
local macro_rules | `(tactic| wtm_at "use") => `(tactic| ((with_reducible refine' use_reduced ?u0 ?u1 (fun ur uH ue ud => ?uq)); (case u0 => wtm_at "nz"); (case u1 => wtm_at "szb")))
local macro_rules | `(tactic| wtm_at "use") => `(tactic| ((with_reducible refine' use_is_point ?u0 (fun uH ue => ?uq)); (case u0 => wtm_at "dp")))
local macro_rules | `(tactic| wtm_at "use") => `(tactic| ((with_reducible refine' use_line_meet_in ?u0 ?u1 ?u2 ?u3 ?u4 ?u5 ?u6 ?u7 ?u8 ?u9 ?u10 ?u11 ?u12 ?u13 ?u14 ?u15 (fun ur uH ue ud => ?uq)); (case u0 => wtm_at "dp"); (case u1 => wtm_at "dp"); (case u2 => wtm_at "dp"); (case u3 => wtm_at "dp"); (case u4 => wtm_at "szb"); (case u5 => wtm_at "szb"); (case u6 => wtm_at "szb"); (case u7 => wtm_at "szb"); (case u8 => wtm_at "szb"); (case u9 => wtm_at "szb"); (case u10 => wtm_at "szb"); (case u11 => wtm_at "szb"); (case u12 => wtm_at "szb"); (case u13 => wtm_at "szb"); (case u14 => wtm_at "szb"); (case u15 => wtm_at "szb")))
local macro_rules | `(tactic| wtm_at "use") => `(tactic| ((with_reducible refine' use_middle_in ?u0 ?u1 ?u2 ?u3 ?u4 ?u5 ?u6 ?u7 ?u8 ?u9 (fun ur uH ue ud => ?uq)); (case u0 => wtm_at "dp"); (case u1 => wtm_at "dp"); (case u2 => wtm_at "szb"); (case u3 => wtm_at "szb"); (case u4 => wtm_at "szb"); (case u5 => wtm_at "szb"); (case u6 => wtm_at "szb"); (case u7 => wtm_at "szb"); (case u8 => wtm_at "nz"); (case u9 => wtm_at "nz")))
local macro_rules | `(tactic| wtm_at "use") => `(tactic| ((with_reducible refine' use_square_in ?u0 ?u1 ?u2 ?u3 ?u4 ?u5 ?u6 ?u7 ?u8 ?u9 (fun ur uH ue ud => ?uq)); (case u0 => wtm_at "dp"); (case u1 => wtm_at "dp"); (case u2 => wtm_at "szb"); (case u3 => wtm_at "szb"); (case u4 => wtm_at "szb"); (case u5 => wtm_at "szb"); (case u6 => wtm_at "szb"); (case u7 => wtm_at "szb"); (case u8 => wtm_at "nz"); (case u9 => wtm_at "nz")))
local macro_rules | `(tactic| wtm_at "use") => `(tactic| ((with_reducible refine' use_is_side ?u0 (fun uH ue => ?uq)); (case u0 => wtm_at "dp")))
local macro_rules | `(tactic| wtm_at "use") => `(tactic| (with_reducible refine' use_require_integer ?uq))
local macro_rules | `(tactic| wtm_at "use") => `(tactic| ((with_reducible refine' use_require_point ?u0 ?u1 (fun uH ue => ?uq)); (case u0 => wtm_at "dp"); (case u1 => with_reducible assumption)))
local macro_rules | `(tactic| wtm_at "use") => `(tactic| ((with_reducible refine' use_require_points ?u0 ?u1 ?u2 (fun uH ue => ?uq)); (case u0 => wtm_at "dpa"); (case u1 => exact Nat.le_of_ble_eq_true rfl); (case u2 => wtm_at "pts")))
local macro_rules | `(tactic| wtm_at "pts") => `(tactic| first | with_reducible exact pts4 (by assumption) (by assumption) (by assumption) (by assumption) | with_reducible exact pts3 (by assumption) (by assumption) (by assumption) | with_reducible exact pts2 (by assumption) (by assumption))
local macro_rules | `(tactic| wtm_at "use") => `(tactic| ((with_reducible refine' use_turn_of ?u0 ?u1 ?u2 ?u3 ?u4 ?u5 ?u6 ?u7 ?u8 ?u9 ?u10 ?u11 ?u12 ?u13 ?u14 (fun uH ue => ?uq)); (case u0 => wtm_at "dp"); (case u1 => wtm_at "dp"); (case u2 => wtm_at "dp"); (case u3 => wtm_at "szb"); (case u4 => wtm_at "szb"); (case u5 => wtm_at "szb"); (case u6 => wtm_at "szb"); (case u7 => wtm_at "szb"); (case u8 => wtm_at "szb"); (case u9 => wtm_at "szb"); (case u10 => wtm_at "szb"); (case u11 => wtm_at "szb"); (case u12 => with_reducible assumption); (case u13 => with_reducible assumption); (case u14 => with_reducible assumption)))
local macro_rules | `(tactic| wtm_at "use") => `(tactic| ((with_reducible refine' use_is_between ?u0 ?u1 ?u2 ?u3 ?u4 ?u5 ?u6 ?u7 ?u8 ?u9 ?u10 ?u11 ?u12 ?u13 ?u14 (fun uH ue => ?uq)); (case u0 => wtm_at "dp"); (case u1 => wtm_at "dp"); (case u2 => wtm_at "dp"); (case u3 => wtm_at "szb"); (case u4 => wtm_at "szb"); (case u5 => wtm_at "szb"); (case u6 => wtm_at "szb"); (case u7 => wtm_at "szb"); (case u8 => wtm_at "szb"); (case u9 => wtm_at "szb"); (case u10 => wtm_at "szb"); (case u11 => wtm_at "szb"); (case u12 => with_reducible assumption); (case u13 => with_reducible assumption); (case u14 => with_reducible assumption)))
local macro_rules | `(tactic| wtm_at "use") => `(tactic| ((with_reducible refine' use_middle_of ?u0 ?u1 ?u2 ?u3 ?u4 ?u5 ?u6 ?u7 ?u8 ?u9 (fun ur uH ue ud => ?uq)); (case u0 => wtm_at "dp"); (case u1 => wtm_at "dp"); (case u2 => wtm_at "szb"); (case u3 => wtm_at "szb"); (case u4 => wtm_at "szb"); (case u5 => wtm_at "szb"); (case u6 => wtm_at "szb"); (case u7 => wtm_at "szb"); (case u8 => with_reducible assumption); (case u9 => with_reducible assumption)))
local macro_rules | `(tactic| wtm_at "use") => `(tactic| ((with_reducible refine' use_square_between ?u0 ?u1 ?u2 ?u3 ?u4 ?u5 ?u6 ?u7 ?u8 ?u9 (fun ur uH ue ud => ?uq)); (case u0 => wtm_at "dp"); (case u1 => wtm_at "dp"); (case u2 => wtm_at "szb"); (case u3 => wtm_at "szb"); (case u4 => wtm_at "szb"); (case u5 => wtm_at "szb"); (case u6 => wtm_at "szb"); (case u7 => wtm_at "szb"); (case u8 => with_reducible assumption); (case u9 => with_reducible assumption)))
local macro_rules | `(tactic| wtm_at "use") => `(tactic| ((with_reducible refine' use_point_of ?u0 ?u1 (fun ur uH ue ud => ?uq)); (case u0 => wtm_at "nz"); (case u1 => wtm_at "szb")))
local macro_rules | `(tactic| wtm_at "use") => `(tactic| ((with_reducible refine' use__law_draw ?u0 ?u1 ?u2 (fun dn dH dn0 dn1 de db => ?uq)); (case u0 => wtm_at "bag"); (case u1 => wtm_at "pos"); (case u2 => wtm_at "szb")))
local macro_rules | `(tactic| wtm_at "pos") => `(tactic| first | assumption | decide | omega)
local macro_rules | `(tactic| wtm_at "oneof") => `(tactic| ((with_reducible refine' use__law_one_of ?u0 ?u1 ?u2 ?u3 ?uq); (case u0 => wtm_at "bag"); (case u1 => wtm_at "dp"); (case u2 => exact Nat.le_of_ble_eq_true rfl); (case u3 => exact Nat.le_of_ble_eq_true rfl)))
local macro_rules | `(tactic| wtm_at "use") => `(tactic| ((with_reducible refine' use__law_point ?u0 ?u1 (fun ur uH ue ud => ?uq)); (case u0 => wtm_at "pos"); (case u1 => wtm_at "szb")))
local macro_rules | `(tactic| wtm_at "use") => `(tactic| (with_reducible refine' use__law_shared ?_))
theorem gd_dvd_l (a b : Int) : gd a b ∣ a := by
  unfold gd
  exact Int.natAbs_dvd_natAbs.mp (by rw [Int.natAbs_natCast]; exact Nat.gcd_dvd_left _ _)
theorem gd_dvd_r (a b : Int) : gd a b ∣ b := by
  unfold gd
  exact Int.natAbs_dvd_natAbs.mp (by rw [Int.natAbs_natCast]; exact Nat.gcd_dvd_right _ _)
theorem sg_dvd {g w z : Int} (h : gd g w ∣ z) : sg g w ∣ z := by
  unfold sg
  split
  · exact Int.neg_dvd.mpr h
  · exact h
theorem fdiv_mul_of_dvd {z s : Int} (h : s ∣ z) : z.fdiv s * s = z := by
  obtain ⟨c, rfl⟩ := h
  by_cases hs : s = 0
  · subst hs
    simp
  · rw [Int.mul_fdiv_cancel_left _ hs, Int.mul_comm]
/-- what a reduced point is -/
structure Lo (x y w X Y W : Int) : Prop where
  ex : x * W = X * w
  ey : y * W = Y * w
  hw : 1 ≤ w
  g1 : gd (gd x y) w = 1
theorem gd_mul (k a b : Int) : gd (k * a) (k * b) = (k.natAbs : Int) * gd a b := by
  unfold gd
  rw [Int.natAbs_mul, Int.natAbs_mul, Nat.gcd_mul_left]
  exact Int.natCast_mul _ _
theorem gd_abs_l (a b : Int) : gd ((a.natAbs : Int)) b = gd a b := by
  unfold gd
  rw [Int.natAbs_natCast]
theorem gd3_mul (s x y w : Int) : gd (gd (s * x) (s * y)) (s * w) = (s.natAbs : Int) * gd (gd x y) w := by
  rw [gd_mul]
  have k2 : gd ((s.natAbs : Int) * gd x y) (s * w) = gd (s * gd x y) (s * w) := by
    unfold gd
    rw [Int.natAbs_mul, Int.natAbs_natCast, ← Int.natAbs_mul]
  rw [k2, gd_mul]
theorem rp_lo {X Y W : Int} (hW : W ≠ 0) : Lo (X.fdiv (sg (gd X Y) W)) (Y.fdiv (sg (gd X Y) W)) (W.fdiv (sg (gd X Y) W)) X Y W := by
  have hs : sg (gd X Y) W ≠ 0 := sg_ne hW
  have d1 : sg (gd X Y) W ∣ X := sg_dvd (Int.dvd_trans (gd_dvd_l _ _) (gd_dvd_l X Y))
  have d2 : sg (gd X Y) W ∣ Y := sg_dvd (Int.dvd_trans (gd_dvd_l _ _) (gd_dvd_r X Y))
  have d3 : sg (gd X Y) W ∣ W := sg_dvd (gd_dvd_r _ _)
  have e1 := fdiv_mul_of_dvd d1
  have e2 := fdiv_mul_of_dvd d2
  have e3 := fdiv_mul_of_dvd d3
  generalize hx : X.fdiv (sg (gd X Y) W) = x at *
  generalize hy : Y.fdiv (sg (gd X Y) W) = y at *
  generalize hw : W.fdiv (sg (gd X Y) W) = w at *
  have hg : gd (gd X Y) W = ((sg (gd X Y) W).natAbs : Int) * gd (gd x y) w := by
    have k := gd3_mul (sg (gd X Y) W) x y w
    rw [Int.mul_comm _ x, Int.mul_comm _ y, Int.mul_comm _ w, e1, e2, e3] at k
    exact k
  have hgs : gd (gd X Y) W = ((sg (gd X Y) W).natAbs : Int) := by
    have hn : (0 : Int) ≤ gd (gd X Y) W := by unfold gd; omega
    unfold sg
    split
    · rw [Int.natAbs_neg]
      omega
    · omega
  have hpos : (0 : Int) < ((sg (gd X Y) W).natAbs : Int) := by omega
  have g1 : gd (gd x y) w = 1 := by
    rw [hgs] at hg
    have : ((sg (gd X Y) W).natAbs : Int) * 1 = ((sg (gd X Y) W).natAbs : Int) * gd (gd x y) w := by rw [Int.mul_one]; exact hg
    exact (Int.eq_of_mul_eq_mul_left (by omega) this).symm
  have hsw : 0 < w := by
    have hW2 : (0 < W ∧ 0 < sg (gd X Y) W) ∨ (W < 0 ∧ sg (gd X Y) W < 0) := by
      have hn : (0 : Int) ≤ gd (gd X Y) W := by unfold gd; omega
      rcases Int.lt_or_gt_of_ne hW with h | h
      · right
        refine ⟨h, ?_⟩
        unfold sg at hs ⊢
        rw [if_pos h] at hs ⊢
        omega
      · left
        refine ⟨h, ?_⟩
        unfold sg at hs ⊢
        rw [if_neg (by omega)] at hs ⊢
        omega
    rcases hW2 with ⟨a, b⟩ | ⟨a, b⟩
    · rcases Int.lt_trichotomy w 0 with h | h | h
      · have := Int.mul_neg_of_neg_of_pos h b
        omega
      · subst h
        omega
      · exact h
    · rcases Int.lt_trichotomy w 0 with h | h | h
      · have := Int.mul_pos_of_neg_of_neg h b
        omega
      · subst h
        omega
      · exact h
  refine ⟨?_, ?_, by omega, g1⟩
  · rw [← e1, ← e3]; grind
  · rw [← e2, ← e3]; grind
theorem dvd_of_three {k x y w : Int} {m : Int} (g1 : gd (gd x y) w = 1) (h1 : m ∣ k * x) (h2 : m ∣ k * y) (h3 : m ∣ k * w) : m ∣ k := by
  have a1 : m.natAbs ∣ k.natAbs * x.natAbs := by rw [← Int.natAbs_mul]; exact Int.natAbs_dvd_natAbs.mpr h1
  have a2 : m.natAbs ∣ k.natAbs * y.natAbs := by rw [← Int.natAbs_mul]; exact Int.natAbs_dvd_natAbs.mpr h2
  have a3 : m.natAbs ∣ k.natAbs * w.natAbs := by rw [← Int.natAbs_mul]; exact Int.natAbs_dvd_natAbs.mpr h3
  have b := Nat.dvd_gcd (Nat.dvd_gcd a1 a2) a3
  rw [Nat.gcd_mul_left, Nat.gcd_mul_left] at b
  have e : Nat.gcd (Nat.gcd x.natAbs y.natAbs) w.natAbs = 1 := by
    have h := g1
    unfold gd at h
    rw [Int.natAbs_natCast] at h
    omega
  rw [e, Nat.mul_one] at b
  exact Int.natAbs_dvd_natAbs.mp b
/-- a reduced point is one -/
theorem lo_same {x y w x' y' w' : Int} (h1 : 1 ≤ w) (g1 : gd (gd x y) w = 1) (h2 : 1 ≤ w') (g2 : gd (gd x' y') w' = 1) (ex : x * w' = x' * w) (ey : y * w' = y' * w) : x = x' ∧ y = y' ∧ w = w' := by
  have d1 : w ∣ w' := dvd_of_three (k := w') g1 ⟨x', by rw [Int.mul_comm w' x, ex, Int.mul_comm]⟩ ⟨y', by rw [Int.mul_comm w' y, ey, Int.mul_comm]⟩ ⟨w', by rw [Int.mul_comm]⟩
  have d2 : w' ∣ w := dvd_of_three (k := w) g2 ⟨x, by rw [Int.mul_comm w x', ← ex, Int.mul_comm]⟩ ⟨y, by rw [Int.mul_comm w y', ← ey, Int.mul_comm]⟩ ⟨w, by rw [Int.mul_comm]⟩
  have e : w = w' := by
    have l1 := Int.le_of_dvd (by omega) d1
    have l2 := Int.le_of_dvd (by omega) d2
    omega
  subst e
  refine ⟨Int.eq_of_mul_eq_mul_right (by omega) ex, Int.eq_of_mul_eq_mul_right (by omega) ey, rfl⟩
theorem Lo.same {x y w x' y' w' X Y W X' Y' W' : Int} (a : Lo x y w X Y W) (b : Lo x' y' w' X' Y' W') (hW : W ≠ 0) (hW' : W' ≠ 0) (hX : X * W' = X' * W) (hY : Y * W' = Y' * W) : x = x' ∧ y = y' ∧ w = w' := by
  refine lo_same a.hw a.g1 b.hw b.g1 ?_ ?_
  · have h : (W * W') * (x * w') = (W * W') * (x' * w) := by
      have := a.ex; have := b.ex
      grind
    exact Int.eq_of_mul_eq_mul_left (Int.mul_ne_zero hW hW') h
  · have h : (W * W') * (y * w') = (W * W') * (y' * w) := by
      have := a.ey; have := b.ey
      grind
    exact Int.eq_of_mul_eq_mul_left (Int.mul_ne_zero hW hW') h
section
variable {P : Program} {w : World} {K : PySem.W.Frag} {mg : Str → Option Value} {base : Heap} {H H' : Hp} {Q : VK} {E : XK} {v1 v2 v3 v4 : V} {x1 y1 w1 x2 y2 w2 x3 y3 w3 x4 y4 w4 : Int}
variable {sx sy sw ux uy vx vy : Int}
abbrev fx (sx sw ux vx a b o : Int) : Int := sx * o + (a * ux + b * vx) * sw
theorem lo_point {x y w X Y W : Int} (h : Lo x y w X Y W) : isPoint (pt x y w) = true := by
  show (decide (1 ≤ w) && decide (gd (gd x y) w = 1)) = true
  rw [decide_eq_true h.hw, decide_eq_true h.g1]
  rfl
abbrev rs (sx sy sw ux uy vx vy a b o : Int) : PyData := rp (fx sx sw ux vx a b o) (fx sy sw uy vy a b o) (sw * o)
def sp__law_spot (K : PySem.W.Frag) : Sp := A4 fun v1 v2 v3 v4 H Q => ∃ sx sy sw ux uy vx vy a b o : Int, v2 = .int a ∧ v3 = .int b ∧ v4 = .int o ∧ Dp K H v1 (fr sx sy sw ux uy vx vy) ∧ FrOk sx sy sw ux uy vx vy ∧ 0 < o ∧ Sz 34 a ∧ Sz 34 b ∧ Sz 4 o ∧ Ret K (rs sx sy sw ux uy vx vy a b o) H Q
abbrev s__law_spot : Stmt := top 37
theorem sc__law_spot : FnScope ["_law_frame_here", "_law_part", "_law_other", "_law_over", "_law_spot_here", "_law_one", "_law_two", "_law_x", "_law_y"] ["_law_frame_here", "_law_part", "_law_other", "_law_over"] (defScope s__law_spot) := ⟨rfl, rfl, rfl, by decide +kernel, rfl, by decide +kernel, by decide +kernel⟩
theorem ok__law_spot {f : Addr} {fd : FuncData} (F : FnP K "_law_spot" s__law_spot f fd) (g : G mg) (c__law_point : Cl P w K mg base 2 "_law_point" (sp__law_point K))  : FnOk P w K mg base CX0 3 f fd ["_law_frame_here", "_law_part", "_law_other", "_law_over"] (sp__law_spot K) := by
  have nd := sc__law_spot.nd
  refine F.ok sc__law_spot (fun vs H Q E h => h.len) (fun cdv A outer s H vs Q E hr h => ?_)
  obtain ⟨v1, v2, v3, v4, rfl, h⟩ := h
  refine ⟨_, PSs.nox (pss_cons (ps_asg (pv 0) (pg_tup (n := 3) (by rfl) (pgs_cons (pg_name (i := 4) nd rfl (Or.inl rfl)) (pgs_cons (pg_name (i := 5) nd rfl (Or.inl rfl)) (pgs_cons (pg_name (i := 6) nd rfl (Or.inl rfl)) pgs_nil))))) (pss_cons (ps_set (i := 7) nd rfl (Or.inl rfl) (pe_op op_add (pe_op op_mulX (pe_ix ix_list (pv 4) pe_int (fun _ _ => rfl)) (pv 3)) (pe_op op_mulX (pe_op op_add (pe_op op_mulX (pv 1) (pe_ix ix_tup (pv 5) pe_int (fun _ _ => rfl))) (pe_op op_mulX (pv 2) (pe_ix ix_tup (pv 6) pe_int (fun _ _ => rfl)))) (pe_ix ix_list (pv 4) pe_int (fun _ _ => rfl))))) (pss_cons (ps_set (i := 8) nd rfl (Or.inl rfl) (pe_op op_add (pe_op op_mulX (pe_ix ix_list (pv 4) pe_int (fun _ _ => rfl)) (pv 3)) (pe_op op_mulX (pe_op op_add (pe_op op_mulX (pv 1) (pe_ix ix_tup (pv 5) pe_int (fun _ _ => rfl))) (pe_op op_mulX (pv 2) (pe_ix ix_tup (pv 6) pe_int (fun _ _ => rfl)))) (pe_ix ix_list (pv 4) pe_int (fun _ _ => rfl))))) (pss_one (ps_ret (pc c__law_point hr (by decide) (by rfl) (pa_cons (pv 7) (pa_cons (pv 8) (pa_cons (pe_op op_mulX (pe_ix ix_list (pv 4) pe_int (fun _ _ => rfl)) (pv 3)) pa_nil))))))))), ?_⟩
  obtain ⟨sx, sy, sw, ux, uy, vx, vy, a, b, o, rfl, rfl, rfl, hd, fo, ho, sa, sb, so, q⟩ := h
  obtain ⟨hsw, hdet, s1, s2, s3, s4, s5, s6, s7⟩ := fo
  have hW : 0 < sw * o := Int.mul_pos (by omega) ho
  have hW0 : sw * o ≠ 0 := by omega
  wtm_at "go0"
  all_goals wtm_at "fin"
theorem use__law_spotD {a b o : Int} (hd : Dp K H v1 (fr sx sy sw ux uy vx vy)) (fo : FrOk sx sy sw ux uy vx vy) (ho : 0 < o) (sa : Sz 34 a) (sb : Sz 34 b) (so : Sz 4 o)
    (q : ∀ v H2, Ex H H2 → Dp K H2 v (rs sx sy sw ux uy vx vy a b o) → Q v H2) : sp__law_spot K [v1, .int a, .int b, .int o] H Q E :=
  ⟨_, _, _, _, rfl, _, _, _, _, _, _, _, _, _, _, rfl, rfl, rfl, hd, fo, ho, sa, sb, so, q⟩
/-- what a spot of the frame is -/
structure Spt (sx sy sw ux uy vx vy a b o x y w : Int) : Prop where
  lo : Lo x y w (fx sx sw ux vx a b o) (fx sy sw uy vy a b o) (sw * o)
  p : isPoint (pt x y w) = true
  s1 : Sz B0 x
  s2 : Sz B0 y
  s3 : Sz B0 w
theorem spt_of {a b o : Int} (fo : FrOk sx sy sw ux uy vx vy) (ho : 0 < o) (sa : Sz 34 a) (sb : Sz 34 b) (so : Sz 4 o) : ∃ x y w, rs sx sy sw ux uy vx vy a b o = pt x y w ∧ Spt sx sy sw ux uy vx vy a b o x y w := by
  obtain ⟨hsw, hdet, s1, s2, s3, s4, s5, s6, s7⟩ := fo
  have hW : 0 < sw * o := Int.mul_pos (by omega) ho
  have hW0 : sw * o ≠ 0 := by omega
  have l := rp_lo (X := fx sx sw ux vx a b o) (Y := fx sy sw uy vy a b o) hW0
  exact ⟨_, _, _, rfl, l, lo_point l, by wtm_at "szb", by wtm_at "szb", by wtm_at "szb"⟩
theorem use__law_spot {a b o : Int} (hd : Dp K H v1 (fr sx sy sw ux uy vx vy)) (fo : FrOk sx sy sw ux uy vx vy) (ho : 0 < o) (sa : Sz 34 a) (sb : Sz 34 b) (so : Sz 4 o)
    (q : ∀ x y w v H2, Ex H H2 → Spt sx sy sw ux uy vx vy a b o x y w → isPoint (pt x y w) = true → Sz B0 x → Sz B0 y → Sz B0 w → Dp K H2 v (pt x y w) → Q v H2) : sp__law_spot K [v1, .int a, .int b, .int o] H Q E := by
  obtain ⟨x, y, w, e, t⟩ := spt_of fo ho sa sb so
  exact use__law_spotD hd fo ho sa sb so fun v H2 e2 hv => q x y w v H2 e2 t t.p t.s1 t.s2 t.s3 (e ▸ hv)
def sp__law_sense (K : PySem.W.Frag) : Sp := A1 fun v1 H Q => ∃ sx sy sw ux uy vx vy : Int, Dp K H v1 (fr sx sy sw ux uy vx vy) ∧ FrOk sx sy sw ux uy vx vy ∧ Q (.int (sgn (ux * vy - uy * vx))) H
abbrev s__law_sense : Stmt := top 38
theorem sc__law_sense : FnScope ["_law_frame_here"] ["_law_frame_here"] (defScope s__law_sense) := ⟨rfl, rfl, rfl, by decide +kernel, rfl, by decide +kernel, by decide +kernel⟩
theorem ok__law_sense {f : Addr} {fd : FuncData} (F : FnP K "_law_sense" s__law_sense f fd) (g : G mg)   : FnOk P w K mg base CX0 1 f fd ["_law_frame_here"] (sp__law_sense K) := by
  have nd := sc__law_sense.nd
  refine F.ok sc__law_sense (fun vs H Q E h => h.len) (fun cdv A outer s H vs Q E hr h => ?_)
  obtain ⟨v1, rfl, h⟩ := h
  refine ⟨_, PSs.nox (pss_one (ps_ret (pe_ifExp (pt_cmpR op_gt (pe_op op_mulX (pe_ix ix_tup (pe_ix ix_tup (pv 0) pe_int (fun _ _ => rfl)) pe_int (fun _ _ => rfl)) (pe_ix ix_tup (pe_ix ix_tup (pv 0) pe_int (fun _ _ => rfl)) pe_int (fun _ _ => rfl))) (pe_op op_mulX (pe_ix ix_tup (pe_ix ix_tup (pv 0) pe_int (fun _ _ => rfl)) pe_int (fun _ _ => rfl)) (pe_ix ix_tup (pe_ix ix_tup (pv 0) pe_int (fun _ _ => rfl)) pe_int (fun _ _ => rfl))) (nomark _)) pe_int (pe_un un_neg pe_int)))), ?_⟩
  obtain ⟨sx, sy, sw, ux, uy, vx, vy, hd, fo, q⟩ := h
  obtain ⟨hsw, hdet, s1, s2, s3, s4, s5, s6, s7⟩ := fo
  wtm_at "go0"
  · rename_i hlt
    dsimp only
    have e : sgn (ux * vy - uy * vx) = 1 := by
      unfold sgn
      rw [if_pos (by omega)]
    rw [e] at q
    exact q
  · rename_i hlt
    dsimp only
    have e : sgn (ux * vy - uy * vx) = -1 := by
      unfold sgn
      rw [if_neg (by omega), if_pos (by omega)]
    rw [e] at q
    exact q
theorem use__law_sense (hd : Dp K H v1 (fr sx sy sw ux uy vx vy)) (fo : FrOk sx sy sw ux uy vx vy) (q : Q (.int (sgn (ux * vy - uy * vx))) H) : sp__law_sense K [v1] H Q E := ⟨_, rfl, _, _, _, _, _, _, _, hd, fo, q⟩
def sp__law_sign (K : PySem.W.Frag) : Sp := A1 fun v1 H Q => ∃ n : Int, v1 = .int n ∧ Q (.int (sgn n)) H
abbrev s__law_sign : Stmt := top 39
theorem sc__law_sign : FnScope ["_law_number"] ["_law_number"] (defScope s__law_sign) := ⟨rfl, rfl, rfl, by decide +kernel, rfl, by decide +kernel, by decide +kernel⟩
theorem ok__law_sign {f : Addr} {fd : FuncData} (F : FnP K "_law_sign" s__law_sign f fd) (g : G mg)   : FnOk P w K mg base CX0 1 f fd ["_law_number"] (sp__law_sign K) := by
  have nd := sc__law_sign.nd
  refine F.ok sc__law_sign (fun vs H Q E h => h.len) (fun cdv A outer s H vs Q E hr h => ?_)
  obtain ⟨v1, rfl, h⟩ := h
  refine ⟨_, PSs.nox (pss_one (ps_ret (pe_op op_sub (pe_callTy call_qint1 (by rfl) g.f_int boot_int (pa_cons (pe_cmpR op_gt (pv 0) pe_int (nomark _)) pa_nil)) (pe_callTy call_qint1 (by rfl) g.f_int boot_int (pa_cons (pe_cmpR op_lt (pv 0) pe_int (nomark _)) pa_nil))))), ?_⟩
  obtain ⟨n, rfl, q⟩ := h
  wtm_at "go0"
  dsimp only
  have e : ((if decide (0 < n) then 1 else 0) - (if decide (n < 0) then 1 else 0) : Int) = sgn n := by
    unfold sgn
    simp only [decide_eq_true_eq]
    split <;> split <;> omega
  rw [e]
  exact q
theorem use__law_sign {n : Int} (q : Q (.int (sgn n)) H) : sp__law_sign K [.int n] H Q E := ⟨_, rfl, _, rfl, q⟩
end
end Wb

namespace Wb
open PySem PySem.Spec PyProof.Rows L2
open Evl (Ex Ex.refl Ex.trans Ex.new)
local macro_rules | `(tactic| wtm_at "ex") => `(tactic| first | with_reducible assumption | with_reducible exact Ex.refl _ | ((with_reducible refine' Ex.trans ?exe (by with_reducible assumption)); (case exe => wtm_at "ex")))
local macro_rules | `(tactic| wtm_at "hs") => `(tactic| first | with_reducible assumption | ((with_reducible refine' ex_at ?exe (by with_reducible assumption)); (case exe => wtm_at "ex")))
local macro_rules | `(tactic| wtm_at "st2") => `(tactic| first
  | ((with_reducible refine' i_mulC ?u0 ?uq); (case u0 => first | exact cmul_l (by decide) | exact cmul_r (by decide)))
  | ((with_reducible refine' i_mkL ?u0 (fun np nH nfr nhe nhp => ?uq)); (case u0 => exact Nat.le_of_ble_eq_true rfl))
  | (with_reducible refine' i_sl ?uq)
  | (with_reducible refine' i_nopart ?uq)
  | (with_reducible refine' i_part ?uq)
  | (with_reducible refine' i_part1 ?uq))
local macro_rules | `(tactic| wtm_at "sz2") => `(tactic| ((with_reducible refine' sz_fmod ?sz1 ?sz2); (case sz1 => wtm_at "nz"); (case sz2 => wtm_at "sz")))
local macro_rules | `(tactic| wtm_at "dp") => `(tactic| first | with_reducible assumption | with_reducible exact Dp.int _ | with_reducible exact Dp.bl _ | with_reducible exact Dp.str _ | with_reducible exact Dp.non | ((with_reducible refine' dpMono ?dme (by with_reducible assumption)); (case dme => wtm_at "ex")) | ((with_reducible refine' Dp.tup (Evl.st_of ?dph) ?dpa); (case dph => wtm_at "hs"); (case dpa => wtm_at "dpa")) | ((with_reducible refine' Dp.lst (Evl.sq_of ?dph) ?dpa); (case dph => wtm_at "hs"); (case dpa => wtm_at "dpa")))
local macro_rules | `(tactic| wtm_at "dpa") => `(tactic| first | with_reducible exact DpAll.nil | ((with_reducible refine' DpAll.cons ?dp1 ?dp2); (case dp1 => wtm_at "dp"); (case dp2 => wtm_at "dpa")) | with_reducible assumption | ((with_reducible refine' dpMonoA ?dme (by with_reducible assumption)); (case dme => wtm_at "ex")))
local macro_rules | `(tactic| wtm_at "sz") => `(tactic| first | with_reducible assumption | ((with_reducible refine' sz_mul ?sz1 ?sz2); (case sz1 => wtm_at "sz"); (case sz2 => wtm_at "sz")) | ((with_reducible refine' sz_add ?sz1 ?sz2); (case sz1 => wtm_at "sz"); (case sz2 => wtm_at "sz")) | ((with_reducible refine' sz_sub ?sz1 ?sz2); (case sz1 => wtm_at "sz"); (case sz2 => wtm_at "sz")) | ((with_reducible refine' sz_neg ?sz1); (case sz1 => wtm_at "sz")) | ((with_reducible refine' sz_div ?sz1); (case sz1 => wtm_at "sz")) | ((with_reducible refine' sz_fdiv ?sz1); (case sz1 => wtm_at "sz")) | exact sz_lit (by decide) | wtm_at "sz2")
local macro_rules | `(tactic| wtm_at "szb") => `(tactic| first | with_reducible assumption | ((with_reducible refine' sz_mono ?szb1 ?szb2); (case szb1 => wtm_at "sz"); (case szb2 => decide)))
local macro_rules | `(tactic| wtm_at "nz") => `(tactic| first | assumption | decide | omega)
local macro_rules | `(tactic| wtm_at "shaped") => `(tactic| first | rfl | decide)
local macro_rules | `(tactic| wtm_at "sset") => `(tactic| ((dsimp only [L2.wipe, List.set, List.set_cons_zero, List.set_cons_succ]) <;> exact rfl))
local macro_rules | `(tactic| wtm_at "nrm") => `(tactic| dsimp only [L2.start, L2.wipe, List.set, List.append, List.map, List.map_cons, List.map_nil, List.length_cons, List.length_nil, Nat.reduceAdd, Nat.reduceSub, List.reduceReplicate, List.replicate, List.cons_append, List.nil_append, List.set_cons_zero, List.set_cons_succ])
local macro_rules | `(tactic| wtm_at "st") => `(tactic| first
  | ((with_reducible refine' i_var (v := ?u0) ?u1 ?uq); (case u1 => exact rfl))
  | ((with_reducible refine' i_nameN ?u0 ?uq); (case u0 => wtm_at "sset"))
  | (with_reducible refine' i_op ?uq)
  | (with_reducible refine' i_c ?uq)
  | (with_reducible refine' i_I0 ?uq)
  | ((with_reducible refine' i_ixTI (i := ?u0) ?u1 ?u2 ?u3 ?uq); (case u1 => wtm_at "dp"); (case u2 => wtm_at "ex"); (case u3 => exact rfl))
  | ((with_reducible refine' i_ixT (d := ?u0) ?u1 ?u2 ?u3 (fun xu hxu => ?uq)); (case u1 => wtm_at "dp"); (case u2 => wtm_at "ex"); (case u3 => exact rfl))
  | ((with_reducible refine' i_mul ?u0 ?u1 ?u2 ?uq); (case u0 => wtm_at "sz"); (case u1 => wtm_at "sz"); (case u2 => first | decide | omega))
  | (with_reducible refine' i_seq ?uq)
  | (with_reducible refine' i_asg ?uq)
  | (with_reducible refine' i_ret ?uq)
  | (with_reducible refine' i_ifs ?uq)
  | (with_reducible refine' i_drop ?uq)
  | (with_reducible refine' i_next ?uq)
  | (with_reducible refine' i_cons ?uq)
  | (with_reducible refine' i_nil ?uq)
  | (with_reducible refine' i_cl ?uq)
  | (with_reducible refine' i_cb ?uq)
  | (with_reducible refine' i_tup ?uq)
  | (with_reducible refine' i_lst ?uq)
  | ((with_reducible refine' i_mkT ?u0 (fun np nH nhe nhp => ?uq)); (case u0 => exact Nat.le_of_ble_eq_true rfl))
  | (with_reducible refine' i_test ?uq)
  | (with_reducible refine' i_B ?uq)
  | (with_reducible refine' i_k ?uq)
  | (with_reducible refine' i_and ?uq)
  | (with_reducible refine' i_or ?uq)
  | (with_reducible refine' i_not ?uq)
  | (with_reducible refine' i_andV ?uq)
  | (with_reducible refine' i_orV ?uq)
  | (with_reducible refine' i_notV ?uq)
  | (with_reducible refine' i_if ?uq)
  | (with_reducible refine' i_un ?uq)
  | (with_reducible refine' i_U ?uq)
  | (with_reducible refine' i_iteT ?uq)
  | (with_reducible refine' i_iteF ?uq)
  | ((with_reducible refine' i_iteTr ?u0 ?uq); (case u0 => first | with_reducible rfl | decide | (simp only [dIsInt, dIsBool, dIsTup, dIsStr, dIsLst, Bool.not_true, Bool.not_false]; done)))
  | ((with_reducible refine' i_iteFr ?u0 ?uq); (case u0 => first | with_reducible rfl | decide | (simp only [dIsInt, dIsBool, dIsTup, dIsStr, dIsLst, Bool.not_true, Bool.not_false]; done)))
  | (with_reducible refine' i_ite (fun hif => ?uqa) (fun hif => ?uqb))
  | (with_reducible refine' i_iteN (fun hif => ?uqa) (fun hif => ?uqb))
  | (with_reducible refine' i_iteBN (fun hif => ?uqa) (fun hif => ?uqb))
  | (with_reducible refine' i_iteB (fun hif => ?uqa) (fun hif => ?uqb))
  | ((with_reducible refine' i_modN ?u0 ?uq); (case u0 => wtm_at "nz"))
  | ((with_reducible refine' i_fdX ?u0 ?u1 ?u2 ?uq); (case u0 => wtm_at "nz"); (case u1 => wtm_at "sz"); (case u2 => first | decide | omega))
  | ((with_reducible refine' i_pow ?u0 ?uq); (case u0 => exact ⟨by decide, by decide +kernel⟩))
  | (with_reducible refine' i_eqI ?uq)
  | (with_reducible refine' i_neI ?uq)
  | (with_reducible refine' i_gcd ?uq)
  | (with_reducible refine' i_qabs ?uq)
  | (with_reducible refine' i_qint ?uq)
  | (with_reducible refine' i_qintB ?uq)
  | (with_reducible refine' i_qmax2 ?uq)
  | (with_reducible refine' i_qmin2 ?uq)
  | (with_reducible refine' i_isB ?uq)
  | (with_reducible refine' i_notB ?uq)
  | (with_reducible refine' i_chain ?uq)
  | (with_reducible refine' i_qisN ?uq)
  | (with_reducible refine' i_qnotN ?uq)
  | (with_reducible refine' i_yes ?uq)
  | (with_reducible refine' i_par ?uq)
  | (with_reducible refine' i_par3 ?uq)
  | ((with_reducible refine' i_par2 ?u0 ?uq); (case u0 => wtm_at "sset"))
  | ((with_reducible refine' i_par33 ?u0 ?uq); (case u0 => wtm_at "sset"))
  | ((with_reducible refine' i_ixLI (i := ?u0) ?u1 ?u2 ?u3 ?uq); (case u1 => wtm_at "dp"); (case u2 => wtm_at "ex"); (case u3 => exact rfl))
  | ((with_reducible refine' i_ixL (d := ?u0) ?u1 ?u2 ?u3 (fun xu hxu => ?uq)); (case u1 => wtm_at "dp"); (case u2 => wtm_at "ex"); (case u3 => exact rfl))
  | ((with_reducible refine' i_qlenT ?u0 ?uq); (case u0 => wtm_at "dp"))
  | ((with_reducible refine' i_qlenL ?u0 ?uq); (case u0 => wtm_at "dp"))
  | ((with_reducible refine' i_gtup ?u0 ?u1 ?u2 (fun gvs gdp => ?uq)); (case u0 => wtm_at "dp"); (case u1 => wtm_at "ex"); (case u2 => exact rfl))
  | ((with_reducible refine' i_glst ?u0 ?u1 ?u2 (fun gvs gdp => ?uq)); (case u0 => wtm_at "dp"); (case u1 => wtm_at "ex"); (case u2 => exact rfl))
  | ((with_reducible refine' i_gconsI ?u0 (fun gr gh => ?uq)); (case u0 => with_reducible assumption))
  | ((with_reducible refine' i_gconsA ?u0 (fun gv gr gh1 gh2 => ?uq)); (case u0 => with_reducible assumption))
  | ((with_reducible refine' i_gnilA ?u0 ?uq); (case u0 => with_reducible assumption))
  | ((with_reducible refine' i_isiI ?u0 ?uq); (case u0 => wtm_at "dp"))
  | ((with_reducible refine' i_isiB ?u0 ?uq); (case u0 => wtm_at "dp"))
  | ((with_reducible refine' i_isiT ?u0 ?uq); (case u0 => wtm_at "dp"))
  | ((with_reducible refine' i_isiS ?u0 ?uq); (case u0 => wtm_at "dp"))
  | ((with_reducible refine' i_isiL ?u0 ?uq); (case u0 => wtm_at "dp"))
  | ((with_reducible refine' i_eqD ?u0 ?u1 ?u2 ?u3 ?uq); (case u0 => wtm_at "dp"); (case u1 => wtm_at "dp"); (case u2 => wtm_at "shaped"); (case u3 => wtm_at "shaped"))
  | ((with_reducible refine' i_neD ?u0 ?u1 ?u2 ?u3 ?uq); (case u0 => wtm_at "dp"); (case u1 => wtm_at "dp"); (case u2 => wtm_at "shaped"); (case u3 => wtm_at "shaped"))
  | wtm_at "st2"
  | wtm_at "use")
local macro_rules | `(tactic| wtm_at "go") => `(tactic| repeat' (wtm_at "st"))
local macro_rules | `(tactic| wtm_at "go0") => `(tactic| ((try dsimp only [L2.cxOf, L2.Cx.nox, L2.Cx.wish, L2.Cx.tr, L2.Cx.blk]); (try wtm_at "nrm"); wtm_at "go"))
local macro_rules | `(tactic| wtm_at "fin") => `(tactic| ((try dsimp only); first | with_reducible assumption | assumption | ((with_reducible refine' Ret.use ?rur ?rue ?rud); (case rur => with_reducible assumption); (case rue => wtm_at "ex"); (case rud => wtm_at "dp"))))
local macro_rules | `(tactic| wtm_at "use") => `(tactic| ((with_reducible refine' use_turn_in ?u0 ?u1 ?u2 ?u3 ?u4 ?u5 ?u6 ?u7 ?u8 ?u9 ?u10 ?u11 ?uq); (case u0 => wtm_at "dp"); (case u1 => wtm_at "dp"); (case u2 => wtm_at "dp"); (case u3 => wtm_at "szb"); (case u4 => wtm_at "szb"); (case u5 => wtm_at "szb"); (case u6 => wtm_at "szb"); (case u7 => wtm_at "szb"); (case u8 => wtm_at "szb"); (case u9 => wtm_at "szb"); (case u10 => wtm_at "szb"); (case u11 => wtm_at "szb")))
local macro_rules | `(tactic| wtm_at "use") => `(tactic| ((with_reducible refine' use_step_from ?u0 ?u1 ?u2 ?u3 ?u4 ?u5 ?u6 ?u7 (fun ur uH ue ud => ?uq)); (case u0 => wtm_at "dp"); (case u1 => wtm_at "dp"); (case u2 => wtm_at "szb"); (case u3 => wtm_at "szb"); (case u4 => wtm_at "szb"); (case u5 => wtm_at "szb"); (case u6 => wtm_at "szb"); (case u7 => wtm_at "szb")))
local macro_rules | `(tactic| wtm_at "use") => `(tactic| (with_reducible refine' use_shared_of ?uq))
local macro_rules | `(tactic| wtm_at "use") => `(tactic| ((with_reducible refine' use_is_integer ?u0 ?uq); (case u0 => wtm_at "dp")))
local macro_rules | `(tactic| wtm_at "use") => `(tactic| ((with_reducible refine' use_is_between_in ?u0 ?u1 ?u2 ?u3 ?u4 ?u5 ?u6 ?u7 ?u8 ?u9 ?u10 ?u11 (fun uH ue => ?uq)); (case u0 => wtm_at "dp"); (case u1 => wtm_at "dp"); (case u2 => wtm_at "dp"); (case u3 => wtm_at "szb"); (case u4 => wtm_at "szb"); (case u5 => wtm_at "szb"); (case u6 => wtm_at "szb"); (case u7 => wtm_at "szb"); (case u8 => wtm_at "szb"); (case u9 => wtm_at "szb"); (case u10 => wtm_at "szb"); (case u11 => wtm_at "szb")))
local macro_rules | `(tactic| wtm_at "use") => `(tactic| ((with_reducible refine' use_line_through ?u0 ?u1 ?u2 ?u3 ?u4 ?u5 ?u6 ?u7 (fun ur uH ue ud => ?uq)); (case u0 => wtm_at "dp"); (case u1 => wtm_at "dp"); (case u2 => wtm_at "szb"); (case u3 => wtm_at "szb"); (case u4 => wtm_at "szb"); (case u5 => wtm_at "szb"); (case u6 => wtm_at "szb"); (case u7 => wtm_at "szb")))
local macro_rules | `(tactic| wtm_at "use") => `(tactic| ((with_reducible refine' use_reduced_point ?u0 ?u1 (fun ur uH ue ud => ?uq)); (case u0 => wtm_at "nz"); (case u1 => wtm_at "szb")))
local macro_rules | `(tactic| wtm_at "use") => `(tactic| ((with_reducible refine' use_reduced ?u0 ?u1 (fun ur uH ue ud => ?uq)); (case u0 => wtm_at "nz"); (case u1 => wtm_at "szb")))
local macro_rules | `(tactic| wtm_at "use") => `(tactic| ((with_reducible refine' use_is_point ?u0 (fun uH ue => ?uq)); (case u0 => wtm_at "dp")))
local macro_rules | `(tactic| wtm_at "use") => `(tactic| ((with_reducible refine' use_line_meet_in ?u0 ?u1 ?u2 ?u3 ?u4 ?u5 ?u6 ?u7 ?u8 ?u9 ?u10 ?u11 ?u12 ?u13 ?u14 ?u15 (fun ur uH ue ud => ?uq)); (case u0 => wtm_at "dp"); (case u1 => wtm_at "dp"); (case u2 => wtm_at "dp"); (case u3 => wtm_at "dp"); (case u4 => wtm_at "szb"); (case u5 => wtm_at "szb"); (case u6 => wtm_at "szb"); (case u7 => wtm_at "szb"); (case u8 => wtm_at "szb"); (case u9 => wtm_at "szb"); (case u10 => wtm_at "szb"); (case u11 => wtm_at "szb"); (case u12 => wtm_at "szb"); (case u13 => wtm_at "szb"); (case u14 => wtm_at "szb"); (case u15 => wtm_at "szb")))
local macro_rules | `(tactic| wtm_at "use") => `(tactic| ((with_reducible refine' use_middle_in ?u0 ?u1 ?u2 ?u3 ?u4 ?u5 ?u6 ?u7 ?u8 ?u9 (fun ur uH ue ud => ?uq)); (case u0 => wtm_at "dp"); (case u1 => wtm_at "dp"); (case u2 => wtm_at "szb"); (case u3 => wtm_at "szb"); (case u4 => wtm_at "szb"); (case u5 => wtm_at "szb"); (case u6 => wtm_at "szb"); (case u7 => wtm_at "szb"); (case u8 => wtm_at "nz"); (case u9 => wtm_at "nz")))
local macro_rules | `(tactic| wtm_at "use") => `(tactic| ((with_reducible refine' use_square_in ?u0 ?u1 ?u2 ?u3 ?u4 ?u5 ?u6 ?u7 ?u8 ?u9 (fun ur uH ue ud => ?uq)); (case u0 => wtm_at "dp"); (case u1 => wtm_at "dp"); (case u2 => wtm_at "szb"); (case u3 => wtm_at "szb"); (case u4 => wtm_at "szb"); (case u5 => wtm_at "szb"); (case u6 => wtm_at "szb"); (case u7 => wtm_at "szb"); (case u8 => wtm_at "nz"); (case u9 => wtm_at "nz")))
local macro_rules | `(tactic| wtm_at "use") => `(tactic| ((with_reducible refine' use_is_side ?u0 (fun uH ue => ?uq)); (case u0 => wtm_at "dp")))
local macro_rules | `(tactic| wtm_at "use") => `(tactic| (with_reducible refine' use_require_integer ?uq))
local macro_rules | `(tactic| wtm_at "use") => `(tactic| ((with_reducible refine' use_require_point ?u0 ?u1 (fun uH ue => ?uq)); (case u0 => wtm_at "dp"); (case u1 => with_reducible assumption)))
local macro_rules | `(tactic| wtm_at "use") => `(tactic| ((with_reducible refine' use_require_points ?u0 ?u1 ?u2 (fun uH ue => ?uq)); (case u0 => wtm_at "dpa"); (case u1 => exact Nat.le_of_ble_eq_true rfl); (case u2 => wtm_at "pts")))
local macro_rules | `(tactic| wtm_at "pts") => `(tactic| first | with_reducible exact pts4 (by assumption) (by assumption) (by assumption) (by assumption) | with_reducible exact pts3 (by assumption) (by assumption) (by assumption) | with_reducible exact pts2 (by assumption) (by assumption))
local macro_rules | `(tactic| wtm_at "use") => `(tactic| ((with_reducible refine' use_turn_of ?u0 ?u1 ?u2 ?u3 ?u4 ?u5 ?u6 ?u7 ?u8 ?u9 ?u10 ?u11 ?u12 ?u13 ?u14 (fun uH ue => ?uq)); (case u0 => wtm_at "dp"); (case u1 => wtm_at "dp"); (case u2 => wtm_at "dp"); (case u3 => wtm_at "szb"); (case u4 => wtm_at "szb"); (case u5 => wtm_at "szb"); (case u6 => wtm_at "szb"); (case u7 => wtm_at "szb"); (case u8 => wtm_at "szb"); (case u9 => wtm_at "szb"); (case u10 => wtm_at "szb"); (case u11 => wtm_at "szb"); (case u12 => with_reducible assumption); (case u13 => with_reducible assumption); (case u14 => with_reducible assumption)))
local macro_rules | `(tactic| wtm_at "use") => `(tactic| ((with_reducible refine' use_is_between ?u0 ?u1 ?u2 ?u3 ?u4 ?u5 ?u6 ?u7 ?u8 ?u9 ?u10 ?u11 ?u12 ?u13 ?u14 (fun uH ue => ?uq)); (case u0 => wtm_at "dp"); (case u1 => wtm_at "dp"); (case u2 => wtm_at "dp"); (case u3 => wtm_at "szb"); (case u4 => wtm_at "szb"); (case u5 => wtm_at "szb"); (case u6 => wtm_at "szb"); (case u7 => wtm_at "szb"); (case u8 => wtm_at "szb"); (case u9 => wtm_at "szb"); (case u10 => wtm_at "szb"); (case u11 => wtm_at "szb"); (case u12 => with_reducible assumption); (case u13 => with_reducible assumption); (case u14 => with_reducible assumption)))
local macro_rules | `(tactic| wtm_at "use") => `(tactic| ((with_reducible refine' use_middle_of ?u0 ?u1 ?u2 ?u3 ?u4 ?u5 ?u6 ?u7 ?u8 ?u9 (fun ur uH ue ud => ?uq)); (case u0 => wtm_at "dp"); (case u1 => wtm_at "dp"); (case u2 => wtm_at "szb"); (case u3 => wtm_at "szb"); (case u4 => wtm_at "szb"); (case u5 => wtm_at "szb"); (case u6 => wtm_at "szb"); (case u7 => wtm_at "szb"); (case u8 => with_reducible assumption); (case u9 => with_reducible assumption)))
local macro_rules | `(tactic| wtm_at "use") => `(tactic| ((with_reducible refine' use_square_between ?u0 ?u1 ?u2 ?u3 ?u4 ?u5 ?u6 ?u7 ?u8 ?u9 (fun ur uH ue ud => ?uq)); (case u0 => wtm_at "dp"); (case u1 => wtm_at "dp"); (case u2 => wtm_at "szb"); (case u3 => wtm_at "szb"); (case u4 => wtm_at "szb"); (case u5 => wtm_at "szb"); (case u6 => wtm_at "szb"); (case u7 => wtm_at "szb"); (case u8 => with_reducible assumption); (case u9 => with_reducible assumption)))
local macro_rules | `(tactic| wtm_at "use") => `(tactic| ((with_reducible refine' use_point_of ?u0 ?u1 (fun ur uH ue ud => ?uq)); (case u0 => wtm_at "nz"); (case u1 => wtm_at "szb")))
local macro_rules | `(tactic| wtm_at "use") => `(tactic| ((with_reducible refine' use__law_draw ?u0 ?u1 ?u2 (fun dn dH dn0 dn1 de db => ?uq)); (case u0 => wtm_at "bag"); (case u1 => wtm_at "pos"); (case u2 => wtm_at "szb")))
local macro_rules | `(tactic| wtm_at "pos") => `(tactic| first | assumption | decide | omega)
local macro_rules | `(tactic| wtm_at "oneof") => `(tactic| ((with_reducible refine' use__law_one_of ?u0 ?u1 ?u2 ?u3 ?uq); (case u0 => wtm_at "bag"); (case u1 => wtm_at "dp"); (case u2 => exact Nat.le_of_ble_eq_true rfl); (case u3 => exact Nat.le_of_ble_eq_true rfl)))
local macro_rules | `(tactic| wtm_at "use") => `(tactic| ((with_reducible refine' use__law_point ?u0 ?u1 (fun ur uH ue ud => ?uq)); (case u0 => wtm_at "pos"); (case u1 => wtm_at "szb")))
local macro_rules | `(tactic| wtm_at "use") => `(tactic| (with_reducible refine' use__law_shared ?_))
section
variable {P : Program} {w : World} {K : PySem.W.Frag} {mg : Str → Option Value} {base : Heap} {H H' : Hp} {Q : VK} {E : XK} {v1 v2 v3 v4 : V} {x1 y1 w1 x2 y2 w2 x3 y3 w3 x4 y4 w4 : Int}
variable {sx sy sw ux uy vx vy : Int}
local macro_rules | `(tactic| wtm_at "use") => `(tactic| ((with_reducible refine' use__law_spotD ?u0 ?u1 ?u2 ?u3 ?u4 ?u5 (fun pv pH pe pd => ?uq)); (case u0 => wtm_at "dp"); (case u1 => with_reducible assumption); (case u2 => wtm_at "pos"); (case u3 => wtm_at "szb"); (case u4 => wtm_at "szb"); (case u5 => wtm_at "szb")))
local macro_rules | `(tactic| wtm_at "use") => `(tactic| ((with_reducible refine' use__law_sense ?u0 ?u1 ?uq); (case u0 => wtm_at "dp"); (case u1 => with_reducible assumption)))
local macro_rules | `(tactic| wtm_at "use") => `(tactic| (with_reducible refine' use__law_sign ?uq))
theorem sgn_pos {s : Int} (h : 0 < s) : sgn s = 1 := by unfold sgn; rw [if_pos h]
theorem sgn_neg {s : Int} (h : s < 0) : sgn s = -1 := by unfold sgn; rw [if_neg (by omega), if_pos h]
theorem sgn_z0 : sgn 0 = 0 := rfl
theorem sgn_mul (a b : Int) : sgn (a * b) = sgn a * sgn b := by
  rcases Int.lt_trichotomy a 0 with h | h | h <;> rcases Int.lt_trichotomy b 0 with k | k | k
  · rw [sgn_neg h, sgn_neg k, sgn_pos (Int.mul_pos_of_neg_of_neg h k)]; rfl
  · subst k; rw [Int.mul_zero, sgn_z0, Int.mul_zero]
  · rw [sgn_neg h, sgn_pos k, sgn_neg (Int.mul_neg_of_neg_of_pos h k)]; rfl
  · subst h; rw [Int.zero_mul, sgn_z0, Int.zero_mul]
  · subst h; rw [Int.zero_mul, sgn_z0, Int.zero_mul]
  · subst h; rw [Int.zero_mul, sgn_z0, Int.zero_mul]
  · rw [sgn_pos h, sgn_neg k, sgn_neg (Int.mul_neg_of_pos_of_neg h k)]; rfl
  · subst k; rw [Int.mul_zero, sgn_z0, Int.mul_zero]
  · rw [sgn_pos h, sgn_pos k, sgn_pos (Int.mul_pos h k)]; rfl
theorem sgn_minus (a : Int) : sgn (-a) = -sgn a := by
  rw [show -a = (-1) * a by omega, sgn_mul]
  show (-1) * sgn a = _
  omega
theorem sz_sgn {s : Int} : Sz 1 (sgn s) := by
  unfold sgn Sz
  split
  · decide
  · split <;> decide
theorem turn_math {sx sy sw ux uy vx vy a b c d e f o x1 y1 w1 x2 y2 w2 x3 y3 w3 : Int} (hs : 1 ≤ sw) (ho : 0 < o) (l1 : Lo x1 y1 w1 (sx * o + (a * ux + b * vx) * sw) (sy * o + (a * uy + b * vy) * sw) (sw * o)) (l2 : Lo x2 y2 w2 (sx * o + (c * ux + d * vx) * sw) (sy * o + (c * uy + d * vy) * sw) (sw * o)) (l3 : Lo x3 y3 w3 (sx * o + (e * ux + f * vx) * sw) (sy * o + (e * uy + f * vy) * sw) (sw * o)) :
    sgn (det x1 y1 w1 x2 y2 w2 x3 y3 w3) = sgn ((c - a) * (f - b) - (d - b) * (e - a)) * sgn (ux * vy - uy * vx) := by
  have hW : 0 < sw * o := Int.mul_pos (by omega) ho
  have k1 : (sw * o) * (sw * o) * (sw * o) * det x1 y1 w1 x2 y2 w2 x3 y3 w3 = w1 * w2 * w3 * det (sx * o + (a * ux + b * vx) * sw) (sy * o + (a * uy + b * vy) * sw) (sw * o) (sx * o + (c * ux + d * vx) * sw) (sy * o + (c * uy + d * vy) * sw) (sw * o) (sx * o + (e * ux + f * vx) * sw) (sy * o + (e * uy + f * vy) * sw) (sw * o) := by
    have a1 := l1.ex; have a2 := l1.ey; have b1 := l2.ex; have b2 := l2.ey; have c1 := l3.ex; have c2 := l3.ey
    generalize sx * o + (a * ux + b * vx) * sw = X1 at *
    generalize sy * o + (a * uy + b * vy) * sw = Y1 at *
    generalize sx * o + (c * ux + d * vx) * sw = X2 at *
    generalize sy * o + (c * uy + d * vy) * sw = Y2 at *
    generalize sx * o + (e * ux + f * vx) * sw = X3 at *
    generalize sy * o + (e * uy + f * vy) * sw = Y3 at *
    generalize sw * o = W at *
    have e1 : W * W * W * det x1 y1 w1 x2 y2 w2 x3 y3 w3 = det (x1 * W) (y1 * W) (w1 * W) (x2 * W) (y2 * W) (w2 * W) (x3 * W) (y3 * W) (w3 * W) := by unfold det; grind
    rw [e1, a1, a2, b1, b2, c1, c2]
    unfold det
    grind
  have k2 : det (sx * o + (a * ux + b * vx) * sw) (sy * o + (a * uy + b * vy) * sw) (sw * o) (sx * o + (c * ux + d * vx) * sw) (sy * o + (c * uy + d * vy) * sw) (sw * o) (sx * o + (e * ux + f * vx) * sw) (sy * o + (e * uy + f * vy) * sw) (sw * o) = (sw * o) * (sw * sw) * (((c - a) * (f - b) - (d - b) * (e - a)) * (ux * vy - uy * vx)) := by unfold det; grind
  have h1 := l1.hw; have h2 := l2.hw; have h3 := l3.hw
  have p1 : 0 < w1 * w2 * w3 := Int.mul_pos (Int.mul_pos (by omega) (by omega)) (by omega)
  have p2 : 0 < (sw * o) * (sw * o) * (sw * o) := Int.mul_pos (Int.mul_pos hW hW) hW
  have p3 : 0 < (sw * o) * (sw * sw) := Int.mul_pos hW (Int.mul_pos (by omega) (by omega))
  have z1 := congrArg sgn k1
  rw [k2, sgn_mul, sgn_mul (w1 * w2 * w3), sgn_mul ((sw * o) * (sw * sw)), sgn_pos p1, sgn_pos p2, sgn_pos p3, Int.one_mul, Int.one_mul, Int.one_mul, sgn_mul] at z1
  exact z1
theorem det_rot (x1 y1 w1 x2 y2 w2 x3 y3 w3 : Int) : det x2 y2 w2 x3 y3 w3 x1 y1 w1 = det x1 y1 w1 x2 y2 w2 x3 y3 w3 := by unfold det; grind
theorem det_rot2 (x1 y1 w1 x2 y2 w2 x3 y3 w3 : Int) : det x3 y3 w3 x1 y1 w1 x2 y2 w2 = det x1 y1 w1 x2 y2 w2 x3 y3 w3 := by unfold det; grind
theorem det_sw1 (x1 y1 w1 x2 y2 w2 x3 y3 w3 : Int) : det x2 y2 w2 x1 y1 w1 x3 y3 w3 = -det x1 y1 w1 x2 y2 w2 x3 y3 w3 := by unfold det; grind
theorem det_sw2 (x1 y1 w1 x2 y2 w2 x3 y3 w3 : Int) : det x1 y1 w1 x3 y3 w3 x2 y2 w2 = -det x1 y1 w1 x2 y2 w2 x3 y3 w3 := by unfold det; grind
theorem det_sw3 (x1 y1 w1 x2 y2 w2 x3 y3 w3 : Int) : det x3 y3 w3 x2 y2 w2 x1 y1 w1 = -det x1 y1 w1 x2 y2 w2 x3 y3 w3 := by unfold det; grind
theorem det_eq1 (x1 y1 w1 x2 y2 w2 : Int) : det x1 y1 w1 x1 y1 w1 x2 y2 w2 = 0 := by unfold det; grind
theorem det_eq2 (x1 y1 w1 x2 y2 w2 : Int) : det x1 y1 w1 x2 y2 w2 x1 y1 w1 = 0 := by unfold det; grind
theorem eqv3 {a b c a' b' c' : Int} (h1 : a = a') (h2 : b = b') (h3 : c = c') : PyData.eqv (.list [.int a, .int b, .int c]) (.list [.int a', .int b', .int c']) = true := by
  subst h1 h2 h3
  simp [PyData.eqv, PyData.eqvAll]
theorem eqv_pt {x y w x' y' w' : Int} : PyData.eqv (pt x y w) (pt x' y' w') = true ↔ x = x' ∧ y = y' ∧ w = w' := by
  simp [PyData.eqv, PyData.eqvAll]
theorem eqv_ptF {x y w x' y' w' : Int} : PyData.eqv (pt x y w) (pt x' y' w') = false ↔ ¬ (x = x' ∧ y = y' ∧ w = w') := by
  rw [← eqv_pt, Bool.not_eq_true]
theorem eqv_t2 {x y x' y' : Int} : PyData.eqv (.tuple [.int x, .int y]) (.tuple [.int x', .int y']) = true ↔ x = x' ∧ y = y' := by
  simp [PyData.eqv, PyData.eqvAll]
theorem i_rep3 {l : Addr} {x : V} (h : H l = some (.lst [x])) (q : ∀ p H2, H p = none → Ex H H2 → H2 p = some (.lst [x, x, x]) → Q (.ref p) H2) : rRep (.ref l) (.int 3) H Q :=
  ⟨l, 3, [x], rfl, rfl, h, by decide, by decide, Evl.sz_of (Nat.le_of_ble_eq_true rfl), fun p hp => q p _ hp (ex_upd hp) upd_same⟩
local macro_rules | `(tactic| wtm_at "st2") => `(tactic| ((with_reducible refine' i_rep3 ?u0 (fun np nH nfr nhe nhp => ?uq)); (case u0 => with_reducible assumption)))
local macro_rules | `(tactic| wtm_at "sz2") => `(tactic| with_reducible exact sz_sgn)
def sp__law_turns_right (K : PySem.W.Frag) : Sp := A3 fun v1 v2 v3 H Q => ∃ sx sy sw ux uy vx vy a b c d e f o : Int, v3 = .int o ∧ Dp K H v1 (fr sx sy sw ux uy vx vy) ∧ Dp K H v2 (.list [.tuple [.int a, .int b], .tuple [.int c, .int d], .tuple [.int e, .int f]]) ∧ FrOk sx sy sw ux uy vx vy ∧ 0 < o ∧
  (Sz 34 a ∧ Sz 34 b ∧ Sz 34 c ∧ Sz 34 d ∧ Sz 34 e ∧ Sz 34 f) ∧ Sz 4 o ∧ Ret K (.bool true) H Q
abbrev s__law_turns_right : Stmt := top 40
theorem sc__law_turns_right : FnScope ["_law_frame_here", "_law_parts", "_law_over", "_law_a", "_law_b", "_law_c", "_law_d", "_law_e", "_law_f", "_law_due", "_law_one", "_law_two", "_law_three", "_law_told", "_law_back", "_law_part"] ["_law_frame_here", "_law_parts", "_law_over"] (defScope s__law_turns_right) := ⟨rfl, rfl, rfl, by decide +kernel, rfl, by decide +kernel, by decide +kernel⟩
theorem ok__law_turns_right {f : Addr} {fd : FuncData} (F : FnP K "_law_turns_right" s__law_turns_right f fd) (g : G mg) (c__law_sign : Cl P w K mg base 1 "_law_sign" (sp__law_sign K)) (c__law_sense : Cl P w K mg base 1 "_law_sense" (sp__law_sense K)) (c__law_spot : Cl P w K mg base 3 "_law_spot" (sp__law_spot K)) (c_turn_of : Cl P w K mg base 6 "turn_of" (sp_turn_of K))  : FnOk P w K mg base CX0 7 f fd ["_law_frame_here", "_law_parts", "_law_over"] (sp__law_turns_right K) := by
  have nd := sc__law_turns_right.nd
  refine F.ok sc__law_turns_right (fun vs H Q E h => h.len) (fun cdv A outer s H vs Q E hr h => ?_)
  obtain ⟨v1, v2, v3, rfl, h⟩ := h
  refine ⟨_, PSs.nox (pss_cons (ps_asg (pv 1) (pg_lst (n := 3) (by rfl) (pgs_cons (pg_tup (n := 2) (by rfl) (pgs_cons (pg_name (i := 3) nd rfl (Or.inl rfl)) (pgs_cons (pg_name (i := 4) nd rfl (Or.inl rfl)) pgs_nil))) (pgs_cons (pg_tup (n := 2) (by rfl) (pgs_cons (pg_name (i := 5) nd rfl (Or.inl rfl)) (pgs_cons (pg_name (i := 6) nd rfl (Or.inl rfl)) pgs_nil))) (pgs_cons (pg_tup (n := 2) (by rfl) (pgs_cons (pg_name (i := 7) nd rfl (Or.inl rfl)) (pgs_cons (pg_name (i := 8) nd rfl (Or.inl rfl)) pgs_nil))) pgs_nil))))) (pss_cons (ps_set (i := 9) nd rfl (Or.inl rfl) (pe_op op_mulX (pc c__law_sign hr (by decide) (by rfl) (pa_cons (pe_op op_sub (pe_op op_mulX (pe_op op_sub (pv 5) (pv 3)) (pe_op op_sub (pv 8) (pv 4))) (pe_op op_mulX (pe_op op_sub (pv 6) (pv 4)) (pe_op op_sub (pv 7) (pv 3)))) pa_nil)) (pc c__law_sense hr (by decide) (by rfl) (pa_cons (pv 0) pa_nil)))) (pss_cons (ps_asg (pe_lc (own := [("_law_part", 15)]) (g := gName 15) (by rfl) nd (pi_list (pv 1)) (blkOk_by (N := ["_law_frame_here", "_law_parts", "_law_over", "_law_a", "_law_b", "_law_c", "_law_d", "_law_e", "_law_f", "_law_due", "_law_one", "_law_two", "_law_three", "_law_told", "_law_back", "_law_part"]) (sc := defScope s__law_turns_right) (own := [("_law_part", 15)]) (by decide +kernel)) (fun _ _ _ _ _ => (pg_name (i := 15) nd rfl (Or.inl rfl))) (fun _ _ _ _ _ => pts_nil) (fun _ _ _ _ _ => (pc c__law_spot hr (by decide) (by rfl) (pa_cons (pv 0) (pa_cons (pe_ix (show IxR _ (rIxT K) from ix_tup) (pv 15) pe_int (fun _ _ => rfl)) (pa_cons (pe_ix (show IxR _ (rIxT K) from ix_tup) (pv 15) pe_int (fun _ _ => rfl)) (pa_cons (pv 2) pa_nil))))))) (pg_lst (n := 3) (by rfl) (pgs_cons (pg_name (i := 10) nd rfl (Or.inl rfl)) (pgs_cons (pg_name (i := 11) nd rfl (Or.inl rfl)) (pgs_cons (pg_name (i := 12) nd rfl (Or.inl rfl)) pgs_nil))))) (pss_cons (ps_set (i := 13) nd rfl (Or.inl rfl) (pe_lst (pa_cons (pc c_turn_of hr (by decide) (by rfl) (pa_cons (pv 10) (pa_cons (pv 11) (pa_cons (pv 12) pa_nil)))) (pa_cons (pc c_turn_of hr (by decide) (by rfl) (pa_cons (pv 11) (pa_cons (pv 12) (pa_cons (pv 10) pa_nil)))) (pa_cons (pc c_turn_of hr (by decide) (by rfl) (pa_cons (pv 12) (pa_cons (pv 10) (pa_cons (pv 11) pa_nil)))) pa_nil))))) (pss_cons (ps_set (i := 14) nd rfl (Or.inl rfl) (pe_lst (pa_cons (pc c_turn_of hr (by decide) (by rfl) (pa_cons (pv 11) (pa_cons (pv 10) (pa_cons (pv 12) pa_nil)))) (pa_cons (pc c_turn_of hr (by decide) (by rfl) (pa_cons (pv 10) (pa_cons (pv 12) (pa_cons (pv 11) pa_nil)))) (pa_cons (pc c_turn_of hr (by decide) (by rfl) (pa_cons (pv 12) (pa_cons (pv 11) (pa_cons (pv 10) pa_nil)))) pa_nil))))) (pss_one (ps_ret (pe_and (pe_cmpR (op_eqD hr.units) (pv 13) (pe_op op_rep (pe_lst (pa_cons (pv 9) pa_nil)) pe_int) (nomark _)) (pe_and (pe_cmpR (op_eqD hr.units) (pv 14) (pe_op op_rep (pe_lst (pa_cons (pe_op op_sub pe_int (pv 9)) pa_nil)) pe_int) (nomark _)) (pe_and (pe_cmpR op_eq (pc c_turn_of hr (by decide) (by rfl) (pa_cons (pv 10) (pa_cons (pv 10) (pa_cons (pv 11) pa_nil)))) pe_int (nomark _)) (pe_one (pe_cmpR op_eq (pc c_turn_of hr (by decide) (by rfl) (pa_cons (pv 10) (pa_cons (pv 11) (pa_cons (pv 10) pa_nil)))) pe_int (nomark _))))))))))))), ?_⟩
  obtain ⟨sx, sy, sw, ux, uy, vx, vy, a, b, c, d, e, f, o, rfl, hd, hp, fo, ho, ⟨sa, sb, sc, sd, se, sf⟩, so, q⟩ := h
  obtain ⟨x1, y1, w1, r1, t1⟩ := spt_of fo ho sa sb so
  obtain ⟨x2, y2, w2, r2, t2⟩ := spt_of fo ho sc sd so
  obtain ⟨x3, y3, w3, r3, t3⟩ := spt_of fo ho se sf so
  obtain ⟨p1, a1, a2, a3⟩ : isPoint (pt x1 y1 w1) = true ∧ Sz B0 x1 ∧ Sz B0 y1 ∧ Sz B0 w1 := ⟨t1.p, t1.s1, t1.s2, t1.s3⟩
  obtain ⟨p2, b1, b2, b3⟩ : isPoint (pt x2 y2 w2) = true ∧ Sz B0 x2 ∧ Sz B0 y2 ∧ Sz B0 w2 := ⟨t2.p, t2.s1, t2.s2, t2.s3⟩
  obtain ⟨p3, c1, c2, c3⟩ : isPoint (pt x3 y3 w3) = true ∧ Sz B0 x3 ∧ Sz B0 y3 ∧ Sz B0 w3 := ⟨t3.p, t3.s1, t3.s2, t3.s3⟩
  have hm := turn_math fo.w ho t1.lo t2.lo t3.lo
  wtm_at "go0"
  refine i_lcM ?_
  wtm_at "go"
  refine i_lcL (fun _ => true) (fun d => match d with | .tuple [.int a, .int b] => rs sx sy sw ux uy vx vy a b o | _ => .none) hp (Nat.le_of_ble_eq_true rfl) ?_ (fun x => rfl) ?_ ?_ ?_
  · intro d hd
    simp only [List.mem_cons, List.not_mem_nil, or_false] at hd
    rcases hd with rfl | rfl | rfl <;> rfl
  · intro u d H2 R e2 hd hu r
    wtm_at "go"
    exact r _ (Ex.refl _)
  · intro u d H2 R e2 hd _ hu r
    simp only [List.mem_cons, List.not_mem_nil, or_false] at hd
    rcases hd with rfl | rfl | rfl
    all_goals
      wtm_at "nrm"
      wtm_at "go"
      exact r _ _ (by wtm_at "ex") (by assumption)
  intro p H2 hn e2 ⟨acc, hacc, hdp⟩
  have hdp2 : DpAll K H2 acc [pt x1 y1 w1, pt x2 y2 w2, pt x3 y3 w3] := by rw [← r1, ← r2, ← r3]; exact hdp
  have hl : Dp K H2 (.ref p) (.list [pt x1 y1 w1, pt x2 y2 w2, pt x3 y3 w3]) := .lst (Evl.sq_of hacc) hdp2
  clear hdp hdp2
  wtm_at "go"
  · rw [det_eq2]
    exact q _ _ (by wtm_at "ex") (Dp.bl _)
  · rename_i hz
    rw [det_eq1] at hz
    exact absurd rfl hz
  · rename_i hz
    rw [det_sw1 x1 y1 w1 x2 y2 w2 x3 y3 w3, det_sw2 x1 y1 w1 x2 y2 w2 x3 y3 w3, det_sw3 x1 y1 w1 x2 y2 w2 x3 y3 w3, sgn_minus, hm, eqv3 (by omega) (by omega) (by omega)] at hz
    cases hz
  · rename_i hz
    rw [det_rot x1 y1 w1 x2 y2 w2 x3 y3 w3, det_rot2 x1 y1 w1 x2 y2 w2 x3 y3 w3, hm, eqv3 rfl rfl rfl] at hz
    cases hz
theorem use__law_turns_right {a b c d e f o : Int} (hd : Dp K H v1 (fr sx sy sw ux uy vx vy)) (hp : Dp K H v2 (.list [.tuple [.int a, .int b], .tuple [.int c, .int d], .tuple [.int e, .int f]])) (fo : FrOk sx sy sw ux uy vx vy) (ho : 0 < o) (sa : Sz 34 a) (sb : Sz 34 b) (sc : Sz 34 c) (sd : Sz 34 d) (se : Sz 34 e) (sf : Sz 34 f) (so : Sz 4 o) (q : ∀ H2, Ex H H2 → Q (.bl true) H2) : sp__law_turns_right K [v1, v2, .int o] H Q E :=
  ⟨_, _, _, rfl, _, _, _, _, _, _, _, _, _, _, _, _, _, _, rfl, hd, hp, fo, ho, ⟨sa, sb, sc, sd, se, sf⟩, so, ret_bl q⟩
end
end Wb

namespace Wb
open PySem PySem.Spec PyProof.Rows L2
open Evl (Ex Ex.refl Ex.trans Ex.new)
local macro_rules | `(tactic| wtm_at "ex") => `(tactic| first | with_reducible assumption | with_reducible exact Ex.refl _ | ((with_reducible refine' Ex.trans ?exe (by with_reducible assumption)); (case exe => wtm_at "ex")))
local macro_rules | `(tactic| wtm_at "hs") => `(tactic| first | with_reducible assumption | ((with_reducible refine' ex_at ?exe (by with_reducible assumption)); (case exe => wtm_at "ex")))
local macro_rules | `(tactic| wtm_at "st2") => `(tactic| first
  | ((with_reducible refine' i_mulC ?u0 ?uq); (case u0 => first | exact cmul_l (by decide) | exact cmul_r (by decide)))
  | ((with_reducible refine' i_mkL ?u0 (fun np nH nfr nhe nhp => ?uq)); (case u0 => exact Nat.le_of_ble_eq_true rfl))
  | (with_reducible refine' i_sl ?uq)
  | (with_reducible refine' i_nopart ?uq)
  | (with_reducible refine' i_part ?uq)
  | (with_reducible refine' i_part1 ?uq))
local macro_rules | `(tactic| wtm_at "sz2") => `(tactic| ((with_reducible refine' sz_fmod ?sz1 ?sz2); (case sz1 => wtm_at "nz"); (case sz2 => wtm_at "sz")))
local macro_rules | `(tactic| wtm_at "dp") => `(tactic| first | with_reducible assumption | with_reducible exact Dp.int _ | with_reducible exact Dp.bl _ | with_reducible exact Dp.str _ | with_reducible exact Dp.non | ((with_reducible refine' dpMono ?dme (by with_reducible assumption)); (case dme => wtm_at "ex")) | ((with_reducible refine' Dp.tup (Evl.st_of ?dph) ?dpa); (case dph => wtm_at "hs"); (case dpa => wtm_at "dpa")) | ((with_reducible refine' Dp.lst (Evl.sq_of ?dph) ?dpa); (case dph => wtm_at "hs"); (case dpa => wtm_at "dpa")))
local macro_rules | `(tactic| wtm_at "dpa") => `(tactic| first | with_reducible exact DpAll.nil | ((with_reducible refine' DpAll.cons ?dp1 ?dp2); (case dp1 => wtm_at "dp"); (case dp2 => wtm_at "dpa")) | with_reducible assumption | ((with_reducible refine' dpMonoA ?dme (by with_reducible assumption)); (case dme => wtm_at "ex")))
local macro_rules | `(tactic| wtm_at "sz") => `(tactic| first | with_reducible assumption | ((with_reducible refine' sz_mul ?sz1 ?sz2); (case sz1 => wtm_at "sz"); (case sz2 => wtm_at "sz")) | ((with_reducible refine' sz_add ?sz1 ?sz2); (case sz1 => wtm_at "sz"); (case sz2 => wtm_at "sz")) | ((with_reducible refine' sz_sub ?sz1 ?sz2); (case sz1 => wtm_at "sz"); (case sz2 => wtm_at "sz")) | ((with_reducible refine' sz_neg ?sz1); (case sz1 => wtm_at "sz")) | ((with_reducible refine' sz_div ?sz1); (case sz1 => wtm_at "sz")) | ((with_reducible refine' sz_fdiv ?sz1); (case sz1 => wtm_at "sz")) | exact sz_lit (by decide) | wtm_at "sz2")
local macro_rules | `(tactic| wtm_at "szb") => `(tactic| first | with_reducible assumption | ((with_reducible refine' sz_mono ?szb1 ?szb2); (case szb1 => wtm_at "sz"); (case szb2 => decide)))
local macro_rules | `(tactic| wtm_at "nz") => `(tactic| first | assumption | decide | omega)
local macro_rules | `(tactic| wtm_at "shaped") => `(tactic| first | rfl | decide)
local macro_rules | `(tactic| wtm_at "sset") => `(tactic| ((dsimp only [L2.wipe, List.set, List.set_cons_zero, List.set_cons_succ]) <;> exact rfl))
local macro_rules | `(tactic| wtm_at "nrm") => `(tactic| dsimp only [L2.start, L2.wipe, List.set, List.append, List.map, List.map_cons, List.map_nil, List.length_cons, List.length_nil, Nat.reduceAdd, Nat.reduceSub, List.reduceReplicate, List.replicate, List.cons_append, List.nil_append, List.set_cons_zero, List.set_cons_succ])
local macro_rules | `(tactic| wtm_at "st") => `(tactic| first
  | ((with_reducible refine' i_var (v := ?u0) ?u1 ?uq); (case u1 => exact rfl))
  | ((with_reducible refine' i_nameN ?u0 ?uq); (case u0 => wtm_at "sset"))
  | (with_reducible refine' i_op ?uq)
  | (with_reducible refine' i_c ?uq)
  | (with_reducible refine' i_I0 ?uq)
  | ((with_reducible refine' i_ixTI (i := ?u0) ?u1 ?u2 ?u3 ?uq); (case u1 => wtm_at "dp"); (case u2 => wtm_at "ex"); (case u3 => exact rfl))
  | ((with_reducible refine' i_ixT (d := ?u0) ?u1 ?u2 ?u3 (fun xu hxu => ?uq)); (case u1 => wtm_at "dp"); (case u2 => wtm_at "ex"); (case u3 => exact rfl))
  | ((with_reducible refine' i_mul ?u0 ?u1 ?u2 ?uq); (case u0 => wtm_at "sz"); (case u1 => wtm_at "sz"); (case u2 => first | decide | omega))
  | (with_reducible refine' i_seq ?uq)
  | (with_reducible refine' i_asg ?uq)
  | (with_reducible refine' i_ret ?uq)
  | (with_reducible refine' i_ifs ?uq)
  | (with_reducible refine' i_drop ?uq)
  | (with_reducible refine' i_next ?uq)
  | (with_reducible refine' i_cons ?uq)
  | (with_reducible refine' i_nil ?uq)
  | (with_reducible refine' i_cl ?uq)
  | (with_reducible refine' i_cb ?uq)
  | (with_reducible refine' i_tup ?uq)
  | (with_reducible refine' i_lst ?uq)
  | ((with_reducible refine' i_mkT ?u0 (fun np nH nhe nhp => ?uq)); (case u0 => exact Nat.le_of_ble_eq_true rfl))
  | (with_reducible refine' i_test ?uq)
  | (with_reducible refine' i_B ?uq)
  | (with_reducible refine' i_k ?uq)
  | (with_reducible refine' i_and ?uq)
  | (with_reducible refine' i_or ?uq)
  | (with_reducible refine' i_not ?uq)
  | (with_reducible refine' i_andV ?uq)
  | (with_reducible refine' i_orV ?uq)
  | (with_reducible refine' i_notV ?uq)
  | (with_reducible refine' i_if ?uq)
  | (with_reducible refine' i_un ?uq)
  | (with_reducible refine' i_U ?uq)
  | (with_reducible refine' i_iteT ?uq)
  | (with_reducible refine' i_iteF ?uq)
  | ((with_reducible refine' i_iteTr ?u0 ?uq); (case u0 => first | with_reducible rfl | decide | (simp only [dIsInt, dIsBool, dIsTup, dIsStr, dIsLst, Bool.not_true, Bool.not_false]; done)))
  | ((with_reducible refine' i_iteFr ?u0 ?uq); (case u0 => first | with_reducible rfl | decide | (simp only [dIsInt, dIsBool, dIsTup, dIsStr, dIsLst, Bool.not_true, Bool.not_false]; done)))
  | (with_reducible refine' i_ite (fun hif => ?uqa) (fun hif => ?uqb))
  | (with_reducible refine' i_iteN (fun hif => ?uqa) (fun hif => ?uqb))
  | (with_reducible refine' i_iteBN (fun hif => ?uqa) (fun hif => ?uqb))
  | (with_reducible refine' i_iteB (fun hif => ?uqa) (fun hif => ?uqb))
  | ((with_reducible refine' i_modN ?u0 ?uq); (case u0 => wtm_at "nz"))
  | ((with_reducible refine' i_fdX ?u0 ?u1 ?u2 ?uq); (case u0 => wtm_at "nz"); (case u1 => wtm_at "sz"); (case u2 => first | decide | omega))
  | ((with_reducible refine' i_pow ?u0 ?uq); (case u0 => exact ⟨by decide, by decide +kernel⟩))
  | (with_reducible refine' i_eqI ?uq)
  | (with_reducible refine' i_neI ?uq)
  | (with_reducible refine' i_gcd ?uq)
  | (with_reducible refine' i_qabs ?uq)
  | (with_reducible refine' i_qint ?uq)
  | (with_reducible refine' i_qintB ?uq)
  | (with_reducible refine' i_qmax2 ?uq)
  | (with_reducible refine' i_qmin2 ?uq)
  | (with_reducible refine' i_isB ?uq)
  | (with_reducible refine' i_notB ?uq)
  | (with_reducible refine' i_chain ?uq)
  | (with_reducible refine' i_qisN ?uq)
  | (with_reducible refine' i_qnotN ?uq)
  | (with_reducible refine' i_yes ?uq)
  | (with_reducible refine' i_par ?uq)
  | (with_reducible refine' i_par3 ?uq)
  | ((with_reducible refine' i_par2 ?u0 ?uq); (case u0 => wtm_at "sset"))
  | ((with_reducible refine' i_par33 ?u0 ?uq); (case u0 => wtm_at "sset"))
  | ((with_reducible refine' i_ixLI (i := ?u0) ?u1 ?u2 ?u3 ?uq); (case u1 => wtm_at "dp"); (case u2 => wtm_at "ex"); (case u3 => exact rfl))
  | ((with_reducible refine' i_ixL (d := ?u0) ?u1 ?u2 ?u3 (fun xu hxu => ?uq)); (case u1 => wtm_at "dp"); (case u2 => wtm_at "ex"); (case u3 => exact rfl))
  | ((with_reducible refine' i_qlenT ?u0 ?uq); (case u0 => wtm_at "dp"))
  | ((with_reducible refine' i_qlenL ?u0 ?uq); (case u0 => wtm_at "dp"))
  | ((with_reducible refine' i_gtup ?u0 ?u1 ?u2 (fun gvs gdp => ?uq)); (case u0 => wtm_at "dp"); (case u1 => wtm_at "ex"); (case u2 => exact rfl))
  | ((with_reducible refine' i_glst ?u0 ?u1 ?u2 (fun gvs gdp => ?uq)); (case u0 => wtm_at "dp"); (case u1 => wtm_at "ex"); (case u2 => exact rfl))
  | ((with_reducible refine' i_gconsI ?u0 (fun gr gh => ?uq)); (case u0 => with_reducible assumption))
  | ((with_reducible refine' i_gconsA ?u0 (fun gv gr gh1 gh2 => ?uq)); (case u0 => with_reducible assumption))
  | ((with_reducible refine' i_gnilA ?u0 ?uq); (case u0 => with_reducible assumption))
  | ((with_reducible refine' i_isiI ?u0 ?uq); (case u0 => wtm_at "dp"))
  | ((with_reducible refine' i_isiB ?u0 ?uq); (case u0 => wtm_at "dp"))
  | ((with_reducible refine' i_isiT ?u0 ?uq); (case u0 => wtm_at "dp"))
  | ((with_reducible refine' i_isiS ?u0 ?uq); (case u0 => wtm_at "dp"))
  | ((with_reducible refine' i_isiL ?u0 ?uq); (case u0 => wtm_at "dp"))
  | ((with_reducible refine' i_eqD ?u0 ?u1 ?u2 ?u3 ?uq); (case u0 => wtm_at "dp"); (case u1 => wtm_at "dp"); (case u2 => wtm_at "shaped"); (case u3 => wtm_at "shaped"))
  | ((with_reducible refine' i_neD ?u0 ?u1 ?u2 ?u3 ?uq); (case u0 => wtm_at "dp"); (case u1 => wtm_at "dp"); (case u2 => wtm_at "shaped"); (case u3 => wtm_at "shaped"))
  | wtm_at "st2"
  | wtm_at "use")
local macro_rules | `(tactic| wtm_at "go") => `(tactic| repeat' (wtm_at "st"))
local macro_rules | `(tactic| wtm_at "go0") => `(tactic| ((try dsimp only [L2.cxOf, L2.Cx.nox, L2.Cx.wish, L2.Cx.tr, L2.Cx.blk]); (try wtm_at "nrm"); wtm_at "go"))
local macro_rules | `(tactic| wtm_at "fin") => `(tactic| ((try dsimp only); first | with_reducible assumption | assumption | ((with_reducible refine' Ret.use ?rur ?rue ?rud); (case rur => with_reducible assumption); (case rue => wtm_at "ex"); (case rud => wtm_at "dp"))))
local macro_rules | `(tactic| wtm_at "use") => `(tactic| ((with_reducible refine' use_turn_in ?u0 ?u1 ?u2 ?u3 ?u4 ?u5 ?u6 ?u7 ?u8 ?u9 ?u10 ?u11 ?uq); (case u0 => wtm_at "dp"); (case u1 => wtm_at "dp"); (case u2 => wtm_at "dp"); (case u3 => wtm_at "szb"); (case u4 => wtm_at "szb"); (case u5 => wtm_at "szb"); (case u6 => wtm_at "szb"); (case u7 => wtm_at "szb"); (case u8 => wtm_at "szb"); (case u9 => wtm_at "szb"); (case u10 => wtm_at "szb"); (case u11 => wtm_at "szb")))
local macro_rules | `(tactic| wtm_at "use") => `(tactic| ((with_reducible refine' use_step_from ?u0 ?u1 ?u2 ?u3 ?u4 ?u5 ?u6 ?u7 (fun ur uH ue ud => ?uq)); (case u0 => wtm_at "dp"); (case u1 => wtm_at "dp"); (case u2 => wtm_at "szb"); (case u3 => wtm_at "szb"); (case u4 => wtm_at "szb"); (case u5 => wtm_at "szb"); (case u6 => wtm_at "szb"); (case u7 => wtm_at "szb")))
local macro_rules | `(tactic| wtm_at "use") => `(tactic| (with_reducible refine' use_shared_of ?uq))
local macro_rules | `(tactic| wtm_at "use") => `(tactic| ((with_reducible refine' use_is_integer ?u0 ?uq); (case u0 => wtm_at "dp")))
local macro_rules | `(tactic| wtm_at "use") => `(tactic| ((with_reducible refine' use_is_between_in ?u0 ?u1 ?u2 ?u3 ?u4 ?u5 ?u6 ?u7 ?u8 ?u9 ?u10 ?u11 (fun uH ue => ?uq)); (case u0 => wtm_at "dp"); (case u1 => wtm_at "dp"); (case u2 => wtm_at "dp"); (case u3 => wtm_at "szb"); (case u4 => wtm_at "szb"); (case u5 => wtm_at "szb"); (case u6 => wtm_at "szb"); (case u7 => wtm_at "szb"); (case u8 => wtm_at "szb"); (case u9 => wtm_at "szb"); (case u10 => wtm_at "szb"); (case u11 => wtm_at "szb")))
local macro_rules | `(tactic| wtm_at "use") => `(tactic| ((with_reducible refine' use_line_through ?u0 ?u1 ?u2 ?u3 ?u4 ?u5 ?u6 ?u7 (fun ur uH ue ud => ?uq)); (case u0 => wtm_at "dp"); (case u1 => wtm_at "dp"); (case u2 => wtm_at "szb"); (case u3 => wtm_at "szb"); (case u4 => wtm_at "szb"); (case u5 => wtm_at "szb"); (case u6 => wtm_at "szb"); (case u7 => wtm_at "szb")))
local macro_rules | `(tactic| wtm_at "use") => `(tactic| ((with_reducible refine' use_reduced_point ?u0 ?u1 (fun ur uH ue ud => ?uq)); (case u0 => wtm_at "nz"); (case u1 => wtm_at "szb")))
local macro_rules | `(tactic| wtm_at "use") => `(tactic| ((with_reducible refine' use_reduced ?u0 ?u1 (fun ur uH ue ud => ?uq)); (case u0 => wtm_at "nz"); (case u1 => wtm_at "szb")))
local macro_rules | `(tactic| wtm_at "use") => `(tactic| ((with_reducible refine' use_is_point ?u0 (fun uH ue => ?uq)); (case u0 => wtm_at "dp")))
local macro_rules | `(tactic| wtm_at "use") => `(tactic| ((with_reducible refine' use_line_meet_in ?u0 ?u1 ?u2 ?u3 ?u4 ?u5 ?u6 ?u7 ?u8 ?u9 ?u10 ?u11 ?u12 ?u13 ?u14 ?u15 (fun ur uH ue ud => ?uq)); (case u0 => wtm_at "dp"); (case u1 => wtm_at "dp"); (case u2 => wtm_at "dp"); (case u3 => wtm_at "dp"); (case u4 => wtm_at "szb"); (case u5 => wtm_at "szb"); (case u6 => wtm_at "szb"); (case u7 => wtm_at "szb"); (case u8 => wtm_at "szb"); (case u9 => wtm_at "szb"); (case u10 => wtm_at "szb"); (case u11 => wtm_at "szb"); (case u12 => wtm_at "szb"); (case u13 => wtm_at "szb"); (case u14 => wtm_at "szb"); (case u15 => wtm_at "szb")))
local macro_rules | `(tactic| wtm_at "use") => `(tactic| ((with_reducible refine' use_middle_in ?u0 ?u1 ?u2 ?u3 ?u4 ?u5 ?u6 ?u7 ?u8 ?u9 (fun ur uH ue ud => ?uq)); (case u0 => wtm_at "dp"); (case u1 => wtm_at "dp"); (case u2 => wtm_at "szb"); (case u3 => wtm_at "szb"); (case u4 => wtm_at "szb"); (case u5 => wtm_at "szb"); (case u6 => wtm_at "szb"); (case u7 => wtm_at "szb"); (case u8 => wtm_at "nz"); (case u9 => wtm_at "nz")))
local macro_rules | `(tactic| wtm_at "use") => `(tactic| ((with_reducible refine' use_square_in ?u0 ?u1 ?u2 ?u3 ?u4 ?u5 ?u6 ?u7 ?u8 ?u9 (fun ur uH ue ud => ?uq)); (case u0 => wtm_at "dp"); (case u1 => wtm_at "dp"); (case u2 => wtm_at "szb"); (case u3 => wtm_at "szb"); (case u4 => wtm_at "szb"); (case u5 => wtm_at "szb"); (case u6 => wtm_at "szb"); (case u7 => wtm_at "szb"); (case u8 => wtm_at "nz"); (case u9 => wtm_at "nz")))
local macro_rules | `(tactic| wtm_at "use") => `(tactic| ((with_reducible refine' use_is_side ?u0 (fun uH ue => ?uq)); (case u0 => wtm_at "dp")))
local macro_rules | `(tactic| wtm_at "use") => `(tactic| (with_reducible refine' use_require_integer ?uq))
local macro_rules | `(tactic| wtm_at "use") => `(tactic| ((with_reducible refine' use_require_point ?u0 ?u1 (fun uH ue => ?uq)); (case u0 => wtm_at "dp"); (case u1 => with_reducible assumption)))
local macro_rules | `(tactic| wtm_at "use") => `(tactic| ((with_reducible refine' use_require_points ?u0 ?u1 ?u2 (fun uH ue => ?uq)); (case u0 => wtm_at "dpa"); (case u1 => exact Nat.le_of_ble_eq_true rfl); (case u2 => wtm_at "pts")))
local macro_rules | `(tactic| wtm_at "pts") => `(tactic| first | with_reducible exact pts4 (by assumption) (by assumption) (by assumption) (by assumption) | with_reducible exact pts3 (by assumption) (by assumption) (by assumption) | with_reducible exact pts2 (by assumption) (by assumption))
local macro_rules | `(tactic| wtm_at "use") => `(tactic| ((with_reducible refine' use_turn_of ?u0 ?u1 ?u2 ?u3 ?u4 ?u5 ?u6 ?u7 ?u8 ?u9 ?u10 ?u11 ?u12 ?u13 ?u14 (fun uH ue => ?uq)); (case u0 => wtm_at "dp"); (case u1 => wtm_at "dp"); (case u2 => wtm_at "dp"); (case u3 => wtm_at "szb"); (case u4 => wtm_at "szb"); (case u5 => wtm_at "szb"); (case u6 => wtm_at "szb"); (case u7 => wtm_at "szb"); (case u8 => wtm_at "szb"); (case u9 => wtm_at "szb"); (case u10 => wtm_at "szb"); (case u11 => wtm_at "szb"); (case u12 => with_reducible assumption); (case u13 => with_reducible assumption); (case u14 => with_reducible assumption)))
local macro_rules | `(tactic| wtm_at "use") => `(tactic| ((with_reducible refine' use_is_between ?u0 ?u1 ?u2 ?u3 ?u4 ?u5 ?u6 ?u7 ?u8 ?u9 ?u10 ?u11 ?u12 ?u13 ?u14 (fun uH ue => ?uq)); (case u0 => wtm_at "dp"); (case u1 => wtm_at "dp"); (case u2 => wtm_at "dp"); (case u3 => wtm_at "szb"); (case u4 => wtm_at "szb"); (case u5 => wtm_at "szb"); (case u6 => wtm_at "szb"); (case u7 => wtm_at "szb"); (case u8 => wtm_at "szb"); (case u9 => wtm_at "szb"); (case u10 => wtm_at "szb"); (case u11 => wtm_at "szb"); (case u12 => with_reducible assumption); (case u13 => with_reducible assumption); (case u14 => with_reducible assumption)))
local macro_rules | `(tactic| wtm_at "use") => `(tactic| ((with_reducible refine' use_middle_of ?u0 ?u1 ?u2 ?u3 ?u4 ?u5 ?u6 ?u7 ?u8 ?u9 (fun ur uH ue ud => ?uq)); (case u0 => wtm_at "dp"); (case u1 => wtm_at "dp"); (case u2 => wtm_at "szb"); (case u3 => wtm_at "szb"); (case u4 => wtm_at "szb"); (case u5 => wtm_at "szb"); (case u6 => wtm_at "szb"); (case u7 => wtm_at "szb"); (case u8 => with_reducible assumption); (case u9 => with_reducible assumption)))
local macro_rules | `(tactic| wtm_at "use") => `(tactic| ((with_reducible refine' use_square_between ?u0 ?u1 ?u2 ?u3 ?u4 ?u5 ?u6 ?u7 ?u8 ?u9 (fun ur uH ue ud => ?uq)); (case u0 => wtm_at "dp"); (case u1 => wtm_at "dp"); (case u2 => wtm_at "szb"); (case u3 => wtm_at "szb"); (case u4 => wtm_at "szb"); (case u5 => wtm_at "szb"); (case u6 => wtm_at "szb"); (case u7 => wtm_at "szb"); (case u8 => with_reducible assumption); (case u9 => with_reducible assumption)))
local macro_rules | `(tactic| wtm_at "use") => `(tactic| ((with_reducible refine' use_point_of ?u0 ?u1 (fun ur uH ue ud => ?uq)); (case u0 => wtm_at "nz"); (case u1 => wtm_at "szb")))
local macro_rules | `(tactic| wtm_at "use") => `(tactic| ((with_reducible refine' use__law_draw ?u0 ?u1 ?u2 (fun dn dH dn0 dn1 de db => ?uq)); (case u0 => wtm_at "bag"); (case u1 => wtm_at "pos"); (case u2 => wtm_at "szb")))
local macro_rules | `(tactic| wtm_at "pos") => `(tactic| first | assumption | decide | omega)
local macro_rules | `(tactic| wtm_at "oneof") => `(tactic| ((with_reducible refine' use__law_one_of ?u0 ?u1 ?u2 ?u3 ?uq); (case u0 => wtm_at "bag"); (case u1 => wtm_at "dp"); (case u2 => exact Nat.le_of_ble_eq_true rfl); (case u3 => exact Nat.le_of_ble_eq_true rfl)))
local macro_rules | `(tactic| wtm_at "use") => `(tactic| ((with_reducible refine' use__law_point ?u0 ?u1 (fun ur uH ue ud => ?uq)); (case u0 => wtm_at "pos"); (case u1 => wtm_at "szb")))
local macro_rules | `(tactic| wtm_at "use") => `(tactic| (with_reducible refine' use__law_shared ?_))
section
variable {P : Program} {w : World} {K : PySem.W.Frag} {mg : Str → Option Value} {base : Heap} {H H' : Hp} {Q : VK} {E : XK} {v1 v2 v3 v4 : V} {x1 y1 w1 x2 y2 w2 x3 y3 w3 x4 y4 w4 : Int}
variable {v5 v6 : V} {sx sy sw ux uy vx vy : Int}
theorem Lo.scale {x y w X Y W : Int} (l : Lo x y w X Y W) (k : Int) : Lo x y w (k * X) (k * Y) (k * W) :=
  ⟨by have := l.ex; grind, by have := l.ey; grind, l.hw, l.g1⟩
theorem sgn_eq0 {s : Int} : sgn s = 0 ↔ s = 0 := by
  unfold sgn
  split
  · omega
  · split <;> omega
theorem btw_math {sx sy sw ux uy vx vy a b c d e f o x1 y1 w1 x2 y2 w2 x3 y3 w3 : Int} (hs : 1 ≤ sw) (hdet : ux * vy ≠ uy * vx) (ho : 0 < o) (l1 : Lo x1 y1 w1 (sx * o + (a * ux + b * vx) * sw) (sy * o + (a * uy + b * vy) * sw) (sw * o)) (l2 : Lo x2 y2 w2 (sx * o + (c * ux + d * vx) * sw) (sy * o + (c * uy + d * vy) * sw) (sw * o)) (l3 : Lo x3 y3 w3 (sx * o + (e * ux + f * vx) * sw) (sy * o + (e * uy + f * vy) * sw) (sw * o)) :
    btw x1 y1 w1 x2 y2 w2 x3 y3 w3 = (decide ((c - a) * (f - b) - (d - b) * (e - a) = 0) && decide (((c - a) * ux + (d - b) * vx) * ((e - a) * ux + (f - b) * vx) + ((c - a) * uy + (d - b) * vy) * ((e - a) * uy + (f - b) * vy) ≤ 0)) := by
  have hW : 0 < sw * o := Int.mul_pos (by omega) ho
  have k1 := turn_math hs ho l1 l2 l3
  have e1 : det x1 y1 w1 x2 y2 w2 x3 y3 w3 = 0 ↔ (c - a) * (f - b) - (d - b) * (e - a) = 0 := by
    rw [← sgn_eq0, k1, Int.mul_eq_zero, sgn_eq0, sgn_eq0]
    have : ux * vy - uy * vx ≠ 0 := by omega
    constructor
    · intro h
      exact h.resolve_right this
    · exact Or.inl
  have h1 := l1.hw; have h2 := l2.hw; have h3 := l3.hw
  have k2 : (sw * o) * (sw * o) * ((x2 * w1 - x1 * w2) * (x3 * w1 - x1 * w3) + (y2 * w1 - y1 * w2) * (y3 * w1 - y1 * w3)) = (w1 * w1) * (w2 * w3) * (sw * sw) * (((c - a) * ux + (d - b) * vx) * ((e - a) * ux + (f - b) * vx) + ((c - a) * uy + (d - b) * vy) * ((e - a) * uy + (f - b) * vy)) := by
    have a1 := l1.ex; have a2 := l1.ey; have b1 := l2.ex; have b2 := l2.ey; have c1 := l3.ex; have c2 := l3.ey
    have p1 : (sw * o) * (x2 * w1 - x1 * w2) = w1 * w2 * sw * ((c - a) * ux + (d - b) * vx) := by
      have : (sw * o) * (x2 * w1 - x1 * w2) = (x2 * (sw * o)) * w1 - (x1 * (sw * o)) * w2 := by grind
      rw [this, a1, b1]; grind
    have p2 : (sw * o) * (y2 * w1 - y1 * w2) = w1 * w2 * sw * ((c - a) * uy + (d - b) * vy) := by
      have : (sw * o) * (y2 * w1 - y1 * w2) = (y2 * (sw * o)) * w1 - (y1 * (sw * o)) * w2 := by grind
      rw [this, a2, b2]; grind
    have p3 : (sw * o) * (x3 * w1 - x1 * w3) = w1 * w3 * sw * ((e - a) * ux + (f - b) * vx) := by
      have : (sw * o) * (x3 * w1 - x1 * w3) = (x3 * (sw * o)) * w1 - (x1 * (sw * o)) * w3 := by grind
      rw [this, a1, c1]; grind
    have p4 : (sw * o) * (y3 * w1 - y1 * w3) = w1 * w3 * sw * ((e - a) * uy + (f - b) * vy) := by
      have : (sw * o) * (y3 * w1 - y1 * w3) = (y3 * (sw * o)) * w1 - (y1 * (sw * o)) * w3 := by grind
      rw [this, a2, c2]; grind
    generalize x2 * w1 - x1 * w2 = A1 at *
    generalize y2 * w1 - y1 * w2 = A2 at *
    generalize x3 * w1 - x1 * w3 = A3 at *
    generalize y3 * w1 - y1 * w3 = A4 at *
    generalize (c - a) * ux + (d - b) * vx = B1 at *
    generalize (c - a) * uy + (d - b) * vy = B2 at *
    generalize (e - a) * ux + (f - b) * vx = B3 at *
    generalize (e - a) * uy + (f - b) * vy = B4 at *
    generalize sw * o = W at *
    have q : W * W * (A1 * A3 + A2 * A4) = (W * A1) * (W * A3) + (W * A2) * (W * A4) := by grind
    rw [q, p1, p2, p3, p4]; grind
  have p1 : 0 < (sw * o) * (sw * o) := Int.mul_pos hW hW
  have p2 : 0 < (w1 * w1) * (w2 * w3) * (sw * sw) := Int.mul_pos (Int.mul_pos (Int.mul_pos (by omega) (by omega)) (Int.mul_pos (by omega) (by omega))) (Int.mul_pos (by omega) (by omega))
  have e2 : ((x2 * w1 - x1 * w2) * (x3 * w1 - x1 * w3) + (y2 * w1 - y1 * w2) * (y3 * w1 - y1 * w3) ≤ 0) ↔ ((c - a) * ux + (d - b) * vx) * ((e - a) * ux + (f - b) * vx) + ((c - a) * uy + (d - b) * vy) * ((e - a) * uy + (f - b) * vy) ≤ 0 := by
    generalize (x2 * w1 - x1 * w2) * (x3 * w1 - x1 * w3) + (y2 * w1 - y1 * w2) * (y3 * w1 - y1 * w3) = A at *
    generalize ((c - a) * ux + (d - b) * vx) * ((e - a) * ux + (f - b) * vx) + ((c - a) * uy + (d - b) * vy) * ((e - a) * uy + (f - b) * vy) = B at *
    generalize (sw * o) * (sw * o) = U at *
    generalize (w1 * w1) * (w2 * w3) * (sw * sw) = V at *
    constructor
    · intro h
      refine Int.not_lt.mp fun hb => ?_
      have := Int.mul_pos p2 hb
      have := Int.mul_nonpos_of_nonneg_of_nonpos (Int.le_of_lt p1) h
      omega
    · intro h
      refine Int.not_lt.mp fun hb => ?_
      have := Int.mul_pos p1 hb
      have := Int.mul_nonpos_of_nonneg_of_nonpos (Int.le_of_lt p2) h
      omega
  unfold btw
  rw [decide_eq_decide.mpr e1, decide_eq_decide.mpr e2]
theorem sq_nn (a : Int) : 0 ≤ a * a := by
  rcases Int.le_total 0 a with h | h
  · exact Int.mul_nonneg h h
  · exact Int.mul_nonneg_of_nonpos_of_nonpos h h
theorem sq_pos {a : Int} (h : a ≠ 0) : 0 < a * a := by
  rcases Int.lt_or_gt_of_ne h with k | k
  · exact Int.mul_pos_of_neg_of_neg k k
  · exact Int.mul_pos k k
theorem u_pos {ux uy vx vy : Int} (hdet : ux * vy ≠ uy * vx) : 0 < ux * ux + uy * uy := by
  by_cases h : ux = 0
  · by_cases k : uy = 0
    · subst h k
      simp at hdet
    · have := sq_pos k; have := sq_nn ux; omega
  · have := sq_pos h; have := sq_nn uy; omega
/-- in order upon a line -/
theorem btw_line {ux uy a b c : Int} (hu : 0 < ux * ux + uy * uy) : ((a - c) * ux * ((b - c) * ux) + (a - c) * uy * ((b - c) * uy) ≤ 0) ↔ ((if b < a then b else a) ≤ c ∧ c ≤ (if b > a then b else a)) := by
  have e : (a - c) * ux * ((b - c) * ux) + (a - c) * uy * ((b - c) * uy) = ((a - c) * (b - c)) * (ux * ux + uy * uy) := by grind
  rw [e]
  have k : ((a - c) * (b - c)) * (ux * ux + uy * uy) ≤ 0 ↔ (a - c) * (b - c) ≤ 0 := by
    generalize ux * ux + uy * uy = U at *
    constructor
    · intro h
      refine Int.not_lt.mp fun hb => ?_
      have := Int.mul_pos hb hu
      omega
    · intro h
      exact Int.mul_nonpos_of_nonpos_of_nonneg h (Int.le_of_lt hu)
  rw [k]
  constructor
  · intro h
    rcases Int.lt_trichotomy a c with h1 | h1 | h1 <;> rcases Int.lt_trichotomy b c with h2 | h2 | h2
    · have := Int.mul_pos_of_neg_of_neg (a := a - c) (b := b - c) (by omega) (by omega); omega
    · constructor <;> split <;> omega
    · constructor <;> split <;> omega
    · constructor <;> split <;> omega
    · constructor <;> split <;> omega
    · constructor <;> split <;> omega
    · constructor <;> split <;> omega
    · constructor <;> split <;> omega
    · have := Int.mul_pos (a := a - c) (b := b - c) (by omega) (by omega); omega
  · rintro ⟨h1, h2⟩
    by_cases hb : b < a
    · rw [if_pos hb] at h1
      rw [if_neg (by omega)] at h2
      exact Int.mul_nonpos_of_nonneg_of_nonpos (by omega) (by omega)
    · rw [if_neg hb] at h1
      by_cases hb2 : b > a
      · rw [if_pos hb2] at h2
        exact Int.mul_nonpos_of_nonpos_of_nonneg (by omega) (by omega)
      · rw [if_neg hb2] at h2
        have : a - c = 0 := by omega
        rw [this, Int.zero_mul]
        omega
/-- beside a line -/
theorem btw_off {ux uy vx vy a b c s : Int} (hdet : ux * vy ≠ uy * vx) (hs : s ≠ 0) : (decide ((a - c) * (0 - s) - (0 - s) * (b - c) = 0) && decide (((a - c) * ux + (0 - s) * vx) * ((b - c) * ux + (0 - s) * vx) + ((a - c) * uy + (0 - s) * vy) * ((b - c) * uy + (0 - s) * vy) ≤ 0)) = false := by
  by_cases h : a = b
  · subst h
    have h0 : 0 < ((a - c) * ux + (0 - s) * vx) * ((a - c) * ux + (0 - s) * vx) + ((a - c) * uy + (0 - s) * vy) * ((a - c) * uy + (0 - s) * vy) := by
      have n : ¬ ((a - c) * ux + (0 - s) * vx = 0 ∧ (a - c) * uy + (0 - s) * vy = 0) := by
        rintro ⟨p, q⟩
        have : s * (ux * vy - uy * vx) = 0 := by grind
        rcases Int.mul_eq_zero.mp this with h | h
        · exact hs h
        · omega
      generalize (a - c) * ux + (0 - s) * vx = A at *
      generalize (a - c) * uy + (0 - s) * vy = B at *
      by_cases hA : A = 0
      · have hB : B ≠ 0 := fun h => n ⟨hA, h⟩
        have := sq_pos hB; have := sq_nn A; omega
      · have := sq_pos hA; have := sq_nn B; omega
    rw [decide_eq_false (p := _ ≤ (0 : Int)) (by omega), Bool.and_false]
  · have : (a - c) * (0 - s) - (0 - s) * (b - c) ≠ 0 := by
      have e : (a - c) * (0 - s) - (0 - s) * (b - c) = s * (b - a) := by grind
      rw [e]
      exact Int.mul_ne_zero hs (by omega)
    rw [decide_eq_false this, Bool.false_and]
def qReprB : List V → Hp → VK → Prop := fun xs H Q => ∃ b, xs = [.bl b] ∧ Q (.str (if b then "True" else "False")) H
theorem call_repr_own {X : Cx} : CallR X (.builtin "repr") qReprB := by
  intro pins s σ H xs us Q I r h
  obtain ⟨i, rfl, q⟩ := h
  obtain ⟨u, rfl, rfl⟩ := vals1 r
  exact PySem.P.repr_of_bool ⟨.str _, H, I.tok _, ⟨_, rfl⟩, q⟩
theorem boot_repr : bootBuiltins "repr" = some (.builtin "repr") := by decide +kernel
theorem i_qreprB {b : Bool} (q : Q (.str (if b then "True" else "False")) H) : qReprB [.bl b] H Q := ⟨b, rfl, q⟩
theorem i_neS {a b : Str} (q : Q (.bl (!decide (V.str a = V.str b))) H) : rNe (.str a) (.str b) H Q := ⟨rfl, q⟩
local macro_rules | `(tactic| wtm_at "st2") => `(tactic| with_reducible refine' i_qreprB ?_)
local macro_rules | `(tactic| wtm_at "st2") => `(tactic| with_reducible refine' i_neS ?_)
theorem repr_inj {a b : Bool} : (V.str (if a then "True" else "False") = V.str (if b then "True" else "False")) ↔ a = b := by
  cases a <;> cases b <;> decide
theorem use__law_spotE {a b o x y w : Int} (r : rs sx sy sw ux uy vx vy a b o = pt x y w) (hd : Dp K H v1 (fr sx sy sw ux uy vx vy)) (fo : FrOk sx sy sw ux uy vx vy) (ho : 0 < o) (sa : Sz 34 a) (sb : Sz 34 b) (so : Sz 4 o)
    (q : ∀ v H2, Ex H H2 → Dp K H2 v (pt x y w) → Q v H2) : sp__law_spot K [v1, .int a, .int b, .int o] H Q E := use__law_spotD hd fo ho sa sb so (r ▸ q)
theorem use_middle_ofE {x y w : Int} (r : rp (x1 * w2 + x2 * w1) (y1 * w2 + y2 * w1) (2 * w1 * w2) = pt x y w) (h1 : Dp K H v1 (pt x1 y1 w1)) (h2 : Dp K H v2 (pt x2 y2 w2)) (a1 : Sz B0 x1) (a2 : Sz B0 y1) (a3 : Sz B0 w1) (b1 : Sz B0 x2) (b2 : Sz B0 y2) (b3 : Sz B0 w2) (p1 : isPoint (pt x1 y1 w1) = true) (p2 : isPoint (pt x2 y2 w2) = true)
    (q : ∀ v H2, Ex H H2 → Dp K H2 v (pt x y w) → Q v H2) : sp_middle_of K [v1, v2] H Q E := use_middle_of h1 h2 a1 a2 a3 b1 b2 b3 p1 p2 (r ▸ q)
local macro_rules | `(tactic| wtm_at "use") => `(tactic| (first | ((with_reducible refine' use__law_spotE ?u0 ?u1 ?u2 ?u3 ?u4 ?u5 ?u6 (fun pv pH pe pd => ?uq)); (case u1 => wtm_at "dp"); (case u2 => with_reducible assumption); (case u0 => with_reducible assumption); (case u3 => wtm_at "pos"); (case u4 => wtm_at "szb"); (case u5 => wtm_at "szb"); (case u6 => wtm_at "szb")) | fail))
local macro_rules | `(tactic| wtm_at "use") => `(tactic| (first | ((with_reducible refine' use_middle_ofE ?u0 ?u1 ?u2 ?u3 ?u4 ?u5 ?u6 ?u7 ?u8 ?u9 ?u10 (fun pv pH pe pd => ?uq)); (case u1 => wtm_at "dp"); (case u2 => wtm_at "dp"); (case u0 => with_reducible assumption); (case u3 => wtm_at "szb"); (case u4 => wtm_at "szb"); (case u5 => wtm_at "szb"); (case u6 => wtm_at "szb"); (case u7 => wtm_at "szb"); (case u8 => wtm_at "szb"); (case u9 => with_reducible assumption); (case u10 => with_reducible assumption)) | fail))
local macro_rules | `(tactic| wtm_at "use") => `(tactic| (first | ((with_reducible refine' use__law_sense ?u0 ?u1 ?uq); (case u0 => wtm_at "dp"); (case u1 => with_reducible assumption)) | fail))
local macro_rules | `(tactic| wtm_at "use") => `(tactic| (first | (with_reducible refine' use__law_sign ?uq) | fail))
def sp__law_between_right (K : PySem.W.Frag) : Sp := A6 fun v1 v2 v3 v4 v5 v6 H Q => ∃ sx sy sw ux uy vx vy a b c s o : Int, v2 = .int a ∧ v3 = .int b ∧ v4 = .int c ∧ v5 = .int s ∧ v6 = .int o ∧ Dp K H v1 (fr sx sy sw ux uy vx vy) ∧ FrOk sx sy sw ux uy vx vy ∧ 0 < o ∧ (Sz 33 a ∧ Sz 33 b ∧ Sz 34 c ∧ Sz 34 s ∧ Sz 3 o) ∧ Ret K (.bool true) H Q
theorem mid_math {a b o x1 y1 w1 x2 y2 w2 x y w : Int} (fo : FrOk sx sy sw ux uy vx vy) (ho : 0 < o) (t1 : Spt sx sy sw ux uy vx vy a 0 o x1 y1 w1) (t2 : Spt sx sy sw ux uy vx vy b 0 o x2 y2 w2) (t : Spt sx sy sw ux uy vx vy (a + b) 0 (2 * o) x y w) : rp (x1 * w2 + x2 * w1) (y1 * w2 + y2 * w1) (2 * w1 * w2) = pt x y w := by
  have h1 := t1.lo.hw; have h2 := t2.lo.hw; have h3 := fo.w
  have n : 2 * w1 * w2 ≠ 0 := Int.mul_ne_zero (by omega) (by omega)
  have n2 : sw * (2 * o) ≠ 0 := Int.mul_ne_zero (by omega) (by omega)
  have k := Lo.same (rp_lo (X := x1 * w2 + x2 * w1) (Y := y1 * w2 + y2 * w1) n) t.lo n n2 (by have := t1.lo.ex; have := t2.lo.ex; grind) (by have := t1.lo.ey; have := t2.lo.ey; grind)
  show pt _ _ _ = pt _ _ _
  rw [k.1, k.2.1, k.2.2]
theorem Spt.twice {a b o x y w : Int} (t : Spt sx sy sw ux uy vx vy a b o x y w) : Lo x y w (sx * (2 * o) + (2 * a * ux + 2 * b * vx) * sw) (sy * (2 * o) + (2 * a * uy + 2 * b * vy) * sw) (sw * (2 * o)) := by
  have l := t.lo.scale 2
  have e1 : 2 * (sx * o + (a * ux + b * vx) * sw) = sx * (2 * o) + (2 * a * ux + 2 * b * vx) * sw := by grind
  have e2 : 2 * (sy * o + (a * uy + b * vy) * sw) = sy * (2 * o) + (2 * a * uy + 2 * b * vy) * sw := by grind
  have e3 : 2 * (sw * o) = sw * (2 * o) := by grind
  rw [← e1, ← e2, ← e3]
  exact l
abbrev s__law_between_right : Stmt := top 41
theorem sc__law_between_right : FnScope ["_law_frame_here", "_law_a", "_law_b", "_law_c", "_law_side", "_law_over", "_law_one", "_law_two", "_law_half"] ["_law_frame_here", "_law_a", "_law_b", "_law_c", "_law_side", "_law_over"] (defScope s__law_between_right) := ⟨rfl, rfl, rfl, by decide +kernel, rfl, by decide +kernel, by decide +kernel⟩
theorem ok__law_between_right {f : Addr} {fd : FuncData} (F : FnP K "_law_between_right" s__law_between_right f fd) (g : G mg) (c_middle_of : Cl P w K mg base 6 "middle_of" (sp_middle_of K)) (c__law_spot : Cl P w K mg base 3 "_law_spot" (sp__law_spot K)) (c_is_between : Cl P w K mg base 6 "is_between" (sp_is_between K))  : FnOk P w K mg base CX0 7 f fd ["_law_frame_here", "_law_a", "_law_b", "_law_c", "_law_side", "_law_over"] (sp__law_between_right K) := by
  have nd := sc__law_between_right.nd
  refine F.ok sc__law_between_right (fun vs H Q E h => h.len) (fun cdv A outer s H vs Q E hr h => ?_)
  obtain ⟨v1, v2, v3, v4, v5, v6, rfl, h⟩ := h
  refine ⟨_, PSs.nox (pss_cons (ps_par (i := 6) (j := 7) (by rfl) nd rfl rfl (by decide) rfl rfl (pa_cons (pc c__law_spot hr (by decide) (by rfl) (pa_cons (pv 0) (pa_cons (pv 1) (pa_cons pe_int (pa_cons (pv 5) pa_nil))))) (pa_cons (pc c__law_spot hr (by decide) (by rfl) (pa_cons (pv 0) (pa_cons (pv 2) (pa_cons pe_int (pa_cons (pv 5) pa_nil))))) pa_nil)) (by rfl)) (pss_cons (ps_if (pt_cmpR op_ne (pe_callB call_repr_own (by rfl) g.f_repr boot_repr (pa_cons (pc c_is_between hr (by decide) (by rfl) (pa_cons (pc c__law_spot hr (by decide) (by rfl) (pa_cons (pv 0) (pa_cons (pv 3) (pa_cons pe_int (pa_cons (pv 5) pa_nil))))) (pa_cons (pv 6) (pa_cons (pv 7) pa_nil)))) pa_nil)) (pe_callB call_repr_own (by rfl) g.f_repr boot_repr (pa_cons (pe_chain op_le op_le (pe_callB (call_qmin2 rfl) (by rfl) g.f_min boot_min (pa_cons (pv 1) (pa_cons (pv 2) pa_nil))) (pv 3) (pe_callB (call_qmax2 rfl) (by rfl) g.f_max boot_max (pa_cons (pv 1) (pa_cons (pv 2) pa_nil)))) pa_nil)) (nomark _)) (pss_one (ps_ret pe_bl)) pss_nil) (pss_cons (ps_if (PW.pt (pw_and (pt_cmpR op_ne (pv 4) pe_int (nomark _)) (pw_and1 (pt_cmpR op_notBl (pc c_is_between hr (by decide) (by rfl) (pa_cons (pc c__law_spot hr (by decide) (by rfl) (pa_cons (pv 0) (pa_cons (pv 3) (pa_cons (pv 4) (pa_cons (pv 5) pa_nil))))) (pa_cons (pv 6) (pa_cons (pv 7) pa_nil)))) pe_bl (nomark _))))) (pss_one (ps_ret pe_bl)) pss_nil) (pss_cons (ps_set (i := 8) nd rfl (Or.inl rfl) (pc c_middle_of hr (by decide) (by rfl) (pa_cons (pv 6) (pa_cons (pv 7) pa_nil)))) (pss_cons (ps_if (PW.pt (pw_or (pt_cmpR (op_neD hr.units) (pv 8) (pc c__law_spot hr (by decide) (by rfl) (pa_cons (pv 0) (pa_cons (pe_op op_add (pv 1) (pv 2)) (pa_cons pe_int (pa_cons (pe_op op_mul pe_int (pv 5)) pa_nil))))) (nomark _)) (pw_or1 (pt_cmpR (op_neD hr.units) (pc c_middle_of hr (by decide) (by rfl) (pa_cons (pv 7) (pa_cons (pv 6) pa_nil))) (pv 8) (nomark _))))) (pss_one (ps_ret pe_bl)) pss_nil) (pss_one (ps_ret (pe_and (pe_cmpR op_isBl (pc c_is_between hr (by decide) (by rfl) (pa_cons (pv 8) (pa_cons (pv 6) (pa_cons (pv 7) pa_nil)))) pe_bl (nomark _)) (pe_one (pe_cmpR op_isBl (pc c_is_between hr (by decide) (by rfl) (pa_cons (pv 6) (pa_cons (pv 6) (pa_cons (pv 7) pa_nil)))) pe_bl (nomark _))))))))))), ?_⟩
  obtain ⟨sx, sy, sw, ux, uy, vx, vy, a, b, c, s, o, rfl, rfl, rfl, rfl, rfl, hd, fo, ho, ⟨sa, sb, sc, ss, so⟩, q⟩ := h
  have sa4 : Sz 34 a := by unfold Sz at *; omega
  have sb4 : Sz 34 b := by unfold Sz at *; omega
  have sab : Sz 34 (a + b) := by unfold Sz at *; omega
  have so4 : Sz 4 o := by unfold Sz at *; omega
  have s2o : Sz 4 (2 * o) := by unfold Sz at *; omega
  have h2o : 0 < 2 * o := by omega
  have sz0 : Sz 34 0 := by unfold Sz; decide
  obtain ⟨x1, y1, w1, r1, t1⟩ := spt_of fo ho sa4 sz0 so4
  obtain ⟨x2, y2, w2, r2, t2⟩ := spt_of fo ho sb4 sz0 so4
  obtain ⟨x3, y3, w3, r3, t3⟩ := spt_of fo ho sc sz0 so4
  obtain ⟨x4, y4, w4, r4, t4⟩ := spt_of fo ho sc ss so4
  obtain ⟨x5, y5, w5, r5, t5⟩ := spt_of fo h2o sab sz0 s2o
  obtain ⟨p1, a1, a2, a3⟩ : isPoint (pt x1 y1 w1) = true ∧ Sz B0 x1 ∧ Sz B0 y1 ∧ Sz B0 w1 := ⟨t1.p, t1.s1, t1.s2, t1.s3⟩
  obtain ⟨p2, b1, b2, b3⟩ : isPoint (pt x2 y2 w2) = true ∧ Sz B0 x2 ∧ Sz B0 y2 ∧ Sz B0 w2 := ⟨t2.p, t2.s1, t2.s2, t2.s3⟩
  obtain ⟨p3, c1, c2, c3⟩ : isPoint (pt x3 y3 w3) = true ∧ Sz B0 x3 ∧ Sz B0 y3 ∧ Sz B0 w3 := ⟨t3.p, t3.s1, t3.s2, t3.s3⟩
  obtain ⟨p4, d1, d2, d3⟩ : isPoint (pt x4 y4 w4) = true ∧ Sz B0 x4 ∧ Sz B0 y4 ∧ Sz B0 w4 := ⟨t4.p, t4.s1, t4.s2, t4.s3⟩
  obtain ⟨p5, e1, e2, e3⟩ : isPoint (pt x5 y5 w5) = true ∧ Sz B0 x5 ∧ Sz B0 y5 ∧ Sz B0 w5 := ⟨t5.p, t5.s1, t5.s2, t5.s3⟩
  have m1 := mid_math fo ho t1 t2 t5
  have m2 : rp (x2 * w1 + x1 * w2) (y2 * w1 + y1 * w2) (2 * w2 * w1) = pt x5 y5 w5 := by
    rw [← m1, Int.add_comm (x2 * w1), Int.add_comm (y2 * w1), Int.mul_assoc 2 w2 w1, Int.mul_comm w2 w1, ← Int.mul_assoc 2 w1 w2]
  have hu := u_pos fo.det
  have z1 : btw x3 y3 w3 x1 y1 w1 x2 y2 w2 = decide ((if b < a then b else a) ≤ c ∧ c ≤ (if b > a then b else a)) := by
    rw [btw_math fo.w fo.det ho t3.lo t1.lo t2.lo, Bool.eq_iff_iff, Bool.and_eq_true, decide_eq_true_eq, decide_eq_true_eq, decide_eq_true_eq, ← btw_line (a := a) (b := b) (c := c) hu]
    simp
  have z2 : s ≠ 0 → btw x4 y4 w4 x1 y1 w1 x2 y2 w2 = false := fun h => by
    rw [btw_math fo.w fo.det ho t4.lo t1.lo t2.lo]
    exact btw_off fo.det h
  have z3 : btw x5 y5 w5 x1 y1 w1 x2 y2 w2 = true := by
    rw [btw_math fo.w fo.det h2o t5.lo t1.twice t2.twice]
    have k : (2 * a - (a + b)) * ux * ((2 * b - (a + b)) * ux) + (2 * a - (a + b)) * uy * ((2 * b - (a + b)) * uy) ≤ 0 := (btw_line hu).mpr ⟨by split <;> omega, by split <;> omega⟩
    simp
    simpa using k
  have z4 : btw x1 y1 w1 x1 y1 w1 x2 y2 w2 = true := by
    rw [btw_math fo.w fo.det ho t1.lo t1.lo t2.lo]
    simp
  wtm_at "go0"
  all_goals first
    | (rw [z4]; exact q _ _ (by wtm_at "ex") (Dp.bl _))
    | (rename_i hz; rw [eqv_pt.mpr ⟨rfl, rfl, rfl⟩] at hz; cases hz)
    | (rename_i hz; exact absurd z3 hz)
    | (rename_i hz; exact absurd (z2 (by assumption)) hz)
    | (rename_i hm hz; exact absurd (repr_inj.mpr (by rw [z1]; exact decide_eq_decide.mpr ⟨fun h => h.2, fun h => ⟨hm, h⟩⟩)) hz)
    | (rename_i hm hz; exact absurd (repr_inj.mpr (by rw [z1]; exact decide_eq_false fun h => hm h.1)) hz)
theorem use__law_between_right {a b c s o : Int} (hd : Dp K H v1 (fr sx sy sw ux uy vx vy)) (fo : FrOk sx sy sw ux uy vx vy) (ho : 0 < o) (sa : Sz 33 a) (sb : Sz 33 b) (sc : Sz 34 c) (sd : Sz 34 s) (so : Sz 3 o) (q : ∀ H2, Ex H H2 → Q (.bl true) H2) : sp__law_between_right K [v1, .int a, .int b, .int c, .int s, .int o] H Q E :=
  ⟨_, _, _, _, _, _, rfl, _, _, _, _, _, _, _, _, _, _, _, _, rfl, rfl, rfl, rfl, rfl, hd, fo, ho, ⟨sa, sb, sc, sd, so⟩, ret_bl q⟩
end
end Wb

namespace Wb
open PySem PySem.Spec PyProof.Rows L2
open Evl (Ex Ex.refl Ex.trans Ex.new)
local macro_rules | `(tactic| wtm_at "ex") => `(tactic| first | with_reducible assumption | with_reducible exact Ex.refl _ | ((with_reducible refine' Ex.trans ?exe (by with_reducible assumption)); (case exe => wtm_at "ex")))
local macro_rules | `(tactic| wtm_at "hs") => `(tactic| first | with_reducible assumption | ((with_reducible refine' ex_at ?exe (by with_reducible assumption)); (case exe => wtm_at "ex")))
local macro_rules | `(tactic| wtm_at "st2") => `(tactic| first
  | ((with_reducible refine' i_mulC ?u0 ?uq); (case u0 => first | exact cmul_l (by decide) | exact cmul_r (by decide)))
  | ((with_reducible refine' i_mkL ?u0 (fun np nH nfr nhe nhp => ?uq)); (case u0 => exact Nat.le_of_ble_eq_true rfl))
  | (with_reducible refine' i_sl ?uq)
  | (with_reducible refine' i_nopart ?uq)
  | (with_reducible refine' i_part ?uq)
  | (with_reducible refine' i_part1 ?uq))
local macro_rules | `(tactic| wtm_at "sz2") => `(tactic| ((with_reducible refine' sz_fmod ?sz1 ?sz2); (case sz1 => wtm_at "nz"); (case sz2 => wtm_at "sz")))
local macro_rules | `(tactic| wtm_at "dp") => `(tactic| first | with_reducible assumption | with_reducible exact Dp.int _ | with_reducible exact Dp.bl _ | with_reducible exact Dp.str _ | with_reducible exact Dp.non | ((with_reducible refine' dpMono ?dme (by with_reducible assumption)); (case dme => wtm_at "ex")) | ((with_reducible refine' Dp.tup (Evl.st_of ?dph) ?dpa); (case dph => wtm_at "hs"); (case dpa => wtm_at "dpa")) | ((with_reducible refine' Dp.lst (Evl.sq_of ?dph) ?dpa); (case dph => wtm_at "hs"); (case dpa => wtm_at "dpa")))
local macro_rules | `(tactic| wtm_at "dpa") => `(tactic| first | with_reducible exact DpAll.nil | ((with_reducible refine' DpAll.cons ?dp1 ?dp2); (case dp1 => wtm_at "dp"); (case dp2 => wtm_at "dpa")) | with_reducible assumption | ((with_reducible refine' dpMonoA ?dme (by with_reducible assumption)); (case dme => wtm_at "ex")))
local macro_rules | `(tactic| wtm_at "sz") => `(tactic| first | with_reducible assumption | ((with_reducible refine' sz_mul ?sz1 ?sz2); (case sz1 => wtm_at "sz"); (case sz2 => wtm_at "sz")) | ((with_reducible refine' sz_add ?sz1 ?sz2); (case sz1 => wtm_at "sz"); (case sz2 => wtm_at "sz")) | ((with_reducible refine' sz_sub ?sz1 ?sz2); (case sz1 => wtm_at "sz"); (case sz2 => wtm_at "sz")) | ((with_reducible refine' sz_neg ?sz1); (case sz1 => wtm_at "sz")) | ((with_reducible refine' sz_div ?sz1); (case sz1 => wtm_at "sz")) | ((with_reducible refine' sz_fdiv ?sz1); (case sz1 => wtm_at "sz")) | exact sz_lit (by decide) | wtm_at "sz2")
local macro_rules | `(tactic| wtm_at "szb") => `(tactic| first | with_reducible assumption | ((with_reducible refine' sz_mono ?szb1 ?szb2); (case szb1 => wtm_at "sz"); (case szb2 => decide)))
local macro_rules | `(tactic| wtm_at "nz") => `(tactic| first | assumption | decide | omega)
local macro_rules | `(tactic| wtm_at "shaped") => `(tactic| first | rfl | decide)
local macro_rules | `(tactic| wtm_at "sset") => `(tactic| ((dsimp only [L2.wipe, List.set, List.set_cons_zero, List.set_cons_succ]) <;> exact rfl))
local macro_rules | `(tactic| wtm_at "nrm") => `(tactic| dsimp only [L2.start, L2.wipe, List.set, List.append, List.map, List.map_cons, List.map_nil, List.length_cons, List.length_nil, Nat.reduceAdd, Nat.reduceSub, List.reduceReplicate, List.replicate, List.cons_append, List.nil_append, List.set_cons_zero, List.set_cons_succ])
local macro_rules | `(tactic| wtm_at "st") => `(tactic| first
  | ((with_reducible refine' i_var (v := ?u0) ?u1 ?uq); (case u1 => exact rfl))
  | ((with_reducible refine' i_nameN ?u0 ?uq); (case u0 => wtm_at "sset"))
  | (with_reducible refine' i_op ?uq)
  | (with_reducible refine' i_c ?uq)
  | (with_reducible refine' i_I0 ?uq)
  | ((with_reducible refine' i_ixTI (i := ?u0) ?u1 ?u2 ?u3 ?uq); (case u1 => wtm_at "dp"); (case u2 => wtm_at "ex"); (case u3 => exact rfl))
  | ((with_reducible refine' i_ixT (d := ?u0) ?u1 ?u2 ?u3 (fun xu hxu => ?uq)); (case u1 => wtm_at "dp"); (case u2 => wtm_at "ex"); (case u3 => exact rfl))
  | ((with_reducible refine' i_mul ?u0 ?u1 ?u2 ?uq); (case u0 => wtm_at "sz"); (case u1 => wtm_at "sz"); (case u2 => first | decide | omega))
  | (with_reducible refine' i_seq ?uq)
  | (with_reducible refine' i_asg ?uq)
  | (with_reducible refine' i_ret ?uq)
  | (with_reducible refine' i_ifs ?uq)
  | (with_reducible refine' i_drop ?uq)
  | (with_reducible refine' i_next ?uq)
  | (with_reducible refine' i_cons ?uq)
  | (with_reducible refine' i_nil ?uq)
  | (with_reducible refine' i_cl ?uq)
  | (with_reducible refine' i_cb ?uq)
  | (with_reducible refine' i_tup ?uq)
  | (with_reducible refine' i_lst ?uq)
  | ((with_reducible refine' i_mkT ?u0 (fun np nH nhe nhp => ?uq)); (case u0 => exact Nat.le_of_ble_eq_true rfl))
  | (with_reducible refine' i_test ?uq)
  | (with_reducible refine' i_B ?uq)
  | (with_reducible refine' i_k ?uq)
  | (with_reducible refine' i_and ?uq)
  | (with_reducible refine' i_or ?uq)
  | (with_reducible refine' i_not ?uq)
  | (with_reducible refine' i_andV ?uq)
  | (with_reducible refine' i_orV ?uq)
  | (with_reducible refine' i_notV ?uq)
  | (with_reducible refine' i_if ?uq)
  | (with_reducible refine' i_un ?uq)
  | (with_reducible refine' i_U ?uq)
  | (with_reducible refine' i_iteT ?uq)
  | (with_reducible refine' i_iteF ?uq)
  | ((with_reducible refine' i_iteTr ?u0 ?uq); (case u0 => first | with_reducible rfl | decide | (simp only [dIsInt, dIsBool, dIsTup, dIsStr, dIsLst, Bool.not_true, Bool.not_false]; done)))
  | ((with_reducible refine' i_iteFr ?u0 ?uq); (case u0 => first | with_reducible rfl | decide | (simp only [dIsInt, dIsBool, dIsTup, dIsStr, dIsLst, Bool.not_true, Bool.not_false]; done)))
  | (with_reducible refine' i_ite (fun hif => ?uqa) (fun hif => ?uqb))
  | (with_reducible refine' i_iteN (fun hif => ?uqa) (fun hif => ?uqb))
  | (with_reducible refine' i_iteBN (fun hif => ?uqa) (fun hif => ?uqb))
  | (with_reducible refine' i_iteB (fun hif => ?uqa) (fun hif => ?uqb))
  | ((with_reducible refine' i_modN ?u0 ?uq); (case u0 => wtm_at "nz"))
  | ((with_reducible refine' i_fdX ?u0 ?u1 ?u2 ?uq); (case u0 => wtm_at "nz"); (case u1 => wtm_at "sz"); (case u2 => first | decide | omega))
  | ((with_reducible refine' i_pow ?u0 ?uq); (case u0 => exact ⟨by decide, by decide +kernel⟩))
  | (with_reducible refine' i_eqI ?uq)
  | (with_reducible refine' i_neI ?uq)
  | (with_reducible refine' i_gcd ?uq)
  | (with_reducible refine' i_qabs ?uq)
  | (with_reducible refine' i_qint ?uq)
  | (with_reducible refine' i_qintB ?uq)
  | (with_reducible refine' i_qmax2 ?uq)
  | (with_reducible refine' i_qmin2 ?uq)
  | (with_reducible refine' i_isB ?uq)
  | (with_reducible refine' i_notB ?uq)
  | (with_reducible refine' i_chain ?uq)
  | (with_reducible refine' i_qisN ?uq)
  | (with_reducible refine' i_qnotN ?uq)
  | (with_reducible refine' i_yes ?uq)
  | (with_reducible refine' i_par ?uq)
  | (with_reducible refine' i_par3 ?uq)
  | ((with_reducible refine' i_par2 ?u0 ?uq); (case u0 => wtm_at "sset"))
  | ((with_reducible refine' i_par33 ?u0 ?uq); (case u0 => wtm_at "sset"))
  | ((with_reducible refine' i_ixLI (i := ?u0) ?u1 ?u2 ?u3 ?uq); (case u1 => wtm_at "dp"); (case u2 => wtm_at "ex"); (case u3 => exact rfl))
  | ((with_reducible refine' i_ixL (d := ?u0) ?u1 ?u2 ?u3 (fun xu hxu => ?uq)); (case u1 => wtm_at "dp"); (case u2 => wtm_at "ex"); (case u3 => exact rfl))
  | ((with_reducible refine' i_qlenT ?u0 ?uq); (case u0 => wtm_at "dp"))
  | ((with_reducible refine' i_qlenL ?u0 ?uq); (case u0 => wtm_at "dp"))
  | ((with_reducible refine' i_gtup ?u0 ?u1 ?u2 (fun gvs gdp => ?uq)); (case u0 => wtm_at "dp"); (case u1 => wtm_at "ex"); (case u2 => exact rfl))
  | ((with_reducible refine' i_glst ?u0 ?u1 ?u2 (fun gvs gdp => ?uq)); (case u0 => wtm_at "dp"); (case u1 => wtm_at "ex"); (case u2 => exact rfl))
  | ((with_reducible refine' i_gconsI ?u0 (fun gr gh => ?uq)); (case u0 => with_reducible assumption))
  | ((with_reducible refine' i_gconsA ?u0 (fun gv gr gh1 gh2 => ?uq)); (case u0 => with_reducible assumption))
  | ((with_reducible refine' i_gnilA ?u0 ?uq); (case u0 => with_reducible assumption))
  | ((with_reducible refine' i_isiI ?u0 ?uq); (case u0 => wtm_at "dp"))
  | ((with_reducible refine' i_isiB ?u0 ?uq); (case u0 => wtm_at "dp"))
  | ((with_reducible refine' i_isiT ?u0 ?uq); (case u0 => wtm_at "dp"))
  | ((with_reducible refine' i_isiS ?u0 ?uq); (case u0 => wtm_at "dp"))
  | ((with_reducible refine' i_isiL ?u0 ?uq); (case u0 => wtm_at "dp"))
  | ((with_reducible refine' i_eqD ?u0 ?u1 ?u2 ?u3 ?uq); (case u0 => wtm_at "dp"); (case u1 => wtm_at "dp"); (case u2 => wtm_at "shaped"); (case u3 => wtm_at "shaped"))
  | ((with_reducible refine' i_neD ?u0 ?u1 ?u2 ?u3 ?uq); (case u0 => wtm_at "dp"); (case u1 => wtm_at "dp"); (case u2 => wtm_at "shaped"); (case u3 => wtm_at "shaped"))
  | wtm_at "st2"
  | wtm_at "use")
local macro_rules | `(tactic| wtm_at "go") => `(tactic| repeat' (wtm_at "st"))
local macro_rules | `(tactic| wtm_at "go0") => `(tactic| ((try dsimp only [L2.cxOf, L2.Cx.nox, L2.Cx.wish, L2.Cx.tr, L2.Cx.blk]); (try wtm_at "nrm"); wtm_at "go"))
local macro_rules | `(tactic| wtm_at "fin") => `(tactic| ((try dsimp only); first | with_reducible assumption | assumption | ((with_reducible refine' Ret.use ?rur ?rue ?rud); (case rur => with_reducible assumption); (case rue => wtm_at "ex"); (case rud => wtm_at "dp"))))
local macro_rules | `(tactic| wtm_at "use") => `(tactic| ((with_reducible refine' use_turn_in ?u0 ?u1 ?u2 ?u3 ?u4 ?u5 ?u6 ?u7 ?u8 ?u9 ?u10 ?u11 ?uq); (case u0 => wtm_at "dp"); (case u1 => wtm_at "dp"); (case u2 => wtm_at "dp"); (case u3 => wtm_at "szb"); (case u4 => wtm_at "szb"); (case u5 => wtm_at "szb"); (case u6 => wtm_at "szb"); (case u7 => wtm_at "szb"); (case u8 => wtm_at "szb"); (case u9 => wtm_at "szb"); (case u10 => wtm_at "szb"); (case u11 => wtm_at "szb")))
local macro_rules | `(tactic| wtm_at "use") => `(tactic| ((with_reducible refine' use_step_from ?u0 ?u1 ?u2 ?u3 ?u4 ?u5 ?u6 ?u7 (fun ur uH ue ud => ?uq)); (case u0 => wtm_at "dp"); (case u1 => wtm_at "dp"); (case u2 => wtm_at "szb"); (case u3 => wtm_at "szb"); (case u4 => wtm_at "szb"); (case u5 => wtm_at "szb"); (case u6 => wtm_at "szb"); (case u7 => wtm_at "szb")))
local macro_rules | `(tactic| wtm_at "use") => `(tactic| (with_reducible refine' use_shared_of ?uq))
local macro_rules | `(tactic| wtm_at "use") => `(tactic| ((with_reducible refine' use_is_integer ?u0 ?uq); (case u0 => wtm_at "dp")))
local macro_rules | `(tactic| wtm_at "use") => `(tactic| ((with_reducible refine' use_is_between_in ?u0 ?u1 ?u2 ?u3 ?u4 ?u5 ?u6 ?u7 ?u8 ?u9 ?u10 ?u11 (fun uH ue => ?uq)); (case u0 => wtm_at "dp"); (case u1 => wtm_at "dp"); (case u2 => wtm_at "dp"); (case u3 => wtm_at "szb"); (case u4 => wtm_at "szb"); (case u5 => wtm_at "szb"); (case u6 => wtm_at "szb"); (case u7 => wtm_at "szb"); (case u8 => wtm_at "szb"); (case u9 => wtm_at "szb"); (case u10 => wtm_at "szb"); (case u11 => wtm_at "szb")))
local macro_rules | `(tactic| wtm_at "use") => `(tactic| ((with_reducible refine' use_line_through ?u0 ?u1 ?u2 ?u3 ?u4 ?u5 ?u6 ?u7 (fun ur uH ue ud => ?uq)); (case u0 => wtm_at "dp"); (case u1 => wtm_at "dp"); (case u2 => wtm_at "szb"); (case u3 => wtm_at "szb"); (case u4 => wtm_at "szb"); (case u5 => wtm_at "szb"); (case u6 => wtm_at "szb"); (case u7 => wtm_at "szb")))
local macro_rules | `(tactic| wtm_at "use") => `(tactic| ((with_reducible refine' use_reduced_point ?u0 ?u1 (fun ur uH ue ud => ?uq)); (case u0 => wtm_at "nz"); (case u1 => wtm_at "szb")))
local macro_rules | `(tactic| wtm_at "use") => `(tactic| ((with_reducible refine' use_reduced ?u0 ?u1 (fun ur uH ue ud => ?uq)); (case u0 => wtm_at "nz"); (case u1 => wtm_at "szb")))
local macro_rules | `(tactic| wtm_at "use") => `(tactic| ((with_reducible refine' use_is_point ?u0 (fun uH ue => ?uq)); (case u0 => wtm_at "dp")))
local macro_rules | `(tactic| wtm_at "use") => `(tactic| ((with_reducible refine' use_line_meet_in ?u0 ?u1 ?u2 ?u3 ?u4 ?u5 ?u6 ?u7 ?u8 ?u9 ?u10 ?u11 ?u12 ?u13 ?u14 ?u15 (fun ur uH ue ud => ?uq)); (case u0 => wtm_at "dp"); (case u1 => wtm_at "dp"); (case u2 => wtm_at "dp"); (case u3 => wtm_at "dp"); (case u4 => wtm_at "szb"); (case u5 => wtm_at "szb"); (case u6 => wtm_at "szb"); (case u7 => wtm_at "szb"); (case u8 => wtm_at "szb"); (case u9 => wtm_at "szb"); (case u10 => wtm_at "szb"); (case u11 => wtm_at "szb"); (case u12 => wtm_at "szb"); (case u13 => wtm_at "szb"); (case u14 => wtm_at "szb"); (case u15 => wtm_at "szb")))
local macro_rules | `(tactic| wtm_at "use") => `(tactic| ((with_reducible refine' use_middle_in ?u0 ?u1 ?u2 ?u3 ?u4 ?u5 ?u6 ?u7 ?u8 ?u9 (fun ur uH ue ud => ?uq)); (case u0 => wtm_at "dp"); (case u1 => wtm_at "dp"); (case u2 => wtm_at "szb"); (case u3 => wtm_at "szb"); (case u4 => wtm_at "szb"); (case u5 => wtm_at "szb"); (case u6 => wtm_at "szb"); (case u7 => wtm_at "szb"); (case u8 => wtm_at "nz"); (case u9 => wtm_at "nz")))
local macro_rules | `(tactic| wtm_at "use") => `(tactic| ((with_reducible refine' use_square_in ?u0 ?u1 ?u2 ?u3 ?u4 ?u5 ?u6 ?u7 ?u8 ?u9 (fun ur uH ue ud => ?uq)); (case u0 => wtm_at "dp"); (case u1 => wtm_at "dp"); (case u2 => wtm_at "szb"); (case u3 => wtm_at "szb"); (case u4 => wtm_at "szb"); (case u5 => wtm_at "szb"); (case u6 => wtm_at "szb"); (case u7 => wtm_at "szb"); (case u8 => wtm_at "nz"); (case u9 => wtm_at "nz")))
local macro_rules | `(tactic| wtm_at "use") => `(tactic| ((with_reducible refine' use_is_side ?u0 (fun uH ue => ?uq)); (case u0 => wtm_at "dp")))
local macro_rules | `(tactic| wtm_at "use") => `(tactic| (with_reducible refine' use_require_integer ?uq))
local macro_rules | `(tactic| wtm_at "use") => `(tactic| ((with_reducible refine' use_require_point ?u0 ?u1 (fun uH ue => ?uq)); (case u0 => wtm_at "dp"); (case u1 => with_reducible assumption)))
local macro_rules | `(tactic| wtm_at "use") => `(tactic| ((with_reducible refine' use_require_points ?u0 ?u1 ?u2 (fun uH ue => ?uq)); (case u0 => wtm_at "dpa"); (case u1 => exact Nat.le_of_ble_eq_true rfl); (case u2 => wtm_at "pts")))
local macro_rules | `(tactic| wtm_at "pts") => `(tactic| first | with_reducible exact pts4 (by assumption) (by assumption) (by assumption) (by assumption) | with_reducible exact pts3 (by assumption) (by assumption) (by assumption) | with_reducible exact pts2 (by assumption) (by assumption))
local macro_rules | `(tactic| wtm_at "use") => `(tactic| ((with_reducible refine' use_turn_of ?u0 ?u1 ?u2 ?u3 ?u4 ?u5 ?u6 ?u7 ?u8 ?u9 ?u10 ?u11 ?u12 ?u13 ?u14 (fun uH ue => ?uq)); (case u0 => wtm_at "dp"); (case u1 => wtm_at "dp"); (case u2 => wtm_at "dp"); (case u3 => wtm_at "szb"); (case u4 => wtm_at "szb"); (case u5 => wtm_at "szb"); (case u6 => wtm_at "szb"); (case u7 => wtm_at "szb"); (case u8 => wtm_at "szb"); (case u9 => wtm_at "szb"); (case u10 => wtm_at "szb"); (case u11 => wtm_at "szb"); (case u12 => with_reducible assumption); (case u13 => with_reducible assumption); (case u14 => with_reducible assumption)))
local macro_rules | `(tactic| wtm_at "use") => `(tactic| ((with_reducible refine' use_is_between ?u0 ?u1 ?u2 ?u3 ?u4 ?u5 ?u6 ?u7 ?u8 ?u9 ?u10 ?u11 ?u12 ?u13 ?u14 (fun uH ue => ?uq)); (case u0 => wtm_at "dp"); (case u1 => wtm_at "dp"); (case u2 => wtm_at "dp"); (case u3 => wtm_at "szb"); (case u4 => wtm_at "szb"); (case u5 => wtm_at "szb"); (case u6 => wtm_at "szb"); (case u7 => wtm_at "szb"); (case u8 => wtm_at "szb"); (case u9 => wtm_at "szb"); (case u10 => wtm_at "szb"); (case u11 => wtm_at "szb"); (case u12 => with_reducible assumption); (case u13 => with_reducible assumption); (case u14 => with_reducible assumption)))
local macro_rules | `(tactic| wtm_at "use") => `(tactic| ((with_reducible refine' use_middle_of ?u0 ?u1 ?u2 ?u3 ?u4 ?u5 ?u6 ?u7 ?u8 ?u9 (fun ur uH ue ud => ?uq)); (case u0 => wtm_at "dp"); (case u1 => wtm_at "dp"); (case u2 => wtm_at "szb"); (case u3 => wtm_at "szb"); (case u4 => wtm_at "szb"); (case u5 => wtm_at "szb"); (case u6 => wtm_at "szb"); (case u7 => wtm_at "szb"); (case u8 => with_reducible assumption); (case u9 => with_reducible assumption)))
local macro_rules | `(tactic| wtm_at "use") => `(tactic| ((with_reducible refine' use_square_between ?u0 ?u1 ?u2 ?u3 ?u4 ?u5 ?u6 ?u7 ?u8 ?u9 (fun ur uH ue ud => ?uq)); (case u0 => wtm_at "dp"); (case u1 => wtm_at "dp"); (case u2 => wtm_at "szb"); (case u3 => wtm_at "szb"); (case u4 => wtm_at "szb"); (case u5 => wtm_at "szb"); (case u6 => wtm_at "szb"); (case u7 => wtm_at "szb"); (case u8 => with_reducible assumption); (case u9 => with_reducible assumption)))
local macro_rules | `(tactic| wtm_at "use") => `(tactic| ((with_reducible refine' use_point_of ?u0 ?u1 (fun ur uH ue ud => ?uq)); (case u0 => wtm_at "nz"); (case u1 => wtm_at "szb")))
local macro_rules | `(tactic| wtm_at "use") => `(tactic| ((with_reducible refine' use__law_draw ?u0 ?u1 ?u2 (fun dn dH dn0 dn1 de db => ?uq)); (case u0 => wtm_at "bag"); (case u1 => wtm_at "pos"); (case u2 => wtm_at "szb")))
local macro_rules | `(tactic| wtm_at "pos") => `(tactic| first | assumption | decide | omega)
local macro_rules | `(tactic| wtm_at "oneof") => `(tactic| ((with_reducible refine' use__law_one_of ?u0 ?u1 ?u2 ?u3 ?uq); (case u0 => wtm_at "bag"); (case u1 => wtm_at "dp"); (case u2 => exact Nat.le_of_ble_eq_true rfl); (case u3 => exact Nat.le_of_ble_eq_true rfl)))
local macro_rules | `(tactic| wtm_at "use") => `(tactic| ((with_reducible refine' use__law_point ?u0 ?u1 (fun ur uH ue ud => ?uq)); (case u0 => wtm_at "pos"); (case u1 => wtm_at "szb")))
local macro_rules | `(tactic| wtm_at "use") => `(tactic| (with_reducible refine' use__law_shared ?_))
section
variable {P : Program} {w : World} {K : PySem.W.Frag} {mg : Str → Option Value} {base : Heap} {H H' : Hp} {Q : VK} {E : XK} {v1 v2 v3 v4 : V} {x1 y1 w1 x2 y2 w2 x3 y3 w3 x4 y4 w4 : Int}
variable {v5 v6 : V} {sx sy sw ux uy vx vy : Int}
local macro_rules | `(tactic| wtm_at "use") => `(tactic| (first | ((with_reducible refine' use__law_spotE ?u0 ?u1 ?u2 ?u3 ?u4 ?u5 ?u6 (fun pv pH pe pd => ?uq)); (case u1 => wtm_at "dp"); (case u2 => with_reducible assumption); (case u0 => with_reducible assumption); (case u3 => wtm_at "pos"); (case u4 => wtm_at "szb"); (case u5 => wtm_at "szb"); (case u6 => wtm_at "szb")) | fail))
local macro_rules | `(tactic| wtm_at "use") => `(tactic| (first | ((with_reducible refine' use_middle_ofE ?u0 ?u1 ?u2 ?u3 ?u4 ?u5 ?u6 ?u7 ?u8 ?u9 ?u10 (fun pv pH pe pd => ?uq)); (case u1 => wtm_at "dp"); (case u2 => wtm_at "dp"); (case u0 => with_reducible assumption); (case u3 => wtm_at "szb"); (case u4 => wtm_at "szb"); (case u5 => wtm_at "szb"); (case u6 => wtm_at "szb"); (case u7 => wtm_at "szb"); (case u8 => wtm_at "szb"); (case u9 => with_reducible assumption); (case u10 => with_reducible assumption)) | fail))
local macro_rules | `(tactic| wtm_at "use") => `(tactic| (first | ((with_reducible refine' use__law_sense ?u0 ?u1 ?uq); (case u0 => wtm_at "dp"); (case u1 => with_reducible assumption)) | fail))
local macro_rules | `(tactic| wtm_at "use") => `(tactic| (first | (with_reducible refine' use__law_sign ?uq) | fail))
local macro_rules | `(tactic| wtm_at "use") => `(tactic| ((with_reducible refine' use__law_point ?u0 ?u1 (fun ur uH ue ud => ?uq)); (case u0 => wtm_at "pos"); (case u1 => wtm_at "szb")))
local macro_rules | `(tactic| wtm_at "use") => `(tactic| (with_reducible refine' use__law_shared ?_))
local macro_rules | `(tactic| wtm_at "use") => `(tactic| (with_reducible refine' use__law_shared ?_))
def sp__law_squares_right (K : PySem.W.Frag) : Sp := A6 fun v1 v2 v3 v4 v5 v6 H Q => ∃ sx sy sw ux uy vx vy a b c d o : Int, v2 = .int a ∧ v3 = .int b ∧ v4 = .int c ∧ v5 = .int d ∧ v6 = .int o ∧ Dp K H v1 (fr sx sy sw ux uy vx vy) ∧ FrOk sx sy sw ux uy vx vy ∧ 0 < o ∧ (Sz 33 a ∧ Sz 33 b ∧ Sz 33 c ∧ Sz 33 d ∧ Sz 3 o) ∧ Ret K (.bool true) H Q
/-- two fractions of one worth reduce alike -/
theorem rf_same {X W X' W' : Int} (hW : 0 < W) (hW' : 0 < W') (e : X * W' = X' * W) : X.fdiv (gd X W) = X'.fdiv (gd X' W') ∧ W.fdiv (gd X W) = W'.fdiv (gd X' W') := by
  have g1 : 0 < gd X W := by unfold gd; have := Nat.gcd_pos_of_pos_right (m := X.natAbs) (Int.natAbs_pos.mpr (show W ≠ 0 by omega)); omega
  have g2 : 0 < gd X' W' := by unfold gd; have := Nat.gcd_pos_of_pos_right (m := X'.natAbs) (Int.natAbs_pos.mpr (show W' ≠ 0 by omega)); omega
  have l : ∀ {X W : Int}, 0 < W → 0 < gd X W → Lo (X.fdiv (gd X W)) 0 (W.fdiv (gd X W)) X 0 W := by
    intro X W hW g1
    have k := rp_lo (X := X) (Y := 0) (W := W) (by omega)
    have e1 : gd X 0 = (X.natAbs : Int) := by unfold gd; rw [Int.natAbs_zero, Nat.gcd_zero_right]
    have e2 : sg (gd X 0) W = gd X W := by
      rw [e1]
      unfold sg
      rw [if_neg (by omega), gd_abs_l]
    rw [e2, Int.zero_fdiv] at k
    exact k
  have k := Lo.same (l hW g1) (l hW' g2) (by omega) (by omega) e (by omega)
  exact ⟨k.1, k.2.2⟩
theorem sq_math {a b c d o x1 y1 w1 x2 y2 w2 : Int} (fo : FrOk sx sy sw ux uy vx vy) (ho : 0 < o) (t1 : Spt sx sy sw ux uy vx vy a b o x1 y1 w1) (t2 : Spt sx sy sw ux uy vx vy c d o x2 y2 w2) :
    rf ((x2 * w1 - x1 * w2) * (x2 * w1 - x1 * w2) + (y2 * w1 - y1 * w2) * (y2 * w1 - y1 * w2)) (w1 * w2 * (w1 * w2)) = .tuple [.int ((((a - c) * ux + (b - d) * vx) * ((a - c) * ux + (b - d) * vx) + ((a - c) * uy + (b - d) * vy) * ((a - c) * uy + (b - d) * vy)).fdiv (gd (((a - c) * ux + (b - d) * vx) * ((a - c) * ux + (b - d) * vx) + ((a - c) * uy + (b - d) * vy) * ((a - c) * uy + (b - d) * vy)) (o * o))), .int ((o * o).fdiv (gd (((a - c) * ux + (b - d) * vx) * ((a - c) * ux + (b - d) * vx) + ((a - c) * uy + (b - d) * vy) * ((a - c) * uy + (b - d) * vy)) (o * o)))] := by
  have h1 := t1.lo.hw; have h2 := t2.lo.hw; have h3 := fo.w
  have hw : 0 < w1 * w2 * (w1 * w2) := Int.mul_pos (Int.mul_pos (by omega) (by omega)) (Int.mul_pos (by omega) (by omega))
  have hoo : 0 < o * o := Int.mul_pos ho ho
  have hW : 0 < sw * o := Int.mul_pos (by omega) ho
  have es : sg ((x2 * w1 - x1 * w2) * (x2 * w1 - x1 * w2) + (y2 * w1 - y1 * w2) * (y2 * w1 - y1 * w2)) (w1 * w2 * (w1 * w2)) = gd ((x2 * w1 - x1 * w2) * (x2 * w1 - x1 * w2) + (y2 * w1 - y1 * w2) * (y2 * w1 - y1 * w2)) (w1 * w2 * (w1 * w2)) := by
    unfold sg
    rw [if_neg (by omega)]
  have p1 : o * (x2 * w1 - x1 * w2) = - (w1 * w2 * ((a - c) * ux + (b - d) * vx)) := by
    have : sw * (o * (x2 * w1 - x1 * w2)) = sw * (- (w1 * w2 * ((a - c) * ux + (b - d) * vx))) := by
      have a1 := t1.lo.ex; have b1 := t2.lo.ex
      have e : sw * (o * (x2 * w1 - x1 * w2)) = (x2 * (sw * o)) * w1 - (x1 * (sw * o)) * w2 := by grind
      rw [e, a1, b1]; grind
    exact Int.eq_of_mul_eq_mul_left (by omega) this
  have p2 : o * (y2 * w1 - y1 * w2) = - (w1 * w2 * ((a - c) * uy + (b - d) * vy)) := by
    have : sw * (o * (y2 * w1 - y1 * w2)) = sw * (- (w1 * w2 * ((a - c) * uy + (b - d) * vy))) := by
      have a1 := t1.lo.ey; have b1 := t2.lo.ey
      have e : sw * (o * (y2 * w1 - y1 * w2)) = (y2 * (sw * o)) * w1 - (y1 * (sw * o)) * w2 := by grind
      rw [e, a1, b1]; grind
    exact Int.eq_of_mul_eq_mul_left (by omega) this
  have k := rf_same (X := (x2 * w1 - x1 * w2) * (x2 * w1 - x1 * w2) + (y2 * w1 - y1 * w2) * (y2 * w1 - y1 * w2)) (X' := ((a - c) * ux + (b - d) * vx) * ((a - c) * ux + (b - d) * vx) + ((a - c) * uy + (b - d) * vy) * ((a - c) * uy + (b - d) * vy)) hw hoo (by
    have e : ((x2 * w1 - x1 * w2) * (x2 * w1 - x1 * w2) + (y2 * w1 - y1 * w2) * (y2 * w1 - y1 * w2)) * (o * o) = (o * (x2 * w1 - x1 * w2)) * (o * (x2 * w1 - x1 * w2)) + (o * (y2 * w1 - y1 * w2)) * (o * (y2 * w1 - y1 * w2)) := by grind
    rw [e, p1, p2]
    generalize (a - c) * ux + (b - d) * vx = B1 at *
    generalize (a - c) * uy + (b - d) * vy = B2 at *
    grind)
  show PyData.tuple [.int _, .int _] = _
  rw [es, k.1, k.2]
abbrev s__law_squares_right : Stmt := top 42
theorem sc__law_squares_right : FnScope ["_law_frame_here", "_law_a", "_law_b", "_law_c", "_law_d", "_law_over", "_law_spot_here", "_law_one", "_law_two", "_law_x", "_law_y", "_law_top", "_law_bottom", "_law_shared_here", "_law_first", "_law_second", "_law_due"] ["_law_frame_here", "_law_a", "_law_b", "_law_c", "_law_d", "_law_over"] (defScope s__law_squares_right) := ⟨rfl, rfl, rfl, by decide +kernel, rfl, by decide +kernel, by decide +kernel⟩
theorem ok__law_squares_right {f : Addr} {fd : FuncData} (F : FnP K "_law_squares_right" s__law_squares_right f fd) (g : G mg) (c__law_shared : Cl P w K mg base 1 "_law_shared" (sp__law_shared K)) (c__law_spot : Cl P w K mg base 3 "_law_spot" (sp__law_spot K)) (c_square_between : Cl P w K mg base 6 "square_between" (sp_square_between K))  : FnOk P w K mg base CX0 7 f fd ["_law_frame_here", "_law_a", "_law_b", "_law_c", "_law_d", "_law_over"] (sp__law_squares_right K) := by
  have nd := sc__law_squares_right.nd
  refine F.ok sc__law_squares_right (fun vs H Q E h => h.len) (fun cdv A outer s H vs Q E hr h => ?_)
  obtain ⟨v1, v2, v3, v4, v5, v6, rfl, h⟩ := h
  refine ⟨_, PSs.nox (pss_cons (ps_asg (pv 0) (pg_tup (n := 3) (by rfl) (pgs_cons (pg_name (i := 6) nd rfl (Or.inl rfl)) (pgs_cons (pg_name (i := 7) nd rfl (Or.inl rfl)) (pgs_cons (pg_name (i := 8) nd rfl (Or.inl rfl)) pgs_nil))))) (pss_cons (ps_par (i := 9) (j := 10) (by rfl) nd rfl rfl (by decide) rfl rfl (pa_cons (pe_op op_add (pe_op op_mulX (pe_op op_sub (pv 1) (pv 3)) (pe_ix ix_tup (pv 7) pe_int (fun _ _ => rfl))) (pe_op op_mulX (pe_op op_sub (pv 2) (pv 4)) (pe_ix ix_tup (pv 8) pe_int (fun _ _ => rfl)))) (pa_cons (pe_op op_add (pe_op op_mulX (pe_op op_sub (pv 1) (pv 3)) (pe_ix ix_tup (pv 7) pe_int (fun _ _ => rfl))) (pe_op op_mulX (pe_op op_sub (pv 2) (pv 4)) (pe_ix ix_tup (pv 8) pe_int (fun _ _ => rfl)))) pa_nil)) (by rfl)) (pss_cons (ps_par (i := 11) (j := 12) (by rfl) nd rfl rfl (by decide) rfl rfl (pa_cons (pe_op op_add (pe_op op_mulX (pv 9) (pv 9)) (pe_op op_mulX (pv 10) (pv 10))) (pa_cons (pe_op op_mulX (pv 5) (pv 5)) pa_nil)) (by rfl)) (pss_cons (ps_set (i := 13) nd rfl (Or.inl rfl) (pc c__law_shared hr (by decide) (by rfl) (pa_cons (pv 11) (pa_cons (pv 12) pa_nil)))) (pss_cons (ps_par (i := 14) (j := 15) (by rfl) nd rfl rfl (by decide) rfl rfl (pa_cons (pc c__law_spot hr (by decide) (by rfl) (pa_cons (pv 0) (pa_cons (pv 1) (pa_cons (pv 2) (pa_cons (pv 5) pa_nil))))) (pa_cons (pc c__law_spot hr (by decide) (by rfl) (pa_cons (pv 0) (pa_cons (pv 3) (pa_cons (pv 4) (pa_cons (pv 5) pa_nil))))) pa_nil)) (by rfl)) (pss_cons (ps_set (i := 16) nd rfl (Or.inl rfl) (pe_tup (pa_cons (pe_op op_fdivX (pv 11) (pv 13)) (pa_cons (pe_op op_fdivX (pv 12) (pv 13)) pa_nil)))) (pss_one (ps_ret (pe_and (pe_cmpR (op_eqD hr.units) (pc c_square_between hr (by decide) (by rfl) (pa_cons (pv 14) (pa_cons (pv 15) pa_nil))) (pv 16) (nomark _)) (pe_one (pe_cmpR (op_eqD hr.units) (pc c_square_between hr (by decide) (by rfl) (pa_cons (pv 15) (pa_cons (pv 14) pa_nil))) (pv 16) (nomark _)))))))))))), ?_⟩
  obtain ⟨sx, sy, sw, ux, uy, vx, vy, a, b, c, d, o, rfl, rfl, rfl, rfl, rfl, hd, fo, ho, ⟨sa, sb, sc, sd, so⟩, q⟩ := h
  have sa4 : Sz 34 a := by unfold Sz at *; omega
  have sb4 : Sz 34 b := by unfold Sz at *; omega
  have sc4 : Sz 34 c := by unfold Sz at *; omega
  have sd4 : Sz 34 d := by unfold Sz at *; omega
  have so4 : Sz 4 o := by unfold Sz at *; omega
  have f1 := fo.s4; have f2 := fo.s5; have f3 := fo.s6; have f4 := fo.s7
  have hoo : 0 < o * o := Int.mul_pos ho ho
  obtain ⟨x1, y1, w1, r1, t1⟩ := spt_of fo ho sa4 sb4 so4
  obtain ⟨x2, y2, w2, r2, t2⟩ := spt_of fo ho sc4 sd4 so4
  obtain ⟨p1, a1, a2, a3⟩ : isPoint (pt x1 y1 w1) = true ∧ Sz B0 x1 ∧ Sz B0 y1 ∧ Sz B0 w1 := ⟨t1.p, t1.s1, t1.s2, t1.s3⟩
  obtain ⟨p2, b1, b2, b3⟩ : isPoint (pt x2 y2 w2) = true ∧ Sz B0 x2 ∧ Sz B0 y2 ∧ Sz B0 w2 := ⟨t2.p, t2.s1, t2.s2, t2.s3⟩
  have k1 := sq_math fo ho t1 t2
  have k2 := sq_math fo ho t2 t1
  have e2 : ((c - a) * ux + (d - b) * vx) * ((c - a) * ux + (d - b) * vx) + ((c - a) * uy + (d - b) * vy) * ((c - a) * uy + (d - b) * vy) = ((a - c) * ux + (b - d) * vx) * ((a - c) * ux + (b - d) * vx) + ((a - c) * uy + (b - d) * vy) * ((a - c) * uy + (b - d) * vy) := by grind
  rw [e2] at k2
  have hgne : gd (((a - c) * ux + (b - d) * vx) * ((a - c) * ux + (b - d) * vx) + ((a - c) * uy + (b - d) * vy) * ((a - c) * uy + (b - d) * vy)) (o * o) ≠ 0 := by
    unfold gd
    have := Nat.gcd_pos_of_pos_right (m := (((a - c) * ux + (b - d) * vx) * ((a - c) * ux + (b - d) * vx) + ((a - c) * uy + (b - d) * vy) * ((a - c) * uy + (b - d) * vy)).natAbs) (Int.natAbs_pos.mpr (show o * o ≠ 0 by omega))
    omega
  have hgs : Sz 8 (gd (((a - c) * ux + (b - d) * vx) * ((a - c) * ux + (b - d) * vx) + ((a - c) * uy + (b - d) * vy) * ((a - c) * uy + (b - d) * vy)) (o * o)) := sz_le (sz_mul so4 so4) (gd_abs (by omega))
  wtm_at "go0"
  · rw [k2, eqv_t2.mpr ⟨rfl, rfl⟩]
    exact q _ _ (by wtm_at "ex") (Dp.bl _)
  · rename_i hz
    rw [k1, eqv_t2.mpr ⟨rfl, rfl⟩] at hz
    cases hz
theorem use__law_squares_right {a b c s o : Int} (hd : Dp K H v1 (fr sx sy sw ux uy vx vy)) (fo : FrOk sx sy sw ux uy vx vy) (ho : 0 < o) (sa : Sz 33 a) (sb : Sz 33 b) (sc : Sz 33 c) (sd : Sz 33 s) (so : Sz 3 o) (q : ∀ H2, Ex H H2 → Q (.bl true) H2) : sp__law_squares_right K [v1, .int a, .int b, .int c, .int s, .int o] H Q E :=
  ⟨_, _, _, _, _, _, rfl, _, _, _, _, _, _, _, _, _, _, _, _, rfl, rfl, rfl, rfl, rfl, hd, fo, ho, ⟨sa, sb, sc, sd, so⟩, ret_bl q⟩
end
end Wb

namespace Wb
open PySem PySem.Spec PyProof.Rows L2
open Evl (Ex Ex.refl Ex.trans Ex.new)
local macro_rules | `(tactic| wtm_at "ex") => `(tactic| first | with_reducible assumption | with_reducible exact Ex.refl _ | ((with_reducible refine' Ex.trans ?exe (by with_reducible assumption)); (case exe => wtm_at "ex")))
local macro_rules | `(tactic| wtm_at "hs") => `(tactic| first | with_reducible assumption | ((with_reducible refine' ex_at ?exe (by with_reducible assumption)); (case exe => wtm_at "ex")))
local macro_rules | `(tactic| wtm_at "st2") => `(tactic| first
  | ((with_reducible refine' i_mulC ?u0 ?uq); (case u0 => first | exact cmul_l (by decide) | exact cmul_r (by decide)))
  | ((with_reducible refine' i_mkL ?u0 (fun np nH nfr nhe nhp => ?uq)); (case u0 => exact Nat.le_of_ble_eq_true rfl))
  | (with_reducible refine' i_sl ?uq)
  | (with_reducible refine' i_nopart ?uq)
  | (with_reducible refine' i_part ?uq)
  | (with_reducible refine' i_part1 ?uq))
local macro_rules | `(tactic| wtm_at "sz2") => `(tactic| ((with_reducible refine' sz_fmod ?sz1 ?sz2); (case sz1 => wtm_at "nz"); (case sz2 => wtm_at "sz")))
local macro_rules | `(tactic| wtm_at "dp") => `(tactic| first | with_reducible assumption | with_reducible exact Dp.int _ | with_reducible exact Dp.bl _ | with_reducible exact Dp.str _ | with_reducible exact Dp.non | ((with_reducible refine' dpMono ?dme (by with_reducible assumption)); (case dme => wtm_at "ex")) | ((with_reducible refine' Dp.tup (Evl.st_of ?dph) ?dpa); (case dph => wtm_at "hs"); (case dpa => wtm_at "dpa")) | ((with_reducible refine' Dp.lst (Evl.sq_of ?dph) ?dpa); (case dph => wtm_at "hs"); (case dpa => wtm_at "dpa")))
local macro_rules | `(tactic| wtm_at "dpa") => `(tactic| first | with_reducible exact DpAll.nil | ((with_reducible refine' DpAll.cons ?dp1 ?dp2); (case dp1 => wtm_at "dp"); (case dp2 => wtm_at "dpa")) | with_reducible assumption | ((with_reducible refine' dpMonoA ?dme (by with_reducible assumption)); (case dme => wtm_at "ex")))
local macro_rules | `(tactic| wtm_at "sz") => `(tactic| first | with_reducible assumption | ((with_reducible refine' sz_mul ?sz1 ?sz2); (case sz1 => wtm_at "sz"); (case sz2 => wtm_at "sz")) | ((with_reducible refine' sz_add ?sz1 ?sz2); (case sz1 => wtm_at "sz"); (case sz2 => wtm_at "sz")) | ((with_reducible refine' sz_sub ?sz1 ?sz2); (case sz1 => wtm_at "sz"); (case sz2 => wtm_at "sz")) | ((with_reducible refine' sz_neg ?sz1); (case sz1 => wtm_at "sz")) | ((with_reducible refine' sz_div ?sz1); (case sz1 => wtm_at "sz")) | ((with_reducible refine' sz_fdiv ?sz1); (case sz1 => wtm_at "sz")) | exact sz_lit (by decide) | wtm_at "sz2")
local macro_rules | `(tactic| wtm_at "szb") => `(tactic| first | with_reducible assumption | ((with_reducible refine' sz_mono ?szb1 ?szb2); (case szb1 => wtm_at "sz"); (case szb2 => decide)))
local macro_rules | `(tactic| wtm_at "nz") => `(tactic| first | assumption | decide | omega)
local macro_rules | `(tactic| wtm_at "shaped") => `(tactic| first | rfl | decide)
local macro_rules | `(tactic| wtm_at "sset") => `(tactic| ((dsimp only [L2.wipe, List.set, List.set_cons_zero, List.set_cons_succ]) <;> exact rfl))
local macro_rules | `(tactic| wtm_at "nrm") => `(tactic| dsimp only [L2.start, L2.wipe, List.set, List.append, List.map, List.map_cons, List.map_nil, List.length_cons, List.length_nil, Nat.reduceAdd, Nat.reduceSub, List.reduceReplicate, List.replicate, List.cons_append, List.nil_append, List.set_cons_zero, List.set_cons_succ])
local macro_rules | `(tactic| wtm_at "st") => `(tactic| first
  | ((with_reducible refine' i_var (v := ?u0) ?u1 ?uq); (case u1 => exact rfl))
  | ((with_reducible refine' i_nameN ?u0 ?uq); (case u0 => wtm_at "sset"))
  | (with_reducible refine' i_op ?uq)
  | (with_reducible refine' i_c ?uq)
  | (with_reducible refine' i_I0 ?uq)
  | ((with_reducible refine' i_ixTI (i := ?u0) ?u1 ?u2 ?u3 ?uq); (case u1 => wtm_at "dp"); (case u2 => wtm_at "ex"); (case u3 => exact rfl))
  | ((with_reducible refine' i_ixT (d := ?u0) ?u1 ?u2 ?u3 (fun xu hxu => ?uq)); (case u1 => wtm_at "dp"); (case u2 => wtm_at "ex"); (case u3 => exact rfl))
  | ((with_reducible refine' i_mul ?u0 ?u1 ?u2 ?uq); (case u0 => wtm_at "sz"); (case u1 => wtm_at "sz"); (case u2 => first | decide | omega))
  | (with_reducible refine' i_seq ?uq)
  | (with_reducible refine' i_asg ?uq)
  | (with_reducible refine' i_ret ?uq)
  | (with_reducible refine' i_ifs ?uq)
  | (with_reducible refine' i_drop ?uq)
  | (with_reducible refine' i_next ?uq)
  | (with_reducible refine' i_cons ?uq)
  | (with_reducible refine' i_nil ?uq)
  | (with_reducible refine' i_cl ?uq)
  | (with_reducible refine' i_cb ?uq)
  | (with_reducible refine' i_tup ?uq)
  | (with_reducible refine' i_lst ?uq)
  | ((with_reducible refine' i_mkT ?u0 (fun np nH nhe nhp => ?uq)); (case u0 => exact Nat.le_of_ble_eq_true rfl))
  | (with_reducible refine' i_test ?uq)
  | (with_reducible refine' i_B ?uq)
  | (with_reducible refine' i_k ?uq)
  | (with_reducible refine' i_and ?uq)
  | (with_reducible refine' i_or ?uq)
  | (with_reducible refine' i_not ?uq)
  | (with_reducible refine' i_andV ?uq)
  | (with_reducible refine' i_orV ?uq)
  | (with_reducible refine' i_notV ?uq)
  | (with_reducible refine' i_if ?uq)
  | (with_reducible refine' i_un ?uq)
  | (with_reducible refine' i_U ?uq)
  | (with_reducible refine' i_iteT ?uq)
  | (with_reducible refine' i_iteF ?uq)
  | ((with_reducible refine' i_iteTr ?u0 ?uq); (case u0 => first | with_reducible rfl | decide | (simp only [dIsInt, dIsBool, dIsTup, dIsStr, dIsLst, Bool.not_true, Bool.not_false]; done)))
  | ((with_reducible refine' i_iteFr ?u0 ?uq); (case u0 => first | with_reducible rfl | decide | (simp only [dIsInt, dIsBool, dIsTup, dIsStr, dIsLst, Bool.not_true, Bool.not_false]; done)))
  | (with_reducible refine' i_ite (fun hif => ?uqa) (fun hif => ?uqb))
  | (with_reducible refine' i_iteN (fun hif => ?uqa) (fun hif => ?uqb))
  | (with_reducible refine' i_iteBN (fun hif => ?uqa) (fun hif => ?uqb))
  | (with_reducible refine' i_iteB (fun hif => ?uqa) (fun hif => ?uqb))
  | ((with_reducible refine' i_modN ?u0 ?uq); (case u0 => wtm_at "nz"))
  | ((with_reducible refine' i_fdX ?u0 ?u1 ?u2 ?uq); (case u0 => wtm_at "nz"); (case u1 => wtm_at "sz"); (case u2 => first | decide | omega))
  | ((with_reducible refine' i_pow ?u0 ?uq); (case u0 => exact ⟨by decide, by decide +kernel⟩))
  | (with_reducible refine' i_eqI ?uq)
  | (with_reducible refine' i_neI ?uq)
  | (with_reducible refine' i_gcd ?uq)
  | (with_reducible refine' i_qabs ?uq)
  | (with_reducible refine' i_qint ?uq)
  | (with_reducible refine' i_qintB ?uq)
  | (with_reducible refine' i_qmax2 ?uq)
  | (with_reducible refine' i_qmin2 ?uq)
  | (with_reducible refine' i_isB ?uq)
  | (with_reducible refine' i_notB ?uq)
  | (with_reducible refine' i_chain ?uq)
  | (with_reducible refine' i_qisN ?uq)
  | (with_reducible refine' i_qnotN ?uq)
  | (with_reducible refine' i_yes ?uq)
  | (with_reducible refine' i_par ?uq)
  | (with_reducible refine' i_par3 ?uq)
  | ((with_reducible refine' i_par2 ?u0 ?uq); (case u0 => wtm_at "sset"))
  | ((with_reducible refine' i_par33 ?u0 ?uq); (case u0 => wtm_at "sset"))
  | ((with_reducible refine' i_ixLI (i := ?u0) ?u1 ?u2 ?u3 ?uq); (case u1 => wtm_at "dp"); (case u2 => wtm_at "ex"); (case u3 => exact rfl))
  | ((with_reducible refine' i_ixL (d := ?u0) ?u1 ?u2 ?u3 (fun xu hxu => ?uq)); (case u1 => wtm_at "dp"); (case u2 => wtm_at "ex"); (case u3 => exact rfl))
  | ((with_reducible refine' i_qlenT ?u0 ?uq); (case u0 => wtm_at "dp"))
  | ((with_reducible refine' i_qlenL ?u0 ?uq); (case u0 => wtm_at "dp"))
  | ((with_reducible refine' i_gtup ?u0 ?u1 ?u2 (fun gvs gdp => ?uq)); (case u0 => wtm_at "dp"); (case u1 => wtm_at "ex"); (case u2 => exact rfl))
  | ((with_reducible refine' i_glst ?u0 ?u1 ?u2 (fun gvs gdp => ?uq)); (case u0 => wtm_at "dp"); (case u1 => wtm_at "ex"); (case u2 => exact rfl))
  | ((with_reducible refine' i_gconsI ?u0 (fun gr gh => ?uq)); (case u0 => with_reducible assumption))
  | ((with_reducible refine' i_gconsA ?u0 (fun gv gr gh1 gh2 => ?uq)); (case u0 => with_reducible assumption))
  | ((with_reducible refine' i_gnilA ?u0 ?uq); (case u0 => with_reducible assumption))
  | ((with_reducible refine' i_isiI ?u0 ?uq); (case u0 => wtm_at "dp"))
  | ((with_reducible refine' i_isiB ?u0 ?uq); (case u0 => wtm_at "dp"))
  | ((with_reducible refine' i_isiT ?u0 ?uq); (case u0 => wtm_at "dp"))
  | ((with_reducible refine' i_isiS ?u0 ?uq); (case u0 => wtm_at "dp"))
  | ((with_reducible refine' i_isiL ?u0 ?uq); (case u0 => wtm_at "dp"))
  | ((with_reducible refine' i_eqD ?u0 ?u1 ?u2 ?u3 ?uq); (case u0 => wtm_at "dp"); (case u1 => wtm_at "dp"); (case u2 => wtm_at "shaped"); (case u3 => wtm_at "shaped"))
  | ((with_reducible refine' i_neD ?u0 ?u1 ?u2 ?u3 ?uq); (case u0 => wtm_at "dp"); (case u1 => wtm_at "dp"); (case u2 => wtm_at "shaped"); (case u3 => wtm_at "shaped"))
  | wtm_at "st2"
  | wtm_at "use")
local macro_rules | `(tactic| wtm_at "go") => `(tactic| repeat' (wtm_at "st"))
local macro_rules | `(tactic| wtm_at "go0") => `(tactic| ((try dsimp only [L2.cxOf, L2.Cx.nox, L2.Cx.wish, L2.Cx.tr, L2.Cx.blk]); (try wtm_at "nrm"); wtm_at "go"))
local macro_rules | `(tactic| wtm_at "fin") => `(tactic| ((try dsimp only); first | with_reducible assumption | assumption | ((with_reducible refine' Ret.use ?rur ?rue ?rud); (case rur => with_reducible assumption); (case rue => wtm_at "ex"); (case rud => wtm_at "dp"))))
local macro_rules | `(tactic| wtm_at "use") => `(tactic| ((with_reducible refine' use_turn_in ?u0 ?u1 ?u2 ?u3 ?u4 ?u5 ?u6 ?u7 ?u8 ?u9 ?u10 ?u11 ?uq); (case u0 => wtm_at "dp"); (case u1 => wtm_at "dp"); (case u2 => wtm_at "dp"); (case u3 => wtm_at "szb"); (case u4 => wtm_at "szb"); (case u5 => wtm_at "szb"); (case u6 => wtm_at "szb"); (case u7 => wtm_at "szb"); (case u8 => wtm_at "szb"); (case u9 => wtm_at "szb"); (case u10 => wtm_at "szb"); (case u11 => wtm_at "szb")))
local macro_rules | `(tactic| wtm_at "use") => `(tactic| ((with_reducible refine' use_step_from ?u0 ?u1 ?u2 ?u3 ?u4 ?u5 ?u6 ?u7 (fun ur uH ue ud => ?uq)); (case u0 => wtm_at "dp"); (case u1 => wtm_at "dp"); (case u2 => wtm_at "szb"); (case u3 => wtm_at "szb"); (case u4 => wtm_at "szb"); (case u5 => wtm_at "szb"); (case u6 => wtm_at "szb"); (case u7 => wtm_at "szb")))
local macro_rules | `(tactic| wtm_at "use") => `(tactic| (with_reducible refine' use_shared_of ?uq))
local macro_rules | `(tactic| wtm_at "use") => `(tactic| ((with_reducible refine' use_is_integer ?u0 ?uq); (case u0 => wtm_at "dp")))
local macro_rules | `(tactic| wtm_at "use") => `(tactic| ((with_reducible refine' use_is_between_in ?u0 ?u1 ?u2 ?u3 ?u4 ?u5 ?u6 ?u7 ?u8 ?u9 ?u10 ?u11 (fun uH ue => ?uq)); (case u0 => wtm_at "dp"); (case u1 => wtm_at "dp"); (case u2 => wtm_at "dp"); (case u3 => wtm_at "szb"); (case u4 => wtm_at "szb"); (case u5 => wtm_at "szb"); (case u6 => wtm_at "szb"); (case u7 => wtm_at "szb"); (case u8 => wtm_at "szb"); (case u9 => wtm_at "szb"); (case u10 => wtm_at "szb"); (case u11 => wtm_at "szb")))
local macro_rules | `(tactic| wtm_at "use") => `(tactic| ((with_reducible refine' use_line_through ?u0 ?u1 ?u2 ?u3 ?u4 ?u5 ?u6 ?u7 (fun ur uH ue ud => ?uq)); (case u0 => wtm_at "dp"); (case u1 => wtm_at "dp"); (case u2 => wtm_at "szb"); (case u3 => wtm_at "szb"); (case u4 => wtm_at "szb"); (case u5 => wtm_at "szb"); (case u6 => wtm_at "szb"); (case u7 => wtm_at "szb")))
local macro_rules | `(tactic| wtm_at "use") => `(tactic| ((with_reducible refine' use_reduced_point ?u0 ?u1 (fun ur uH ue ud => ?uq)); (case u0 => wtm_at "nz"); (case u1 => wtm_at "szb")))
local macro_rules | `(tactic| wtm_at "use") => `(tactic| ((with_reducible refine' use_reduced ?u0 ?u1 (fun ur uH ue ud => ?uq)); (case u0 => wtm_at "nz"); (case u1 => wtm_at "szb")))
local macro_rules | `(tactic| wtm_at "use") => `(tactic| ((with_reducible refine' use_is_point ?u0 (fun uH ue => ?uq)); (case u0 => wtm_at "dp")))
local macro_rules | `(tactic| wtm_at "use") => `(tactic| ((with_reducible refine' use_line_meet_in ?u0 ?u1 ?u2 ?u3 ?u4 ?u5 ?u6 ?u7 ?u8 ?u9 ?u10 ?u11 ?u12 ?u13 ?u14 ?u15 (fun ur uH ue ud => ?uq)); (case u0 => wtm_at "dp"); (case u1 => wtm_at "dp"); (case u2 => wtm_at "dp"); (case u3 => wtm_at "dp"); (case u4 => wtm_at "szb"); (case u5 => wtm_at "szb"); (case u6 => wtm_at "szb"); (case u7 => wtm_at "szb"); (case u8 => wtm_at "szb"); (case u9 => wtm_at "szb"); (case u10 => wtm_at "szb"); (case u11 => wtm_at "szb"); (case u12 => wtm_at "szb"); (case u13 => wtm_at "szb"); (case u14 => wtm_at "szb"); (case u15 => wtm_at "szb")))
local macro_rules | `(tactic| wtm_at "use") => `(tactic| ((with_reducible refine' use_middle_in ?u0 ?u1 ?u2 ?u3 ?u4 ?u5 ?u6 ?u7 ?u8 ?u9 (fun ur uH ue ud => ?uq)); (case u0 => wtm_at "dp"); (case u1 => wtm_at "dp"); (case u2 => wtm_at "szb"); (case u3 => wtm_at "szb"); (case u4 => wtm_at "szb"); (case u5 => wtm_at "szb"); (case u6 => wtm_at "szb"); (case u7 => wtm_at "szb"); (case u8 => wtm_at "nz"); (case u9 => wtm_at "nz")))
local macro_rules | `(tactic| wtm_at "use") => `(tactic| ((with_reducible refine' use_square_in ?u0 ?u1 ?u2 ?u3 ?u4 ?u5 ?u6 ?u7 ?u8 ?u9 (fun ur uH ue ud => ?uq)); (case u0 => wtm_at "dp"); (case u1 => wtm_at "dp"); (case u2 => wtm_at "szb"); (case u3 => wtm_at "szb"); (case u4 => wtm_at "szb"); (case u5 => wtm_at "szb"); (case u6 => wtm_at "szb"); (case u7 => wtm_at "szb"); (case u8 => wtm_at "nz"); (case u9 => wtm_at "nz")))
local macro_rules | `(tactic| wtm_at "use") => `(tactic| ((with_reducible refine' use_is_side ?u0 (fun uH ue => ?uq)); (case u0 => wtm_at "dp")))
local macro_rules | `(tactic| wtm_at "use") => `(tactic| (with_reducible refine' use_require_integer ?uq))
local macro_rules | `(tactic| wtm_at "use") => `(tactic| ((with_reducible refine' use_require_point ?u0 ?u1 (fun uH ue => ?uq)); (case u0 => wtm_at "dp"); (case u1 => with_reducible assumption)))
local macro_rules | `(tactic| wtm_at "use") => `(tactic| ((with_reducible refine' use_require_points ?u0 ?u1 ?u2 (fun uH ue => ?uq)); (case u0 => wtm_at "dpa"); (case u1 => exact Nat.le_of_ble_eq_true rfl); (case u2 => wtm_at "pts")))
local macro_rules | `(tactic| wtm_at "pts") => `(tactic| first | with_reducible exact pts4 (by assumption) (by assumption) (by assumption) (by assumption) | with_reducible exact pts3 (by assumption) (by assumption) (by assumption) | with_reducible exact pts2 (by assumption) (by assumption))
local macro_rules | `(tactic| wtm_at "use") => `(tactic| ((with_reducible refine' use_turn_of ?u0 ?u1 ?u2 ?u3 ?u4 ?u5 ?u6 ?u7 ?u8 ?u9 ?u10 ?u11 ?u12 ?u13 ?u14 (fun uH ue => ?uq)); (case u0 => wtm_at "dp"); (case u1 => wtm_at "dp"); (case u2 => wtm_at "dp"); (case u3 => wtm_at "szb"); (case u4 => wtm_at "szb"); (case u5 => wtm_at "szb"); (case u6 => wtm_at "szb"); (case u7 => wtm_at "szb"); (case u8 => wtm_at "szb"); (case u9 => wtm_at "szb"); (case u10 => wtm_at "szb"); (case u11 => wtm_at "szb"); (case u12 => with_reducible assumption); (case u13 => with_reducible assumption); (case u14 => with_reducible assumption)))
local macro_rules | `(tactic| wtm_at "use") => `(tactic| ((with_reducible refine' use_is_between ?u0 ?u1 ?u2 ?u3 ?u4 ?u5 ?u6 ?u7 ?u8 ?u9 ?u10 ?u11 ?u12 ?u13 ?u14 (fun uH ue => ?uq)); (case u0 => wtm_at "dp"); (case u1 => wtm_at "dp"); (case u2 => wtm_at "dp"); (case u3 => wtm_at "szb"); (case u4 => wtm_at "szb"); (case u5 => wtm_at "szb"); (case u6 => wtm_at "szb"); (case u7 => wtm_at "szb"); (case u8 => wtm_at "szb"); (case u9 => wtm_at "szb"); (case u10 => wtm_at "szb"); (case u11 => wtm_at "szb"); (case u12 => with_reducible assumption); (case u13 => with_reducible assumption); (case u14 => with_reducible assumption)))
local macro_rules | `(tactic| wtm_at "use") => `(tactic| ((with_reducible refine' use_middle_of ?u0 ?u1 ?u2 ?u3 ?u4 ?u5 ?u6 ?u7 ?u8 ?u9 (fun ur uH ue ud => ?uq)); (case u0 => wtm_at "dp"); (case u1 => wtm_at "dp"); (case u2 => wtm_at "szb"); (case u3 => wtm_at "szb"); (case u4 => wtm_at "szb"); (case u5 => wtm_at "szb"); (case u6 => wtm_at "szb"); (case u7 => wtm_at "szb"); (case u8 => with_reducible assumption); (case u9 => with_reducible assumption)))
local macro_rules | `(tactic| wtm_at "use") => `(tactic| ((with_reducible refine' use_square_between ?u0 ?u1 ?u2 ?u3 ?u4 ?u5 ?u6 ?u7 ?u8 ?u9 (fun ur uH ue ud => ?uq)); (case u0 => wtm_at "dp"); (case u1 => wtm_at "dp"); (case u2 => wtm_at "szb"); (case u3 => wtm_at "szb"); (case u4 => wtm_at "szb"); (case u5 => wtm_at "szb"); (case u6 => wtm_at "szb"); (case u7 => wtm_at "szb"); (case u8 => with_reducible assumption); (case u9 => with_reducible assumption)))
local macro_rules | `(tactic| wtm_at "use") => `(tactic| ((with_reducible refine' use_point_of ?u0 ?u1 (fun ur uH ue ud => ?uq)); (case u0 => wtm_at "nz"); (case u1 => wtm_at "szb")))
local macro_rules | `(tactic| wtm_at "use") => `(tactic| ((with_reducible refine' use__law_draw ?u0 ?u1 ?u2 (fun dn dH dn0 dn1 de db => ?uq)); (case u0 => wtm_at "bag"); (case u1 => wtm_at "pos"); (case u2 => wtm_at "szb")))
local macro_rules | `(tactic| wtm_at "pos") => `(tactic| first | assumption | decide | omega)
local macro_rules | `(tactic| wtm_at "oneof") => `(tactic| ((with_reducible refine' use__law_one_of ?u0 ?u1 ?u2 ?u3 ?uq); (case u0 => wtm_at "bag"); (case u1 => wtm_at "dp"); (case u2 => exact Nat.le_of_ble_eq_true rfl); (case u3 => exact Nat.le_of_ble_eq_true rfl)))
local macro_rules | `(tactic| wtm_at "use") => `(tactic| ((with_reducible refine' use__law_point ?u0 ?u1 (fun ur uH ue ud => ?uq)); (case u0 => wtm_at "pos"); (case u1 => wtm_at "szb")))
local macro_rules | `(tactic| wtm_at "use") => `(tactic| (with_reducible refine' use__law_shared ?_))
section
variable {P : Program} {w : World} {K : PySem.W.Frag} {mg : Str → Option Value} {base : Heap} {H H' : Hp} {Q : VK} {E : XK} {v1 v2 v3 v4 : V} {x1 y1 w1 x2 y2 w2 x3 y3 w3 x4 y4 w4 : Int}
variable {v5 v6 : V} {sx sy sw ux uy vx vy : Int}
/-- the line through two spots that lie along (ux, uy) from a third -/
theorem line_math {sx sy sw ux uy a b o x1 y1 w1 x2 y2 w2 : Int} (l1 : Lo x1 y1 w1 (sx * o + a * ux * sw) (sy * o + a * uy * sw) (sw * o)) (l2 : Lo x2 y2 w2 (sx * o + b * ux * sw) (sy * o + b * uy * sw) (sw * o)) :
    (y1 * w2 - y2 * w1) * ((sw * o) * (sw * o)) = w1 * w2 * (o * sw * (b - a)) * (-(sw * uy)) ∧ (w1 * x2 - w2 * x1) * ((sw * o) * (sw * o)) = w1 * w2 * (o * sw * (b - a)) * (sw * ux) ∧ (x1 * y2 - x2 * y1) * ((sw * o) * (sw * o)) = w1 * w2 * (o * sw * (b - a)) * (sx * uy - sy * ux) := by
  have a1 := l1.ex; have a2 := l1.ey; have b1 := l2.ex; have b2 := l2.ey
  refine ⟨?_, ?_, ?_⟩
  · have e : (y1 * w2 - y2 * w1) * ((sw * o) * (sw * o)) = ((y1 * (sw * o)) * w2 - (y2 * (sw * o)) * w1) * (sw * o) := by grind
    rw [e, a2, b2]; grind
  · have e : (w1 * x2 - w2 * x1) * ((sw * o) * (sw * o)) = ((x2 * (sw * o)) * w1 - (x1 * (sw * o)) * w2) * (sw * o) := by grind
    rw [e, a1, b1]; grind
  · have e : (x1 * y2 - x2 * y1) * ((sw * o) * (sw * o)) = (x1 * (sw * o)) * (y2 * (sw * o)) - (x2 * (sw * o)) * (y1 * (sw * o)) := by grind
    rw [e, a1, a2, b1, b2]; grind
theorem meet_math {sx sy sw ux uy vx vy k1 k2 U A B C D E F : Int} (hs : 1 ≤ sw) (hdet : ux * vy ≠ uy * vx) (hU : 0 < U) (h1 : k1 ≠ 0) (h2 : k2 ≠ 0) (a1 : A * U = k1 * (-(sw * uy))) (a2 : B * U = k1 * (sw * ux)) (a3 : C * U = k1 * (sx * uy - sy * ux)) (b1 : D * U = k2 * (-(sw * vy))) (b2 : E * U = k2 * (sw * vx)) (b3 : F * U = k2 * (sx * vy - sy * vx)) :
    A * E - D * B ≠ 0 ∧ (B * F - E * C) * sw = sx * (A * E - D * B) ∧ (C * D - F * A) * sw = sy * (A * E - D * B) := by
  have m1 : (A * E - D * B) * (U * U) = k1 * k2 * (sw * sw) * (ux * vy - uy * vx) := by
    have e : (A * E - D * B) * (U * U) = (A * U) * (E * U) - (D * U) * (B * U) := by grind
    rw [e, a1, a2, b1, b2]; grind
  have m2 : (B * F - E * C) * (U * U) = k1 * k2 * (sw * sx) * (ux * vy - uy * vx) := by
    have e : (B * F - E * C) * (U * U) = (B * U) * (F * U) - (E * U) * (C * U) := by grind
    rw [e, a2, a3, b2, b3]; grind
  have m3 : (C * D - F * A) * (U * U) = k1 * k2 * (sw * sy) * (ux * vy - uy * vx) := by
    have e : (C * D - F * A) * (U * U) = (C * U) * (D * U) - (F * U) * (A * U) := by grind
    rw [e, a1, a3, b1, b3]; grind
  have hUU : U * U ≠ 0 := Int.mul_ne_zero (by omega) (by omega)
  refine ⟨fun z => ?_, ?_, ?_⟩
  · rw [z, Int.zero_mul] at m1
    have : k1 * k2 * (sw * sw) * (ux * vy - uy * vx) ≠ 0 := Int.mul_ne_zero (Int.mul_ne_zero (Int.mul_ne_zero h1 h2) (Int.mul_ne_zero (by omega) (by omega))) (by omega)
    exact this m1.symm
  · refine Int.eq_of_mul_eq_mul_right hUU ?_
    have e1 : (B * F - E * C) * sw * (U * U) = ((B * F - E * C) * (U * U)) * sw := by grind
    have e2 : sx * (A * E - D * B) * (U * U) = sx * ((A * E - D * B) * (U * U)) := by grind
    rw [e1, e2, m1, m2]; grind
  · refine Int.eq_of_mul_eq_mul_right hUU ?_
    have e1 : (C * D - F * A) * sw * (U * U) = ((C * D - F * A) * (U * U)) * sw := by grind
    have e2 : sy * (A * E - D * B) * (U * U) = sy * ((A * E - D * B) * (U * U)) := by grind
    rw [e1, e2, m1, m3]; grind
local macro_rules | `(tactic| wtm_at "use") => `(tactic| (first | ((with_reducible refine' use__law_spotE ?u0 ?u1 ?u2 ?u3 ?u4 ?u5 ?u6 (fun pv pH pe pd => ?uq)); (case u1 => wtm_at "dp"); (case u2 => with_reducible assumption); (case u0 => with_reducible assumption); (case u3 => wtm_at "pos"); (case u4 => wtm_at "szb"); (case u5 => wtm_at "szb"); (case u6 => wtm_at "szb")) | fail))
local macro_rules | `(tactic| wtm_at "use") => `(tactic| (first | ((with_reducible refine' use_middle_ofE ?u0 ?u1 ?u2 ?u3 ?u4 ?u5 ?u6 ?u7 ?u8 ?u9 ?u10 (fun pv pH pe pd => ?uq)); (case u1 => wtm_at "dp"); (case u2 => wtm_at "dp"); (case u0 => with_reducible assumption); (case u3 => wtm_at "szb"); (case u4 => wtm_at "szb"); (case u5 => wtm_at "szb"); (case u6 => wtm_at "szb"); (case u7 => wtm_at "szb"); (case u8 => wtm_at "szb"); (case u9 => with_reducible assumption); (case u10 => with_reducible assumption)) | fail))
local macro_rules | `(tactic| wtm_at "use") => `(tactic| (first | ((with_reducible refine' use__law_sense ?u0 ?u1 ?uq); (case u0 => wtm_at "dp"); (case u1 => with_reducible assumption)) | fail))
local macro_rules | `(tactic| wtm_at "use") => `(tactic| (first | (with_reducible refine' use__law_sign ?uq) | fail))
theorem i_cs {sp : Sp} {EE : L2.St → XK} {t : TA} {σ : L2.St} (q : t σ H fun vs H1 => sp vs H1 Q (EE σ)) : tCallS sp EE t σ H Q := q
structure ClX (P : Program) (w : World) (K : PySem.W.Frag) (mg : Str → Option Value) (base : Heap) (k : Nat) (x : Str) (sp : Sp) : Prop where
  ex : ∃ (f : Addr) (fd : FuncData) (ps : List Str), FnOk P w K mg base (L2.CX P w) k f fd ps sp ∧ mg x = some (.ref f) ∧ PySem.W.keepIn K (.ref f) = true ∧ Binds K fd ps []
def sp__law_is_refused (K : PySem.W.Frag) : Sp := A4 fun v1 v2 v3 v4 H Q => ∃ x1 y1 w1 x2 y2 w2 x3 y3 w3 x4 y4 w4, Dp K H v1 (pt x1 y1 w1) ∧ Dp K H v2 (pt x2 y2 w2) ∧ Dp K H v3 (pt x3 y3 w3) ∧ Dp K H v4 (pt x4 y4 w4) ∧
  (isPoint (pt x1 y1 w1) = true ∧ isPoint (pt x2 y2 w2) = true ∧ isPoint (pt x3 y3 w3) = true ∧ isPoint (pt x4 y4 w4) = true) ∧ (PyData.eqv (pt x1 y1 w1) (pt x2 y2 w2) = true ∨ PyData.eqv (pt x3 y3 w3) (pt x4 y4 w4) = true) ∧ Ret K (.bool true) H Q
abbrev s__law_is_refused : Stmt := top 44
theorem sc__law_is_refused : FnScope ["_law_one", "_law_two", "_law_three", "_law_four"] ["_law_one", "_law_two", "_law_three", "_law_four"] (defScope s__law_is_refused) := ⟨rfl, rfl, rfl, by decide +kernel, rfl, by decide +kernel, by decide +kernel⟩
theorem ok__law_is_refused {f : Addr} {fd : FuncData} {C : Addr} (F : FnP K "_law_is_refused" s__law_is_refused f fd) (e : Exc1 K mg "InvalidOperation" C) (cx : ClX P w K mg base 6 "line_meet" (sp_line_meetX K C)) : FnOk P w K mg base CX0 7 f fd ["_law_one", "_law_two", "_law_three", "_law_four"] (sp__law_is_refused K) := by
  have nd := sc__law_is_refused.nd
  obtain ⟨fx, fdx, psx, FX, mX, kX, bX⟩ := cx.ex
  refine F.ok sc__law_is_refused (fun vs H Q E h => h.len) (fun cdv A outer s H vs Q E hr h => ?_)
  obtain ⟨v1, v2, v3, v4, rfl, h⟩ := h
  have hr1 : Room 6 _ := hr.mono (by decide)
  refine ⟨_, pss_one (ps_try_only (tb := fun W => tSeq (tDrop (tCallS (sp_line_meetX K C) (WE W) (tCons (tVar 0) (tCons (tVar 1) (tCons (tVar 2) (tCons (tVar 3) tNil)))))) (tRet (tC (.bl false)))) (ts := fun _ _ _ => tRet (tC (.bl true))) (Wout := fun _ _ _ _ => False) rfl rfl ⟨rfl, by decide, Or.inl e.g⟩ takes0
          (fun W pn xe tk _ => pss_cons (ps_expr (by exact (pe_callS FX hr1 rfl mX kX bX (fun σ => passAt tk σ) (by exact (pa_cons (pv 0) (pa_cons (pv 1) (pa_cons (pv 2) (pa_cons (pv 3) pa_nil)))))))) (pss_one (ps_ret pe_bl)))
          (fun _ _ _ _ _ _ _ => pss_one (ps_ret pe_bl))), ?_⟩
  obtain ⟨x1, y1, w1, x2, y2, w2, x3, y3, w3, x4, y4, w4, h1, h2, h3, h4, pp, he, q⟩ := h
  refine i_seq (i_drop (i_cs (i_cons (i_var rfl (i_cons (i_var rfl (i_cons (i_var rfl (i_cons (i_var rfl (i_nil ?_))))))))))) 
  exact ⟨v1, v2, v3, v4, x1, y1, w1, x2, y2, w2, x3, y3, w3, x4, y4, w4, rfl, h1, h2, h3, h4, pp, he, fun H2 e2 => ⟨true, e.m, fun _ a ha => q _ _ e2 (.bl true), fun z => by cases z⟩⟩
theorem use__law_is_refused (h1 : Dp K H v1 (pt x1 y1 w1)) (h2 : Dp K H v2 (pt x2 y2 w2)) (h3 : Dp K H v3 (pt x3 y3 w3)) (h4 : Dp K H v4 (pt x4 y4 w4)) (p1 : isPoint (pt x1 y1 w1) = true) (p2 : isPoint (pt x2 y2 w2) = true) (p3 : isPoint (pt x3 y3 w3) = true) (p4 : isPoint (pt x4 y4 w4) = true)
    (he : PyData.eqv (pt x1 y1 w1) (pt x2 y2 w2) = true ∨ PyData.eqv (pt x3 y3 w3) (pt x4 y4 w4) = true) (q : ∀ H2, Ex H H2 → Q (.bl true) H2) : sp__law_is_refused K [v1, v2, v3, v4] H Q E :=
  ⟨_, _, _, _, rfl, _, _, _, _, _, _, _, _, _, _, _, _, h1, h2, h3, h4, ⟨p1, p2, p3, p4⟩, he, ret_bl q⟩
theorem use_line_meetE {x y w : Int} (r : lmeet x1 y1 w1 x2 y2 w2 x3 y3 w3 x4 y4 w4 = pt x y w) (h1 : Dp K H v1 (pt x1 y1 w1)) (h2 : Dp K H v2 (pt x2 y2 w2)) (h3 : Dp K H v3 (pt x3 y3 w3)) (h4 : Dp K H v4 (pt x4 y4 w4)) (a1 : Sz B0 x1) (a2 : Sz B0 y1) (a3 : Sz B0 w1) (b1 : Sz B0 x2) (b2 : Sz B0 y2) (b3 : Sz B0 w2) (c1 : Sz B0 x3) (c2 : Sz B0 y3) (c3 : Sz B0 w3)
    (d1 : Sz B0 x4) (d2 : Sz B0 y4) (d3 : Sz B0 w4) (p1 : isPoint (pt x1 y1 w1) = true) (p2 : isPoint (pt x2 y2 w2) = true) (p3 : isPoint (pt x3 y3 w3) = true) (p4 : isPoint (pt x4 y4 w4) = true) (e1 : PyData.eqv (pt x1 y1 w1) (pt x2 y2 w2) = false) (e2 : PyData.eqv (pt x3 y3 w3) (pt x4 y4 w4) = false)
    (q : ∀ v H2, Ex H H2 → Dp K H2 v (pt x y w) → Q v H2) : sp_line_meet K [v1, v2, v3, v4] H Q E := use_line_meet h1 h2 h3 h4 a1 a2 a3 b1 b2 b3 c1 c2 c3 d1 d2 d3 p1 p2 p3 p4 e1 e2 (r ▸ q)
theorem use_line_meetN (r : lmeet x1 y1 w1 x2 y2 w2 x3 y3 w3 x4 y4 w4 = .none) (h1 : Dp K H v1 (pt x1 y1 w1)) (h2 : Dp K H v2 (pt x2 y2 w2)) (h3 : Dp K H v3 (pt x3 y3 w3)) (h4 : Dp K H v4 (pt x4 y4 w4)) (a1 : Sz B0 x1) (a2 : Sz B0 y1) (a3 : Sz B0 w1) (b1 : Sz B0 x2) (b2 : Sz B0 y2) (b3 : Sz B0 w2) (c1 : Sz B0 x3) (c2 : Sz B0 y3) (c3 : Sz B0 w3)
    (d1 : Sz B0 x4) (d2 : Sz B0 y4) (d3 : Sz B0 w4) (p1 : isPoint (pt x1 y1 w1) = true) (p2 : isPoint (pt x2 y2 w2) = true) (p3 : isPoint (pt x3 y3 w3) = true) (p4 : isPoint (pt x4 y4 w4) = true) (e1 : PyData.eqv (pt x1 y1 w1) (pt x2 y2 w2) = false) (e2 : PyData.eqv (pt x3 y3 w3) (pt x4 y4 w4) = false)
    (q : ∀ H2, Ex H H2 → Q .non H2) : sp_line_meet K [v1, v2, v3, v4] H Q E := use_line_meet h1 h2 h3 h4 a1 a2 a3 b1 b2 b3 c1 c2 c3 d1 d2 d3 p1 p2 p3 p4 e1 e2 (r ▸ fun v H2 e hv => by cases dpNon hv; exact q H2 e)
local macro_rules | `(tactic| wtm_at "use") => `(tactic| (first | ((with_reducible refine' use__law_is_refused ?u0 ?u1 ?u2 ?u3 ?u4 ?u5 ?u6 ?u7 ?u8 (fun pH pe => ?uq)); (case u0 => wtm_at "dp"); (case u1 => wtm_at "dp"); (case u2 => wtm_at "dp"); (case u3 => wtm_at "dp"); (case u4 => with_reducible assumption); (case u5 => with_reducible assumption); (case u6 => with_reducible assumption); (case u7 => with_reducible assumption); (case u8 => with_reducible assumption)) | fail))
local macro_rules | `(tactic| wtm_at "use") => `(tactic| (first | ((with_reducible refine' use_line_meetE ?u0 ?u1 ?u2 ?u3 ?u4 ?u5 ?u6 ?u7 ?u8 ?u9 ?u10 ?u11 ?u12 ?u13 ?u14 ?u15 ?u16 ?u17 ?u18 ?u19 ?u20 ?u21 ?u22 (fun pv pH pe pd => ?uq)); (case u1 => wtm_at "dp"); (case u2 => wtm_at "dp"); (case u3 => wtm_at "dp"); (case u4 => wtm_at "dp"); (case u0 => with_reducible assumption); (case u5 => wtm_at "szb"); (case u6 => wtm_at "szb"); (case u7 => wtm_at "szb"); (case u8 => wtm_at "szb"); (case u9 => wtm_at "szb"); (case u10 => wtm_at "szb"); (case u11 => wtm_at "szb"); (case u12 => wtm_at "szb"); (case u13 => wtm_at "szb"); (case u14 => wtm_at "szb"); (case u15 => wtm_at "szb"); (case u16 => wtm_at "szb"); (case u17 => with_reducible assumption); (case u18 => with_reducible assumption); (case u19 => with_reducible assumption); (case u20 => with_reducible assumption); (case u21 => with_reducible assumption); (case u22 => with_reducible assumption)) | fail))
local macro_rules | `(tactic| wtm_at "use") => `(tactic| (first | ((with_reducible refine' use_line_meetN ?u0 ?u1 ?u2 ?u3 ?u4 ?u5 ?u6 ?u7 ?u8 ?u9 ?u10 ?u11 ?u12 ?u13 ?u14 ?u15 ?u16 ?u17 ?u18 ?u19 ?u20 ?u21 ?u22 (fun pH pe => ?uq)); (case u1 => wtm_at "dp"); (case u2 => wtm_at "dp"); (case u3 => wtm_at "dp"); (case u4 => wtm_at "dp"); (case u0 => with_reducible assumption); (case u5 => wtm_at "szb"); (case u6 => wtm_at "szb"); (case u7 => wtm_at "szb"); (case u8 => wtm_at "szb"); (case u9 => wtm_at "szb"); (case u10 => wtm_at "szb"); (case u11 => wtm_at "szb"); (case u12 => wtm_at "szb"); (case u13 => wtm_at "szb"); (case u14 => wtm_at "szb"); (case u15 => wtm_at "szb"); (case u16 => wtm_at "szb"); (case u17 => with_reducible assumption); (case u18 => with_reducible assumption); (case u19 => with_reducible assumption); (case u20 => with_reducible assumption); (case u21 => with_reducible assumption); (case u22 => with_reducible assumption)) | fail))
theorem spt_u {a o x y w : Int} (t : Spt sx sy sw ux uy vx vy a 0 o x y w) : Lo x y w (sx * o + a * ux * sw) (sy * o + a * uy * sw) (sw * o) := by
  have l := t.lo
  have e1 : sx * o + (a * ux + 0 * vx) * sw = sx * o + a * ux * sw := by grind
  have e2 : sy * o + (a * uy + 0 * vy) * sw = sy * o + a * uy * sw := by grind
  rw [← e1, ← e2]
  exact l
theorem spt_v {a o x y w : Int} (t : Spt sx sy sw ux uy vx vy 0 a o x y w) : Lo x y w (sx * o + a * vx * sw) (sy * o + a * vy * sw) (sw * o) := by
  have l := t.lo
  have e1 : sx * o + (0 * ux + a * vx) * sw = sx * o + a * vx * sw := by grind
  have e2 : sy * o + (0 * uy + a * vy) * sw = sy * o + a * vy * sw := by grind
  rw [← e1, ← e2]
  exact l
theorem meet_at {a b c d o x1 y1 w1 x2 y2 w2 x3 y3 w3 x4 y4 w4 x y w : Int} (hs : 1 ≤ sw) (hdet : ux * vy ≠ uy * vx) (ho : 0 < o) (hab : a ≠ b) (hcd : c ≠ d) (l1 : Lo x1 y1 w1 (sx * o + a * ux * sw) (sy * o + a * uy * sw) (sw * o)) (l2 : Lo x2 y2 w2 (sx * o + b * ux * sw) (sy * o + b * uy * sw) (sw * o)) (l3 : Lo x3 y3 w3 (sx * o + c * vx * sw) (sy * o + c * vy * sw) (sw * o)) (l4 : Lo x4 y4 w4 (sx * o + d * vx * sw) (sy * o + d * vy * sw) (sw * o)) (l : Lo x y w sx sy sw) :
    lmeet x1 y1 w1 x2 y2 w2 x3 y3 w3 x4 y4 w4 = pt x y w := by
  obtain ⟨a1, a2, a3⟩ := line_math l1 l2
  obtain ⟨b1, b2, b3⟩ := line_math l3 l4
  have h1 := l1.hw; have h2 := l2.hw; have h3 := l3.hw; have h4 := l4.hw
  have k1 : w1 * w2 * (o * sw * (b - a)) ≠ 0 := Int.mul_ne_zero (Int.mul_ne_zero (by omega) (by omega)) (Int.mul_ne_zero (Int.mul_ne_zero (by omega) (by omega)) (by omega))
  have k2 : w3 * w4 * (o * sw * (d - c)) ≠ 0 := Int.mul_ne_zero (Int.mul_ne_zero (by omega) (by omega)) (Int.mul_ne_zero (Int.mul_ne_zero (by omega) (by omega)) (by omega))
  have hU : 0 < (sw * o) * (sw * o) := Int.mul_pos (Int.mul_pos (by omega) ho) (Int.mul_pos (by omega) ho)
  obtain ⟨m1, m2, m3⟩ := meet_math hs hdet hU k1 k2 a1 a2 a3 b1 b2 b3
  unfold lmeet
  rw [if_neg m1]
  have k := Lo.same (rp_lo (X := lx x1 y1 w1 x2 y2 w2 x3 y3 w3 x4 y4 w4) (Y := ly x1 y1 w1 x2 y2 w2 x3 y3 w3 x4 y4 w4) m1) l m1 (by omega) m2 m3
  show pt _ _ _ = pt _ _ _
  rw [k.1, k.2.1, k.2.2]
/-- spots apart -/
theorem spt_ne {a b c o x1 y1 w1 x2 y2 w2 : Int} (fo : FrOk sx sy sw ux uy vx vy) (ho : 0 < o) (hab : a ≠ b) (t1 : Spt sx sy sw ux uy vx vy a c o x1 y1 w1) (t2 : Spt sx sy sw ux uy vx vy b c o x2 y2 w2) : PyData.eqv (pt x1 y1 w1) (pt x2 y2 w2) = false := by
  rw [eqv_ptF]
  rintro ⟨rfl, rfl, rfl⟩
  have a1 := t1.lo.ex; have a2 := t1.lo.ey; have b1 := t2.lo.ex; have b2 := t2.lo.ey
  have hs := fo.w; have hw := t1.lo.hw
  have hu := u_pos fo.det
  have e1 : (a - b) * ux * (sw * w1) = 0 := by grind
  have e2 : (a - b) * uy * (sw * w1) = 0 := by grind
  have hsw : sw * w1 ≠ 0 := Int.mul_ne_zero (by omega) (by omega)
  have f1 := (Int.mul_eq_zero.mp ((Int.mul_eq_zero.mp e1).resolve_right hsw)).resolve_left (by omega)
  have f2 := (Int.mul_eq_zero.mp ((Int.mul_eq_zero.mp e2).resolve_right hsw)).resolve_left (by omega)
  rw [f1, f2] at hu
  simp at hu
theorem spt_neV {a b c o x1 y1 w1 x2 y2 w2 : Int} (fo : FrOk sx sy sw ux uy vx vy) (ho : 0 < o) (hab : a ≠ b) (t1 : Spt sx sy sw ux uy vx vy c a o x1 y1 w1) (t2 : Spt sx sy sw ux uy vx vy c b o x2 y2 w2) : PyData.eqv (pt x1 y1 w1) (pt x2 y2 w2) = false := by
  rw [eqv_ptF]
  rintro ⟨rfl, rfl, rfl⟩
  have a1 := t1.lo.ex; have a2 := t1.lo.ey; have b1 := t2.lo.ex; have b2 := t2.lo.ey
  have hs := fo.w; have hw := t1.lo.hw
  have hu : 0 < vx * vx + vy * vy := u_pos (ux := vx) (uy := vy) (vx := ux) (vy := uy) (by have := fo.det; intro z; apply this; grind)
  have e1 : (a - b) * vx * (sw * w1) = 0 := by grind
  have e2 : (a - b) * vy * (sw * w1) = 0 := by grind
  have hsw : sw * w1 ≠ 0 := Int.mul_ne_zero (by omega) (by omega)
  have f1 := (Int.mul_eq_zero.mp ((Int.mul_eq_zero.mp e1).resolve_right hsw)).resolve_left (by omega)
  have f2 := (Int.mul_eq_zero.mp ((Int.mul_eq_zero.mp e2).resolve_right hsw)).resolve_left (by omega)
  rw [f1, f2] at hu
  simp at hu
theorem meet_par {a b c o x1 y1 w1 x2 y2 w2 x3 y3 w3 x4 y4 w4 : Int} (fo : FrOk sx sy sw ux uy vx vy) (ho : 0 < o) (t1 : Spt sx sy sw ux uy vx vy a 0 o x1 y1 w1) (t2 : Spt sx sy sw ux uy vx vy b 0 o x2 y2 w2) (t3 : Spt sx sy sw ux uy vx vy a c o x3 y3 w3) (t4 : Spt sx sy sw ux uy vx vy b c o x4 y4 w4) : lmeet x1 y1 w1 x2 y2 w2 x3 y3 w3 x4 y4 w4 = .none := by
  have a1 := t1.lo.ex; have a2 := t1.lo.ey; have b1 := t2.lo.ex; have b2 := t2.lo.ey
  have c1 := t3.lo.ex; have c2 := t3.lo.ey; have d1 := t4.lo.ex; have d2 := t4.lo.ey
  have hs := fo.w
  have hW : sw * o ≠ 0 := Int.mul_ne_zero (by omega) (by omega)
  have p1 : (y1 * w2 - y2 * w1) * (sw * o) = w1 * w2 * sw * (a - b) * uy := by
    have e : (y1 * w2 - y2 * w1) * (sw * o) = (y1 * (sw * o)) * w2 - (y2 * (sw * o)) * w1 := by grind
    rw [e, a2, b2]; grind
  have p2 : (w1 * x2 - w2 * x1) * (sw * o) = w1 * w2 * sw * (b - a) * ux := by
    have e : (w1 * x2 - w2 * x1) * (sw * o) = (x2 * (sw * o)) * w1 - (x1 * (sw * o)) * w2 := by grind
    rw [e, a1, b1]; grind
  have p3 : (y3 * w4 - y4 * w3) * (sw * o) = w3 * w4 * sw * (a - b) * uy := by
    have e : (y3 * w4 - y4 * w3) * (sw * o) = (y3 * (sw * o)) * w4 - (y4 * (sw * o)) * w3 := by grind
    rw [e, c2, d2]; grind
  have p4 : (w3 * x4 - w4 * x3) * (sw * o) = w3 * w4 * sw * (b - a) * ux := by
    have e : (w3 * x4 - w4 * x3) * (sw * o) = (x4 * (sw * o)) * w3 - (x3 * (sw * o)) * w4 := by grind
    rw [e, c1, d1]; grind
  have z : lw x1 y1 w1 x2 y2 w2 x3 y3 w3 x4 y4 w4 = 0 := by
    have k : lw x1 y1 w1 x2 y2 w2 x3 y3 w3 x4 y4 w4 * ((sw * o) * (sw * o)) = 0 := by
      have e : lw x1 y1 w1 x2 y2 w2 x3 y3 w3 x4 y4 w4 * ((sw * o) * (sw * o)) = ((y1 * w2 - y2 * w1) * (sw * o)) * ((w3 * x4 - w4 * x3) * (sw * o)) - ((y3 * w4 - y4 * w3) * (sw * o)) * ((w1 * x2 - w2 * x1) * (sw * o)) := by
        unfold lw
        generalize y1 * w2 - y2 * w1 = A at *
        generalize w1 * x2 - w2 * x1 = B at *
        generalize y3 * w4 - y4 * w3 = C at *
        generalize w3 * x4 - w4 * x3 = D at *
        grind
      rw [e, p1, p2, p3, p4]; grind
    exact (Int.mul_eq_zero.mp k).resolve_right (Int.mul_ne_zero hW hW)
  unfold lmeet
  rw [if_pos z]
theorem meet_self (x1 y1 w1 x2 y2 w2 : Int) : lmeet x1 y1 w1 x2 y2 w2 x2 y2 w2 x1 y1 w1 = .none := by
  have z : lw x1 y1 w1 x2 y2 w2 x2 y2 w2 x1 y1 w1 = 0 := by unfold lw; grind
  unfold lmeet
  rw [if_pos z]
theorem eqv_comm_pt {x y w x' y' w' : Int} (h : PyData.eqv (pt x y w) (pt x' y' w') = false) : PyData.eqv (pt x' y' w') (pt x y w) = false := by
  rw [eqv_ptF] at *
  rintro ⟨rfl, rfl, rfl⟩
  exact h ⟨rfl, rfl, rfl⟩
def sp__law_lines_right (K : PySem.W.Frag) : Sp := A6 fun v1 v2 v3 v4 v5 v6 H Q => ∃ sx sy sw ux uy vx vy a b c d o : Int, v2 = .int a ∧ v3 = .int b ∧ v4 = .int c ∧ v5 = .int d ∧ v6 = .int o ∧ Dp K H v1 (fr sx sy sw ux uy vx vy) ∧ FrOk sx sy sw ux uy vx vy ∧ 0 < o ∧ (Sz 33 a ∧ Sz 33 b ∧ Sz 33 c ∧ Sz 33 d ∧ Sz 3 o) ∧ Ret K (.bool true) H Q
abbrev s__law_lines_right : Stmt := top 43
theorem sc__law_lines_right : FnScope ["_law_frame_here", "_law_a", "_law_b", "_law_c", "_law_d", "_law_over", "_law_one", "_law_two", "_law_three", "_law_four", "_law_beside"] ["_law_frame_here", "_law_a", "_law_b", "_law_c", "_law_d", "_law_over"] (defScope s__law_lines_right) := ⟨rfl, rfl, rfl, by decide +kernel, rfl, by decide +kernel, by decide +kernel⟩
theorem ok__law_lines_right {f : Addr} {fd : FuncData} (F : FnP K "_law_lines_right" s__law_lines_right f fd) (g : G mg) (c__law_spot : Cl P w K mg base 3 "_law_spot" (sp__law_spot K)) (c__law_is_refused : Cl P w K mg base 7 "_law_is_refused" (sp__law_is_refused K)) (c_line_meet : Cl P w K mg base 6 "line_meet" (sp_line_meet K))  : FnOk P w K mg base CX0 8 f fd ["_law_frame_here", "_law_a", "_law_b", "_law_c", "_law_d", "_law_over"] (sp__law_lines_right K) := by
  have nd := sc__law_lines_right.nd
  refine F.ok sc__law_lines_right (fun vs H Q E h => h.len) (fun cdv A outer s H vs Q E hr h => ?_)
  obtain ⟨v1, v2, v3, v4, v5, v6, rfl, h⟩ := h
  refine ⟨_, PSs.nox (pss_cons (ps_par (i := 6) (j := 7) (by rfl) nd rfl rfl (by decide) rfl rfl (pa_cons (pc c__law_spot hr (by decide) (by rfl) (pa_cons (pv 0) (pa_cons (pv 1) (pa_cons pe_int (pa_cons (pv 5) pa_nil))))) (pa_cons (pc c__law_spot hr (by decide) (by rfl) (pa_cons (pv 0) (pa_cons (pv 2) (pa_cons pe_int (pa_cons (pv 5) pa_nil))))) pa_nil)) (by rfl)) (pss_cons (ps_par (i := 8) (j := 9) (by rfl) nd rfl rfl (by decide) rfl rfl (pa_cons (pc c__law_spot hr (by decide) (by rfl) (pa_cons (pv 0) (pa_cons pe_int (pa_cons (pv 3) (pa_cons (pv 5) pa_nil))))) (pa_cons (pc c__law_spot hr (by decide) (by rfl) (pa_cons (pv 0) (pa_cons pe_int (pa_cons (pv 4) (pa_cons (pv 5) pa_nil))))) pa_nil)) (by rfl)) (pss_cons (ps_if (PW.pt (pw_or (pt_cmpR op_eq (pv 1) (pv 2) (nomark _)) (pw_or1 (pt_cmpR op_eq (pv 3) (pv 4) (nomark _))))) (pss_one (ps_ret (pc c__law_is_refused hr (by decide) (by rfl) (pa_cons (pv 6) (pa_cons (pv 7) (pa_cons (pv 8) (pa_cons (pv 9) pa_nil))))))) pss_nil) (pss_cons (ps_if (PW.pt (pw_or (pt_cmpR (op_neD hr.units) (pc c_line_meet hr (by decide) (by rfl) (pa_cons (pv 6) (pa_cons (pv 7) (pa_cons (pv 8) (pa_cons (pv 9) pa_nil))))) (pc c__law_spot hr (by decide) (by rfl) (pa_cons (pv 0) (pa_cons pe_int (pa_cons pe_int (pa_cons pe_int pa_nil))))) (nomark _)) (pw_or1 (pt_cmpR (op_neD hr.units) (pc c_line_meet hr (by decide) (by rfl) (pa_cons (pv 9) (pa_cons (pv 8) (pa_cons (pv 7) (pa_cons (pv 6) pa_nil))))) (pc c__law_spot hr (by decide) (by rfl) (pa_cons (pv 0) (pa_cons pe_int (pa_cons pe_int (pa_cons pe_int pa_nil))))) (nomark _))))) (pss_one (ps_ret pe_bl)) pss_nil) (pss_cons (ps_set (i := 10) nd rfl (Or.inl rfl) (pe_lst (pa_cons (pc c__law_spot hr (by decide) (by rfl) (pa_cons (pv 0) (pa_cons (pv 1) (pa_cons (pv 3) (pa_cons (pv 5) pa_nil))))) (pa_cons (pc c__law_spot hr (by decide) (by rfl) (pa_cons (pv 0) (pa_cons (pv 2) (pa_cons (pv 3) (pa_cons (pv 5) pa_nil))))) pa_nil)))) (pss_cons (ps_if (pt_cmpR op_qnotN (pc c_line_meet hr (by decide) (by rfl) (pa_cons (pv 6) (pa_cons (pv 7) (pa_cons (pe_ix ix_list (pv 10) pe_int (fun _ _ => rfl)) (pa_cons (pe_ix ix_list (pv 10) pe_int (fun _ _ => rfl)) pa_nil))))) pe_non (nomark _)) (pss_one (ps_ret pe_bl)) pss_nil) (pss_one (ps_ret (pe_cmpR op_qisN (pc c_line_meet hr (by decide) (by rfl) (pa_cons (pv 6) (pa_cons (pv 7) (pa_cons (pv 7) (pa_cons (pv 6) pa_nil))))) pe_non (nomark _)))))))))), ?_⟩
  obtain ⟨sx, sy, sw, ux, uy, vx, vy, a, b, c, d, o, rfl, rfl, rfl, rfl, rfl, hd, fo, ho, ⟨sa, sb, sc, sd, so⟩, q⟩ := h
  have sa4 : Sz 34 a := by unfold Sz at *; omega
  have sb4 : Sz 34 b := by unfold Sz at *; omega
  have sc4 : Sz 34 c := by unfold Sz at *; omega
  have sd4 : Sz 34 d := by unfold Sz at *; omega
  have so4 : Sz 4 o := by unfold Sz at *; omega
  have sz0 : Sz 34 0 := by unfold Sz; decide
  have sz1 : Sz 4 1 := by unfold Sz; decide
  have h1 : (0 : Int) < 1 := by decide
  obtain ⟨x1, y1, w1, r1, t1⟩ := spt_of fo ho sa4 sz0 so4
  obtain ⟨x2, y2, w2, r2, t2⟩ := spt_of fo ho sb4 sz0 so4
  obtain ⟨x3, y3, w3, r3, t3⟩ := spt_of fo ho sz0 sc4 so4
  obtain ⟨x4, y4, w4, r4, t4⟩ := spt_of fo ho sz0 sd4 so4
  obtain ⟨x5, y5, w5, r5, t5⟩ := spt_of fo ho sa4 sc4 so4
  obtain ⟨x6, y6, w6, r6, t6⟩ := spt_of fo ho sb4 sc4 so4
  obtain ⟨x7, y7, w7, r7, t7⟩ := spt_of fo h1 sz0 sz0 sz1
  obtain ⟨p1, a1, a2, a3⟩ : isPoint (pt x1 y1 w1) = true ∧ Sz B0 x1 ∧ Sz B0 y1 ∧ Sz B0 w1 := ⟨t1.p, t1.s1, t1.s2, t1.s3⟩
  obtain ⟨p2, b1, b2, b3⟩ : isPoint (pt x2 y2 w2) = true ∧ Sz B0 x2 ∧ Sz B0 y2 ∧ Sz B0 w2 := ⟨t2.p, t2.s1, t2.s2, t2.s3⟩
  obtain ⟨p3, c1, c2, c3⟩ : isPoint (pt x3 y3 w3) = true ∧ Sz B0 x3 ∧ Sz B0 y3 ∧ Sz B0 w3 := ⟨t3.p, t3.s1, t3.s2, t3.s3⟩
  obtain ⟨p4, d1, d2, d3⟩ : isPoint (pt x4 y4 w4) = true ∧ Sz B0 x4 ∧ Sz B0 y4 ∧ Sz B0 w4 := ⟨t4.p, t4.s1, t4.s2, t4.s3⟩
  obtain ⟨p5, e1, e2, e3⟩ : isPoint (pt x5 y5 w5) = true ∧ Sz B0 x5 ∧ Sz B0 y5 ∧ Sz B0 w5 := ⟨t5.p, t5.s1, t5.s2, t5.s3⟩
  obtain ⟨p6, f1, f2, f3⟩ : isPoint (pt x6 y6 w6) = true ∧ Sz B0 x6 ∧ Sz B0 y6 ∧ Sz B0 w6 := ⟨t6.p, t6.s1, t6.s2, t6.s3⟩
  have l7 : Lo x7 y7 w7 sx sy sw := by
    have l : Lo x7 y7 w7 (sx * 1 + (0 * ux + 0 * vx) * sw) (sy * 1 + (0 * uy + 0 * vy) * sw) (sw * 1) := t7.lo
    have e1 : sx * 1 + (0 * ux + 0 * vx) * sw = sx := by grind
    have e2 : sy * 1 + (0 * uy + 0 * vy) * sw = sy := by grind
    have e3 : sw * 1 = sw := by grind
    rw [e1, e2, e3] at l
    exact l
  by_cases hab : a = b
  · have hx : PyData.eqv (pt x1 y1 w1) (pt x2 y2 w2) = true ∨ PyData.eqv (pt x3 y3 w3) (pt x4 y4 w4) = true := by
      left
      subst hab
      rw [r1] at r2
      rw [r2, eqv_pt]
      exact ⟨rfl, rfl, rfl⟩
    wtm_at "go0"
    all_goals first
      | (exact q _ _ (by wtm_at "ex") (Dp.bl _))
      | (exfalso; omega)
  by_cases hcd : c = d
  · have hx : PyData.eqv (pt x1 y1 w1) (pt x2 y2 w2) = true ∨ PyData.eqv (pt x3 y3 w3) (pt x4 y4 w4) = true := by
      right
      subst hcd
      rw [r3] at r4
      rw [r4, eqv_pt]
      exact ⟨rfl, rfl, rfl⟩
    wtm_at "go0"
    all_goals first
      | (exact q _ _ (by wtm_at "ex") (Dp.bl _))
      | (exfalso; omega)
  have n1 := spt_ne fo ho hab t1 t2
  have n2 := spt_neV fo ho hcd t3 t4
  have n3 := spt_ne fo ho hab t5 t6
  have n4 := eqv_comm_pt n1
  have n5 := eqv_comm_pt n2
  have m1 : lmeet x1 y1 w1 x2 y2 w2 x3 y3 w3 x4 y4 w4 = pt x7 y7 w7 := meet_at fo.w fo.det ho hab hcd (spt_u t1) (spt_u t2) (spt_v t3) (spt_v t4) l7
  have m2 : lmeet x4 y4 w4 x3 y3 w3 x2 y2 w2 x1 y1 w1 = pt x7 y7 w7 := meet_at fo.w (by have := fo.det; intro z; apply this; grind) ho (Ne.symm hcd) (Ne.symm hab) (spt_v t4) (spt_v t3) (spt_u t2) (spt_u t1) l7
  have m3 := meet_par fo ho t1 t2 t5 t6
  have m4 := meet_self x1 y1 w1 x2 y2 w2
  wtm_at "go0"
  all_goals first
    | (rename_i hz; exact absurd hz hab)
    | (rename_i hz; exact absurd hz hcd)
    | (rename_i hz; rw [eqv_pt.mpr ⟨rfl, rfl, rfl⟩] at hz; cases hz)
    | (rw [decide_eq_true rfl]; exact q _ _ (by wtm_at "ex") (Dp.bl _))
theorem use__law_lines_right {a b c s o : Int} (hd : Dp K H v1 (fr sx sy sw ux uy vx vy)) (fo : FrOk sx sy sw ux uy vx vy) (ho : 0 < o) (sa : Sz 33 a) (sb : Sz 33 b) (sc : Sz 33 c) (sd : Sz 33 s) (so : Sz 3 o) (q : ∀ H2, Ex H H2 → Q (.bl true) H2) : sp__law_lines_right K [v1, .int a, .int b, .int c, .int s, .int o] H Q E :=
  ⟨_, _, _, _, _, _, rfl, _, _, _, _, _, _, _, _, _, _, _, _, rfl, rfl, rfl, rfl, rfl, hd, fo, ho, ⟨sa, sb, sc, sd, so⟩, ret_bl q⟩
end
end Wb

namespace Wb
open PySem PySem.Spec PyProof.Rows L2
open Evl (Ex Ex.refl Ex.trans Ex.new)
section
variable {prog : Program} {w : World} {A : Around} {E : Value → Shared → Prop} {s : Shared}
theorem call_min_twoH {a b : Value} {Q : Value → Shared → Prop}
    (h : wpAny (model prog w) A.in1 (pyIter (.ref s.heap.objs.size)) (fun it s₂ => ∃ I fp wr G n P St H bt, it = .ref I ∧ WalksS prog w A.in1 I fp wr G n P St ∧ St 0 s₂ ∧ (∀ b ∈ fp, b < s₂.heap.objs.size) ∧ 0 < n ∧
      (∀ b o, H.get? b = some o → b ∉ wr) ∧ (∀ b o, H.get? b = some o → s₂.heap.get? b = some o) ∧ CmpIn prog w A.in1 .Lt H P bt ∧ ∀ v s', P (argBest bt (n - 1)) v → Moved wr G s₂ s' → Q v s') E
      { s with heap := s.heap.push { cls := .type "tuple", data := .seq #[a, b] } }) :
    wpAny (model prog w) A (call (.builtin "min") [a, b]) Q E s := by
  have hname : (toString "min" ++ toString ".loop" : String) = "min.loop" := by decide
  refine call_function_tree F.kind_min F.plain_min F.entry_min (F.args_min2 _ _) ?_
  show wpAny _ A.in1 (Builtin.Builtins.bindParams "min" ["key", "default"] 0 ⟨[], []⟩ >>= _) _ _ s
  refine wpAny_bind (wpAny_of_eq (show Builtin.Builtins.bindParams "min" ["key", "default"] 0 ⟨[], []⟩ = pure [none, none] from rfl) ?_)
  show wpAny _ A.in1 (newTuple [a, b] >>= _) _ _ s
  refine wpAny_bind (wpAny_newObj_type ?_)
  refine wpAny_bind (wpAny_mono h (fun it s₂ h₂ => ?_) fun _ _ e => e)
  obtain ⟨I, fp, wr, G, n, P, St, H, bt, rfl, W, hst, hfp, hn, hw, hkeep, hcmp, hQ⟩ := h₂
  refine wpAny_bind (wpAny_newObj_type ?_)
  have hSf : s₂.heap.objs.size ∉ fp := fun hm => Nat.lt_irrefl _ (hfp _ hm)
  rw [hname]
  refine wpAny_pure ⟨plainId_quiet F.plain_min_loop _, codeAny_min_loop_firstH W H hw bt hcmp s₂.heap.objs.size hSf (fresh_in hkeep) _ hn (fun b o e => Heap.get?_push_of_some _ (hkeep b o e)) (W.frame 0 s₂ _ s₂.toks hst (Nat.le_refl _) fun b _ o e => Heap.get?_push_of_some _ e) (Heap.get?_push_size _ rfl) fun v s' hP hm => ?_⟩
  exact hQ v s' hP (Moved.drop_new (tk := s₂.toks) hm (Nat.le_refl _))
theorem call_max_twoH {a b : Value} {Q : Value → Shared → Prop}
    (h : wpAny (model prog w) A.in1 (pyIter (.ref s.heap.objs.size)) (fun it s₂ => ∃ I fp wr G n P St H bt, it = .ref I ∧ WalksS prog w A.in1 I fp wr G n P St ∧ St 0 s₂ ∧ (∀ b ∈ fp, b < s₂.heap.objs.size) ∧ 0 < n ∧
      (∀ b o, H.get? b = some o → b ∉ wr) ∧ (∀ b o, H.get? b = some o → s₂.heap.get? b = some o) ∧ CmpIn prog w A.in1 .Gt H P bt ∧ ∀ v s', P (argBest bt (n - 1)) v → Moved wr G s₂ s' → Q v s') E
      { s with heap := s.heap.push { cls := .type "tuple", data := .seq #[a, b] } }) :
    wpAny (model prog w) A (call (.builtin "max") [a, b]) Q E s := by
  have hname : (toString "max" ++ toString ".loop" : String) = "max.loop" := by decide
  refine call_function_tree F.kind_max F.plain_max F.entry_max (F.args_max2 _ _) ?_
  show wpAny _ A.in1 (Builtin.Builtins.bindParams "max" ["key", "default"] 0 ⟨[], []⟩ >>= _) _ _ s
  refine wpAny_bind (wpAny_of_eq (show Builtin.Builtins.bindParams "max" ["key", "default"] 0 ⟨[], []⟩ = pure [none, none] from rfl) ?_)
  show wpAny _ A.in1 (newTuple [a, b] >>= _) _ _ s
  refine wpAny_bind (wpAny_newObj_type ?_)
  refine wpAny_bind (wpAny_mono h (fun it s₂ h₂ => ?_) fun _ _ e => e)
  obtain ⟨I, fp, wr, G, n, P, St, H, bt, rfl, W, hst, hfp, hn, hw, hkeep, hcmp, hQ⟩ := h₂
  refine wpAny_bind (wpAny_newObj_type ?_)
  have hSf : s₂.heap.objs.size ∉ fp := fun hm => Nat.lt_irrefl _ (hfp _ hm)
  rw [hname]
  refine wpAny_pure ⟨plainId_quiet F.plain_max_loop _, codeAny_max_loop_firstH W H hw bt hcmp s₂.heap.objs.size hSf (fresh_in hkeep) _ hn (fun b o e => Heap.get?_push_of_some _ (hkeep b o e)) (W.frame 0 s₂ _ s₂.toks hst (Nat.le_refl _) fun b _ o e => Heap.get?_push_of_some _ e) (Heap.get?_push_size _ rfl) fun v s' hP hm => ?_⟩
  exact hQ v s' hP (Moved.drop_new (tk := s₂.toks) hm (Nat.le_refl _))
theorem pair_at {a b : Addr} {i : Nat} {v : Value} (h : (#[Value.ref a, Value.ref b] : Array Value)[i]? = some v) : (i = 0 ∧ v = .ref a) ∨ (i = 1 ∧ v = .ref b) := by
  match i, h with
  | 0, h => left; simp at h; exact ⟨rfl, h.symm⟩
  | 1, h => right; simp at h; exact ⟨rfl, h.symm⟩
  | (n + 2), h => simp at h
end
section
variable {X : Cx}
def qMin2T (K : PySem.W.Frag) : List V → Hp → VK → Prop := fun xs H Q => ∃ a b ns ms, xs = [.ref a, .ref b] ∧ SqT K H a (ns.map V.int) ∧ SqT K H b (ms.map V.int) ∧ Q (if HT.lexLt ms ns then .ref b else .ref a) H
def qMax2T (K : PySem.W.Frag) : List V → Hp → VK → Prop := fun xs H Q => ∃ a b x y z x' y' z', xs = [.ref a, .ref b] ∧ SqT K H a [.int x, .int y, .int z] ∧ SqT K H b [.int x', .int y', .int z'] ∧ Q (if HT.lexLt [x, y, z] [x', y', z'] then .ref b else .ref a) H
theorem isTup_keep {h h' : Heap} {a : Addr} {its : Array Value} (p : IsTup h a its) (k : ∀ b o, h.get? b = some o → h'.get? b = some o) : IsTup h' a its := by
  obtain ⟨o, e, c⟩ := p
  exact ⟨o, k _ _ e, c⟩
theorem call_min2T (hc : X.calm = true) (hu : X.A.units + 64 < cLine) : CallR X (.builtin "min") (qMin2T X.K) := by
  intro pins s σ H xs us Q I r h
  obtain ⟨a, b, ns, ms, rfl, ha, hb, q⟩ := h
  obtain ⟨u, w', rfl, r1, r2⟩ := vals2 r
  cases r1
  cases r2
  obtain ⟨its, e1, p1, _⟩ := I.tuple ha
  obtain ⟨its2, e2, p2, _⟩ := I.tuple hb
  have i1 : IntsAre its.toArray.toList ns := intsAre_of e1
  have i2 : IntsAre its2.toArray.toList ms := intsAre_of e2
  have hT : (s.heap.push { cls := .type "tuple", data := .seq #[.ref a, .ref b] }).IsTuple s.heap.objs.size #[.ref a, .ref b] := ⟨_, Heap.get?_push_size _ rfl, rfl, 0, rfl⟩
  have hu1 : X.A.in1.units < cLine := by show X.A.units + 1 < _; omega
  refine call_min_twoH (PySem.W.iter_tupleW (A := X.A.in1) (I.ok.hd hc) hT fun s₂ e W st hfp hw hk => ?_)
  refine ⟨_, _, _, _, _, _, _, _, fun i j => HT.lexLt (if i = 0 then ns else ms) (if j = 0 then ns else ms), rfl, W, st, hfp, (show 0 < 2 by decide), hw, hk, ?_, fun v s' hP m => ?_⟩
  · intro i j vi vj s3 Q3 E3 hk3 hi hj hq
    have kk : ∀ b o, s.heap.get? b = some o → s3.heap.get? b = some o := fun b o e => hk3 b o (Heap.get?_push_of_some _ e)
    rcases pair_at hi with ⟨rfl, rfl⟩ | ⟨rfl, rfl⟩ <;> rcases pair_at hj with ⟨rfl, rfl⟩ | ⟨rfl, rfl⟩
    · exact HT.lt_tupInts (isTup_keep p1 kk) (isTup_keep p1 kk) i1 i1 hu1 hq
    · exact HT.lt_tupInts (isTup_keep p1 kk) (isTup_keep p2 kk) i1 i2 hu1 hq
    · exact HT.lt_tupInts (isTup_keep p2 kk) (isTup_keep p1 kk) i2 i1 hu1 hq
    · exact HT.lt_tupInts (isTup_keep p2 kk) (isTup_keep p2 kk) i2 i2 hu1 hq
  · obtain ⟨h', tk, rfl, hk'⟩ := PySem.W.moved_old e rfl m
    have kk : ∀ b o, s.heap.get? b = some o → h'.get? b = some o := fun b o e => hk' b o (Heap.get?_push_of_some _ e)
    have hP2 : (#[Value.ref a, Value.ref b] : Array Value)[if HT.lexLt ms ns then 1 else 0]? = some v := hP
    by_cases hl : HT.lexLt ms ns = true
    · rw [if_pos hl] at hP2 q
      obtain rfl : Value.ref b = v := by simpa using hP2
      exact ⟨.ref b, H, I.kept kk, rfl, q⟩
    · rw [if_neg hl] at hP2 q
      obtain rfl : Value.ref a = v := by simpa using hP2
      exact ⟨.ref a, H, I.kept kk, rfl, q⟩
theorem gt3 {A : Around} {s : Shared} {a b : Addr} {x y z x' y' z' : Int} {t1 t2 t3 u1 u2 u3 : Tok} (p1 : s.heap.IsTuple a #[.int x t1, .int y t2, .int z t3]) (p2 : s.heap.IsTuple b #[.int x' u1, .int y' u2, .int z' u3]) (hu : A.units < cLine) :
    Ob.RcOp .Gt A s (.ref a) (.ref b) (HT.lexLt [x', y', z'] [x, y, z]) := by
  have at1 : ∀ j (h1 : j < (#[.int x t1, .int y t2, .int z t3] : Array Value).size), ∃ t, (#[.int x t1, .int y t2, .int z t3] : Array Value)[j] = .int ([x, y, z].getD j 0) t := fun j h1 => by
    match j, h1 with
    | 0, _ => exact ⟨_, rfl⟩
    | 1, _ => exact ⟨_, rfl⟩
    | 2, _ => exact ⟨_, rfl⟩
  have at2 : ∀ j (h1 : j < (#[.int x' u1, .int y' u2, .int z' u3] : Array Value).size), ∃ t, (#[.int x' u1, .int y' u2, .int z' u3] : Array Value)[j] = .int ([x', y', z'].getD j 0) t := fun j h1 => by
    match j, h1 with
    | 0, _ => exact ⟨_, rfl⟩
    | 1, _ => exact ⟨_, rfl⟩
    | 2, _ => exact ⟨_, rfl⟩
  have R := Ob.RcOp.tuples_gt (A := A) (s := s) (e := fun j => decide ([x, y, z].getD j 0 = [x', y', z'].getD j 0)) (r := fun j => decide ([x', y', z'].getD j 0 < [x, y, z].getD j 0)) p1 p2 hu (fun j h1 h2 => by
    obtain ⟨t, et⟩ := at1 j h1
    obtain ⟨t', et'⟩ := at2 j h2
    rw [et, et']
    have zz : ([x, y, z].getD j 0 == [x', y', z'].getD j 0) = decide ([x, y, z].getD j 0 = [x', y', z'].getD j 0) := by
      by_cases q : [x, y, z].getD j 0 = [x', y', z'].getD j 0
      · rw [decide_eq_true q]; exact beq_iff_eq.mpr q
      · rw [decide_eq_false q]; exact beq_eq_false_iff_ne.mpr q
    rw [← zz]
    exact SeqAt.EqAt.int_int _ _ _ _) (fun j h1 h2 _ => by
    obtain ⟨t, et⟩ := at1 j h1
    obtain ⟨t', et'⟩ := at2 j h2
    rw [et, et']
    exact Ob.RcOp.gt_int _ _ _ _)
  have ez : Ob.lexAt (fun j => decide ([x, y, z].getD j 0 = [x', y', z'].getD j 0)) (fun j => decide ([x', y', z'].getD j 0 < [x, y, z].getD j 0)) (decide ((#[.int x t1, .int y t2, .int z t3] : Array Value).size > (#[.int x' u1, .int y' u2, .int z' u3] : Array Value).size)) 0 (min (#[.int x t1, .int y t2, .int z t3] : Array Value).size (#[.int x' u1, .int y' u2, .int z' u3] : Array Value).size) = HT.lexLt [x', y', z'] [x, y, z] := by
    show (if decide (x = x') = true then (if decide (y = y') = true then (if decide (z = z') = true then false else decide (z' < z)) else decide (y' < y)) else decide (x' < x)) = (if x' = x then (if y' = y then (if z' = z then false else decide (z' < z)) else decide (y' < y)) else decide (x' < x))
    simp only [decide_eq_true_eq, eq_comm (a := x), eq_comm (a := y), eq_comm (a := z)]
  rw [ez] at R
  exact R
theorem vals3 {x y z : Int} {us : List Value} (r : Vals [.int x, .int y, .int z] us) : ∃ t1 t2 t3, us = [.int x t1, .int y t2, .int z t3] := by
  cases r with
  | cons r1 r2 =>
    cases r2 with
    | cons r3 r4 =>
      cases r4 with
      | cons r5 r6 =>
        cases r6
        obtain ⟨t1, rfl⟩ := r1
        obtain ⟨t2, rfl⟩ := r3
        obtain ⟨t3, rfl⟩ := r5
        exact ⟨_, _, _, rfl⟩
theorem call_max2T (hc : X.calm = true) (hu : X.A.units + 64 < cLine) : CallR X (.builtin "max") (qMax2T X.K) := by
  intro pins s σ H xs us Q I r h
  obtain ⟨a, b, x, y, z, x', y', z', rfl, ha, hb, q⟩ := h
  obtain ⟨u, w', rfl, r1, r2⟩ := vals2 r
  cases r1
  cases r2
  obtain ⟨its, e1, p1, _⟩ := I.tuple ha
  obtain ⟨its2, e2, p2, _⟩ := I.tuple hb
  obtain ⟨t1, t2, t3, rfl⟩ := vals3 e1
  obtain ⟨u1, u2, u3, rfl⟩ := vals3 e2
  have hT : (s.heap.push { cls := .type "tuple", data := .seq #[.ref a, .ref b] }).IsTuple s.heap.objs.size #[.ref a, .ref b] := ⟨_, Heap.get?_push_size _ rfl, rfl, 0, rfl⟩
  have hu1 : X.A.in1.units < cLine := by show X.A.units + 1 < _; omega
  refine call_max_twoH (PySem.W.iter_tupleW (A := X.A.in1) (I.ok.hd hc) hT fun s₂ e W st hfp hw hk => ?_)
  refine ⟨_, _, _, _, _, _, _, _, fun i j => HT.lexLt (if j = 0 then [x, y, z] else [x', y', z']) (if i = 0 then [x, y, z] else [x', y', z']), rfl, W, st, hfp, (show 0 < 2 by decide), hw, hk, ?_, fun v s' hP m => ?_⟩
  · intro i j vi vj s3 Q3 E3 hk3 hi hj hq
    have kk : ∀ b o, s.heap.get? b = some o → s3.heap.get? b = some o := fun b o e => hk3 b o (Heap.get?_push_of_some _ e)
    rcases pair_at hi with ⟨rfl, rfl⟩ | ⟨rfl, rfl⟩ <;> rcases pair_at hj with ⟨rfl, rfl⟩ | ⟨rfl, rfl⟩
    · exact gt3 (isTup_keep p1 kk) (isTup_keep p1 kk) hu1 _ _ _ _ hq
    · exact gt3 (isTup_keep p1 kk) (isTup_keep p2 kk) hu1 _ _ _ _ hq
    · exact gt3 (isTup_keep p2 kk) (isTup_keep p1 kk) hu1 _ _ _ _ hq
    · exact gt3 (isTup_keep p2 kk) (isTup_keep p2 kk) hu1 _ _ _ _ hq
  · obtain ⟨h', tk, rfl, hk'⟩ := PySem.W.moved_old e rfl m
    have kk : ∀ b o, s.heap.get? b = some o → h'.get? b = some o := fun b o e => hk' b o (Heap.get?_push_of_some _ e)
    have hP2 : (#[Value.ref a, Value.ref b] : Array Value)[if HT.lexLt [x, y, z] [x', y', z'] then 1 else 0]? = some v := hP
    by_cases hl : HT.lexLt [x, y, z] [x', y', z'] = true
    · rw [if_pos hl] at hP2 q
      obtain rfl : Value.ref b = v := by simpa using hP2
      exact ⟨.ref b, H, I.kept kk, rfl, q⟩
    · rw [if_neg hl] at hP2 q
      obtain rfl : Value.ref a = v := by simpa using hP2
      exact ⟨.ref a, H, I.kept kk, rfl, q⟩
end
end Wb

namespace Wb
open PySem PySem.Spec PyProof.Rows L2
open Evl (Ex Ex.refl Ex.trans Ex.new)
local macro_rules | `(tactic| wtm_at "dp") => `(tactic| first | with_reducible assumption | with_reducible exact Dp.int _ | with_reducible exact Dp.bl _ | with_reducible exact Dp.str _ | with_reducible exact Dp.non | ((with_reducible refine' dpMono ?dme (by with_reducible assumption)); (case dme => wtm_at "ex")) | ((with_reducible refine' Dp.tup (Evl.st_of ?dph) ?dpa); (case dph => wtm_at "hs"); (case dpa => wtm_at "dpa")) | ((with_reducible refine' Dp.lst (Evl.sq_of ?dph) ?dpa); (case dph => wtm_at "hs"); (case dpa => wtm_at "dpa")))
local macro_rules | `(tactic| wtm_at "dpa") => `(tactic| first | with_reducible exact DpAll.nil | ((with_reducible refine' DpAll.cons ?dp1 ?dp2); (case dp1 => wtm_at "dp"); (case dp2 => wtm_at "dpa")) | with_reducible assumption | ((with_reducible refine' dpMonoA ?dme (by with_reducible assumption)); (case dme => wtm_at "ex")))
local macro_rules | `(tactic| wtm_at "sz") => `(tactic| first | with_reducible assumption | ((with_reducible refine' sz_mul ?sz1 ?sz2); (case sz1 => wtm_at "sz"); (case sz2 => wtm_at "sz")) | ((with_reducible refine' sz_add ?sz1 ?sz2); (case sz1 => wtm_at "sz"); (case sz2 => wtm_at "sz")) | ((with_reducible refine' sz_sub ?sz1 ?sz2); (case sz1 => wtm_at "sz"); (case sz2 => wtm_at "sz")) | ((with_reducible refine' sz_neg ?sz1); (case sz1 => wtm_at "sz")) | ((with_reducible refine' sz_div ?sz1); (case sz1 => wtm_at "sz")) | ((with_reducible refine' sz_fdiv ?sz1); (case sz1 => wtm_at "sz")) | exact sz_lit (by decide) | wtm_at "sz2")
local macro_rules | `(tactic| wtm_at "szb") => `(tactic| first | with_reducible assumption | ((with_reducible refine' sz_mono ?szb1 ?szb2); (case szb1 => wtm_at "sz"); (case szb2 => decide)))
local macro_rules | `(tactic| wtm_at "nz") => `(tactic| first | assumption | decide | omega)
local macro_rules | `(tactic| wtm_at "shaped") => `(tactic| first | rfl | decide)
local macro_rules | `(tactic| wtm_at "sset") => `(tactic| ((dsimp only [L2.wipe, List.set, List.set_cons_zero, List.set_cons_succ]) <;> exact rfl))
local macro_rules | `(tactic| wtm_at "nrm") => `(tactic| dsimp only [L2.start, L2.wipe, List.set, List.append, List.map, List.map_cons, List.map_nil, List.length_cons, List.length_nil, Nat.reduceAdd, Nat.reduceSub, List.reduceReplicate, List.replicate, List.cons_append, List.nil_append, List.set_cons_zero, List.set_cons_succ])
local macro_rules | `(tactic| wtm_at "st") => `(tactic| first
  | ((with_reducible refine' i_var (v := ?u0) ?u1 ?uq); (case u1 => exact rfl))
  | ((with_reducible refine' i_nameN ?u0 ?uq); (case u0 => wtm_at "sset"))
  | (with_reducible refine' i_op ?uq)
  | (with_reducible refine' i_c ?uq)
  | (with_reducible refine' i_I0 ?uq)
  | ((with_reducible refine' i_ixTI (i := ?u0) ?u1 ?u2 ?u3 ?uq); (case u1 => wtm_at "dp"); (case u2 => wtm_at "ex"); (case u3 => exact rfl))
  | ((with_reducible refine' i_ixT (d := ?u0) ?u1 ?u2 ?u3 (fun xu hxu => ?uq)); (case u1 => wtm_at "dp"); (case u2 => wtm_at "ex"); (case u3 => exact rfl))
  | ((with_reducible refine' i_mul ?u0 ?u1 ?u2 ?uq); (case u0 => wtm_at "sz"); (case u1 => wtm_at "sz"); (case u2 => first | decide | omega))
  | (with_reducible refine' i_seq ?uq)
  | (with_reducible refine' i_asg ?uq)
  | (with_reducible refine' i_ret ?uq)
  | (with_reducible refine' i_ifs ?uq)
  | (with_reducible refine' i_drop ?uq)
  | (with_reducible refine' i_next ?uq)
  | (with_reducible refine' i_cons ?uq)
  | (with_reducible refine' i_nil ?uq)
  | (with_reducible refine' i_cl ?uq)
  | (with_reducible refine' i_cb ?uq)
  | (with_reducible refine' i_tup ?uq)
  | (with_reducible refine' i_lst ?uq)
  | ((with_reducible refine' i_mkT ?u0 (fun np nH nhe nhp => ?uq)); (case u0 => exact Nat.le_of_ble_eq_true rfl))
  | (with_reducible refine' i_test ?uq)
  | (with_reducible refine' i_B ?uq)
  | (with_reducible refine' i_k ?uq)
  | (with_reducible refine' i_and ?uq)
  | (with_reducible refine' i_or ?uq)
  | (with_reducible refine' i_not ?uq)
  | (with_reducible refine' i_andV ?uq)
  | (with_reducible refine' i_orV ?uq)
  | (with_reducible refine' i_notV ?uq)
  | (with_reducible refine' i_if ?uq)
  | (with_reducible refine' i_un ?uq)
  | (with_reducible refine' i_U ?uq)
  | (with_reducible refine' i_iteT ?uq)
  | (with_reducible refine' i_iteF ?uq)
  | ((with_reducible refine' i_iteTr ?u0 ?uq); (case u0 => first | with_reducible rfl | decide | (simp only [dIsInt, dIsBool, dIsTup, dIsStr, dIsLst, Bool.not_true, Bool.not_false]; done)))
  | ((with_reducible refine' i_iteFr ?u0 ?uq); (case u0 => first | with_reducible rfl | decide | (simp only [dIsInt, dIsBool, dIsTup, dIsStr, dIsLst, Bool.not_true, Bool.not_false]; done)))
  | (with_reducible refine' i_ite (fun hif => ?uqa) (fun hif => ?uqb))
  | (with_reducible refine' i_iteN (fun hif => ?uqa) (fun hif => ?uqb))
  | (with_reducible refine' i_iteBN (fun hif => ?uqa) (fun hif => ?uqb))
  | (with_reducible refine' i_iteB (fun hif => ?uqa) (fun hif => ?uqb))
  | ((with_reducible refine' i_modN ?u0 ?uq); (case u0 => wtm_at "nz"))
  | ((with_reducible refine' i_fdX ?u0 ?u1 ?u2 ?uq); (case u0 => wtm_at "nz"); (case u1 => wtm_at "sz"); (case u2 => first | decide | omega))
  | ((with_reducible refine' i_pow ?u0 ?uq); (case u0 => exact ⟨by decide, by decide +kernel⟩))
  | (with_reducible refine' i_eqI ?uq)
  | (with_reducible refine' i_neI ?uq)
  | (with_reducible refine' i_gcd ?uq)
  | (with_reducible refine' i_qabs ?uq)
  | (with_reducible refine' i_qint ?uq)
  | (with_reducible refine' i_qintB ?uq)
  | (with_reducible refine' i_qmax2 ?uq)
  | (with_reducible refine' i_qmin2 ?uq)
  | (with_reducible refine' i_isB ?uq)
  | (with_reducible refine' i_notB ?uq)
  | (with_reducible refine' i_chain ?uq)
  | (with_reducible refine' i_qisN ?uq)
  | (with_reducible refine' i_qnotN ?uq)
  | (with_reducible refine' i_yes ?uq)
  | (with_reducible refine' i_par ?uq)
  | (with_reducible refine' i_par3 ?uq)
  | ((with_reducible refine' i_par2 ?u0 ?uq); (case u0 => wtm_at "sset"))
  | ((with_reducible refine' i_par33 ?u0 ?uq); (case u0 => wtm_at "sset"))
  | ((with_reducible refine' i_ixLI (i := ?u0) ?u1 ?u2 ?u3 ?uq); (case u1 => wtm_at "dp"); (case u2 => wtm_at "ex"); (case u3 => exact rfl))
  | ((with_reducible refine' i_ixL (d := ?u0) ?u1 ?u2 ?u3 (fun xu hxu => ?uq)); (case u1 => wtm_at "dp"); (case u2 => wtm_at "ex"); (case u3 => exact rfl))
  | ((with_reducible refine' i_qlenT ?u0 ?uq); (case u0 => wtm_at "dp"))
  | ((with_reducible refine' i_qlenL ?u0 ?uq); (case u0 => wtm_at "dp"))
  | ((with_reducible refine' i_gtup ?u0 ?u1 ?u2 (fun gvs gdp => ?uq)); (case u0 => wtm_at "dp"); (case u1 => wtm_at "ex"); (case u2 => exact rfl))
  | ((with_reducible refine' i_glst ?u0 ?u1 ?u2 (fun gvs gdp => ?uq)); (case u0 => wtm_at "dp"); (case u1 => wtm_at "ex"); (case u2 => exact rfl))
  | ((with_reducible refine' i_gconsI ?u0 (fun gr gh => ?uq)); (case u0 => with_reducible assumption))
  | ((with_reducible refine' i_gconsA ?u0 (fun gv gr gh1 gh2 => ?uq)); (case u0 => with_reducible assumption))
  | ((with_reducible refine' i_gnilA ?u0 ?uq); (case u0 => with_reducible assumption))
  | ((with_reducible refine' i_isiI ?u0 ?uq); (case u0 => wtm_at "dp"))
  | ((with_reducible refine' i_isiB ?u0 ?uq); (case u0 => wtm_at "dp"))
  | ((with_reducible refine' i_isiT ?u0 ?uq); (case u0 => wtm_at "dp"))
  | ((with_reducible refine' i_isiS ?u0 ?uq); (case u0 => wtm_at "dp"))
  | ((with_reducible refine' i_isiL ?u0 ?uq); (case u0 => wtm_at "dp"))
  | ((with_reducible refine' i_eqD ?u0 ?u1 ?u2 ?u3 ?uq); (case u0 => wtm_at "dp"); (case u1 => wtm_at "dp"); (case u2 => wtm_at "shaped"); (case u3 => wtm_at "shaped"))
  | ((with_reducible refine' i_neD ?u0 ?u1 ?u2 ?u3 ?uq); (case u0 => wtm_at "dp"); (case u1 => wtm_at "dp"); (case u2 => wtm_at "shaped"); (case u3 => wtm_at "shaped"))
  | wtm_at "st2"
  | wtm_at "use")
local macro_rules | `(tactic| wtm_at "go") => `(tactic| repeat' (wtm_at "st"))
local macro_rules | `(tactic| wtm_at "go0") => `(tactic| ((try dsimp only [L2.cxOf, L2.Cx.nox, L2.Cx.wish, L2.Cx.tr, L2.Cx.blk]); (try wtm_at "nrm"); wtm_at "go"))
local macro_rules | `(tactic| wtm_at "fin") => `(tactic| ((try dsimp only); first | with_reducible assumption | assumption | ((with_reducible refine' Ret.use ?rur ?rue ?rud); (case rur => with_reducible assumption); (case rue => wtm_at "ex"); (case rud => wtm_at "dp"))))
local macro_rules | `(tactic| wtm_at "ex") => `(tactic| first | with_reducible assumption | with_reducible exact Ex.refl _ | with_reducible exact ex_hid | ((with_reducible refine' Ex.trans ?exe (by with_reducible assumption)); (case exe => wtm_at "ex")) | ((with_reducible refine' Ex.trans ?exe (hid_ex (by with_reducible assumption))); (case exe => wtm_at "ex")) | ((with_reducible refine' Ex.trans ?exe ex_hid); (case exe => wtm_at "ex")))
local macro_rules | `(tactic| wtm_at "bag") => `(tactic| first | with_reducible assumption | ((with_reducible refine' Bag.mono ?bgm (by with_reducible assumption)); (case bgm => wtm_at "bag")))
local macro_rules | `(tactic| wtm_at "hs") => `(tactic| first | with_reducible assumption | ((with_reducible refine' hid_tup ?hb ?hp); (case hp => with_reducible assumption); (case hb => wtm_at "bag")) | ((with_reducible refine' hid_new ?hb ?hn ?hp); (case hp => with_reducible assumption); (case hn => with_reducible assumption); (case hb => wtm_at "bag")) | ((with_reducible refine' ex_at ?exe (by with_reducible assumption)); (case exe => wtm_at "ex")))
local macro_rules | `(tactic| wtm_at "st2") => `(tactic| first
  | ((with_reducible refine' i_mulC ?u0 ?uq); (case u0 => first | exact cmul_l (by decide) | exact cmul_r (by decide)))
  | ((with_reducible refine' i_ixLr (v := ?u0) ?u1 ?u2 ?uq); (case u1 => with_reducible assumption); (case u2 => exact rfl))
  | (with_reducible refine' i_sub ?uq)
  | ((with_reducible refine' i_mkL ?u0 (fun np nH nfr nhe nhp => ?uq)); (case u0 => exact Nat.le_of_ble_eq_true rfl))
  | ((with_reducible refine' i_setL (n := ?u0) ?u1 ?u2 (fun sH sh se => ?uq)); (case u1 => with_reducible assumption); (case u2 => exact rfl))
  | (with_reducible refine' i_sl ?uq)
  | (with_reducible refine' i_nopart ?uq)
  | (with_reducible refine' i_part ?uq)
  | (with_reducible refine' i_part1 ?uq))
local macro_rules | `(tactic| wtm_at "sz2") => `(tactic| ((with_reducible refine' sz_fmod ?sz1 ?sz2); (case sz1 => wtm_at "nz"); (case sz2 => wtm_at "sz")))
local macro_rules | `(tactic| wtm_at "stb") => `(tactic| first
  | ((with_reducible refine' i_mkTB ?u0 ?u1 (fun np nH nhe nhb nhp => ?uq)); (case u0 => exact Nat.le_of_ble_eq_true rfl); (case u1 => wtm_at "bag"))
  | ((with_reducible refine' i_mkLB ?u0 ?u1 (fun np nH nfr nhe nhb nhp => ?uq)); (case u0 => exact Nat.le_of_ble_eq_true rfl); (case u1 => wtm_at "bag"))
  | wtm_at "st")
local macro_rules | `(tactic| wtm_at "gob") => `(tactic| repeat' (wtm_at "stb"))
local macro_rules | `(tactic| wtm_at "gob0") => `(tactic| ((try dsimp only [L2.cxOf, L2.Cx.nox, L2.Cx.wish, L2.Cx.tr, L2.Cx.blk]); (try wtm_at "nrm"); wtm_at "gob"))
local macro_rules | `(tactic| wtm_at "use") => `(tactic| ((with_reducible refine' use_turn_in ?u0 ?u1 ?u2 ?u3 ?u4 ?u5 ?u6 ?u7 ?u8 ?u9 ?u10 ?u11 ?uq); (case u0 => wtm_at "dp"); (case u1 => wtm_at "dp"); (case u2 => wtm_at "dp"); (case u3 => wtm_at "szb"); (case u4 => wtm_at "szb"); (case u5 => wtm_at "szb"); (case u6 => wtm_at "szb"); (case u7 => wtm_at "szb"); (case u8 => wtm_at "szb"); (case u9 => wtm_at "szb"); (case u10 => wtm_at "szb"); (case u11 => wtm_at "szb")))
local macro_rules | `(tactic| wtm_at "use") => `(tactic| ((with_reducible refine' use_step_from ?u0 ?u1 ?u2 ?u3 ?u4 ?u5 ?u6 ?u7 (fun ur uH ue ud => ?uq)); (case u0 => wtm_at "dp"); (case u1 => wtm_at "dp"); (case u2 => wtm_at "szb"); (case u3 => wtm_at "szb"); (case u4 => wtm_at "szb"); (case u5 => wtm_at "szb"); (case u6 => wtm_at "szb"); (case u7 => wtm_at "szb")))
local macro_rules | `(tactic| wtm_at "use") => `(tactic| (with_reducible refine' use_shared_of ?uq))
local macro_rules | `(tactic| wtm_at "use") => `(tactic| ((with_reducible refine' use_is_integer ?u0 ?uq); (case u0 => wtm_at "dp")))
local macro_rules | `(tactic| wtm_at "use") => `(tactic| ((with_reducible refine' use_is_between_in ?u0 ?u1 ?u2 ?u3 ?u4 ?u5 ?u6 ?u7 ?u8 ?u9 ?u10 ?u11 (fun uH ue => ?uq)); (case u0 => wtm_at "dp"); (case u1 => wtm_at "dp"); (case u2 => wtm_at "dp"); (case u3 => wtm_at "szb"); (case u4 => wtm_at "szb"); (case u5 => wtm_at "szb"); (case u6 => wtm_at "szb"); (case u7 => wtm_at "szb"); (case u8 => wtm_at "szb"); (case u9 => wtm_at "szb"); (case u10 => wtm_at "szb"); (case u11 => wtm_at "szb")))
local macro_rules | `(tactic| wtm_at "use") => `(tactic| ((with_reducible refine' use_line_through ?u0 ?u1 ?u2 ?u3 ?u4 ?u5 ?u6 ?u7 (fun ur uH ue ud => ?uq)); (case u0 => wtm_at "dp"); (case u1 => wtm_at "dp"); (case u2 => wtm_at "szb"); (case u3 => wtm_at "szb"); (case u4 => wtm_at "szb"); (case u5 => wtm_at "szb"); (case u6 => wtm_at "szb"); (case u7 => wtm_at "szb")))
local macro_rules | `(tactic| wtm_at "use") => `(tactic| ((with_reducible refine' use_reduced_point ?u0 ?u1 (fun ur uH ue ud => ?uq)); (case u0 => wtm_at "nz"); (case u1 => wtm_at "szb")))
local macro_rules | `(tactic| wtm_at "use") => `(tactic| ((with_reducible refine' use_reduced ?u0 ?u1 (fun ur uH ue ud => ?uq)); (case u0 => wtm_at "nz"); (case u1 => wtm_at "szb")))
local macro_rules | `(tactic| wtm_at "use") => `(tactic| ((with_reducible refine' use_is_point ?u0 (fun uH ue => ?uq)); (case u0 => wtm_at "dp")))
local macro_rules | `(tactic| wtm_at "use") => `(tactic| ((with_reducible refine' use_line_meet_in ?u0 ?u1 ?u2 ?u3 ?u4 ?u5 ?u6 ?u7 ?u8 ?u9 ?u10 ?u11 ?u12 ?u13 ?u14 ?u15 (fun ur uH ue ud => ?uq)); (case u0 => wtm_at "dp"); (case u1 => wtm_at "dp"); (case u2 => wtm_at "dp"); (case u3 => wtm_at "dp"); (case u4 => wtm_at "szb"); (case u5 => wtm_at "szb"); (case u6 => wtm_at "szb"); (case u7 => wtm_at "szb"); (case u8 => wtm_at "szb"); (case u9 => wtm_at "szb"); (case u10 => wtm_at "szb"); (case u11 => wtm_at "szb"); (case u12 => wtm_at "szb"); (case u13 => wtm_at "szb"); (case u14 => wtm_at "szb"); (case u15 => wtm_at "szb")))
local macro_rules | `(tactic| wtm_at "use") => `(tactic| ((with_reducible refine' use_middle_in ?u0 ?u1 ?u2 ?u3 ?u4 ?u5 ?u6 ?u7 ?u8 ?u9 (fun ur uH ue ud => ?uq)); (case u0 => wtm_at "dp"); (case u1 => wtm_at "dp"); (case u2 => wtm_at "szb"); (case u3 => wtm_at "szb"); (case u4 => wtm_at "szb"); (case u5 => wtm_at "szb"); (case u6 => wtm_at "szb"); (case u7 => wtm_at "szb"); (case u8 => wtm_at "nz"); (case u9 => wtm_at "nz")))
local macro_rules | `(tactic| wtm_at "use") => `(tactic| ((with_reducible refine' use_square_in ?u0 ?u1 ?u2 ?u3 ?u4 ?u5 ?u6 ?u7 ?u8 ?u9 (fun ur uH ue ud => ?uq)); (case u0 => wtm_at "dp"); (case u1 => wtm_at "dp"); (case u2 => wtm_at "szb"); (case u3 => wtm_at "szb"); (case u4 => wtm_at "szb"); (case u5 => wtm_at "szb"); (case u6 => wtm_at "szb"); (case u7 => wtm_at "szb"); (case u8 => wtm_at "nz"); (case u9 => wtm_at "nz")))
local macro_rules | `(tactic| wtm_at "use") => `(tactic| ((with_reducible refine' use_is_side ?u0 (fun uH ue => ?uq)); (case u0 => wtm_at "dp")))
local macro_rules | `(tactic| wtm_at "use") => `(tactic| (with_reducible refine' use_require_integer ?uq))
local macro_rules | `(tactic| wtm_at "use") => `(tactic| ((with_reducible refine' use_require_point ?u0 ?u1 (fun uH ue => ?uq)); (case u0 => wtm_at "dp"); (case u1 => with_reducible assumption)))
local macro_rules | `(tactic| wtm_at "use") => `(tactic| ((with_reducible refine' use_require_points ?u0 ?u1 ?u2 (fun uH ue => ?uq)); (case u0 => wtm_at "dpa"); (case u1 => exact Nat.le_of_ble_eq_true rfl); (case u2 => wtm_at "pts")))
local macro_rules | `(tactic| wtm_at "pts") => `(tactic| first | with_reducible exact pts4 (by assumption) (by assumption) (by assumption) (by assumption) | with_reducible exact pts3 (by assumption) (by assumption) (by assumption) | with_reducible exact pts2 (by assumption) (by assumption))
local macro_rules | `(tactic| wtm_at "use") => `(tactic| ((with_reducible refine' use__law_draw ?u0 ?u1 ?u2 (fun dn dH dn0 dn1 de db => ?uq)); (case u0 => wtm_at "bag"); (case u1 => wtm_at "pos"); (case u2 => wtm_at "szb")))
local macro_rules | `(tactic| wtm_at "pos") => `(tactic| first | assumption | decide | omega)
local macro_rules | `(tactic| wtm_at "oneof") => `(tactic| ((with_reducible refine' use__law_one_of ?u0 ?u1 ?u2 ?u3 ?uq); (case u0 => wtm_at "bag"); (case u1 => wtm_at "dp"); (case u2 => exact Nat.le_of_ble_eq_true rfl); (case u3 => exact Nat.le_of_ble_eq_true rfl)))
section
variable {P : Program} {w : World} {K : PySem.W.Frag} {mg : Str → Option Value} {base : Heap} {H H' : Hp} {Q : VK} {E : XK} {v1 v2 v3 v4 : V} {x1 y1 w1 x2 y2 w2 x3 y3 w3 x4 y4 w4 : Int}
variable {v5 v6 : V}
structure ClD (P : Program) (w : World) (K : PySem.W.Frag) (mg : Str → Option Value) (base : Heap) (k : Nat) (x : Str) (sp : Sp) (dvs : List V) : Prop where
  ex : ∃ (f : Addr) (fd : FuncData) (ps : List Str), FnOk P w K mg base CX0 k f fd ps sp ∧ mg x = some (.ref f) ∧ PySem.W.keepIn K (.ref f) = true ∧ ∃ ds, Vals dvs ds ∧ Binds K fd ps ds
def tClD (sp : Sp) (dvs : List V) (t : TA) : TE := fun σ H Q => t σ H fun vs H1 => sp (vs ++ dvs) H1 Q E0
theorem pcD {X : Cx} {k j : Nat} {x : Str} {sp : Sp} {dvs : List V} {p pos : Pos} {e : Expr} {es : List Expr} {t : TA} (c : ClD X.prog X.w X.K X.mg X.base k x sp dvs) (hr : Room j X.A) (hk : k ≤ j) (hg : Gl X x) (ha : PA X (e :: es) t)
    (hdb : (x == ("__debug__" : Str)) = false := by decide) (he : starEach (e :: es) X.env = (false, eval e X.env) :: starEach es X.env := by rfl) (hpl : (backTo pos (starEach es X.env)).any (·.1) = false := by rfl) :
    PE X (.Call (.Name x p) (e :: es) [] pos) (tClD sp dvs t) := by
  obtain ⟨f, fd, ps, F, hm, kp, ds, hv, b⟩ := c.ex
  exact pe_call (p := p) F (hr.mono hk) hg hm kp b hv pass0 ha hdb he hpl
theorem i_clD {sp : Sp} {dvs : List V} {ts : TA} {σ : L2.St} (q : ts σ H fun vs H1 => sp (vs ++ dvs) H1 Q E0) : tClD sp dvs ts σ H Q := q
theorem use_point_of1 {x y : Int} (q : ∀ v H2, Ex H H2 → Dp K H2 v (rp x y 1) → Q v H2) : sp_point_of K ([.int x, .int y] ++ [.int 1]) H Q E := use_point_of (by decide) (by unfold Sz; decide +kernel) q
theorem i_qlistD {ds : List PyData} (h : Dp K H v1 (.tuple ds)) (q : ∀ p H2, H p = none → Ex H H2 → Dp K H2 (.ref p) (.list ds) → Q (.ref p) H2) : qListOf K [v1] H Q :=
  i_qlistT h fun p H2 hn e ⟨vs, h1, h2⟩ => q p H2 hn e (.lst (Evl.sq_of h1) h2)
theorem i_cat {l b : Addr} {xs zs ys : List V} (h1 : H l = some (.lst xs)) (h2 : H b = some (.lst zs)) (hl : xs.length + zs.length ≤ 100000) (e : xs ++ zs = ys) (q : ∀ p H2, H p = none → Ex H H2 → H2 p = some (.lst ys) → Q (.ref p) H2) : rCat (.ref l) (.ref b) H Q := by
  subst e
  exact ⟨l, b, xs, zs, rfl, rfl, h1, h2, Evl.sz_of hl, fun p hp => q p _ hp (ex_upd hp) upd_same⟩
theorem i_sl2 {a b c : PyData} (h : Dp K H v1 (.tuple [a, b, c])) (q : ∀ p H2, Ex H H2 → Dp K H2 (.ref p) (.tuple [a, b]) → Q (.ref p) H2) : rSlA K v1 none (some 2) H Q := by
  obtain ⟨p, vs, rfl, hs, ha⟩ := dpTup h
  cases ha with
  | cons h1 ha => cases ha with
    | cons h2 ha => cases ha with
      | cons h3 ha =>
        cases ha
        refine ⟨p, _, rfl, hs, fun z => ?_, fun _ l hl => q l _ (ex_upd hl) (.tup (.inl (.inl upd_same)) (.cons (dpMono (ex_upd hl) h1) (.cons (dpMono (ex_upd hl) h2) .nil)))⟩
        exact absurd z.2 (show ¬ HT.sIx 3 3 (some 2) = 3 by decide)
theorem i_catT1 {a b c : PyData} {l : Addr} (h : Dp K H v1 (.tuple [a, b, c])) (hl : H l = some (.tup [.int 1])) (q : ∀ p H2, Ex H H2 → Dp K H2 (.ref p) (.tuple [a, b, c, .int 1]) → Q (.ref p) H2) : rCatT K v1 (.ref l) H Q := by
  obtain ⟨p, vs, rfl, hs, ha⟩ := dpTup h
  cases ha with
  | cons h1 ha => cases ha with
    | cons h2 ha => cases ha with
      | cons h3 ha =>
        cases ha
        refine ⟨p, l, _, _, rfl, rfl, hs, .inl (.inl hl), by simp, Evl.sz_of (Nat.le_of_ble_eq_true rfl), (fun z => by cases z), fun _ l2 hl2 => q l2 _ (ex_upd hl2) (.tup (.inl (.inl upd_same)) (.cons (dpMono (ex_upd hl2) h1) (.cons (dpMono (ex_upd hl2) h2) (.cons (dpMono (ex_upd hl2) h3) (.cons (.int 1) .nil)))))⟩
theorem dp3 {x y z : Int} {v : V} (h : Dp K H v (pt x y z)) : ∃ a, v = .ref a ∧ SqT K H a [.int x, .int y, .int z] := by
  obtain ⟨p, vs, rfl, hs, ha⟩ := dpTup h
  cases ha with
  | cons h1 ha => cases ha with
    | cons h2 ha => cases ha with
      | cons h3 ha =>
        cases ha
        cases dpInt h1
        cases dpInt h2
        cases dpInt h3
        exact ⟨p, rfl, hs⟩
theorem i_minA (h1 : Dp K H v1 (pt x1 y1 w1)) (h2 : Dp K H v2 (pt x2 y2 w2)) (e : HT.lexLt [x2, y2, w2] [x1, y1, w1] = true) (q : Q v2 H) : qMin2T K [v1, v2] H Q := by
  obtain ⟨a, rfl, s1⟩ := dp3 h1
  obtain ⟨b, rfl, s2⟩ := dp3 h2
  exact ⟨a, b, [x1, y1, w1], [x2, y2, w2], rfl, s1, s2, by rw [if_pos e]; exact q⟩
theorem i_minB (h1 : Dp K H v1 (pt x1 y1 w1)) (h2 : Dp K H v2 (pt x2 y2 w2)) (e : HT.lexLt [x2, y2, w2] [x1, y1, w1] = false) (q : Q v1 H) : qMin2T K [v1, v2] H Q := by
  obtain ⟨a, rfl, s1⟩ := dp3 h1
  obtain ⟨b, rfl, s2⟩ := dp3 h2
  exact ⟨a, b, [x1, y1, w1], [x2, y2, w2], rfl, s1, s2, by rw [e]; exact q⟩
theorem i_maxA (h1 : Dp K H v1 (pt x1 y1 w1)) (h2 : Dp K H v2 (pt x2 y2 w2)) (e : HT.lexLt [x1, y1, w1] [x2, y2, w2] = true) (q : Q v2 H) : qMax2T K [v1, v2] H Q := by
  obtain ⟨a, rfl, s1⟩ := dp3 h1
  obtain ⟨b, rfl, s2⟩ := dp3 h2
  exact ⟨a, b, x1, y1, w1, x2, y2, w2, rfl, s1, s2, by rw [if_pos e]; exact q⟩
theorem i_maxB (h1 : Dp K H v1 (pt x1 y1 w1)) (h2 : Dp K H v2 (pt x2 y2 w2)) (e : HT.lexLt [x1, y1, w1] [x2, y2, w2] = false) (q : Q v1 H) : qMax2T K [v1, v2] H Q := by
  obtain ⟨a, rfl, s1⟩ := dp3 h1
  obtain ⟨b, rfl, s2⟩ := dp3 h2
  exact ⟨a, b, x1, y1, w1, x2, y2, w2, rfl, s1, s2, by rw [e]; exact q⟩
theorem i_lcNo {σ : L2.St} {vs : List Nat} {j : Nat} {te : TE} {tt : TT} {v : V} {ds : List PyData} (c : PyData → Bool) (h : Dp K H v (.list ds)) (hc : ∀ d ∈ ds, c d = false) (hw : ∀ x, wipe ((wipe σ vs).set j (some x)) vs = wipe σ vs)
    (ht : ∀ (u : V) (d : PyData) (H2 : Hp) (R : Bool → Hp → Prop), Ex H H2 → d ∈ ds → Dp K H2 u d → (∀ H3, Ex H2 H3 → R (c d) H3) → tt ((wipe σ vs).set j (some u)) H2 R)
    (q : ∀ p H2, H p = none → Ex H H2 → Dp K H2 (.ref p) (.list []) → Q (.ref p) H2) : tLc (iList K (tC v)) (gName j) tt te vs σ H Q := by
  obtain ⟨a, xs, rfl, hs, ha⟩ := dpLst h
  refine ⟨a, rfl, ⟨xs, hs⟩, fun D hD => lc_list (xs := xs) (fun i H' => H D = none ∧ Ex H H' ∧ H' D = some (.lst [])) ⟨hD, Ex.new hD, upd_same⟩ (fun i H' _ p => Evl.ex_l p.2.1 hs) (fun i x H' hi p => ⟨hw x, ?_⟩) (fun H' p => ?_)⟩
  · obtain ⟨d, hd, hx⟩ := dpIdx ha hi
    have hm := List.mem_of_getElem? hd
    refine ht x d H' _ p.2.1 hm (dpMono p.2.1 hx) fun H3 e3 => ?_
    rw [hc d hm]
    exact ⟨p.1, p.2.1.trans e3, e3 _ _ p.2.2⟩
  · exact q D H' p.1 p.2.1 (.lst (Evl.sq_of p.2.2) .nil)
theorem lex_irr (x y z : Int) : HT.lexLt [x, y, z] [x, y, z] = false := by
  simp [HT.lexLt]
theorem lex_anti {x y z x' y' z' : Int} (h : HT.lexLt [x, y, z] [x', y', z'] = true) : HT.lexLt [x', y', z'] [x, y, z] = false := by
  simp only [HT.lexLt] at *
  grind
theorem lex_tot {x y z x' y' z' : Int} (h : HT.lexLt [x, y, z] [x', y', z'] = false) (n : ¬ (x = x' ∧ y = y' ∧ z = z')) : HT.lexLt [x', y', z'] [x, y, z] = true := by
  simp only [HT.lexLt] at *
  grind
theorem use__law_pointE {x y w a b c : Int} (r : rp x y w = pt a b c) (hw : 0 < w) (sw : Sz 9000 w) (q : ∀ v H2, Ex H H2 → Dp K H2 v (pt a b c) → Q v H2) : sp__law_point K [.int x, .int y, .int w] H Q E := use__law_point hw sw (r ▸ q)
theorem use_point_ofE {x y w a b c : Int} (r : rp x y w = pt a b c) (hw : w ≠ 0) (sw : Sz 9000 w) (q : ∀ v H2, Ex H H2 → Dp K H2 v (pt a b c) → Q v H2) : sp_point_of K [.int x, .int y, .int w] H Q E := use_point_of hw sw (r ▸ q)
theorem use_point_of1E {x y a b c : Int} (r : rp x y 1 = pt a b c) (q : ∀ v H2, Ex H H2 → Dp K H2 v (pt a b c) → Q v H2) : sp_point_of K ([.int x, .int y] ++ [.int 1]) H Q E := use_point_of1 (r ▸ q)
theorem rp_same {x y w X Y W x' y' w' : Int} (hW : W ≠ 0) (hW' : w' ≠ 0) (l : Lo x y w x' y' w') (e1 : X * w' = x' * W) (e2 : Y * w' = y' * W) : rp X Y W = pt x y w := by
  have k := Lo.same (rp_lo (X := X) (Y := Y) hW) l hW hW' e1 e2
  show pt _ _ _ = pt _ _ _
  rw [k.1, k.2.1, k.2.2]
theorem gd_mul3 {t : Int} (ht : 2 ≤ t) (x y w : Int) : gd (gd (x * t) (y * t)) (w * t) ≠ 1 := by
  rw [Int.mul_comm x, Int.mul_comm y, Int.mul_comm w, gd3_mul]
  intro h
  have : (t.natAbs : Int) ∣ 1 := ⟨_, h.symm⟩
  have := Int.le_of_dvd (by decide) this
  omega
theorem near_no {x y w t a b c : Int} (ht : 2 ≤ t) (hc : 1 ≤ c) : ∀ d ∈ ([pt (x * t) (y * t) (w * t), pt a b 0, pt a b (0 - c), .list [.int a, .int b, .int c], .tuple [.int a, .int b], .tuple [.int a, .int b, .int c, .int 1], .tuple [.none, .int b, .int 1], .tuple [.bool true, .int b, .int 1], .tuple [.int a, .int b, .bool true], .none] : List PyData), isPoint d = false := by
  intro d hd
  simp only [List.mem_cons, List.not_mem_nil, or_false] at hd
  rcases hd with rfl | rfl | rfl | rfl | rfl | rfl | rfl | rfl | rfl | rfl
  · show (decide _ && decide _) = false
    rw [decide_eq_false (gd_mul3 ht x y w), Bool.and_false]
  · rfl
  · show (decide _ && decide _) = false
    rw [decide_eq_false (p := 1 ≤ 0 - c) (by omega), Bool.false_and]
  all_goals rfl
theorem side_yes {a b c a' b' c' : Int} (h : HT.lexLt [a, b, c] [a', b', c'] = true) (p1 : isPoint (pt a b c) = true) (p2 : isPoint (pt a' b' c') = true) : isSide (.tuple [pt a b c, pt a' b' c']) = true := by
  show (isPoint (pt a b c) && isPoint (pt a' b' c') && HT.lexLt [a, b, c] [a', b', c']) = true
  rw [h, p1, p2]
  rfl
theorem odd_no {a b c a' b' c' x y z : Int} (h : HT.lexLt [a, b, c] [a', b', c'] = true) (n0 : isPoint (pt x y z) = false) : ∀ d ∈ ([.tuple [pt a' b' c', pt a b c], .tuple [pt a b c, pt a b c], .list [pt a b c, pt a' b' c'], .tuple [pt a b c, pt x y z], .tuple [pt a b c], .tuple [pt a b c, pt a' b' c', pt a' b' c'], .none] : List PyData), isSide d = false := by
  intro d hd
  simp only [List.mem_cons, List.not_mem_nil, or_false] at hd
  rcases hd with rfl | rfl | rfl | rfl | rfl | rfl | rfl
  · show (isPoint _ && isPoint _ && HT.lexLt [a', b', c'] [a, b, c]) = false
    rw [lex_anti h, Bool.and_false]
  · show (isPoint _ && isPoint _ && HT.lexLt [a, b, c] [a, b, c]) = false
    rw [lex_irr, Bool.and_false]
  · rfl
  · show (isPoint _ && isPoint (pt x y z) && _) = false
    rw [n0, Bool.and_false, Bool.false_and]
  all_goals rfl
theorem notF (b : Bool) : (!decide (b = false)) = b := by cases b <;> rfl
local macro_rules | `(tactic| wtm_at "use") => `(tactic| (first | ((with_reducible refine' use__law_pointE ?u0 ?u1 ?u2 (fun pv pH pe pd => ?uq)); (case u0 => with_reducible assumption); (case u1 => wtm_at "pos"); (case u2 => wtm_at "szb")) | fail))
local macro_rules | `(tactic| wtm_at "use") => `(tactic| (first | ((with_reducible refine' use_point_ofE ?u0 ?u1 ?u2 (fun pv pH pe pd => ?uq)); (case u0 => with_reducible assumption); (case u1 => wtm_at "nz"); (case u2 => wtm_at "szb")) | fail))
local macro_rules | `(tactic| wtm_at "use") => `(tactic| (first | ((with_reducible refine' use_point_of1E ?u0 (fun pv pH pe pd => ?uq)); (case u0 => with_reducible assumption)) | fail))
local macro_rules | `(tactic| wtm_at "st2") => `(tactic| with_reducible refine' i_clD ?_)
local macro_rules | `(tactic| wtm_at "st2") => `(tactic| (first | ((with_reducible refine' i_qlistD ?u0 (fun np nH nfr nhe nhd => ?uq)); (case u0 => wtm_at "dp")) | fail))
local macro_rules | `(tactic| wtm_at "st2") => `(tactic| (first | ((with_reducible refine' i_cat ?u0 ?u1 ?u2 ?u3 (fun np nH nfr nhe nhp => ?uq)); (case u0 => wtm_at "hs"); (case u1 => wtm_at "hs"); (case u2 => exact Nat.le_of_ble_eq_true rfl); (case u3 => ((dsimp only [List.cons_append, List.nil_append]) <;> exact rfl))) | fail))
local macro_rules | `(tactic| wtm_at "st2") => `(tactic| (first | ((with_reducible refine' i_sl2 ?u0 (fun np nH nhe nhd => ?uq)); (case u0 => wtm_at "dp")) | fail))
local macro_rules | `(tactic| wtm_at "st2") => `(tactic| (first | ((with_reducible refine' i_catT1 ?u0 ?u1 (fun np nH nhe nhd => ?uq)); (case u0 => wtm_at "dp"); (case u1 => with_reducible assumption)) | fail))
local macro_rules | `(tactic| wtm_at "st2") => `(tactic| ((with_reducible refine' i_rep3 ?u0 (fun np nH nfr nhe nhp => ?uq)); (case u0 => with_reducible assumption)))
local macro_rules | `(tactic| wtm_at "st2") => `(tactic| (first | ((with_reducible refine' i_minA ?u0 ?u1 ?u2 ?uq); (case u0 => wtm_at "dp"); (case u1 => wtm_at "dp"); (case u2 => with_reducible assumption)) | fail))
local macro_rules | `(tactic| wtm_at "st2") => `(tactic| (first | ((with_reducible refine' i_minB ?u0 ?u1 ?u2 ?uq); (case u0 => wtm_at "dp"); (case u1 => wtm_at "dp"); (case u2 => with_reducible assumption)) | fail))
local macro_rules | `(tactic| wtm_at "st2") => `(tactic| (first | ((with_reducible refine' i_maxA ?u0 ?u1 ?u2 ?uq); (case u0 => wtm_at "dp"); (case u1 => wtm_at "dp"); (case u2 => with_reducible assumption)) | fail))
local macro_rules | `(tactic| wtm_at "st2") => `(tactic| (first | ((with_reducible refine' i_maxB ?u0 ?u1 ?u2 ?uq); (case u0 => wtm_at "dp"); (case u1 => wtm_at "dp"); (case u2 => with_reducible assumption)) | fail))
theorem eqvP3 (a b c : Int) : PyData.eqv (.list [pt a b c, pt a b c, pt a b c]) (.list [pt a b c, pt a b c, pt a b c]) = true := by
  simp [PyData.eqv, PyData.eqvAll]
def sp__law_points_right (K : PySem.W.Frag) : Sp := A1 fun v1 H Q => ∃ b, v1 = .ref b ∧ Bag b H ∧ ∀ H2, Ex (hid b H) (hid b H2) → Bag b H2 → Q (.bl true) H2
abbrev s__law_points_right : Stmt := top 45
theorem sc__law_points_right : FnScope ["_law_bag_here", "_law_x", "_law_y", "_law_w", "_law_times", "_law_point_here", "_law_told", "_law_near", "_law_other", "_law_low", "_law_high", "_law_odd", "_law_one"] ["_law_bag_here"] (defScope s__law_points_right) := ⟨rfl, rfl, rfl, by decide +kernel, rfl, by decide +kernel, by decide +kernel⟩
theorem ok__law_points_right {f : Addr} {fd : FuncData} (F : FnP K "_law_points_right" s__law_points_right f fd) (g : G mg) (c__law_point : Cl P w K mg base 2 "_law_point" (sp__law_point K)) (c_point_of : Cl P w K mg base 3 "point_of" (sp_point_of K)) (c__law_draw : Cl P w K mg base 1 "_law_draw" (sp__law_draw K)) (c_is_point : Cl P w K mg base 2 "is_point" (sp_is_point K)) (c_is_side : Cl P w K mg base 3 "is_side" (sp_is_side K)) (c__law_one_of : Cl P w K mg base 2 "_law_one_of" (sp__law_one_of K)) (c2_point_of : ClD P w K mg base 3 "point_of" (sp_point_of K) [.int 1]) : FnOk P w K mg base CX0 4 f fd ["_law_bag_here"] (sp__law_points_right K) := by
  have nd := sc__law_points_right.nd
  refine F.ok sc__law_points_right (fun vs H Q E h => h.len) (fun cdv A outer s H vs Q E hr h => ?_)
  obtain ⟨v1, rfl, h⟩ := h
  refine ⟨_, PSs.nox (pss_cons (ps_par (i := 1) (j := 2) (by rfl) nd rfl rfl (by decide) rfl rfl (pa_cons (pe_op op_sub (pc c__law_draw hr (by decide) (by rfl) (pa_cons (pv 0) (pa_cons (pe_op op_powX pe_int pe_int) pa_nil))) (pe_op op_powX pe_int pe_int)) (pa_cons (pe_op op_sub (pc c__law_draw hr (by decide) (by rfl) (pa_cons (pv 0) (pa_cons pe_int pa_nil))) pe_int) pa_nil)) (by rfl)) (pss_cons (ps_par (i := 3) (j := 4) (by rfl) nd rfl rfl (by decide) rfl rfl (pa_cons (pe_op op_add pe_int (pc c__law_draw hr (by decide) (by rfl) (pa_cons (pv 0) (pa_cons (pc c__law_one_of hr (by decide) (by rfl) (pa_cons (pv 0) (pa_cons (pe_lst (pa_cons pe_int (pa_cons pe_int (pa_cons (pe_op op_powX pe_int pe_int) pa_nil)))) pa_nil))) pa_nil)))) (pa_cons (pe_op op_add pe_int (pc c__law_draw hr (by decide) (by rfl) (pa_cons (pv 0) (pa_cons pe_int pa_nil)))) pa_nil)) (by rfl)) (pss_cons (ps_set (i := 5) nd rfl (Or.inl rfl) (pc c__law_point hr (by decide) (by rfl) (pa_cons (pv 1) (pa_cons (pv 2) (pa_cons (pv 3) pa_nil))))) (pss_cons (ps_set (i := 6) nd rfl (Or.inl rfl) (pe_lst (pa_cons (pc c_point_of hr (by decide) (by rfl) (pa_cons (pv 1) (pa_cons (pv 2) (pa_cons (pv 3) pa_nil)))) (pa_cons (pc c_point_of hr (by decide) (by rfl) (pa_cons (pe_op op_sub pe_int (pv 1)) (pa_cons (pe_op op_sub pe_int (pv 2)) (pa_cons (pe_op op_sub pe_int (pv 3)) pa_nil)))) (pa_cons (pc c_point_of hr (by decide) (by rfl) (pa_cons (pe_op op_mulX (pv 1) (pv 4)) (pa_cons (pe_op op_mulX (pv 2) (pv 4)) (pa_cons (pe_op op_mulX (pv 3) (pv 4)) pa_nil)))) pa_nil))))) (pss_cons (ps_if (PW.pt (pw_or (pt_cmpR (op_neD hr.units) (pv 6) (pe_op op_rep (pe_lst (pa_cons (pv 5) pa_nil)) pe_int) (nomark _)) (pw_or (pt_cmpR (op_neD hr.units) (pcD c2_point_of hr (by decide) (by rfl) (pa_cons (pv 1) (pa_cons (pv 2) pa_nil))) (pe_tup (pa_cons (pv 1) (pa_cons (pv 2) (pa_cons pe_int pa_nil)))) (nomark _)) (pw_or1 (pt_cmpR op_notBl (pc c_is_point hr (by decide) (by rfl) (pa_cons (pv 5) pa_nil)) pe_bl (nomark _)))))) (pss_one (ps_ret pe_bl)) pss_nil) (pss_cons (ps_set (i := 7) nd rfl (Or.inl rfl) (pe_lst (pa_cons (pe_tup (pa_cons (pe_op op_mulX (pv 1) (pv 4)) (pa_cons (pe_op op_mulX (pv 2) (pv 4)) (pa_cons (pe_op op_mulX (pv 3) (pv 4)) pa_nil)))) (pa_cons (pe_tup (pa_cons (pe_ix ix_tup (pv 5) pe_int (fun _ _ => rfl)) (pa_cons (pe_ix ix_tup (pv 5) pe_int (fun _ _ => rfl)) (pa_cons pe_int pa_nil)))) (pa_cons (pe_tup (pa_cons (pe_ix ix_tup (pv 5) pe_int (fun _ _ => rfl)) (pa_cons (pe_ix ix_tup (pv 5) pe_int (fun _ _ => rfl)) (pa_cons (pe_op op_sub pe_int (pe_ix ix_tup (pv 5) pe_int (fun _ _ => rfl))) pa_nil)))) (pa_cons (pe_callTy call_qlist (by rfl) g.f_list boot_list (pa_cons (pv 5) pa_nil)) pa_nil)))))) (pss_cons (ps_set (i := 7) nd rfl (Or.inl rfl) (pe_op op_cat (pv 7) (pe_lst (pa_cons (pe_slice sl_tupA (pv 5) po_none (po_some pe_int)) (pa_cons (pe_op op_catT (pv 5) (pe_tup (pa_cons pe_int pa_nil))) (pa_cons (pe_tup (pa_cons pe_non (pa_cons (pe_ix ix_tup (pv 5) pe_int (fun _ _ => rfl)) (pa_cons pe_int pa_nil)))) (pa_cons (pe_tup (pa_cons pe_bl (pa_cons (pe_ix ix_tup (pv 5) pe_int (fun _ _ => rfl)) (pa_cons pe_int pa_nil)))) (pa_cons (pe_tup (pa_cons (pe_ix ix_tup (pv 5) pe_int (fun _ _ => rfl)) (pa_cons (pe_ix ix_tup (pv 5) pe_int (fun _ _ => rfl)) (pa_cons pe_bl pa_nil)))) (pa_cons pe_non pa_nil))))))))) (pss_cons (ps_if (pt_cmpR (op_neD hr.units) (pe_lc (own := [("_law_one", 12)]) (g := gName 12) (by rfl) nd (pi_list (pv 7)) (blkOk_by (N := ["_law_bag_here", "_law_x", "_law_y", "_law_w", "_law_times", "_law_point_here", "_law_told", "_law_near", "_law_other", "_law_low", "_law_high", "_law_odd", "_law_one"]) (sc := defScope s__law_points_right) (own := [("_law_one", 12)]) (by decide +kernel)) (fun _ _ _ _ _ => (pg_name (i := 12) nd rfl (Or.inl rfl))) (fun _ _ _ _ _ => (pts_one (pt_cmpR op_notBl (pc c_is_point hr (by decide) (by rfl) (pa_cons (pv 12) pa_nil)) pe_bl (nomark _)))) (fun _ _ _ _ _ => (pv 12))) (pe_lst pa_nil) (nomark _)) (pss_one (ps_ret pe_bl)) pss_nil) (pss_cons (ps_set (i := 8) nd rfl (Or.inl rfl) (pc c__law_point hr (by decide) (by rfl) (pa_cons (pe_op op_add (pv 1) pe_int) (pa_cons (pv 2) (pa_cons (pv 3) pa_nil))))) (pss_cons (ps_par (i := 9) (j := 10) (by rfl) nd rfl rfl (by decide) rfl rfl (pa_cons (pe_callB (call_min2T rfl hr.units) (by rfl) g.f_min boot_min (pa_cons (pv 5) (pa_cons (pv 8) pa_nil))) (pa_cons (pe_callB (call_max2T rfl hr.units) (by rfl) g.f_max boot_max (pa_cons (pv 5) (pa_cons (pv 8) pa_nil))) pa_nil)) (by rfl)) (pss_cons (ps_set (i := 11) nd rfl (Or.inl rfl) (pe_lst (pa_cons (pe_tup (pa_cons (pv 10) (pa_cons (pv 9) pa_nil))) (pa_cons (pe_tup (pa_cons (pv 9) (pa_cons (pv 9) pa_nil))) (pa_cons (pe_lst (pa_cons (pv 9) (pa_cons (pv 10) pa_nil))) (pa_cons (pe_tup (pa_cons (pv 9) (pa_cons (pe_ix ix_list (pv 7) pe_int (fun _ _ => rfl)) pa_nil))) (pa_cons (pe_tup (pa_cons (pv 9) pa_nil)) (pa_cons (pe_tup (pa_cons (pv 9) (pa_cons (pv 10) (pa_cons (pv 10) pa_nil)))) (pa_cons pe_non pa_nil))))))))) (pss_one (ps_ret (pe_and (pe_cmpR op_isBl (pc c_is_side hr (by decide) (by rfl) (pa_cons (pe_tup (pa_cons (pv 9) (pa_cons (pv 10) pa_nil))) pa_nil)) pe_bl (nomark _)) (pe_one (pe_cmpR (op_eqD hr.units) (pe_lc (own := [("_law_one", 12)]) (g := gName 12) (by rfl) nd (pi_list (pv 11)) (blkOk_by (N := ["_law_bag_here", "_law_x", "_law_y", "_law_w", "_law_times", "_law_point_here", "_law_told", "_law_near", "_law_other", "_law_low", "_law_high", "_law_odd", "_law_one"]) (sc := defScope s__law_points_right) (own := [("_law_one", 12)]) (by decide +kernel)) (fun _ _ _ _ _ => (pg_name (i := 12) nd rfl (Or.inl rfl))) (fun _ _ _ _ _ => (pts_one (pt_cmpR op_notBl (pc c_is_side hr (by decide) (by rfl) (pa_cons (pv 12) pa_nil)) pe_bl (nomark _)))) (fun _ _ _ _ _ => (pv 12))) (pe_lst pa_nil) (nomark _))))))))))))))))), ?_⟩
  obtain ⟨b, rfl, hb, q⟩ := h
  have s20 : Sz 9000 ((10 : Int) ^ Int.toNat 20) := by unfold Sz; decide +kernel
  wtm_at "gob0"
  rename_i n1 hn1 n10 n11 en1 bn1 n2 hn2 n20 n21 en2 bn2 _ _ _ _ _ _
  wtm_at "oneof"
  intro d v H2 hd e2 b2 hv
  obtain ⟨m, rfl, hm1, hm2⟩ : ∃ m : Int, v = .int m ∧ 1 ≤ m ∧ m ≤ 1000000000000 := by
    simp only [List.mem_cons, List.not_mem_nil, or_false] at hd
    rcases hd with rfl | rfl | rfl <;> exact ⟨_, dpInt hv, by decide, by decide⟩
  have sm : Sz 9000 m := sz_mono (show Sz 60 m by unfold Sz; omega) (by decide)
  wtm_at "gob"
  rename_i n3 H3 n30 n31 en3 bn3 n4 H4 n40 n41 en4 bn4
  have eall : Ex (hid b H) (hid b H4) := by wtm_at "ex"
  have fin : ∀ H5, Ex H4 H5 → Q (.bl true) H5 := fun H5 e5 => q H5 (eall.trans (hid_ex e5)) (bn4.mono e5)
  have sx : Sz 67 (n1 - 10 ^ Int.toNat 19) := by
    have k1 : (10 : Int) ^ Int.toNat 20 = 100000000000000000000 := by decide +kernel
    have k2 : (10 : Int) ^ Int.toNat 19 = 10000000000000000000 := by decide +kernel
    rw [k1] at n11
    rw [k2]
    unfold Sz
    omega
  have sy : Sz 8 (n2 - 100) := by unfold Sz; omega
  have sw : Sz 41 (1 + n3) := by unfold Sz; omega
  have st : Sz 4 (2 + n4) := by unfold Sz; omega
  have hw1 : 1 ≤ 1 + n3 := by omega
  have ht : 2 ≤ 2 + n4 := by omega
  generalize n1 - 10 ^ Int.toNat 19 = x at *
  generalize n2 - 100 = y at *
  generalize 1 + n3 = w0 at *
  generalize 2 + n4 = t at *
  clear q s20 n10 n11 en1 bn1 n20 n21 en2 bn2 hd e2 b2 hv hm1 hm2 sm n30 n31 en3 bn3 n40 n41 en4 eall
  have hw0 : 0 < w0 := by omega
  have hwt : w0 * t ≠ 0 := Int.mul_ne_zero (by omega) (by omega)
  have nw : 0 - w0 ≠ 0 := by omega
  obtain ⟨hx, hy, hw, r1, l1⟩ : ∃ hx hy hw, rp x y w0 = pt hx hy hw ∧ Lo hx hy hw x y w0 := ⟨_, _, _, rfl, rp_lo (by omega)⟩
  obtain ⟨ox, oy, ow, r5, l5⟩ : ∃ hx hy hw, rp (x + 1) y w0 = pt hx hy hw ∧ Lo hx hy hw (x + 1) y w0 := ⟨_, _, _, rfl, rp_lo (by omega)⟩
  have r2 : rp (0 - x) (0 - y) (0 - w0) = pt hx hy hw := rp_same nw (by omega) l1 (by grind) (by grind)
  have r3 : rp (x * t) (y * t) (w0 * t) = pt hx hy hw := rp_same hwt (by omega) l1 (by grind) (by grind)
  have r4 : rp x y 1 = pt x y 1 := rp_same (x' := x) (y' := y) (w' := 1) (by decide) (by decide) ⟨rfl, rfl, by decide, by unfold gd; simp⟩ rfl rfl
  have p1 : isPoint (pt hx hy hw) = true := lo_point l1
  have p2 : isPoint (pt ox oy ow) = true := lo_point l5
  have ne : ¬ (hx = ox ∧ hy = oy ∧ hw = ow) := by
    rintro ⟨rfl, rfl, rfl⟩
    have a1 := l1.ex; have a2 := l5.ex; have a3 := l1.hw
    have : hw = 0 := by grind
    omega
  have hNo := near_no (x := x) (y := y) (w := w0) (a := hx) (b := hy) (c := hw) ht l1.hw
  have n0 : isPoint (pt (x * t) (y * t) (w0 * t)) = false := hNo _ List.mem_cons_self
  wtm_at "go"
  · rename_i hz
    rw [eqvP3] at hz
    cases hz
  · rename_i hz
    rw [eqv_pt.mpr ⟨rfl, rfl, rfl⟩] at hz
    cases hz
  · rename_i hz
    exact absurd p1 hz
  refine i_lcM ?_
  wtm_at "go"
  refine i_lcNo isPoint ?d1 hNo (fun x => rfl) ?d2 ?d3
  case d1 => wtm_at "dp"
  case d2 =>
    intro u d H2 R e2 hd hu r
    wtm_at "nrm"
    wtm_at "go"
    rw [notF]
    exact r _ (by wtm_at "ex")
  intro p H2 hn e2 hl0
  cases hlt : HT.lexLt [hx, hy, hw] [ox, oy, ow] with
  | true =>
    have hlt2 := lex_anti hlt
    have sYes := side_yes hlt p1 p2
    have oNo := odd_no hlt n0
    wtm_at "go"
    · refine i_lcM ?_
      wtm_at "go"
      refine i_lcNo isSide ?e1 oNo (fun x => rfl) ?e2 ?e3
      case e1 => wtm_at "dp"
      case e2 =>
        intro u d H2 R e2 hd hu r
        wtm_at "nrm"
        wtm_at "go"
        rw [notF]
        exact r _ (by wtm_at "ex")
      intro p H2 hn e2 hl0
      wtm_at "go"
      exact fin _ (by wtm_at "ex")
    · rename_i hz
      exact absurd sYes hz
  | false =>
    have hlt2 := lex_tot hlt ne
    have sYes := side_yes hlt2 p2 p1
    have oNo := odd_no hlt2 n0
    wtm_at "go"
    · refine i_lcM ?_
      wtm_at "go"
      refine i_lcNo isSide ?g1 oNo (fun x => rfl) ?g2 ?g3
      case g1 => wtm_at "dp"
      case g2 =>
        intro u d H2 R e2 hd hu r
        wtm_at "nrm"
        wtm_at "go"
        rw [notF]
        exact r _ (by wtm_at "ex")
      intro p H2 hn e2 hl0
      wtm_at "go"
      exact fin _ (by wtm_at "ex")
    · rename_i hz
      exact absurd sYes hz
theorem use__law_points_right {b : Addr} (hb : Bag b H) (q : ∀ H2, Ex (hid b H) (hid b H2) → Bag b H2 → Q (.bl true) H2) : sp__law_points_right K [.ref b] H Q E := ⟨_, rfl, _, rfl, hb, q⟩
end
end Wb

namespace Wb
open PySem PySem.Spec PyProof.Rows L2
open Evl (Ex Ex.refl Ex.trans Ex.new)
local macro_rules | `(tactic| wtm_at "dp") => `(tactic| first | with_reducible assumption | with_reducible exact Dp.int _ | with_reducible exact Dp.bl _ | with_reducible exact Dp.str _ | with_reducible exact Dp.non | ((with_reducible refine' dpMono ?dme (by with_reducible assumption)); (case dme => wtm_at "ex")) | ((with_reducible refine' Dp.tup (Evl.st_of ?dph) ?dpa); (case dph => wtm_at "hs"); (case dpa => wtm_at "dpa")) | ((with_reducible refine' Dp.lst (Evl.sq_of ?dph) ?dpa); (case dph => wtm_at "hs"); (case dpa => wtm_at "dpa")))
local macro_rules | `(tactic| wtm_at "dpa") => `(tactic| first | with_reducible exact DpAll.nil | ((with_reducible refine' DpAll.cons ?dp1 ?dp2); (case dp1 => wtm_at "dp"); (case dp2 => wtm_at "dpa")) | with_reducible assumption | ((with_reducible refine' dpMonoA ?dme (by with_reducible assumption)); (case dme => wtm_at "ex")))
local macro_rules | `(tactic| wtm_at "sz") => `(tactic| first | with_reducible assumption | ((with_reducible refine' sz_mul ?sz1 ?sz2); (case sz1 => wtm_at "sz"); (case sz2 => wtm_at "sz")) | ((with_reducible refine' sz_add ?sz1 ?sz2); (case sz1 => wtm_at "sz"); (case sz2 => wtm_at "sz")) | ((with_reducible refine' sz_sub ?sz1 ?sz2); (case sz1 => wtm_at "sz"); (case sz2 => wtm_at "sz")) | ((with_reducible refine' sz_neg ?sz1); (case sz1 => wtm_at "sz")) | ((with_reducible refine' sz_div ?sz1); (case sz1 => wtm_at "sz")) | ((with_reducible refine' sz_fdiv ?sz1); (case sz1 => wtm_at "sz")) | exact sz_lit (by decide) | wtm_at "sz2")
local macro_rules | `(tactic| wtm_at "szb") => `(tactic| first | with_reducible assumption | ((with_reducible refine' sz_mono ?szb1 ?szb2); (case szb1 => wtm_at "sz"); (case szb2 => decide)))
local macro_rules | `(tactic| wtm_at "nz") => `(tactic| first | assumption | decide | omega)
local macro_rules | `(tactic| wtm_at "shaped") => `(tactic| first | rfl | decide)
local macro_rules | `(tactic| wtm_at "sset") => `(tactic| ((dsimp only [L2.wipe, List.set, List.set_cons_zero, List.set_cons_succ]) <;> exact rfl))
local macro_rules | `(tactic| wtm_at "nrm") => `(tactic| dsimp only [L2.start, L2.wipe, List.set, List.append, List.map, List.map_cons, List.map_nil, List.length_cons, List.length_nil, Nat.reduceAdd, Nat.reduceSub, List.reduceReplicate, List.replicate, List.cons_append, List.nil_append, List.set_cons_zero, List.set_cons_succ])
local macro_rules | `(tactic| wtm_at "st") => `(tactic| first
  | ((with_reducible refine' i_var (v := ?u0) ?u1 ?uq); (case u1 => exact rfl))
  | ((with_reducible refine' i_nameN ?u0 ?uq); (case u0 => wtm_at "sset"))
  | (with_reducible refine' i_op ?uq)
  | (with_reducible refine' i_c ?uq)
  | (with_reducible refine' i_I0 ?uq)
  | ((with_reducible refine' i_ixTI (i := ?u0) ?u1 ?u2 ?u3 ?uq); (case u1 => wtm_at "dp"); (case u2 => wtm_at "ex"); (case u3 => exact rfl))
  | ((with_reducible refine' i_ixT (d := ?u0) ?u1 ?u2 ?u3 (fun xu hxu => ?uq)); (case u1 => wtm_at "dp"); (case u2 => wtm_at "ex"); (case u3 => exact rfl))
  | ((with_reducible refine' i_mul ?u0 ?u1 ?u2 ?uq); (case u0 => wtm_at "sz"); (case u1 => wtm_at "sz"); (case u2 => first | decide | omega))
  | (with_reducible refine' i_seq ?uq)
  | (with_reducible refine' i_asg ?uq)
  | (with_reducible refine' i_ret ?uq)
  | (with_reducible refine' i_ifs ?uq)
  | (with_reducible refine' i_drop ?uq)
  | (with_reducible refine' i_next ?uq)
  | (with_reducible refine' i_cons ?uq)
  | (with_reducible refine' i_nil ?uq)
  | (with_reducible refine' i_cl ?uq)
  | (with_reducible refine' i_cb ?uq)
  | (with_reducible refine' i_tup ?uq)
  | (with_reducible refine' i_lst ?uq)
  | ((with_reducible refine' i_mkT ?u0 (fun np nH nhe nhp => ?uq)); (case u0 => exact Nat.le_of_ble_eq_true rfl))
  | (with_reducible refine' i_test ?uq)
  | (with_reducible refine' i_B ?uq)
  | (with_reducible refine' i_k ?uq)
  | (with_reducible refine' i_and ?uq)
  | (with_reducible refine' i_or ?uq)
  | (with_reducible refine' i_not ?uq)
  | (with_reducible refine' i_andV ?uq)
  | (with_reducible refine' i_orV ?uq)
  | (with_reducible refine' i_notV ?uq)
  | (with_reducible refine' i_if ?uq)
  | (with_reducible refine' i_un ?uq)
  | (with_reducible refine' i_U ?uq)
  | (with_reducible refine' i_iteT ?uq)
  | (with_reducible refine' i_iteF ?uq)
  | ((with_reducible refine' i_iteTr ?u0 ?uq); (case u0 => first | with_reducible rfl | decide | (simp only [dIsInt, dIsBool, dIsTup, dIsStr, dIsLst, Bool.not_true, Bool.not_false]; done)))
  | ((with_reducible refine' i_iteFr ?u0 ?uq); (case u0 => first | with_reducible rfl | decide | (simp only [dIsInt, dIsBool, dIsTup, dIsStr, dIsLst, Bool.not_true, Bool.not_false]; done)))
  | (with_reducible refine' i_ite (fun hif => ?uqa) (fun hif => ?uqb))
  | (with_reducible refine' i_iteN (fun hif => ?uqa) (fun hif => ?uqb))
  | (with_reducible refine' i_iteBN (fun hif => ?uqa) (fun hif => ?uqb))
  | (with_reducible refine' i_iteB (fun hif => ?uqa) (fun hif => ?uqb))
  | ((with_reducible refine' i_modN ?u0 ?uq); (case u0 => wtm_at "nz"))
  | ((with_reducible refine' i_fdX ?u0 ?u1 ?u2 ?uq); (case u0 => wtm_at "nz"); (case u1 => wtm_at "sz"); (case u2 => first | decide | omega))
  | ((with_reducible refine' i_pow ?u0 ?uq); (case u0 => exact ⟨by decide, by decide +kernel⟩))
  | (with_reducible refine' i_eqI ?uq)
  | (with_reducible refine' i_neI ?uq)
  | (with_reducible refine' i_gcd ?uq)
  | (with_reducible refine' i_qabs ?uq)
  | (with_reducible refine' i_qint ?uq)
  | (with_reducible refine' i_qintB ?uq)
  | (with_reducible refine' i_qmax2 ?uq)
  | (with_reducible refine' i_qmin2 ?uq)
  | (with_reducible refine' i_isB ?uq)
  | (with_reducible refine' i_notB ?uq)
  | (with_reducible refine' i_chain ?uq)
  | (with_reducible refine' i_qisN ?uq)
  | (with_reducible refine' i_qnotN ?uq)
  | (with_reducible refine' i_yes ?uq)
  | (with_reducible refine' i_par ?uq)
  | (with_reducible refine' i_par3 ?uq)
  | ((with_reducible refine' i_par2 ?u0 ?uq); (case u0 => wtm_at "sset"))
  | ((with_reducible refine' i_par33 ?u0 ?uq); (case u0 => wtm_at "sset"))
  | ((with_reducible refine' i_ixLI (i := ?u0) ?u1 ?u2 ?u3 ?uq); (case u1 => wtm_at "dp"); (case u2 => wtm_at "ex"); (case u3 => exact rfl))
  | ((with_reducible refine' i_ixL (d := ?u0) ?u1 ?u2 ?u3 (fun xu hxu => ?uq)); (case u1 => wtm_at "dp"); (case u2 => wtm_at "ex"); (case u3 => exact rfl))
  | ((with_reducible refine' i_qlenT ?u0 ?uq); (case u0 => wtm_at "dp"))
  | ((with_reducible refine' i_qlenL ?u0 ?uq); (case u0 => wtm_at "dp"))
  | ((with_reducible refine' i_gtup ?u0 ?u1 ?u2 (fun gvs gdp => ?uq)); (case u0 => wtm_at "dp"); (case u1 => wtm_at "ex"); (case u2 => exact rfl))
  | ((with_reducible refine' i_glst ?u0 ?u1 ?u2 (fun gvs gdp => ?uq)); (case u0 => wtm_at "dp"); (case u1 => wtm_at "ex"); (case u2 => exact rfl))
  | ((with_reducible refine' i_gconsI ?u0 (fun gr gh => ?uq)); (case u0 => with_reducible assumption))
  | ((with_reducible refine' i_gconsA ?u0 (fun gv gr gh1 gh2 => ?uq)); (case u0 => with_reducible assumption))
  | ((with_reducible refine' i_gnilA ?u0 ?uq); (case u0 => with_reducible assumption))
  | ((with_reducible refine' i_isiI ?u0 ?uq); (case u0 => wtm_at "dp"))
  | ((with_reducible refine' i_isiB ?u0 ?uq); (case u0 => wtm_at "dp"))
  | ((with_reducible refine' i_isiT ?u0 ?uq); (case u0 => wtm_at "dp"))
  | ((with_reducible refine' i_isiS ?u0 ?uq); (case u0 => wtm_at "dp"))
  | ((with_reducible refine' i_isiL ?u0 ?uq); (case u0 => wtm_at "dp"))
  | ((with_reducible refine' i_eqD ?u0 ?u1 ?u2 ?u3 ?uq); (case u0 => wtm_at "dp"); (case u1 => wtm_at "dp"); (case u2 => wtm_at "shaped"); (case u3 => wtm_at "shaped"))
  | ((with_reducible refine' i_neD ?u0 ?u1 ?u2 ?u3 ?uq); (case u0 => wtm_at "dp"); (case u1 => wtm_at "dp"); (case u2 => wtm_at "shaped"); (case u3 => wtm_at "shaped"))
  | wtm_at "st2"
  | wtm_at "use")
local macro_rules | `(tactic| wtm_at "go") => `(tactic| repeat' (wtm_at "st"))
local macro_rules | `(tactic| wtm_at "go0") => `(tactic| ((try dsimp only [L2.cxOf, L2.Cx.nox, L2.Cx.wish, L2.Cx.tr, L2.Cx.blk]); (try wtm_at "nrm"); wtm_at "go"))
local macro_rules | `(tactic| wtm_at "fin") => `(tactic| ((try dsimp only); first | with_reducible assumption | assumption | ((with_reducible refine' Ret.use ?rur ?rue ?rud); (case rur => with_reducible assumption); (case rue => wtm_at "ex"); (case rud => wtm_at "dp"))))
local macro_rules | `(tactic| wtm_at "ex") => `(tactic| first | with_reducible assumption | with_reducible exact Ex.refl _ | with_reducible exact ex_hid | ((with_reducible refine' Ex.trans ?exe (by with_reducible assumption)); (case exe => wtm_at "ex")) | ((with_reducible refine' Ex.trans ?exe (hid_ex (by with_reducible assumption))); (case exe => wtm_at "ex")) | ((with_reducible refine' Ex.trans ?exe ex_hid); (case exe => wtm_at "ex")))
local macro_rules | `(tactic| wtm_at "bag") => `(tactic| first | with_reducible assumption | ((with_reducible refine' Bag.mono ?bgm (by with_reducible assumption)); (case bgm => wtm_at "bag")))
local macro_rules | `(tactic| wtm_at "hs") => `(tactic| first | with_reducible assumption | ((with_reducible refine' hid_tup ?hb ?hp); (case hp => with_reducible assumption); (case hb => wtm_at "bag")) | ((with_reducible refine' hid_new ?hb ?hn ?hp); (case hp => with_reducible assumption); (case hn => with_reducible assumption); (case hb => wtm_at "bag")) | ((with_reducible refine' ex_at ?exe (by with_reducible assumption)); (case exe => wtm_at "ex")))
local macro_rules | `(tactic| wtm_at "st2") => `(tactic| first
  | ((with_reducible refine' i_mulC ?u0 ?uq); (case u0 => first | exact cmul_l (by decide) | exact cmul_r (by decide)))
  | ((with_reducible refine' i_ixLr (v := ?u0) ?u1 ?u2 ?uq); (case u1 => with_reducible assumption); (case u2 => exact rfl))
  | (with_reducible refine' i_sub ?uq)
  | ((with_reducible refine' i_mkL ?u0 (fun np nH nfr nhe nhp => ?uq)); (case u0 => exact Nat.le_of_ble_eq_true rfl))
  | ((with_reducible refine' i_setL (n := ?u0) ?u1 ?u2 (fun sH sh se => ?uq)); (case u1 => with_reducible assumption); (case u2 => exact rfl))
  | (with_reducible refine' i_sl ?uq)
  | (with_reducible refine' i_nopart ?uq)
  | (with_reducible refine' i_part ?uq)
  | (with_reducible refine' i_part1 ?uq))
local macro_rules | `(tactic| wtm_at "sz2") => `(tactic| ((with_reducible refine' sz_fmod ?sz1 ?sz2); (case sz1 => wtm_at "nz"); (case sz2 => wtm_at "sz")))
local macro_rules | `(tactic| wtm_at "stb") => `(tactic| first
  | ((with_reducible refine' i_mkTB ?u0 ?u1 (fun np nH nhe nhb nhp => ?uq)); (case u0 => exact Nat.le_of_ble_eq_true rfl); (case u1 => wtm_at "bag"))
  | ((with_reducible refine' i_mkLB ?u0 ?u1 (fun np nH nfr nhe nhb nhp => ?uq)); (case u0 => exact Nat.le_of_ble_eq_true rfl); (case u1 => wtm_at "bag"))
  | wtm_at "st")
local macro_rules | `(tactic| wtm_at "gob") => `(tactic| repeat' (wtm_at "stb"))
local macro_rules | `(tactic| wtm_at "gob0") => `(tactic| ((try dsimp only [L2.cxOf, L2.Cx.nox, L2.Cx.wish, L2.Cx.tr, L2.Cx.blk]); (try wtm_at "nrm"); wtm_at "gob"))
local macro_rules | `(tactic| wtm_at "use") => `(tactic| ((with_reducible refine' use__law_draw ?u0 ?u1 ?u2 (fun dn dH dn0 dn1 de db => ?uq)); (case u0 => wtm_at "bag"); (case u1 => wtm_at "pos"); (case u2 => wtm_at "szb")))
local macro_rules | `(tactic| wtm_at "pos") => `(tactic| first | assumption | decide | omega)
local macro_rules | `(tactic| wtm_at "oneof") => `(tactic| ((with_reducible refine' use__law_one_of ?u0 ?u1 ?u2 ?u3 ?uq); (case u0 => wtm_at "bag"); (case u1 => wtm_at "dp"); (case u2 => exact Nat.le_of_ble_eq_true rfl); (case u3 => exact Nat.le_of_ble_eq_true rfl)))
section
variable {P : Program} {w : World} {K : PySem.W.Frag} {mg : Str → Option Value} {base : Heap} {H H' : Hp} {Q : VK} {E : XK} {v1 v2 v3 v4 : V} {x1 y1 w1 x2 y2 w2 x3 y3 w3 x4 y4 w4 : Int}
variable {v5 v6 : V}
def kA (vs : List V) : TA := fun _ H R => R vs H
section
variable {σ : L2.St} {tu : TS} {D : Ends} {j : Nat} {vs : List Nat} {te : TE} {tt : TT}
theorem i_forRU {ta : TA} (q : ta σ H fun vs H1 => tFor (iRng1 (kA vs)) (gName j) tu D σ H1) : tFor (iRng1 ta) (gName j) tu D σ H := q
theorem i_lcRU {ta : TA} (q : ta σ H fun us H1 => tLc (iRng1 (kA us)) (gName j) tt te vs σ H1 Q) : tLc (iRng1 ta) (gName j) tt te vs σ H Q := q
theorem i_forRK {n : Int} (hn : 0 ≤ n ∧ n ≤ 100000) (Pv : Nat → L2.St → Hp → Prop) (h0 : Pv 0 σ H)
    (hs : ∀ (i : Nat) σ' H', (i : Int) < n → Pv i σ' H' → tu { D with nx := Pv (i + 1), ct := Pv (i + 1), bk := D.nx } (σ'.set j (some (.int (i : Int)))) H') (hd : ∀ σ' H', Pv n.toNat σ' H' → D.nx σ' H') : tFor (iRng1 (kA [.int n])) (gName j) tu D σ H :=
  ⟨n, rfl, by omega, by omega, for_range (lo := 0) (n := n.toNat) Pv h0 (fun i σ' H' hi p => by
    have e0 : (0 : Int) + (i : Int) = (i : Int) := Int.zero_add _
    show tu { D with nx := Pv (i + 1), ct := Pv (i + 1), bk := D.nx } (σ'.set j (some (.int ((0 : Int) + (i : Int))))) H'
    rw [e0]
    exact hs i σ' H' (by omega) p) hd⟩
theorem ex_hidD {b D0 : Addr} {H H' : Hp} {o : HO} (hD : H D0 = none) (e : Ex (hid b H) (hid b H')) : Ex (hid b H) (hid b (upd H' D0 o)) := fun a u h => by
  have h1 := of_hid h
  have hne : a ≠ D0 := ne_of_none h1.2 hD
  have h2 := of_hid (e a u h)
  exact hid_of (by rw [upd_ne hne]; exact h2.2) h2.1
theorem bag_upd {b D0 : Addr} {H : Hp} {o : HO} (hne : D0 ≠ b) (h : Bag b H) : Bag b (upd H D0 o) := by
  obtain ⟨x, y, z, h1, h2, h3⟩ := h.ex
  exact ⟨x, y, z, by rw [upd_ne (Ne.symm hne)]; exact h1, h2, h3⟩
theorem i_lcRB {b : Addr} {P : Int → Prop} {n : Nat} (hb : Bag b H) (hn : n ≤ 1000) (hw : ∀ x, wipe ((wipe σ vs).set j (some x)) vs = wipe σ vs)
    (he : ∀ (i : Nat) (H2 : Hp) (R : VK), Ex (hid b H) (hid b H2) → Bag b H2 → (∀ m H3, P m → Ex (hid b H2) (hid b H3) → Bag b H3 → R (.int m) H3) → te ((wipe σ vs).set j (some (.int (i : Int)))) H2 R)
    (q : ∀ p (ms : List Int) H2, ms.length = n → (∀ m ∈ ms, P m) → Ex (hid b H) (hid b H2) → Bag b H2 → hid b H2 p = some (.lst (ms.map V.int)) → Q (.ref p) H2) : tLc (iRng1 (kA [.int (n : Int)])) (gName j) tYes te vs σ H Q := by
  refine ⟨(n : Int), rfl, by omega, by omega, fun D0 hD => ?_⟩
  have hne : D0 ≠ b := hb.ne hD
  refine lc_range (lo := 0) (n := ((n : Int)).toNat) (fun i H' => Ex (hid b H) (hid b H') ∧ Bag b H' ∧ ∃ ms : List Int, ms.length = i ∧ (∀ m ∈ ms, P m) ∧ H' D0 = some (.lst (ms.map V.int))) ⟨ex_hidD hD (Ex.refl _), bag_upd hne hb, [], rfl, by simp, upd_same⟩ (fun i H' hi p => ?_) (fun H' p => ?_)
  · obtain ⟨p1, p2, ms, p3, p4, p5⟩ := p
    have e0 : (0 : Int) + (i : Int) = (i : Int) := Int.zero_add _
    show wipe ((wipe σ vs).set j (some (.int ((0 : Int) + (i : Int))))) vs = wipe σ vs ∧ tYes ((wipe σ vs).set j (some (.int ((0 : Int) + (i : Int))))) H' fun b' H3 => _
    rw [e0]
    refine ⟨hw _, he i H' _ p1 p2 fun m H3 hm e3 b3 => ?_⟩
    have hD3 : H3 D0 = some (.lst (ms.map V.int)) := (of_hid (e3 _ _ (hid_of p5 hne))).2
    refine ⟨_, hD3, Evl.sz_lt (by rw [List.length_map]; omega), ex_hidD hD (p1.trans e3), bag_upd hne b3, ms ++ [m], by simp [p3], ?_, by rw [upd_same, List.map_append]; rfl⟩
    intro m' hm'
    rcases List.mem_append.mp hm' with h | h
    · exact p4 m' h
    · rcases List.mem_singleton.mp h with rfl
      exact hm
  · obtain ⟨p1, p2, ms, p3, p4, p5⟩ := p
    exact q D0 ms H' (by omega) p4 p1 p2 (hid_of p5 hne)
end
theorem len6 {ms : List Int} (h : ms.length = 6) : ∃ a b c d e f, ms = [a, b, c, d, e, f] := by
  match ms, h with
  | [a, b, c, d, e, f], _ => exact ⟨a, b, c, d, e, f, rfl⟩
local macro_rules | `(tactic| wtm_at "use") => `(tactic| (first | ((with_reducible refine' use__law_turns_right ?u0 ?u1 ?u2 ?u3 ?u4 ?u5 ?u6 ?u7 ?u8 ?u9 ?u10 (fun tH te => ?uq)); (case u0 => wtm_at "dp"); (case u1 => wtm_at "dp"); (case u2 => with_reducible assumption); (case u3 => wtm_at "pos"); (case u4 => wtm_at "szb"); (case u5 => wtm_at "szb"); (case u6 => wtm_at "szb"); (case u7 => wtm_at "szb"); (case u8 => wtm_at "szb"); (case u9 => wtm_at "szb"); (case u10 => wtm_at "szb")) | fail))
local macro_rules | `(tactic| wtm_at "use") => `(tactic| (first | ((with_reducible refine' use__law_between_right ?u0 ?u1 ?u2 ?u3 ?u4 ?u5 ?u6 ?u7 (fun tH te => ?uq)); (case u0 => wtm_at "dp"); (case u1 => with_reducible assumption); (case u2 => wtm_at "pos"); (case u3 => wtm_at "szb"); (case u4 => wtm_at "szb"); (case u5 => wtm_at "szb"); (case u6 => wtm_at "szb"); (case u7 => wtm_at "szb")) | fail))
local macro_rules | `(tactic| wtm_at "use") => `(tactic| (first | ((with_reducible refine' use__law_squares_right ?u0 ?u1 ?u2 ?u3 ?u4 ?u5 ?u6 ?u7 (fun tH te => ?uq)); (case u0 => wtm_at "dp"); (case u1 => with_reducible assumption); (case u2 => wtm_at "pos"); (case u3 => wtm_at "szb"); (case u4 => wtm_at "szb"); (case u5 => wtm_at "szb"); (case u6 => wtm_at "szb"); (case u7 => wtm_at "szb")) | fail))
local macro_rules | `(tactic| wtm_at "use") => `(tactic| (first | ((with_reducible refine' use__law_lines_right ?u0 ?u1 ?u2 ?u3 ?u4 ?u5 ?u6 ?u7 (fun tH te => ?uq)); (case u0 => wtm_at "dp"); (case u1 => with_reducible assumption); (case u2 => wtm_at "pos"); (case u3 => wtm_at "szb"); (case u4 => wtm_at "szb"); (case u5 => wtm_at "szb"); (case u6 => wtm_at "szb"); (case u7 => wtm_at "szb")) | fail))
local macro_rules | `(tactic| wtm_at "use") => `(tactic| (first | ((with_reducible refine' use__law_points_right ?u0 (fun tH te tb => ?uq)); (case u0 => wtm_at "bag")) | fail))
local macro_rules | `(tactic| wtm_at "use") => `(tactic| (first | ((with_reducible refine' use__law_bag ?u0 ?u1 ?u2 (fun bb bH bn be bg => ?uq)); (case u0 => with_reducible assumption); (case u1 => first | assumption | omega); (case u2 => first | assumption | omega)) | fail))
local macro_rules | `(tactic| wtm_at "use") => `(tactic| (first | ((with_reducible refine' use__law_frame ?u0 (fun f1 f2 f3 f4 f5 f6 f7 fv fH fo fe fb fd => ?uq)); (case u0 => wtm_at "bag")) | fail))
local macro_rules | `(tactic| wtm_at "st2") => `(tactic| ((with_reducible refine' i_qlenS ?u0 ?uq); (case u0 => with_reducible assumption)))
def sp_law (K : PySem.W.Frag) : Sp := A1 fun v1 H Q => ∃ (a : Addr) (ns : List Int), v1 = .ref a ∧ SqL K H a (ns.map V.int) ∧ ∀ H2, Q (.bl true) H2
abbrev s_law : Stmt := top 46
theorem sc_law : FnScope ["_law_script", "_law_at", "_law_bag_here", "_law_frame_here", "_law_over", "_law_reach", "_law_a", "_law_b", "_law_c", "_law_d", "_law_e", "_law_f", "_law_turn"] ["_law_script"] (defScope s_law) := ⟨rfl, rfl, rfl, by decide +kernel, rfl, by decide +kernel, by decide +kernel⟩
theorem ok_law {f : Addr} {fd : FuncData} (F : FnP K "law" s_law f fd) (g : G mg) (c__law_bag : Cl P w K mg base 1 "_law_bag" (sp__law_bag K)) (c__law_frame : Cl P w K mg base 3 "_law_frame" (sp__law_frame K)) (c__law_one_of : Cl P w K mg base 2 "_law_one_of" (sp__law_one_of K)) (c__law_draw : Cl P w K mg base 1 "_law_draw" (sp__law_draw K)) (c__law_turns_right : Cl P w K mg base 7 "_law_turns_right" (sp__law_turns_right K)) (c__law_points_right : Cl P w K mg base 4 "_law_points_right" (sp__law_points_right K)) (c__law_between_right : Cl P w K mg base 7 "_law_between_right" (sp__law_between_right K)) (c__law_squares_right : Cl P w K mg base 7 "_law_squares_right" (sp__law_squares_right K)) (c__law_lines_right : Cl P w K mg base 8 "_law_lines_right" (sp__law_lines_right K))  : FnOk P w K mg base CX0 9 f fd ["_law_script"] (sp_law K) := by
  have nd := sc_law.nd
  refine F.ok sc_law (fun vs H Q E h => h.len) (fun cdv A outer s H vs Q E hr h => ?_)
  obtain ⟨v1, rfl, h⟩ := h
  refine ⟨_, PSs.nox (pss_cons (ps_for PassesOwn.never rfl (pi_range1 (by rfl) g.f_range (pa_cons (pe_callB (call_qmax2 rfl) (by rfl) g.f_max boot_max (pa_cons pe_int (pa_cons (pe_callB (call_qmin2 rfl) (by rfl) g.f_min boot_min (pa_cons pe_int (pa_cons (pe_callB call_qlen (by rfl) g.f_len boot_len (pa_cons (pv 0) pa_nil)) pa_nil))) pa_nil))) pa_nil)) (pg_name (i := 1) nd rfl (Or.inl rfl)) (pss_cons (ps_set (i := 2) nd rfl (Or.inr rfl) (pc c__law_bag hr (by decide) (by rfl) (pa_cons (pv 0) (pa_cons (pv 1) pa_nil)))) (pss_cons (ps_asg (pe_tup (pa_cons (pc c__law_frame hr (by decide) (by rfl) (pa_cons (pv 2) pa_nil)) (pa_cons (pe_op op_add pe_int (pc c__law_draw hr (by decide) (by rfl) (pa_cons (pv 2) (pa_cons pe_int pa_nil)))) (pa_cons (pc c__law_one_of hr (by decide) (by rfl) (pa_cons (pv 2) (pa_cons (pe_lst (pa_cons pe_int (pa_cons pe_int (pa_cons pe_int (pa_cons (pe_op op_powX pe_int pe_int) pa_nil))))) pa_nil))) pa_nil)))) (pg_tup (n := 3) (by rfl) (pgs_cons (pg_name (i := 3) nd rfl (Or.inl rfl)) (pgs_cons (pg_name (i := 4) nd rfl (Or.inl rfl)) (pgs_cons (pg_name (i := 5) nd rfl (Or.inr rfl)) pgs_nil))))) (pss_cons (ps_asg (pe_lc (own := [("_law_turn", 12)]) (g := gName 12) (by rfl) nd (pi_range1 (by rfl) g.f_range (pa_cons pe_int pa_nil)) (blkOk_by (N := ["_law_script", "_law_at", "_law_bag_here", "_law_frame_here", "_law_over", "_law_reach", "_law_a", "_law_b", "_law_c", "_law_d", "_law_e", "_law_f", "_law_turn"]) (sc := defScope s_law) (own := [("_law_turn", 12)]) (by decide +kernel)) (fun _ _ _ _ _ => (pg_name (i := 12) nd rfl (Or.inl rfl))) (fun _ _ _ _ _ => pts_nil) (fun _ _ _ _ _ => (pe_op op_sub (pc c__law_draw hr (by decide) (by rfl) (pa_cons (pv 2) (pa_cons (pe_op op_add (pe_op op_mul pe_int (pv 5)) pe_int) pa_nil))) (pv 5)))) (pg_lst (n := 6) (by rfl) (pgs_cons (pg_name (i := 6) nd rfl (Or.inl rfl)) (pgs_cons (pg_name (i := 7) nd rfl (Or.inl rfl)) (pgs_cons (pg_name (i := 8) nd rfl (Or.inl rfl)) (pgs_cons (pg_name (i := 9) nd rfl (Or.inl rfl)) (pgs_cons (pg_name (i := 10) nd rfl (Or.inl rfl)) (pgs_cons (pg_name (i := 11) nd rfl (Or.inl rfl)) pgs_nil)))))))) (pss_cons (ps_if (pt_cmpR op_eq (pc c__law_draw hr (by decide) (by rfl) (pa_cons (pv 2) (pa_cons pe_int pa_nil))) pe_int (nomark _)) (pss_one (ps_par (i := 10) (j := 11) (by rfl) nd rfl rfl (by decide) rfl rfl (pa_cons (pe_op op_add (pv 6) (pe_op op_mul pe_int (pe_op op_sub (pv 8) (pv 6)))) (pa_cons (pe_op op_add (pv 7) (pe_op op_mul pe_int (pe_op op_sub (pv 9) (pv 7)))) pa_nil)) (by rfl))) pss_nil) (pss_cons (ps_if (pt_not (pt_val (pc c__law_turns_right hr (by decide) (by rfl) (pa_cons (pv 3) (pa_cons (pe_lst (pa_cons (pe_tup (pa_cons (pv 6) (pa_cons (pv 7) pa_nil))) (pa_cons (pe_tup (pa_cons (pv 8) (pa_cons (pv 9) pa_nil))) (pa_cons (pe_tup (pa_cons (pv 10) (pa_cons (pv 11) pa_nil))) pa_nil)))) (pa_cons (pv 4) pa_nil)))))) (pss_one (ps_ret pe_bl)) pss_nil) (pss_cons (ps_if (PW.pt (pw_or (pt_not (pt_val (pc c__law_between_right hr (by decide) (by rfl) (pa_cons (pv 3) (pa_cons (pv 6) (pa_cons (pv 7) (pa_cons (pv 8) (pa_cons (pv 9) (pa_cons (pv 4) pa_nil))))))))) (pw_or1 (pt_not (pt_val (pc c__law_between_right hr (by decide) (by rfl) (pa_cons (pv 3) (pa_cons (pv 6) (pa_cons (pv 7) (pa_cons (pv 6) (pa_cons (pv 11) (pa_cons (pv 4) pa_nil)))))))))))) (pss_one (ps_ret pe_bl)) pss_nil) (pss_cons (ps_if (PW.pt (pw_or (pt_not (pt_val (pc c__law_squares_right hr (by decide) (by rfl) (pa_cons (pv 3) (pa_cons (pv 6) (pa_cons (pv 7) (pa_cons (pv 8) (pa_cons (pv 9) (pa_cons (pv 4) pa_nil))))))))) (pw_or1 (pt_not (pt_val (pc c__law_lines_right hr (by decide) (by rfl) (pa_cons (pv 3) (pa_cons (pv 6) (pa_cons (pv 7) (pa_cons (pv 8) (pa_cons (pv 9) (pa_cons (pv 4) pa_nil)))))))))))) (pss_one (ps_ret pe_bl)) pss_nil) (pss_one (ps_if (pt_not (pt_val (pc c__law_points_right hr (by decide) (by rfl) (pa_cons (pv 2) pa_nil)))) (pss_one (ps_ret pe_bl)) pss_nil)))))))))) (pss_one (ps_ret pe_bl))), ?_⟩
  obtain ⟨a, ns, rfl, hS, q⟩ := h
  wtm_at "go0"
  refine i_forRU ?_
  wtm_at "go"
  refine i_forRK ⟨by (repeat' split) <;> omega, by (repeat' split) <;> omega⟩ (fun i σ' H' => (i : Int) ≤ 4 ∧ ∃ o1 o2 o3 o4 o5 o6 o7 o8 o9 o10 o11 o12 : Option V, σ' = [some (.ref a), o1, o2, o3, o4, o5, o6, o7, o8, o9, o10, o11, o12] ∧ SqL K H' a (ns.map V.int)) ⟨by decide, _, _, _, _, _, _, _, _, _, _, _, _, rfl, hS⟩ ?_ ?_
  rotate_left
  · intro σ' H' hp
    obtain ⟨hi, o1, o2, o3, o4, o5, o6, o7, o8, o9, o10, o11, o12, rfl, hS'⟩ := hp
    dsimp only
    wtm_at "go"
    exact q _
  intro i σ' H' hlt hp
  obtain ⟨hi, o1, o2, o3, o4, o5, o6, o7, o8, o9, o10, o11, o12, rfl, hS'⟩ := hp
  have hlt4 : (i : Int) < 4 := by
    revert hlt
    (repeat' split) <;> omega
  clear hlt hS
  wtm_at "nrm"
  wtm_at "gob"
  rename_i bb bH bn be bg f1 f2 f3 f4 f5 f6 f7 fv fH fo fe fb fd n1 nH n10 n11 en1 bn1 _ _ _ _ _ _
  wtm_at "oneof"
  intro d0 v H2 hd0 e2 b2 hv
  obtain ⟨m, rfl, hm1, hm2⟩ : ∃ m : Int, v = .int m ∧ 1 ≤ m ∧ m ≤ 1000000000 := by
    simp only [List.mem_cons, List.not_mem_nil, or_false] at hd0
    rcases hd0 with rfl | rfl | rfl | rfl <;> exact ⟨_, dpInt hv, by decide, by decide⟩
  have sm : Sz 9000 (2 * m + 1) := sz_mono (show Sz 60 (2 * m + 1) by unfold Sz; omega) (by decide)
  have so3 : Sz 3 (1 + n1) := by unfold Sz; omega
  have so4 : Sz 4 (1 + n1) := by unfold Sz; omega
  have so0 : 0 < 1 + n1 := by omega
  wtm_at "gob"
  refine i_lcRU ?_
  wtm_at "gob"
  refine i_lcRB (b := bb) (P := fun m => Sz 31 m) (n := 6) ?_ (by decide) (fun x => rfl) ?_ ?_
  · wtm_at "bag"
  · intro i2 H5 R e5 b5 r
    wtm_at "nrm"
    wtm_at "gob"
    rename_i n2 H6 n20 n21 en2 bn2
    exact r _ _ (by unfold Sz; omega) (by wtm_at "ex") bn2
  intro p ms H5 hl hP e5 b5 hp
  obtain ⟨a1, b1, c1, d1, g1, h1, rfl⟩ := len6 hl
  have sa : Sz 31 a1 := hP _ (by simp)
  have sb : Sz 31 b1 := hP _ (by simp)
  have sc : Sz 31 c1 := hP _ (by simp)
  have sd : Sz 31 d1 := hP _ (by simp)
  have se : Sz 31 g1 := hP _ (by simp)
  have sf : Sz 31 h1 := hP _ (by simp)
  have s1 : Sz 34 (a1 + 2 * (c1 - a1)) := by unfold Sz at *; omega
  have s2 : Sz 34 (b1 + 2 * (d1 - b1)) := by unfold Sz at *; omega
  have hdp : Dp K (hid bb H5) (.ref p) (.list [.int a1, .int b1, .int c1, .int d1, .int g1, .int h1]) := .lst (Evl.sq_of hp) (by dsimp only [List.map]; wtm_at "dpa")
  clear hP hl hp
  wtm_at "gob"
  · refine' ⟨by omega, _, _, _, _, _, _, _, _, _, _, _, _, rfl, Evl.ex_l (ex_unhid bn be ?eone) hS'⟩
    wtm_at "ex"
  · refine' ⟨by omega, _, _, _, _, _, _, _, _, _, _, _, _, rfl, Evl.ex_l (ex_unhid bn be ?etwo) hS'⟩
    wtm_at "ex"
end
end Wb

namespace Wb
open PySem PySem.Spec PyProof.Rows L2
theorem cl_up {P : Program} {w : World} {K : PySem.W.Frag} {mg : Str → Option Value} {base : Heap} {j k : Nat} {x : Str} {sp : Sp} (c : Cl P w K mg base j x sp) (h : j ≤ k) : Cl P w K mg base k x sp := by
  obtain ⟨f, fd, ps, F, a, b, d⟩ := c.ex
  exact ⟨⟨f, fd, ps, F.mono h, a, b, d⟩⟩
theorem facts {P : Program} {w : World} {K : PySem.W.Frag} {h : Heap} {mg : Str → Option Value} {f : Addr} (X : K.In h) (G0 : h.Ns mainGlobals mg) (hfa : mg ("law" : Str) = some (.ref f)) (cx : He.SaysX fa fn [] [] exB w h K) :
    ∃ fd : FuncData, (∀ (s : Shared) (v : Value), BindsTo s fd ⟨[v], []⟩ [("_law_script", v)]) ∧ ∀ base : Heap, K.In base → base.Ns mainGlobals mg → FnOk P w K mg base CX0 9 f fd ["_law_script"] (sp_law K) := by
  have c : He.SaysD fa fn K := cx.t.d
  obtain ⟨d__law_bag, F__law_bag⟩ := c.def_ 0 (d := mkD "_law_bag" 31 []) rfl
  obtain ⟨d__law_draw, F__law_draw⟩ := c.def_ 1 (d := mkD "_law_draw" 32 []) rfl
  obtain ⟨d__law_one_of, F__law_one_of⟩ := c.def_ 2 (d := mkD "_law_one_of" 33 []) rfl
  obtain ⟨d__law_frame, F__law_frame⟩ := c.def_ 3 (d := mkD "_law_frame" 36 []) rfl
  obtain ⟨d__law_sign, F__law_sign⟩ := c.def_ 4 (d := mkD "_law_sign" 39 []) rfl
  obtain ⟨d__law_sense, F__law_sense⟩ := c.def_ 5 (d := mkD "_law_sense" 38 []) rfl
  obtain ⟨d__law_shared, F__law_shared⟩ := c.def_ 6 (d := mkD "_law_shared" 34 []) rfl
  obtain ⟨d__law_point, F__law_point⟩ := c.def_ 7 (d := mkD "_law_point" 35 []) rfl
  obtain ⟨d__law_spot, F__law_spot⟩ := c.def_ 8 (d := mkD "_law_spot" 37 []) rfl
  obtain ⟨d_shared_of, F_shared_of⟩ := c.def_ 9 (d := mkD "shared_of" 8 []) rfl
  obtain ⟨d_is_integer, F_is_integer⟩ := c.def_ 10 (d := mkD "is_integer" 7 []) rfl
  obtain ⟨d_is_point, F_is_point⟩ := c.def_ 11 (d := mkD "is_point" 12 []) rfl
  obtain ⟨d_require_point, F_require_point⟩ := c.def_ 12 (d := mkD "require_point" 14 []) rfl
  obtain ⟨d_require_points, F_require_points⟩ := c.def_ 13 (d := mkD "require_points" 15 []) rfl
  obtain ⟨d_turn_in, F_turn_in⟩ := c.def_ 14 (d := mkD "turn_in" 17 []) rfl
  obtain ⟨d_turn_of, F_turn_of⟩ := c.def_ 15 (d := mkD "turn_of" 25 []) rfl
  obtain ⟨d__law_turns_right, F__law_turns_right⟩ := c.def_ 16 (d := mkD "_law_turns_right" 40 []) rfl
  obtain ⟨d_require_integer, F_require_integer⟩ := c.def_ 17 (d := mkD "require_integer" 9 []) rfl
  obtain ⟨d_reduced_point, F_reduced_point⟩ := c.def_ 18 (d := mkD "reduced_point" 16 []) rfl
  obtain ⟨d_point_of, F_point_of⟩ := c.def_ 19 (d := mkD "point_of" 24 [.int 1]) rfl
  obtain ⟨d_is_side, F_is_side⟩ := c.def_ 20 (d := mkD "is_side" 13 []) rfl
  obtain ⟨d__law_points_right, F__law_points_right⟩ := c.def_ 21 (d := mkD "_law_points_right" 45 []) rfl
  obtain ⟨d_middle_in, F_middle_in⟩ := c.def_ 22 (d := mkD "middle_in" 22 []) rfl
  obtain ⟨d_middle_of, F_middle_of⟩ := c.def_ 23 (d := mkD "middle_of" 28 []) rfl
  obtain ⟨d_step_from, F_step_from⟩ := c.def_ 24 (d := mkD "step_from" 18 []) rfl
  obtain ⟨d_is_between_in, F_is_between_in⟩ := c.def_ 25 (d := mkD "is_between_in" 19 []) rfl
  obtain ⟨d_is_between, F_is_between⟩ := c.def_ 26 (d := mkD "is_between" 26 []) rfl
  obtain ⟨d__law_between_right, F__law_between_right⟩ := c.def_ 27 (d := mkD "_law_between_right" 41 []) rfl
  obtain ⟨d_reduced, F_reduced⟩ := c.def_ 28 (d := mkD "reduced" 10 []) rfl
  obtain ⟨d_square_in, F_square_in⟩ := c.def_ 29 (d := mkD "square_in" 23 []) rfl
  obtain ⟨d_square_between, F_square_between⟩ := c.def_ 30 (d := mkD "square_between" 29 []) rfl
  obtain ⟨d__law_squares_right, F__law_squares_right⟩ := c.def_ 31 (d := mkD "_law_squares_right" 42 []) rfl
  obtain ⟨d_line_through, F_line_through⟩ := c.def_ 32 (d := mkD "line_through" 20 []) rfl
  obtain ⟨d_line_meet_in, F_line_meet_in⟩ := c.def_ 33 (d := mkD "line_meet_in" 21 []) rfl
  obtain ⟨d_line_meet, F_line_meet⟩ := c.def_ 34 (d := mkD "line_meet" 27 []) rfl
  obtain ⟨d__law_is_refused, F__law_is_refused⟩ := c.def_ 35 (d := mkD "_law_is_refused" 44 []) rfl
  obtain ⟨d__law_lines_right, F__law_lines_right⟩ := c.def_ 36 (d := mkD "_law_lines_right" 43 []) rfl
  obtain ⟨d_law, F_law⟩ := c.def_ 37 (d := mkD "law" 46 []) rfl
  have m__law_bag := He.glo_ok X G0 (c.fact 0 (f := .glo "_law_bag") rfl)
  have m__law_draw := He.glo_ok X G0 (c.fact 1 (f := .glo "_law_draw") rfl)
  have m__law_one_of := He.glo_ok X G0 (c.fact 2 (f := .glo "_law_one_of") rfl)
  have m__law_frame := He.glo_ok X G0 (c.fact 3 (f := .glo "_law_frame") rfl)
  have m__law_sign := He.glo_ok X G0 (c.fact 4 (f := .glo "_law_sign") rfl)
  have m__law_sense := He.glo_ok X G0 (c.fact 5 (f := .glo "_law_sense") rfl)
  have m__law_shared := He.glo_ok X G0 (c.fact 6 (f := .glo "_law_shared") rfl)
  have m__law_point := He.glo_ok X G0 (c.fact 7 (f := .glo "_law_point") rfl)
  have m__law_spot := He.glo_ok X G0 (c.fact 8 (f := .glo "_law_spot") rfl)
  have m_shared_of := He.glo_ok X G0 (c.fact 9 (f := .glo "shared_of") rfl)
  have m_is_integer := He.glo_ok X G0 (c.fact 10 (f := .glo "is_integer") rfl)
  have m_is_point := He.glo_ok X G0 (c.fact 11 (f := .glo "is_point") rfl)
  have m_require_point := He.glo_ok X G0 (c.fact 12 (f := .glo "require_point") rfl)
  have m_require_points := He.glo_ok X G0 (c.fact 13 (f := .glo "require_points") rfl)
  have m_turn_in := He.glo_ok X G0 (c.fact 14 (f := .glo "turn_in") rfl)
  have m_turn_of := He.glo_ok X G0 (c.fact 15 (f := .glo "turn_of") rfl)
  have m__law_turns_right := He.glo_ok X G0 (c.fact 16 (f := .glo "_law_turns_right") rfl)
  have m_require_integer := He.glo_ok X G0 (c.fact 17 (f := .glo "require_integer") rfl)
  have m_reduced_point := He.glo_ok X G0 (c.fact 18 (f := .glo "reduced_point") rfl)
  have m_point_of := He.glo_ok X G0 (c.fact 19 (f := .glo "point_of") rfl)
  have m_is_side := He.glo_ok X G0 (c.fact 20 (f := .glo "is_side") rfl)
  have m__law_points_right := He.glo_ok X G0 (c.fact 21 (f := .glo "_law_points_right") rfl)
  have m_middle_in := He.glo_ok X G0 (c.fact 22 (f := .glo "middle_in") rfl)
  have m_middle_of := He.glo_ok X G0 (c.fact 23 (f := .glo "middle_of") rfl)
  have m_step_from := He.glo_ok X G0 (c.fact 24 (f := .glo "step_from") rfl)
  have m_is_between_in := He.glo_ok X G0 (c.fact 25 (f := .glo "is_between_in") rfl)
  have m_is_between := He.glo_ok X G0 (c.fact 26 (f := .glo "is_between") rfl)
  have m__law_between_right := He.glo_ok X G0 (c.fact 27 (f := .glo "_law_between_right") rfl)
  have m_reduced := He.glo_ok X G0 (c.fact 28 (f := .glo "reduced") rfl)
  have m_square_in := He.glo_ok X G0 (c.fact 29 (f := .glo "square_in") rfl)
  have m_square_between := He.glo_ok X G0 (c.fact 30 (f := .glo "square_between") rfl)
  have m__law_squares_right := He.glo_ok X G0 (c.fact 31 (f := .glo "_law_squares_right") rfl)
  have m_line_through := He.glo_ok X G0 (c.fact 32 (f := .glo "line_through") rfl)
  have m_line_meet_in := He.glo_ok X G0 (c.fact 33 (f := .glo "line_meet_in") rfl)
  have m_line_meet := He.glo_ok X G0 (c.fact 34 (f := .glo "line_meet") rfl)
  have m__law_is_refused := He.glo_ok X G0 (c.fact 35 (f := .glo "_law_is_refused") rfl)
  have m__law_lines_right := He.glo_ok X G0 (c.fact 36 (f := .glo "_law_lines_right") rfl)
  have m_law := He.glo_ok X G0 (c.fact 37 (f := .glo "law") rfl)
  have m_InvalidOperation := He.glo_ok X G0 (c.fact 38 (f := .glo "InvalidOperation") rfl)
  have g : G mg := ⟨He.free_ok X G0 (c.fact 39 (f := .free "len") rfl), He.free_ok X G0 (c.fact 40 (f := .free "abs") rfl), He.free_ok X G0 (c.fact 41 (f := .free "int") rfl), He.free_ok X G0 (c.fact 42 (f := .free "bool") rfl), He.free_ok X G0 (c.fact 43 (f := .free "tuple") rfl), He.free_ok X G0 (c.fact 44 (f := .free "list") rfl), He.free_ok X G0 (c.fact 45 (f := .free "isinstance") rfl), He.free_ok X G0 (c.fact 46 (f := .free "all") rfl), He.free_ok X G0 (c.fact 47 (f := .free "max") rfl), He.free_ok X G0 (c.fact 48 (f := .free "min") rfl), He.free_ok X G0 (c.fact 49 (f := .free "sum") rfl), He.free_ok X G0 (c.fact 50 (f := .free "range") rfl), He.free_ok X G0 (c.fact 51 (f := .free "repr") rfl), PySem.W.mg_of X G0 (He.eqO_ok cx.more)⟩
  obtain ⟨x1, x2, x3, x4⟩ := He.exc_ok (c.fact 52 (f := .exc "InvalidOperation") rfl)
  have e_InvalidOperation : Exc1 K mg "InvalidOperation" _ := ⟨m_InvalidOperation, x1, x2, x3, x4, He.exm_ok (c.fact 53 (f := .exm "InvalidOperation" "InvalidOperation" true) rfl)⟩
  cases hfa.symm.trans m_law
  have b := FunD.bindsA (ps := ["_law_script"]) F_law fun _ _ _ _ _ _ us hl => match us, hl with | [_], _ => rfl
  refine ⟨d_law, fun s v => b s [v] rfl, fun base _ _ => ?_⟩
  have c__law_bag : Cl P w K mg base 1 "_law_bag" (sp__law_bag K) := ⟨⟨_, _, _, ok__law_bag F__law_bag g , m__law_bag, F__law_bag.kp, F__law_bag.bindsN fun _ _ _ _ _ _ us hl => match us, hl with | [_, _], _ => rfl⟩⟩
  have c__law_draw : Cl P w K mg base 1 "_law_draw" (sp__law_draw K) := ⟨⟨_, _, _, ok__law_draw F__law_draw g , m__law_draw, F__law_draw.kp, F__law_draw.bindsN fun _ _ _ _ _ _ us hl => match us, hl with | [_, _], _ => rfl⟩⟩
  have c__law_one_of : Cl P w K mg base 2 "_law_one_of" (sp__law_one_of K) := ⟨⟨_, _, _, ok__law_one_of F__law_one_of g c__law_draw, m__law_one_of, F__law_one_of.kp, F__law_one_of.bindsN fun _ _ _ _ _ _ us hl => match us, hl with | [_, _], _ => rfl⟩⟩
  have c__law_frame : Cl P w K mg base 3 "_law_frame" (sp__law_frame K) := ⟨⟨_, _, _, ok__law_frame F__law_frame g c__law_one_of c__law_draw, m__law_frame, F__law_frame.kp, F__law_frame.bindsN fun _ _ _ _ _ _ us hl => match us, hl with | [_], _ => rfl⟩⟩
  have c__law_sign : Cl P w K mg base 1 "_law_sign" (sp__law_sign K) := ⟨⟨_, _, _, ok__law_sign F__law_sign g , m__law_sign, F__law_sign.kp, F__law_sign.bindsN fun _ _ _ _ _ _ us hl => match us, hl with | [_], _ => rfl⟩⟩
  have c__law_sense : Cl P w K mg base 1 "_law_sense" (sp__law_sense K) := ⟨⟨_, _, _, ok__law_sense F__law_sense g , m__law_sense, F__law_sense.kp, F__law_sense.bindsN fun _ _ _ _ _ _ us hl => match us, hl with | [_], _ => rfl⟩⟩
  have c__law_shared : Cl P w K mg base 1 "_law_shared" (sp__law_shared K) := ⟨⟨_, _, _, ok__law_shared F__law_shared g , m__law_shared, F__law_shared.kp, F__law_shared.bindsN fun _ _ _ _ _ _ us hl => match us, hl with | [_, _], _ => rfl⟩⟩
  have c__law_point : Cl P w K mg base 2 "_law_point" (sp__law_point K) := ⟨⟨_, _, _, ok__law_point F__law_point g c__law_shared, m__law_point, F__law_point.kp, F__law_point.bindsN fun _ _ _ _ _ _ us hl => match us, hl with | [_, _, _], _ => rfl⟩⟩
  have c__law_spot : Cl P w K mg base 3 "_law_spot" (sp__law_spot K) := ⟨⟨_, _, _, ok__law_spot F__law_spot g c__law_point, m__law_spot, F__law_spot.kp, F__law_spot.bindsN fun _ _ _ _ _ _ us hl => match us, hl with | [_, _, _, _], _ => rfl⟩⟩
  have c_shared_of : Cl P w K mg base 1 "shared_of" (sp_shared_of K) := ⟨⟨_, _, _, ok_shared_of F_shared_of g , m_shared_of, F_shared_of.kp, F_shared_of.bindsN fun _ _ _ _ _ _ us hl => match us, hl with | [_, _], _ => rfl⟩⟩
  have c_is_integer : Cl P w K mg base 1 "is_integer" (sp_is_integer K) := ⟨⟨_, _, _, ok_is_integer F_is_integer g , m_is_integer, F_is_integer.kp, F_is_integer.bindsN fun _ _ _ _ _ _ us hl => match us, hl with | [_], _ => rfl⟩⟩
  have c_is_point : Cl P w K mg base 2 "is_point" (sp_is_point K) := ⟨⟨_, _, _, ok_is_point F_is_point g c_shared_of c_is_integer, m_is_point, F_is_point.kp, F_is_point.bindsN fun _ _ _ _ _ _ us hl => match us, hl with | [_], _ => rfl⟩⟩
  have c_require_point : Cl P w K mg base 3 "require_point" (sp_require_point K) := ⟨⟨_, _, _, ok_require_point F_require_point g c_is_point, m_require_point, F_require_point.kp, F_require_point.bindsN fun _ _ _ _ _ _ us hl => match us, hl with | [_], _ => rfl⟩⟩
  have c_require_points : ClR P w K mg base 5 "require_points" (sp_require_points K) := ⟨⟨_, ok_require_points F_require_points g (cl_up c_require_point (by decide)), m_require_points, F_require_points.kp⟩⟩
  have c_turn_in : Cl P w K mg base 1 "turn_in" (sp_turn_in K) := ⟨⟨_, _, _, ok_turn_in F_turn_in g , m_turn_in, F_turn_in.kp, F_turn_in.bindsN fun _ _ _ _ _ _ us hl => match us, hl with | [_, _, _], _ => rfl⟩⟩
  have c_turn_of : Cl P w K mg base 6 "turn_of" (sp_turn_of K) := ⟨⟨_, _, _, ok_turn_of F_turn_of g c_require_points c_turn_in, m_turn_of, F_turn_of.kp, F_turn_of.bindsN fun _ _ _ _ _ _ us hl => match us, hl with | [_, _, _], _ => rfl⟩⟩
  have c__law_turns_right : Cl P w K mg base 7 "_law_turns_right" (sp__law_turns_right K) := ⟨⟨_, _, _, ok__law_turns_right F__law_turns_right g c__law_sign c__law_sense c__law_spot c_turn_of, m__law_turns_right, F__law_turns_right.kp, F__law_turns_right.bindsN fun _ _ _ _ _ _ us hl => match us, hl with | [_, _, _], _ => rfl⟩⟩
  have c_require_integer : Cl P w K mg base 2 "require_integer" (sp_require_integer K) := ⟨⟨_, _, _, ok_require_integer F_require_integer g c_is_integer, m_require_integer, F_require_integer.kp, F_require_integer.bindsN fun _ _ _ _ _ _ us hl => match us, hl with | [_], _ => rfl⟩⟩
  have c_reduced_point : Cl P w K mg base 1 "reduced_point" (sp_reduced_point K) := ⟨⟨_, _, _, ok_reduced_point F_reduced_point g , m_reduced_point, F_reduced_point.kp, F_reduced_point.bindsN fun _ _ _ _ _ _ us hl => match us, hl with | [_, _, _], _ => rfl⟩⟩
  have k_point_of := ok_point_of F_point_of g c_require_integer c_is_integer c_reduced_point
  obtain ⟨ds3, hv3, hb3⟩ := FunD.binds1 (ps := ["x", "y", "w"]) F_point_of 3 1 (List.cons_ne_nil _ _) rfl (fun _ _ _ _ _ _ _ us its hl hi => match us, its, hl, hi with | [_, _, _], [_], _, _ => ⟨_, rfl, rfl⟩)
  obtain ⟨ds2, hv2, hb2⟩ := FunD.binds1 (ps := ["x", "y", "w"]) F_point_of 2 0 (List.cons_ne_nil _ _) rfl (fun _ _ _ _ _ _ _ us its hl hi => match us, its, hl, hi with | [_, _], [_], _, _ => ⟨_, rfl, rfl⟩)
  cases hv3
  have c_point_of : Cl P w K mg base 3 "point_of" (sp_point_of K) := ⟨⟨_, _, _, k_point_of, m_point_of, F_point_of.kp, hb3⟩⟩
  have c2_point_of : ClD P w K mg base 3 "point_of" (sp_point_of K) [.int 1] := ⟨⟨_, _, _, k_point_of, m_point_of, F_point_of.kp, ds2, hv2, hb2⟩⟩
  have c_is_side : Cl P w K mg base 3 "is_side" (sp_is_side K) := ⟨⟨_, _, _, ok_is_side F_is_side g c_is_point, m_is_side, F_is_side.kp, F_is_side.bindsN fun _ _ _ _ _ _ us hl => match us, hl with | [_], _ => rfl⟩⟩
  have c__law_points_right : Cl P w K mg base 4 "_law_points_right" (sp__law_points_right K) := ⟨⟨_, _, _, ok__law_points_right F__law_points_right g c__law_point c_point_of c__law_draw c_is_point c_is_side c__law_one_of c2_point_of, m__law_points_right, F__law_points_right.kp, F__law_points_right.bindsN fun _ _ _ _ _ _ us hl => match us, hl with | [_], _ => rfl⟩⟩
  have c_middle_in : Cl P w K mg base 2 "middle_in" (sp_middle_in K) := ⟨⟨_, _, _, ok_middle_in F_middle_in g c_reduced_point, m_middle_in, F_middle_in.kp, F_middle_in.bindsN fun _ _ _ _ _ _ us hl => match us, hl with | [_, _], _ => rfl⟩⟩
  have c_middle_of : Cl P w K mg base 6 "middle_of" (sp_middle_of K) := ⟨⟨_, _, _, ok_middle_of F_middle_of g c_require_points c_middle_in, m_middle_of, F_middle_of.kp, F_middle_of.bindsN fun _ _ _ _ _ _ us hl => match us, hl with | [_, _], _ => rfl⟩⟩
  have c_step_from : Cl P w K mg base 1 "step_from" (sp_step_from K) := ⟨⟨_, _, _, ok_step_from F_step_from g , m_step_from, F_step_from.kp, F_step_from.bindsN fun _ _ _ _ _ _ us hl => match us, hl with | [_, _], _ => rfl⟩⟩
  have c_is_between_in : Cl P w K mg base 2 "is_between_in" (sp_is_between_in K) := ⟨⟨_, _, _, ok_is_between_in F_is_between_in g c_step_from c_turn_in, m_is_between_in, F_is_between_in.kp, F_is_between_in.bindsN fun _ _ _ _ _ _ us hl => match us, hl with | [_, _, _], _ => rfl⟩⟩
  have c_is_between : Cl P w K mg base 6 "is_between" (sp_is_between K) := ⟨⟨_, _, _, ok_is_between F_is_between g c_require_points c_is_between_in, m_is_between, F_is_between.kp, F_is_between.bindsN fun _ _ _ _ _ _ us hl => match us, hl with | [_, _, _], _ => rfl⟩⟩
  have c__law_between_right : Cl P w K mg base 7 "_law_between_right" (sp__law_between_right K) := ⟨⟨_, _, _, ok__law_between_right F__law_between_right g c_middle_of c__law_spot c_is_between, m__law_between_right, F__law_between_right.kp, F__law_between_right.bindsN fun _ _ _ _ _ _ us hl => match us, hl with | [_, _, _, _, _, _], _ => rfl⟩⟩
  have c_reduced : Cl P w K mg base 1 "reduced" (sp_reduced K) := ⟨⟨_, _, _, ok_reduced F_reduced g , m_reduced, F_reduced.kp, F_reduced.bindsN fun _ _ _ _ _ _ us hl => match us, hl with | [_, _], _ => rfl⟩⟩
  have c_square_in : Cl P w K mg base 2 "square_in" (sp_square_in K) := ⟨⟨_, _, _, ok_square_in F_square_in g c_step_from c_reduced, m_square_in, F_square_in.kp, F_square_in.bindsN fun _ _ _ _ _ _ us hl => match us, hl with | [_, _], _ => rfl⟩⟩
  have c_square_between : Cl P w K mg base 6 "square_between" (sp_square_between K) := ⟨⟨_, _, _, ok_square_between F_square_between g c_require_points c_square_in, m_square_between, F_square_between.kp, F_square_between.bindsN fun _ _ _ _ _ _ us hl => match us, hl with | [_, _], _ => rfl⟩⟩
  have c__law_squares_right : Cl P w K mg base 7 "_law_squares_right" (sp__law_squares_right K) := ⟨⟨_, _, _, ok__law_squares_right F__law_squares_right g c__law_shared c__law_spot c_square_between, m__law_squares_right, F__law_squares_right.kp, F__law_squares_right.bindsN fun _ _ _ _ _ _ us hl => match us, hl with | [_, _, _, _, _, _], _ => rfl⟩⟩
  have c_line_through : Cl P w K mg base 1 "line_through" (sp_line_through K) := ⟨⟨_, _, _, ok_line_through F_line_through g , m_line_through, F_line_through.kp, F_line_through.bindsN fun _ _ _ _ _ _ us hl => match us, hl with | [_, _], _ => rfl⟩⟩
  have c_line_meet_in : Cl P w K mg base 2 "line_meet_in" (sp_line_meet_in K) := ⟨⟨_, _, _, ok_line_meet_in F_line_meet_in g c_line_through c_reduced_point, m_line_meet_in, F_line_meet_in.kp, F_line_meet_in.bindsN fun _ _ _ _ _ _ us hl => match us, hl with | [_, _, _, _], _ => rfl⟩⟩
  have c_line_meet : Cl P w K mg base 6 "line_meet" (sp_line_meet K) := ⟨⟨_, _, _, ok_line_meet F_line_meet g c_require_points c_line_meet_in, m_line_meet, F_line_meet.kp, F_line_meet.bindsN fun _ _ _ _ _ _ us hl => match us, hl with | [_, _, _, _], _ => rfl⟩⟩
  have cX : ClX P w K mg base 6 "line_meet" (sp_line_meetX K _) := ⟨⟨_, _, _, ok_line_meetX F_line_meet g e_InvalidOperation c_require_points c_line_meet_in, m_line_meet, F_line_meet.kp, F_line_meet.bindsN fun _ _ _ _ _ _ us hl => match us, hl with | [_, _, _, _], _ => rfl⟩⟩
  have c__law_is_refused : Cl P w K mg base 7 "_law_is_refused" (sp__law_is_refused K) := ⟨⟨_, _, _, ok__law_is_refused F__law_is_refused e_InvalidOperation cX, m__law_is_refused, F__law_is_refused.kp, F__law_is_refused.bindsN fun _ _ _ _ _ _ us hl => match us, hl with | [_, _, _, _], _ => rfl⟩⟩
  have c__law_lines_right : Cl P w K mg base 8 "_law_lines_right" (sp__law_lines_right K) := ⟨⟨_, _, _, ok__law_lines_right F__law_lines_right g c__law_spot c__law_is_refused c_line_meet, m__law_lines_right, F__law_lines_right.kp, F__law_lines_right.bindsN fun _ _ _ _ _ _ us hl => match us, hl with | [_, _, _, _, _, _], _ => rfl⟩⟩
  exact ok_law F_law g c__law_bag c__law_frame c__law_one_of c__law_draw c__law_turns_right c__law_points_right c__law_between_right c__law_squares_right c__law_lines_right
end Wb
open PySem PySem.W PySem.Calls PyProof.Rows
theorem PySem.Challenge.cw_wherebase_k02_whole_turns_and_lines_holds : PySem.Challenge.rw_wherebase_k02_whole_turns_and_lines.Holds := by
  w_on; o_law
  refine HandSHeadRun.head_imp (r := OpenLaw.row PySem.Challenge.rw_wherebase_k02_whole_turns_and_lines) (q := view (OpenLaw.row PySem.Challenge.rw_wherebase_k02_whole_turns_and_lines).prog [0, 46]) (H := Wb.hk) (ob := Wb.ob) (M := 4000) (loose := Wb.loose) (d := HandSHeadRun.topDef (OpenLaw.row PySem.Challenge.rw_wherebase_k02_whole_turns_and_lines).prog 46) (kwd := []) Wb.ob_eq
    Wb.run (by kernel_rfl) (by kernel_rfl) (by kernel_rfl) (by rfl) (by first | assumption | decide +kernel) (by decide +kernel) ⟨rfl, rfl, rfl, rfl, rfl, by decide +kernel⟩ ?hw ?hc
  case hw => w_witness2
  case hc =>
    refine L2.walk_ofE (l := PySem.Challenge.rw_wherebase_k02_whole_turns_and_lines) (n := 63) (k := 9) (x := "_law_script") (CX := L2.CX0) rfl (by decide) (by kernel_rfl) ⟨rfl, by decide, by decide⟩ ?F (fun _ _ _ _ z => z)
    intro w mg fa h Y G hmg0
    obtain ⟨K, KX, c⟩ := Y
    have hmg : mg ("law" : PySem.Str) = some (.ref fa) := by
      have e : (HandSHeadRun.topDef (OpenLaw.row PySem.Challenge.rw_wherebase_k02_whole_turns_and_lines).prog 46).name = ("law" : PySem.Str) := by kernel_rfl
      rw [← e]
      exact hmg0
    obtain ⟨fd, hb, hF⟩ := Wb.facts (P := (PySem.Challenge.rw_wherebase_k02_whole_turns_and_lines).prog) (w := w) KX G hmg c
    exact ⟨K, fd, Wb.sp_law K, KX, hb, fun H a ns hl _ hS => ⟨.ref a, rfl, a, ns, rfl, hS, fun _ => rfl⟩, hF⟩

