import PyProof.Rows.All
import Wide.All
import OpenK.AllK
import Wide.FinOn
import Lean
import HandS.ForMost
import HandS.Defaults
import HandS.Head0
import HandS.Head1
import HandS.Head2
import HandS.Head3
import HandS.HeadEnd
import HandS.HeadHook1
import HandS.HeadHook2
import HandS.HeadHook3
import HandS.HeadHook4
import PySem.Challenge.RW_wherebase_k03_whole_pieces_and_rounds
import KE.KStateDown
import HandS.Exc
import HandS.ExcOwn
import HandS.TryOnly
import HandS.WordsExc
import HandS.Star
import HandS.IsInst
import HandS.Gcd
import HandS.WideBits
import HandS.Wide
import HandS.Style
import HandS.TupLe
import HandS.TupAny
import HandS.Conv
import HandS.Flow
import HandS.Evl
import HandS.TupSets
import HandS.Deep
import KE.DataMinMax
import HandS.TryMany
set_option Elab.async false
set_option linter.all false
set_option maxRecDepth 100000
set_option maxHeartbeats 4000000
namespace Wb
open PySem PySem.Spec PyProof.Rows L2
def top (i : Nat) : Stmt := PySem.Challenge.pw_wherebase_k03_whole_pieces_and_rounds.main.body.getD i (.Pass ⟨0, 0, 0, 0⟩)
def mkD (x : Str) (i : Nat) (dv : List He.Dv) : He.DefD := ⟨(x, none), x, x, defArgs (top i), defBody (top i), defScope (top i), dv, []⟩
def fn : List He.DefD := [mkD "_law_bag" 31 [], mkD "_law_draw" 32 [], mkD "_law_one_of" 33 [], mkD "_law_frame" 37 [], mkD "shared_of" 7 [], mkD "is_integer" 6 [], mkD "is_point" 9 [], mkD "require_point" 10 [], mkD "require_points" 11 [], mkD "turn_in" 13 [], mkD "x_less" 18 [], mkD "y_less" 19 [], mkD "is_lower" 20 [], mkD "common_on_line" 21 [], mkD "line_through" 16 [], mkD "reduced_point" 12 [], mkD "line_meet_in" 17 [], mkD "step_from" 14 [], mkD "is_between_in" 15 [], mkD "pieces_meet_in" 22 [], mkD "pieces_meet" 28 [], mkD "_law_meets_right" 41 [], mkD "_law_shared" 35 [], mkD "_law_point" 36 [], mkD "_law_spot" 38 [], mkD "_law_cross_right" 42 [], mkD "_law_line_right" 43 [], mkD "_law_directions" 44 [], mkD "_law_shuffled" 34 [], mkD "half_of" 23 [], mkD "is_ahead_round" 24 [], mkD "is_nearer" 25 [], mkD "is_first_round" 26 [], mkD "round_list" 27 [], mkD "sorted_round" 29 [], mkD "_law_refusal" 46 [], mkD "_law_round_right" 45 [], mkD "_law_span" 40 [], mkD "law" 47 []]
def fa0 : List He.Fa := [.glo "_law_bag", .glo "_law_draw", .glo "_law_one_of", .glo "_law_frame", .glo "shared_of", .glo "is_integer", .glo "is_point", .glo "require_point", .glo "require_points", .glo "turn_in", .glo "x_less", .glo "y_less", .glo "is_lower", .glo "common_on_line", .glo "line_through", .glo "reduced_point", .glo "line_meet_in", .glo "step_from", .glo "is_between_in", .glo "pieces_meet_in", .glo "pieces_meet", .glo "_law_meets_right", .glo "_law_shared", .glo "_law_point", .glo "_law_spot"]
def fa1 : List He.Fa := [.glo "_law_cross_right", .glo "_law_line_right", .glo "_law_directions", .glo "_law_shuffled", .glo "half_of", .glo "is_ahead_round", .glo "is_nearer", .glo "is_first_round", .glo "round_list", .glo "sorted_round", .glo "_law_refusal", .glo "_law_round_right", .glo "_law_span", .glo "law", .glo "InvalidPoint", .glo "InvalidOperation", .free "len", .free "abs", .free "int", .free "bool", .free "tuple", .free "list", .free "isinstance", .free "all", .free "max"]
def fa2 : List He.Fa := [.free "min", .free "sum", .free "range", .free "set", .free "sorted", .exc "InvalidPoint", .exc "InvalidOperation", .exm "InvalidPoint" "InvalidPoint" true, .exm "InvalidOperation" "InvalidOperation" true, .exm "InvalidPoint" "InvalidOperation" false]
def fa : List He.Fa := fa0 ++ fa1 ++ fa2
def lo0 : List PySem.Str := ["WhereError", "InvalidPoint", "InvalidOperation", "is_integer", "shared_of", "is_point", "require_point", "require_points", "reduced_point", "turn_in", "step_from", "is_between_in", "line_through", "line_meet_in", "x_less", "y_less", "is_lower", "common_on_line", "pieces_meet_in", "half_of", "is_ahead_round", "is_nearer", "is_first_round", "round_list", "pieces_meet"]
def lo1 : List PySem.Str := ["sorted_round", "_law_bag", "_law_draw", "_law_one_of", "_law_shuffled", "_law_shared", "_law_point", "_law_frame", "_law_spot", "_law_sense", "_law_span", "_law_meets_right", "_law_cross_right", "_law_line_right", "_law_directions", "_law_round_right", "_law_refusal"]
def loose : List PySem.Str := lo0 ++ lo1
def exB (K : PySem.W.Frag) : Bool := He.eqO (PySem.W.nsIn K mainGlobals "gcd") (some (some (.builtin "math.gcd")))
abbrev R : PySem.W.OpenRow := PySem.W.OpenLaw.row PySem.Challenge.rw_wherebase_k03_whole_pieces_and_rounds
abbrev hk : PySem.W.Hook := He.hookX 5 fa fn [] [] exB
def ob (s : PySem.W.SharedT) : He.AlX := He.obsX 5 fa fn [] [] exB (HandSHeadRun.getT s)
theorem ob_eq (s : PySem.W.SharedT) : ob s = hk.obs s.abs := He.obsX_eq (HandSHeadRun.getT_eq s)
theorem run (w : World) : HandSHeadRun.RunEqI R (PySem.W.view R.prog [0, 47]) hk ob 4000 loose w := by
  unfold HandSHeadRun.RunEqI
  kernel_rfl
end Wb

namespace Wb
open PySem PySem.Spec PyProof.Rows L2
open Evl (Ex Ex.refl Ex.trans Ex.new)

/-! ### heaps and data -/
theorem ex_upd {H : Hp} {p : Addr} {o : HO} (h : H p = none) : Ex H (upd H p o) := Evl.Ex.new h
mutual
theorem dpMono {K : PySem.W.Frag} {H H' : Hp} (e : Ex H H') : ∀ {d : PyData} {v : V}, Dp K H v d → Dp K H' v d
  | .none, _, h => by cases h; exact .non
  | .bool _, _, h => by cases h; exact .bl _
  | .int _, _, h => by cases h; exact .int _
  | .str _, _, h => by cases h; exact .str _
  | .list ds, _, h => by
    cases h with
    | lst hs ha => exact .lst (Evl.ex_l e hs) (dpMonoA e ha)
  | .tuple ds, _, h => by
    cases h with
    | tup hs ha => exact .tup (Evl.ex_t e hs) (dpMonoA e ha)
  | .dict _, _, h => by cases h
theorem dpMonoA {K : PySem.W.Frag} {H H' : Hp} (e : Ex H H') : ∀ {ds : List PyData} {vs : List V}, DpAll K H vs ds → DpAll K H' vs ds
  | [], _, h => by cases h; exact .nil
  | d :: ds, _, h => by
    cases h with
    | cons h1 h2 => exact .cons (dpMono e h1) (dpMonoA e h2)
end
section
variable {K : PySem.W.Frag} {H H' : Hp} {v : V} {vs : List V} {d : PyData} {ds : List PyData}
theorem dpInt {i : Int} (h : Dp K H v (.int i)) : v = .int i := by cases h; rfl
theorem dpBl {b : Bool} (h : Dp K H v (.bool b)) : v = .bl b := by cases h; rfl
theorem dpStr {s : Str} (h : Dp K H v (.str s)) : v = .str s := by cases h; rfl
theorem dpNon (h : Dp K H v .none) : v = .non := by cases h; rfl
theorem dpTup (h : Dp K H v (.tuple ds)) : ∃ a vs, v = .ref a ∧ SqT K H a vs ∧ DpAll K H vs ds := by
  cases h with
  | tup hs ha => exact ⟨_, _, rfl, hs, ha⟩
theorem dpLst (h : Dp K H v (.list ds)) : ∃ a vs, v = .ref a ∧ SqL K H a vs ∧ DpAll K H vs ds := by
  cases h with
  | lst hs ha => exact ⟨_, _, rfl, hs, ha⟩
theorem dpLen : ∀ {ds : List PyData} {vs : List V}, DpAll K H vs ds → vs.length = ds.length
  | [], _, h => by cases h; rfl
  | d :: ds, _, h => by
    cases h with
    | cons h1 h2 => rw [List.length_cons, List.length_cons, dpLen h2]
theorem dpGet : ∀ {ds : List PyData} {vs : List V} {i : Nat} {d : PyData}, DpAll K H vs ds → ds[i]? = some d → ∃ v, vs[i]? = some v ∧ Dp K H v d
  | [], _, _, _, _, e => by simp at e
  | d :: ds, _, 0, _, h, e => by
    cases h with
    | cons h1 h2 =>
      have e2 : d = _ := Option.some.inj e
      subst e2
      exact ⟨_, rfl, h1⟩
  | d :: ds, _, i + 1, _, h, e => by
    cases h with
    | cons h1 h2 =>
      obtain ⟨v, q1, q2⟩ := dpGet (i := i) h2 (by simpa using e)
      exact ⟨v, by simpa using q1, q2⟩
theorem dpAt {i : Int} {d : PyData} (h : DpAll K H vs ds) (e : atI ds i = some d) : ∃ v, atI vs i = some v ∧ Dp K H v d := by
  unfold atI at e ⊢
  rw [dpLen h]
  cases q : ixN ds.length i with
  | none =>
    rw [q] at e
    cases e
  | some j =>
    rw [q] at e
    exact dpGet h e
def tyD : PyData → String
  | .none => "NoneType"
  | .bool _ => "bool"
  | .int _ => "int"
  | .str _ => "str"
  | .list _ => "list"
  | .tuple _ => "tuple"
  | .dict _ => "dict"
theorem dpTy (h : Dp K H v d) : TyX K H v (.type (tyD d)) := by
  cases h with
  | non => exact .base .non
  | bl b => exact .base (.bl b)
  | int i => exact .base (.int i)
  | str x => exact .base (.str x)
  | lst hs ha =>
    rcases hs with (h1 | ⟨o, h1⟩) | ⟨o, its, n, lk, hc, _⟩
    · exact .base (.lst h1)
    · exact .base (.frz h1)
    · exact .kList lk hc
  | tup hs ha =>
    rcases hs with (h1 | ⟨o, h1⟩) | ⟨o, its, n, lk, hc, _⟩
    · exact .base (.tup h1)
    · exact .fTuple h1
    · exact .kTuple lk hc
end
/-! ### sizes of ints -/
def Sz (n : Nat) (i : Int) : Prop := i.natAbs < 2 ^ n
theorem sz_mul {a b : Nat} {i j : Int} (ha : Sz a i) (hb : Sz b j) : Sz (a + b) (i * j) := by
  unfold Sz at *
  rw [Int.natAbs_mul, Nat.pow_add]
  exact Nat.mul_lt_mul'' ha hb
theorem sz_mono {a b : Nat} {i : Int} (h : Sz a i) (hab : a ≤ b) : Sz b i := Nat.lt_of_lt_of_le h (Nat.pow_le_pow_right (by decide) hab)
theorem sz_add {a b : Nat} {i j : Int} (ha : Sz a i) (hb : Sz b j) : Sz (a + b + 1) (i + j) := by
  have h1 := sz_mono ha (Nat.le_add_right a b)
  have h2 := sz_mono hb (Nat.le_add_left b a)
  unfold Sz at *
  rw [Nat.pow_succ]
  have := Int.natAbs_add_le i j
  omega
theorem sz_neg {a : Nat} {i : Int} (ha : Sz a i) : Sz a (-i) := by
  unfold Sz at *
  rw [Int.natAbs_neg]
  exact ha
theorem sz_sub {a b : Nat} {i j : Int} (ha : Sz a i) (hb : Sz b j) : Sz (a + b + 1) (i - j) := by
  rw [Int.sub_eq_add_neg]
  exact sz_add ha (sz_neg hb)
theorem sz_le {a : Nat} {i j : Int} (ha : Sz a j) (h : i.natAbs ≤ j.natAbs) : Sz a i := Nat.lt_of_le_of_lt h ha
theorem sz_div {a : Nat} {i j : Int} (ha : Sz a i) : Sz a (i / j) := sz_le ha (Int.natAbs_ediv_le_natAbs i j)
theorem fdiv_abs (i j : Int) : (i.fdiv j).natAbs ≤ i.natAbs := by
  rcases Int.lt_trichotomy j 0 with h | h | h
  · have e : i.fdiv j = (-i) / (-j) := by
      rw [← Int.fdiv_eq_ediv_of_nonneg (-i) (by omega), Int.neg_fdiv_neg]
    rw [e, ← Int.natAbs_neg i]
    exact Int.natAbs_ediv_le_natAbs _ _
  · subst h
    rw [Int.fdiv_zero]
    omega
  · rw [Int.fdiv_eq_ediv_of_nonneg i (by omega)]
    exact Int.natAbs_ediv_le_natAbs _ _
theorem sz_fdiv {a : Nat} {i j : Int} (ha : Sz a i) : Sz a (i.fdiv j) := sz_le ha (fdiv_abs i j)
theorem mulx {a b : Nat} {i j : Int} (ha : Sz a i) (hb : Sz b j) (h : a + b ≤ 134217728) : CMulX i j := mulx_ok ha hb h

theorem sz_lit {i : Int} (h : i.natAbs < 18446744073709551616) : Sz 64 i := h
theorem ex_at {H H' : Hp} {a : Addr} {o : HO} (e : Ex H H') (h : H a = some o) : H' a = some o := e a o h
def gd (a b : Int) : Int := ((Nat.gcd a.natAbs b.natAbs : Nat) : Int)
/-! ### own operators -/
section
variable {X : Cx}
def CPowX (i j : Int) : Prop := 0 ≤ j ∧ (Builtin.Int.intBits i : Int) * j ≤ 2 ^ 27
theorem op_powX : OpR X (binaryOp .Pow) (rI CPowX fun i j => .int (i ^ j.toNat)) := opI fun _ _ _ _ _ _ _ hc q => pow_int hc.1 hc.2 q
def CDivX (_ j : Int) : Prop := j ≠ 0 ∧ j.natAbs.log2 < 9000
theorem op_fdivX : OpR X (binaryOp .FloorDiv) (rI CDivX fun i j => .int (i.fdiv j)) := opI fun i j _ _ _ _ _ hc q =>
  floordiv_int hc.1 q (.inl (PyProof.noPylong_of_log2 hc.2))
/-- a def that may be called by its name -/
structure Cl (P : Program) (w : World) (K : PySem.W.Frag) (mg : Str → Option Value) (base : Heap) (k : Nat) (x : Str) (sp : Sp) : Prop where
  ex : ∃ (f : Addr) (fd : FuncData) (ps : List Str), FnOk P w K mg base CX0 k f fd ps sp ∧ mg x = some (.ref f) ∧ PySem.W.keepIn K (.ref f) = true ∧ Binds K fd ps []
def tCl (sp : Sp) (t : TA) : TE := fun σ H Q => t σ H fun vs H1 => sp vs H1 Q E0
theorem pc {k j : Nat} {x : Str} {sp : Sp} {p pos : Pos} {e : Expr} {es : List Expr} {t : TA} (c : Cl X.prog X.w X.K X.mg X.base k x sp) (hr : Room j X.A) (hk : k ≤ j) (hg : Gl X x) (ha : PA X (e :: es) t)
    (hdb : (x == ("__debug__" : Str)) = false := by decide) (he : starEach (e :: es) X.env = (false, eval e X.env) :: starEach es X.env := by rfl) (hpl : (backTo pos (starEach es X.env)).any (·.1) = false := by rfl) :
    PE X (.Call (.Name x p) (e :: es) [] pos) (tCl sp t) := by
  obtain ⟨f, fd, ps, F, hm, kp, b⟩ := c.ex
  have h := pe_call (p := p) F (hr.mono hk) hg hm kp b (.nil : Vals [] []) pass0 ha hdb he hpl
  have e1 : tCall sp [] E0 t = tCl sp t := by
    funext σ H Q
    show (t σ H fun vs H1 => sp (vs ++ []) H1 Q E0) = t σ H fun vs H1 => sp vs H1 Q E0
    congr 1
    funext vs H1
    rw [List.append_nil]
  rw [← e1]
  exact h
end
/-- a def with a star parameter -/
structure ClR (P : Program) (w : World) (K : PySem.W.Frag) (mg : Str → Option Value) (base : Heap) (k : Nat) (x : Str) (sp : Sp) : Prop where
  ex : ∃ (f : Addr), FnR P w K mg base CX0 k f sp ∧ mg x = some (.ref f) ∧ PySem.W.keepIn K (.ref f) = true
section
variable {X : Cx}
theorem pcR {k j : Nat} {x : Str} {sp : Sp} {p pos : Pos} {e : Expr} {es : List Expr} {t : TA} (c : ClR X.prog X.w X.K X.mg X.base k x sp) (hr : Room j X.A) (hk : k ≤ j) (hg : Gl X x) (ha : PA X (e :: es) t)
    (hdb : (x == ("__debug__" : Str)) = false := by decide) (he : starEach (e :: es) X.env = (false, eval e X.env) :: starEach es X.env := by rfl) (hpl : (backTo pos (starEach es X.env)).any (·.1) = false := by rfl) :
    PE X (.Call (.Name x p) (e :: es) [] pos) (tCl sp t) := by
  obtain ⟨f, F, hm, kp⟩ := c.ex
  refine ⟨fun pins s σ H Q I h => ?_⟩
  refine wpAny_Call_Name_kw (ld_glob I hg hm ?_ hdb)
  refine PySem.W.callWith_K (h₀ := X.base) I.ok.mod.kin kp (thn (ha.run pos pins s σ H _ I h) fun us s1 ⟨vs, H1, I1, r, q⟩ => ⟨I1.kIn, ?_⟩) he hpl
  exact wpAny_call (run_fnR F (hr.mono hk) pass0 I1 r q)
end
theorem FnR.weak {P : Program} {w : World} {K : PySem.W.Frag} {mg : Str → Option Value} {base : Heap} {CX : CXT} {k : Nat} {f : Addr} {sp sp' : Sp} (F : FnR P w K mg base CX k f sp) (h : ∀ vs H Q E, sp' vs H Q E → sp vs H Q E) : FnR P w K mg base CX k f sp' :=
  fun A outer s H us vs Q E hr e0 r hs => F A outer s H us vs Q E hr e0 r (h vs H Q E hs)
/-! ### built-ins by names of their own -/
def qLen (K : PySem.W.Frag) : List V → Hp → VK → Prop := fun xs H Q => ∃ p ys, xs = [.ref p] ∧ (SqL K H p ys ∨ SqT K H p ys) ∧ Q (.int (ys.length : Int)) H
def qAbs : List V → Hp → VK → Prop := fun xs H Q => ∃ i, xs = [.int i] ∧ Q (.int (if i < 0 then -i else i)) H
def qMax2 : List V → Hp → VK → Prop := fun xs H Q => ∃ i j, xs = [.int i, .int j] ∧ Q (.int (if j > i then j else i)) H
def qMin2 : List V → Hp → VK → Prop := fun xs H Q => ∃ i j, xs = [.int i, .int j] ∧ Q (.int (if j < i then j else i)) H
def qInt1 : List V → Hp → VK → Prop := fun xs H Q => (∃ i, xs = [.int i] ∧ Q (.int i) H) ∨ ∃ k, xs = [.bl k] ∧ Q (.int (if k then 1 else 0)) H
def qListOf (K : PySem.W.Frag) : List V → Hp → VK → Prop := fun xs H Q => ∃ p ys, xs = [.ref p] ∧ (SqL K H p ys ∨ SqT K H p ys) ∧ ∀ l, H l = none → Q (.ref l) (upd H l (.lst ys))
def qTupleOf (K : PySem.W.Frag) : List V → Hp → VK → Prop := fun xs H Q => ∃ p ys, xs = [.ref p] ∧ ((SqL K H p ys ∧ ∀ l, H l = none → Q (.ref l) (upd H l (.tup ys))) ∨ (SqT K H p ys ∧ Q (.ref p) H))
def qIsN : R2 := fun x y H Q => y = .non ∧ Q (.bl (decide (x = .non))) H
def qNotN : R2 := fun x y H Q => y = .non ∧ Q (.bl (!decide (x = .non))) H
section
variable {X : Cx}
theorem call_qlen : CallR X (.builtin "len") (qLen X.K) := call_len_seq
theorem call_qabs : CallR X (.builtin "abs") qAbs := call_abs
theorem call_qmax2 (hc : X.calm = true) : CallR X (.builtin "max") qMax2 := call_max2 hc
theorem call_qmin2 (hc : X.calm = true) : CallR X (.builtin "min") qMin2 := call_min2 hc
theorem call_qint1 : CallR X (.type "int") qInt1 := call_int1
theorem call_qlist : CallR X (.type "list") (qListOf X.K) := call_list_of
theorem call_qtuple : CallR X (.type "tuple") (qTupleOf X.K) := call_tuple_of
theorem op_qisN : OpR X (compareOp .Is) qIsN := op_isN
theorem op_qnotN : OpR X (compareOp .IsNot) qNotN := op_notN
end
def MkT (xs : List V) (H : Hp) (Q : VK) : Prop := xs.length ≤ sizeLine ∧ ∀ p, H p = none → Q (.ref p) (upd H p (.tup xs))
def MkL (xs : List V) (H : Hp) (Q : VK) : Prop := xs.length ≤ sizeLine ∧ ∀ p, H p = none → Q (.ref p) (upd H p (.lst xs))
/-! ### readings, step by step -/
section
variable {K : PySem.W.Frag} {σ : L2.St} {H H' : Hp} {Q : VK} {D : Ends} {ta tb te : TE} {t u : TS} {c c' : TT} {v w : V} {i j : Int} {n m : Nat}
theorem i_seq (h : t { D with nx := u D } σ H) : tSeq t u D σ H := h
theorem i_asg {g : TG} (h : te σ H fun x H1 => g x σ H1 D.nx) : tAsg te g D σ H := h
theorem i_name {R : L2.St → Hp → Prop} (h : R (σ.set n (some v)) H) : gName n v σ H R := h
theorem i_nameN {σ' : L2.St} {R : L2.St → Hp → Prop} (e : σ.set n (some v) = σ') (h : R σ' H) : gName n v σ H R := by subst e; exact h
theorem i_ret (h : te σ H D.rt) : tRet te D σ H := h
theorem i_ifs (h : c σ H fun b H1 => if b = true then t D σ H1 else u D σ H1) : tIfS c t u D σ H := h
theorem i_drop (h : te σ H fun _ H1 => D.nx σ H1) : tDrop te D σ H := h
theorem i_next (h : D.nx σ H) : tNext D σ H := h
theorem i_var (h : σ[n]? = some (some v)) (q : Q v H) : tVar n σ H Q := ⟨v, h, q⟩
theorem i_c (q : Q v H) : tC v σ H Q := q
theorem i_op {r : R2} (q : ta σ H fun x H1 => tb σ H1 fun y H2 => r x y H2 Q) : tOp r ta tb σ H Q := q
theorem i_un {r : V → Hp → VK → Prop} (q : ta σ H fun x H1 => r x H1 Q) : tUn r ta σ H Q := q
theorem i_I0 {g : Int → Int → V} (q : Q (g i j) H) : rI0 g (.int i) (.int j) H Q := ⟨i, j, rfl, rfl, q⟩
theorem i_I {C : Int → Int → Prop} {g : Int → Int → V} (hc : C i j) (q : Q (g i j) H) : rI C g (.int i) (.int j) H Q := ⟨i, j, rfl, rfl, hc, q⟩
theorem i_mul {a b : Nat} (ha : Sz a i) (hb : Sz b j) (h : a + b ≤ 134217728) (q : Q (.int (i * j)) H) : rI CMulX (fun i j => .int (i * j)) (.int i) (.int j) H Q := ⟨i, j, rfl, rfl, mulx ha hb h, q⟩
theorem i_modN (h : j ≠ 0) (q : Q (.int (i.fmod j)) H) : rI (fun _ j => j ≠ 0) (fun i j => .int (i.fmod j)) (.int i) (.int j) H Q := ⟨i, j, rfl, rfl, h, q⟩
theorem i_fdX {b : Nat} (h : j ≠ 0) (hb : Sz b j) (h9 : b ≤ 9000) (q : Q (.int (i.fdiv j)) H) : rI CDivX (fun i j => .int (i.fdiv j)) (.int i) (.int j) H Q := by
  refine ⟨i, j, rfl, rfl, ⟨h, ?_⟩, q⟩
  have h2 : j.natAbs < 2 ^ (b + 1) := Nat.lt_of_lt_of_le hb (Nat.pow_le_pow_right (by decide) (Nat.le_succ b))
  have h3 : j.natAbs < 2 ^ 9000 := Nat.lt_of_lt_of_le hb (Nat.pow_le_pow_right (by decide) h9)
  exact PySem.Flt.log2_lt_of (by decide) h3
theorem i_pow (h : CPowX i j) (q : Q (.int (i ^ j.toNat)) H) : rI CPowX (fun i j => .int (i ^ j.toNat)) (.int i) (.int j) H Q := ⟨i, j, rfl, rfl, h, q⟩
theorem i_U {g : Int → V} (q : Q (g i) H) : rU g (.int i) H Q := ⟨i, rfl, q⟩
theorem i_test {R : Bool → Hp → Prop} (q : te σ H fun x H' => ∃ k, x = .bl k ∧ R k H') : tTest te σ H R := q
theorem i_B {R : Bool → Hp → Prop} (q : te σ H fun x H' => ∃ k, x = .bl k ∧ R k H') : tB te σ H R := q
theorem i_k {b : Bool} {R : Bool → Prop} (q : R b) : ∃ k, V.bl b = .bl k ∧ R k := ⟨b, rfl, q⟩
theorem i_and {R : Bool → Hp → Prop} (q : c σ H fun b H1 => if b = true then c' σ H1 R else R false H1) : tAnd c c' σ H R := q
theorem i_or {R : Bool → Hp → Prop} (q : c σ H fun b H1 => if b = true then R true H1 else c' σ H1 R) : tOr c c' σ H R := q
theorem i_not {R : Bool → Hp → Prop} (q : c σ H fun b H1 => R (!b) H1) : tNot c σ H R := q
theorem i_andV (q : ta σ H fun x H1 => ∃ k, x = .bl k ∧ if k = true then tb σ H1 Q else Q (.bl false) H1) : tAndV ta tb σ H Q := q
theorem i_orV (q : ta σ H fun x H1 => ∃ k, x = .bl k ∧ if k = true then Q (.bl true) H1 else tb σ H1 Q) : tOrV ta tb σ H Q := q
theorem i_notV (q : ta σ H fun x H1 => ∃ k, x = .bl k ∧ Q (.bl (!k)) H1) : tNotV ta σ H Q := q
theorem i_if (q : c σ H fun b H1 => if b = true then ta σ H1 Q else tb σ H1 Q) : tIf c ta tb σ H Q := q
theorem i_ite {p : Prop} [Decidable p] {A B : Prop} (h1 : p → A) (h2 : ¬ p → B) : if decide p = true then A else B := by
  by_cases h : p
  · rw [if_pos (decide_eq_true h)]
    exact h1 h
  · rw [if_neg (by rw [decide_eq_false h]; decide)]
    exact h2 h
theorem i_iteN {p : Prop} [Decidable p] {A B : Prop} (h1 : ¬ p → A) (h2 : p → B) : if (!decide p) = true then A else B := by
  by_cases h : p
  · rw [decide_eq_true h]
    exact h2 h
  · rw [decide_eq_false h]
    exact h1 h
theorem i_iteB {b : Bool} {A B : Prop} (h1 : b = true → A) (h2 : b = false → B) : if b = true then A else B := by
  cases b with
  | true => exact h1 rfl
  | false => exact h2 rfl
theorem i_iteBN {b : Bool} {A B : Prop} (h1 : b = false → A) (h2 : b = true → B) : if (!b) = true then A else B := by
  cases b with
  | true => exact h2 rfl
  | false => exact h1 rfl
theorem i_iteT {A B : Prop} (h : A) : if true = true then A else B := h
theorem i_iteF {A B : Prop} (h : B) : if false = true then A else B := h
theorem i_cl {sp : Sp} {ts : TA} (q : ts σ H fun vs H1 => sp vs H1 Q E0) : tCl sp ts σ H Q := q
theorem i_nil {R : List V → Hp → Prop} (q : R [] H) : tNil σ H R := q
theorem i_cons {ts : TA} {R : List V → Hp → Prop} (q : ta σ H fun x H1 => ts σ H1 fun xs H2 => R (x :: xs) H2) : tCons ta ts σ H R := q
theorem i_cb {r : List V → Hp → VK → Prop} {ts : TA} (q : ts σ H fun vs H1 => r vs H1 Q) : tCB r ts σ H Q := q
theorem i_tup {ts : TA} (q : ts σ H fun xs H1 => MkT xs H1 Q) : tTup ts σ H Q := q
theorem i_lst {ts : TA} (q : ts σ H fun xs H1 => MkL xs H1 Q) : tLst ts σ H Q := q
theorem i_mkT {xs : List V} (hl : xs.length ≤ 100000) (q : ∀ p H2, Ex H H2 → H2 p = some (.tup xs) → Q (.ref p) H2) : MkT xs H Q :=
  ⟨Evl.sz_of hl, fun p hp => q p _ (ex_upd hp) upd_same⟩
theorem i_mkL {xs : List V} (hl : xs.length ≤ 100000) (q : ∀ p H2, H p = none → Ex H H2 → H2 p = some (.lst xs) → Q (.ref p) H2) : MkL xs H Q :=
  ⟨Evl.sz_of hl, fun p hp => q p _ hp (ex_upd hp) upd_same⟩
theorem i_ixTI {H0 : Hp} {ds : List PyData} {k : Int} (h : Dp K H0 v (.tuple ds)) (he : Ex H0 H) (e : atI ds k = some (.int i)) (q : Q (.int i) H) : rIxT K v (.int k) H Q := by
  obtain ⟨a, vs, rfl, hs, ha⟩ := dpTup (dpMono he h)
  obtain ⟨u, e1, e2⟩ := dpAt ha e
  cases dpInt e2
  exact ⟨a, vs, k, _, rfl, rfl, hs, e1, q⟩
theorem i_ixT {H0 : Hp} {ds : List PyData} {k : Int} {d : PyData} (h : Dp K H0 v (.tuple ds)) (he : Ex H0 H) (e : atI ds k = some d) (q : ∀ u, Dp K H0 u d → Q u H) : rIxT K v (.int k) H Q := by
  obtain ⟨a, vs, rfl, hs, ha⟩ := dpTup h
  obtain ⟨u, e1, e2⟩ := dpAt ha e
  exact ⟨a, vs, k, _, rfl, rfl, Evl.ex_t he hs, e1, q u e2⟩
theorem i_ixLI {H0 : Hp} {ds : List PyData} {k : Int} (h : Dp K H0 v (.list ds)) (he : Ex H0 H) (e : atI ds k = some (.int i)) (q : Q (.int i) H) : rIxL K v (.int k) H Q := by
  obtain ⟨a, vs, rfl, hs, ha⟩ := dpLst (dpMono he h)
  obtain ⟨u, e1, e2⟩ := dpAt ha e
  cases dpInt e2
  exact ⟨a, vs, k, _, rfl, rfl, hs, e1, q⟩
theorem i_ixL {H0 : Hp} {ds : List PyData} {k : Int} {d : PyData} (h : Dp K H0 v (.list ds)) (he : Ex H0 H) (e : atI ds k = some d) (q : ∀ u, Dp K H0 u d → Q u H) : rIxL K v (.int k) H Q := by
  obtain ⟨a, vs, rfl, hs, ha⟩ := dpLst h
  obtain ⟨u, e1, e2⟩ := dpAt ha e
  exact ⟨a, vs, k, _, rfl, rfl, Evl.ex_l he hs, e1, q u e2⟩
theorem i_isi {d : PyData} {T : String} {b : Bool} (h : Dp K H v d) (e : kitB (tyD d) T = some b) (q : Q (.bl b) H) : rIsi K [v, .ty T] H Q :=
  ⟨v, .ty T, _, _, b, rfl, .ty T, dpTy h, kit_ty e, q⟩
@[reducible] def dIsInt : PyData → Bool
  | .int _ => true
  | .bool _ => true
  | _ => false
@[reducible] def dIsBool : PyData → Bool
  | .bool _ => true
  | _ => false
@[reducible] def dIsTup : PyData → Bool
  | .tuple _ => true
  | _ => false
@[reducible] def dIsStr : PyData → Bool
  | .str _ => true
  | _ => false
@[reducible] def dIsLst : PyData → Bool
  | .list _ => true
  | _ => false
theorem i_isiI {d : PyData} (h : Dp K H v d) (q : Q (.bl (dIsInt d)) H) : rIsi K [v, .ty "int"] H Q := i_isi h (by cases d <;> (dsimp only [tyD, dIsInt]; decide +kernel)) q
theorem i_isiB {d : PyData} (h : Dp K H v d) (q : Q (.bl (dIsBool d)) H) : rIsi K [v, .ty "bool"] H Q := i_isi h (by cases d <;> (dsimp only [tyD, dIsBool]; decide +kernel)) q
theorem i_isiT {d : PyData} (h : Dp K H v d) (q : Q (.bl (dIsTup d)) H) : rIsi K [v, .ty "tuple"] H Q := i_isi h (by cases d <;> (dsimp only [tyD, dIsTup]; decide +kernel)) q
theorem i_isiS {d : PyData} (h : Dp K H v d) (q : Q (.bl (dIsStr d)) H) : rIsi K [v, .ty "str"] H Q := i_isi h (by cases d <;> (dsimp only [tyD, dIsStr]; decide +kernel)) q
theorem i_isiL {d : PyData} (h : Dp K H v d) (q : Q (.bl (dIsLst d)) H) : rIsi K [v, .ty "list"] H Q := i_isi h (by cases d <;> (dsimp only [tyD, dIsLst]; decide +kernel)) q
theorem i_iteTr {b : Bool} {A B : Prop} (h : b = true) (q : A) : if b = true then A else B := by subst h; exact q
theorem i_iteFr {b : Bool} {A B : Prop} (h : b = false) (q : B) : if b = true then A else B := by subst h; exact q
/-- promises by the number of arguments -/
def A1 (P : V → Hp → VK → Prop) : Sp := fun vs H Q _ => ∃ v1, vs = [v1] ∧ P v1 H Q
def A2 (P : V → V → Hp → VK → Prop) : Sp := fun vs H Q _ => ∃ v1 v2, vs = [v1, v2] ∧ P v1 v2 H Q
def A3 (P : V → V → V → Hp → VK → Prop) : Sp := fun vs H Q _ => ∃ v1 v2 v3, vs = [v1, v2, v3] ∧ P v1 v2 v3 H Q
def A4 (P : V → V → V → V → Hp → VK → Prop) : Sp := fun vs H Q _ => ∃ v1 v2 v3 v4, vs = [v1, v2, v3, v4] ∧ P v1 v2 v3 v4 H Q
def A5 (P : V → V → V → V → V → Hp → VK → Prop) : Sp := fun vs H Q _ => ∃ v1 v2 v3 v4 v5, vs = [v1, v2, v3, v4, v5] ∧ P v1 v2 v3 v4 v5 H Q
def A6 (P : V → V → V → V → V → V → Hp → VK → Prop) : Sp := fun vs H Q _ => ∃ v1 v2 v3 v4 v5 v6, vs = [v1, v2, v3, v4, v5, v6] ∧ P v1 v2 v3 v4 v5 v6 H Q
theorem A1.len {P} {vs : List V} {E : XK} (h : A1 P vs H Q E) : vs.length = 1 := by obtain ⟨_, rfl, _⟩ := h; rfl
theorem A2.len {P} {vs : List V} {E : XK} (h : A2 P vs H Q E) : vs.length = 2 := by obtain ⟨_, _, rfl, _⟩ := h; rfl
theorem A3.len {P} {vs : List V} {E : XK} (h : A3 P vs H Q E) : vs.length = 3 := by obtain ⟨_, _, _, rfl, _⟩ := h; rfl
theorem A4.len {P} {vs : List V} {E : XK} (h : A4 P vs H Q E) : vs.length = 4 := by obtain ⟨_, _, _, _, rfl, _⟩ := h; rfl
theorem A5.len {P} {vs : List V} {E : XK} (h : A5 P vs H Q E) : vs.length = 5 := by obtain ⟨_, _, _, _, _, rfl, _⟩ := h; rfl
theorem A6.len {P} {vs : List V} {E : XK} (h : A6 P vs H Q E) : vs.length = 6 := by obtain ⟨_, _, _, _, _, _, rfl, _⟩ := h; rfl
/-- what a pure def gives back -/
def Ret (K : PySem.W.Frag) (d : PyData) (H : Hp) (Q : VK) : Prop := ∀ v H2, Ex H H2 → Dp K H2 v d → Q v H2
theorem Ret.int (r : Ret K (.int i) H Q) (e : Ex H H') : Q (.int i) H' := r _ _ e (.int i)
theorem Ret.bl {b : Bool} (r : Ret K (.bool b) H Q) (e : Ex H H') : Q (.bl b) H' := r _ _ e (.bl b)
theorem Ret.non (r : Ret K .none H Q) (e : Ex H H') : Q .non H' := r _ _ e .non
theorem ret_int (q : ∀ H2, Ex H H2 → Q (.int i) H2) : Ret K (.int i) H Q := fun v H2 e h => by cases h; exact q H2 e
theorem ret_bl {b : Bool} (q : ∀ H2, Ex H H2 → Q (.bl b) H2) : Ret K (.bool b) H Q := fun v H2 e h => by cases h; exact q H2 e
theorem ret_non (q : ∀ H2, Ex H H2 → Q .non H2) : Ret K .none H Q := fun v H2 e h => by cases h; exact q H2 e
theorem Ret.use {d : PyData} (r : Ret K d H Q) (e : Ex H H') (h : Dp K H' v d) : Q v H' := r v H' e h
theorem Ret.int' {k : Int} (r : Ret K (.int k) H Q) (e : Ex H H') (h : k = i) : Q (.int i) H' := by
  subst h
  exact r.int e
theorem Ret.bl' {b k : Bool} (r : Ret K (.bool k) H Q) (e : Ex H H') (h : k = b) : Q (.bl b) H' := by
  subst h
  exact r.bl e
theorem i_eq (hs : scal v w = true) (q : Q (.bl (decide (v = w))) H) : rEq v w H Q := ⟨hs, q⟩
theorem i_ne (hs : scal v w = true) (q : Q (.bl (!decide (v = w))) H) : rNe v w H Q := ⟨hs, q⟩
theorem i_eqI (q : Q (.bl (decide (i = j))) H) : rEq (.int i) (.int j) H Q := by
  refine ⟨rfl, ?_⟩
  have e : decide (V.int i = V.int j) = decide (i = j) := by
    by_cases h : i = j
    · subst h; simp
    · rw [decide_eq_false h, decide_eq_false (fun z => h (V.int.inj z))]
  rw [e]
  exact q
theorem i_neI (q : Q (.bl (!decide (i = j))) H) : rNe (.int i) (.int j) H Q := by
  refine ⟨rfl, ?_⟩
  have e : decide (V.int i = V.int j) = decide (i = j) := by
    by_cases h : i = j
    · subst h; simp
    · rw [decide_eq_false h, decide_eq_false (fun z => h (V.int.inj z))]
  rw [e]
  exact q
theorem i_gcd (q : Q (.int (gd i j)) H) : rGcd [.int i, .int j] H Q := ⟨i, j, rfl, q⟩
theorem i_qabs (q : Q (.int (if i < 0 then -i else i)) H) : qAbs [.int i] H Q := ⟨i, rfl, q⟩
theorem i_qmax2 (q : Q (.int (if j > i then j else i)) H) : qMax2 [.int i, .int j] H Q := ⟨i, j, rfl, q⟩
theorem i_qmin2 (q : Q (.int (if j < i then j else i)) H) : qMin2 [.int i, .int j] H Q := ⟨i, j, rfl, q⟩
theorem i_qint (q : Q (.int i) H) : qInt1 [.int i] H Q := .inl ⟨i, rfl, q⟩
theorem i_qintB {b : Bool} (q : Q (.int (if b then 1 else 0)) H) : qInt1 [.bl b] H Q := .inr ⟨b, rfl, q⟩
theorem i_qlenT {ds : List PyData} (h : Dp K H v (.tuple ds)) (q : Q (.int (ds.length : Int)) H) : qLen K [v] H Q := by
  obtain ⟨a, vs, rfl, hs, ha⟩ := dpTup h
  refine ⟨a, vs, rfl, .inr hs, ?_⟩
  rw [dpLen ha]
  exact q
theorem i_qlenL {ds : List PyData} (h : Dp K H v (.list ds)) (q : Q (.int (ds.length : Int)) H) : qLen K [v] H Q := by
  obtain ⟨a, vs, rfl, hs, ha⟩ := dpLst h
  refine ⟨a, vs, rfl, .inl hs, ?_⟩
  rw [dpLen ha]
  exact q
theorem i_qtupleL {ds : List PyData} (h : Dp K H v (.list ds)) (q : ∀ p H2, Ex H H2 → (∃ vs, H2 p = some (.tup vs) ∧ DpAll K H2 vs ds) → Q (.ref p) H2) : qTupleOf K [v] H Q := by
  obtain ⟨a, vs, rfl, hs, ha⟩ := dpLst h
  exact ⟨a, vs, rfl, .inl ⟨hs, fun l hl => q l _ (ex_upd hl) ⟨vs, upd_same, dpMonoA (ex_upd hl) ha⟩⟩⟩
theorem i_qlistT {ds : List PyData} (h : Dp K H v (.tuple ds)) (q : ∀ p H2, H p = none → Ex H H2 → (∃ vs, H2 p = some (.lst vs) ∧ DpAll K H2 vs ds) → Q (.ref p) H2) : qListOf K [v] H Q := by
  obtain ⟨a, vs, rfl, hs, ha⟩ := dpTup h
  exact ⟨a, vs, rfl, .inr hs, fun l hl => q l _ hl (ex_upd hl) ⟨vs, upd_same, dpMonoA (ex_upd hl) ha⟩⟩
theorem i_qisN (q : Q (.bl (decide (v = .non))) H) : qIsN v .non H Q := ⟨rfl, q⟩
theorem i_qnotN (q : Q (.bl (!decide (v = .non))) H) : qNotN v .non H Q := ⟨rfl, q⟩
def Par2 (n m : Nat) (σ : L2.St) (R : L2.St → Hp → Prop) (vs : List V) (H : Hp) : Prop := ∃ v w, vs = [v, w] ∧ R ((σ.set n (some v)).set m (some w)) H
def Par3 (n m k : Nat) (σ : L2.St) (R : L2.St → Hp → Prop) (vs : List V) (H : Hp) : Prop := ∃ u v w, vs = [u, v, w] ∧ R (((σ.set n (some u)).set m (some v)).set k (some w)) H
theorem i_par {ts : TA} (q : ts σ H fun vs H1 => Par2 n m σ D.nx vs H1) : tPar n m ts D σ H := q
theorem i_par2 {σ' : L2.St} {R : L2.St → Hp → Prop} (e : (σ.set n (some v)).set m (some w) = σ') (q : R σ' H) : Par2 n m σ R [v, w] H := by subst e; exact ⟨v, w, rfl, q⟩
theorem i_par3 {k : Nat} {ts : TA} (q : ts σ H fun vs H1 => Par3 n m k σ D.nx vs H1) : tPar3 n m k ts D σ H := q
theorem i_par33 {σ' : L2.St} {k : Nat} {u : V} {R : L2.St → Hp → Prop} (e : ((σ.set n (some u)).set m (some v)).set k (some w) = σ') (q : R σ' H) : Par3 n m k σ R [u, v, w] H := by subst e; exact ⟨u, v, w, rfl, q⟩
theorem i_gtup {H0 : Hp} {k : Nat} {ts : TGs} {R : L2.St → Hp → Prop} {ds : List PyData} (h : Dp K H0 v (.tuple ds)) (he : Ex H0 H) (hl : ds.length = k) (q : ∀ vs, DpAll K H0 vs ds → ts vs σ H R) : gTup K k ts v σ H R := by
  obtain ⟨a, vs, rfl, hs, ha⟩ := dpTup h
  exact ⟨a, vs, rfl, Evl.ex_t he hs, (dpLen ha).trans hl, q vs ha⟩
theorem i_glst {H0 : Hp} {k : Nat} {ts : TGs} {R : L2.St → Hp → Prop} {ds : List PyData} (h : Dp K H0 v (.list ds)) (he : Ex H0 H) (hl : ds.length = k) (q : ∀ vs, DpAll K H0 vs ds → ts vs σ H R) : gLst K k ts v σ H R := by
  obtain ⟨a, vs, rfl, hs, ha⟩ := dpLst h
  exact ⟨a, vs, rfl, Evl.ex_l he hs, (dpLen ha).trans hl, q vs ha⟩
theorem i_gcons {g : TG} {ts : TGs} {vs : List V} {R : L2.St → Hp → Prop} (q : g v σ H fun σ' H' => ts vs σ' H' R) : gCons g ts (v :: vs) σ H R := ⟨v, vs, rfl, q⟩
theorem i_gnil {R : L2.St → Hp → Prop} (q : R σ H) : gNil [] σ H R := ⟨rfl, q⟩
theorem i_gconsA {H0 : Hp} {g : TG} {ts : TGs} {vs : List V} {d : PyData} {ds : List PyData} {R : L2.St → Hp → Prop} (h : DpAll K H0 vs (d :: ds)) (q : ∀ v r, Dp K H0 v d → DpAll K H0 r ds → g v σ H fun σ' H' => ts r σ' H' R) : gCons g ts vs σ H R := by
  cases h with
  | cons h1 h2 => exact ⟨_, _, rfl, q _ _ h1 h2⟩
theorem i_gconsI {H0 : Hp} {g : TG} {ts : TGs} {vs : List V} {ds : List PyData} {R : L2.St → Hp → Prop} (h : DpAll K H0 vs (.int i :: ds)) (q : ∀ r, DpAll K H0 r ds → g (.int i) σ H fun σ' H' => ts r σ' H' R) : gCons g ts vs σ H R := by
  cases h with
  | cons h1 h2 => cases dpInt h1; exact ⟨_, _, rfl, q _ h2⟩
theorem i_gnilA {H0 : Hp} {vs : List V} {R : L2.St → Hp → Prop} (h : DpAll K H0 vs []) (q : R σ H) : gNil vs σ H R := by
  cases h
  exact ⟨rfl, q⟩
theorem i_eqD {d e : PyData} (h1 : Dp K H v d) (h2 : Dp K H w e) (s1 : SeqAt.shaped d = true) (s2 : SeqAt.shaped e = true) (q : Q (.bl (PyData.eqv d e)) H) : rEqD K v w H Q := ⟨d, e, h1, h2, s1, s2, q⟩
theorem i_neD {d e : PyData} (h1 : Dp K H v d) (h2 : Dp K H w e) (s1 : SeqAt.shaped d = true) (s2 : SeqAt.shaped e = true) (q : Q (.bl (!PyData.eqv d e)) H) : rNeD K v w H Q := ⟨d, e, h1, h2, s1, s2, q⟩
theorem dpInts : ∀ {ns : List Int} {vs : List V}, DpAll K H vs (ns.map PyData.int) → vs = ns.map V.int
  | [], _, h => by cases h; rfl
  | n :: ns, _, h => by
    cases h with
    | cons h1 h2 => rw [dpInt h1, dpInts h2]; rfl
theorem i_ltT {ns ms : List Int} {ds es : List PyData} (h1 : Dp K H v (.tuple ds)) (h2 : Dp K H w (.tuple es)) (e1 : ds = ns.map PyData.int) (e2 : es = ms.map PyData.int) (q : Q (.bl (HT.lexLt ns ms)) H) : rLtT K v w H Q := by
  subst e1 e2
  obtain ⟨a, vs, rfl, hs, ha⟩ := dpTup h1
  obtain ⟨b, ws, rfl, ks, ka⟩ := dpTup h2
  rw [dpInts ha] at hs
  rw [dpInts ka] at ks
  exact ⟨a, b, ns, ms, rfl, rfl, hs, ks, q⟩
/-- a loop over a tuple whose turns only add to the heap and set the loop's name -/
theorem i_forT {tb : TS} {ds : List PyData} {j : Nat} (h : Dp K H v (.tuple ds)) (hσ : ∀ u : V, (σ.set j (some u)).set j (some u) = σ.set j (some u))
    (hs : ∀ (u : V) (d : PyData) (H2 : Hp) (y : Option V) (N : L2.St → Hp → Prop), Ex H H2 → d ∈ ds → Dp K H2 u d → (∀ H3, Ex H2 H3 → N (σ.set j (some u)) H3) → tb { D with nx := N, ct := N, bk := D.nx } (σ.set j (some u)) H2)
    (hd : ∀ (y : Option V) (H2 : Hp), Ex H H2 → D.nx (σ.set j y) H2) (h0 : σ.set j none = σ) : tFor (iTup K (tC v)) (gName j) tb D σ H := by
  obtain ⟨a, xs, rfl, hq, ha⟩ := dpTup h
  refine ⟨a, rfl, ⟨xs, hq⟩, for_tup (xs := xs) (fun i σ' H' => (∃ y, σ' = σ.set j y) ∧ Ex H H') ⟨⟨none, h0.symm⟩, Ex.refl H⟩ (fun i σ' H' _ p => Evl.ex_t p.2 hq) (fun i x σ' H' hi p => ?_) (fun σ' H' p => ?_)⟩
  · obtain ⟨⟨y, rfl⟩, e⟩ := p
    have hm : ∃ d, ds[i]? = some d ∧ Dp K H x d := by
      have hj : i < ds.length := by rw [← dpLen ha]; exact (List.getElem?_eq_some_iff.mp hi).1
      obtain ⟨u, h1, h2⟩ := dpGet ha (List.getElem?_eq_getElem hj)
      rw [hi] at h1
      cases h1
      exact ⟨_, List.getElem?_eq_getElem hj, h2⟩
    obtain ⟨d, hd1, hd2⟩ := hm
    show tb _ ((σ.set j y).set j (some x)) H'
    rw [List.set_set]
    exact hs x d H' y _ e (List.mem_of_getElem? hd1) (dpMono e hd2) fun H3 e3 => ⟨⟨some x, rfl⟩, e.trans e3⟩
  · obtain ⟨⟨y, rfl⟩, e⟩ := p
    exact hd y H' e
theorem i_forU {tb : TS} {tl : TE} {j : Nat} (q : tl σ H fun x H1 => tFor (iTup K (tC x)) (gName j) tb D σ H1) : tFor (iTup K tl) (gName j) tb D σ H := q
theorem i_forV {tb : TS} {tl : TE} {j : Nat} (q : tl σ H fun x H1 => tFor (iList K (tC x)) (gName j) tb D σ H1) : tFor (iList K tl) (gName j) tb D σ H := q
theorem i_isB {a b : Bool} (q : Q (.bl (decide (a = b))) H) : rIsB (.bl a) (.bl b) H Q := ⟨a, b, rfl, rfl, q⟩
theorem i_notB {a b : Bool} (q : Q (.bl (!decide (a = b))) H) : rNotB (.bl a) (.bl b) H Q := ⟨a, b, rfl, rfl, q⟩
theorem i_chain {r r' : R2} {tc : TE} (q : ta σ H fun x H1 => tb σ H1 fun y H2 => r x y H2 fun z H3 => ∃ k, z = .bl k ∧ (if k = true then tc σ H3 fun w' H4 => r' y w' H4 Q else Q (.bl false) H3)) : tChain r r' ta tb tc σ H Q := q
theorem i_tw (W : Nat → L2.St → Hp → Prop) (m0 : Nat) (h0 : W m0 σ H) {tb : TS}
    (hs : ∀ m σ' H', W m σ' H' → c σ' H' fun b H1 => if b = true then ∃ N : L2.St → Hp → Prop, (∀ σ2 H2, N σ2 H2 → ∃ m', m' < m ∧ W m' σ2 H2) ∧ tb { D with nx := N, ct := N, bk := D.nx } σ' H1 else D.nx σ' H1) : tWhile c tb D σ H := ⟨W, ⟨m0, h0⟩, hs⟩
theorem ret_any {d : PyData} (q : ∀ v H2, Ex H H2 → Dp K H2 v d → Q v H2) : Ret K d H Q := q
end

/-! ### comprehensions over pure data -/
mutual
/-- no list within -/
def noL : PyData → Bool
  | .list _ => false
  | .dict _ => false
  | .tuple ds => noLs ds
  | _ => true
def noLs : List PyData → Bool
  | [] => true
  | d :: ds => noL d && noLs ds
end
section
variable {K : PySem.W.Frag} {H : Hp} {D : Addr} {xs ys : List V}
theorem sqt_upd {a : Addr} {zs : List V} (hD : H D = some (.lst xs)) (h : SqT K H a zs) : SqT K (upd H D (.lst ys)) a zs := by
  rcases h with (h | ⟨o, h⟩) | h
  · exact .inl (.inl (by rw [upd_ne (ne_of h hD (by intro z; cases z))]; exact h))
  · exact .inl (.inr ⟨o, by rw [upd_ne (ne_of h hD (by intro z; cases z))]; exact h⟩)
  · exact .inr h
mutual
theorem dpUpd (hD : H D = some (.lst xs)) : ∀ {d : PyData} {v : V}, noL d = true → Dp K H v d → Dp K (upd H D (.lst ys)) v d
  | .none, _, _, h => by cases h; exact .non
  | .bool _, _, _, h => by cases h; exact .bl _
  | .int _, _, _, h => by cases h; exact .int _
  | .str _, _, _, h => by cases h; exact .str _
  | .list ds, _, n, h => by cases n
  | .tuple ds, _, n, h => by
    cases h with
    | tup hs ha => exact .tup (sqt_upd hD hs) (dpUpdA hD n ha)
  | .dict _, _, _, h => by cases h
theorem dpUpdA (hD : H D = some (.lst xs)) : ∀ {ds : List PyData} {vs : List V}, noLs ds = true → DpAll K H vs ds → DpAll K (upd H D (.lst ys)) vs ds
  | [], _, _, h => by cases h; exact .nil
  | d :: ds, _, n, h => by
    cases h with
    | cons h1 h2 =>
      have n2 := Bool.and_eq_true_iff.mp (show (noL d && noLs ds) = true from n)
      exact .cons (dpUpd hD n2.1 h1) (dpUpdA hD n2.2 h2)
end
theorem noLs_all : ∀ {ds : List PyData}, (∀ d ∈ ds, noL d = true) → noLs ds = true
  | [], _ => rfl
  | d :: ds, h => by
    show (noL d && noLs ds) = true
    rw [h d List.mem_cons_self, noLs_all fun e he => h e (List.mem_cons_of_mem _ he)]
    rfl
theorem dpAllApp : ∀ {ds es : List PyData} {vs ws : List V}, DpAll K H vs ds → DpAll K H ws es → DpAll K H (vs ++ ws) (ds ++ es)
  | [], _, _, _, h, k => by cases h; exact k
  | d :: ds, _, _, _, h, k => by
    cases h with
    | cons h1 h2 => exact .cons h1 (dpAllApp h2 k)
end
section
variable {K : PySem.W.Frag} {σ : L2.St} {H : Hp} {Q : VK} {j : Nat} {te tl : TE} {tt : TT} {vs : List Nat} {v : V}
theorem i_lcU (q : tl σ H fun x H1 => tLc (iTup K (tC x)) (gName j) tt te vs σ H1 Q) : tLc (iTup K tl) (gName j) tt te vs σ H Q := q
theorem i_lcM (q : tl σ H fun x H1 => tLc (iList K (tC x)) (gName j) tt te vs σ H1 Q) : tLc (iList K tl) (gName j) tt te vs σ H Q := q
/-- one turn of a pure comprehension keeps what it made so far -/
def Lcv (K : PySem.W.Frag) (H1 : Hp) (D : Addr) (ds : List PyData) (c : PyData → Bool) (f : PyData → PyData) (i : Nat) (H' : Hp) : Prop :=
  H1 D = none ∧ Ex H1 H' ∧ ∃ acc, H' D = some (.lst acc) ∧ DpAll K H' acc (((ds.take i).filter c).map f)
theorem lcv_turn {H1 H' : Hp} {D : Addr} {ds : List PyData} {c : PyData → Bool} {f : PyData → PyData} {i : Nat} {d : PyData} {σ2 : L2.St} (p : Lcv K H1 D ds c f i H') (hd : ds[i]? = some d) (hl : ds.length ≤ 100000) (hn : ∀ d ∈ ds, noL (f d) = true)
    (ht : ∀ (H2 : Hp) (R : Bool → Hp → Prop), Ex H1 H2 → (∀ H3, Ex H2 H3 → R (c d) H3) → tt σ2 H2 R)
    (he : c d = true → ∀ (H2 : Hp) (R : VK), Ex H1 H2 → (∀ w H3, Ex H2 H3 → Dp K H3 w (f d) → R w H3) → te σ2 H2 R) :
    tt σ2 H' fun b H3 => if b = true then te σ2 H3 fun y H4 => ∃ acc, H4 D = some (.lst acc) ∧ acc.length < sizeLine ∧ Lcv K H1 D ds c f (i + 1) (upd H4 D (.lst (acc ++ [y]))) else Lcv K H1 D ds c f (i + 1) H3 := by
  obtain ⟨p1, p2, acc, p3, p4⟩ := p
  have ht1 : ds.take (i + 1) = ds.take i ++ [d] := by rw [List.take_add_one, hd]; rfl
  refine ht H' _ p2 fun H3 e3 => ?_
  cases hc : c d with
  | true =>
    refine he hc H3 _ (p2.trans e3) fun y H4 e4 hy => ?_
    have hD4 : H4 D = some (.lst acc) := e4 _ _ (e3 _ _ p3)
    have hlen : acc.length ≤ ds.length := by
      rw [dpLen p4, List.length_map]
      exact Nat.le_trans (List.length_filter_le _ _) (by rw [List.length_take]; omega)
    refine ⟨acc, hD4, Evl.sz_lt (by
      have hi : i < ds.length := (List.getElem?_eq_some_iff.mp hd).1
      have : acc.length ≤ i := by
        rw [dpLen p4, List.length_map]
        exact Nat.le_trans (List.length_filter_le _ _) (by rw [List.length_take]; omega)
      omega), p1, Evl.Ex.mut ((p2.trans e3).trans e4) p1, acc ++ [y], upd_same, ?_⟩
    rw [ht1, List.filter_append, List.map_append, List.filter_cons, if_pos hc]
    refine dpUpdA hD4 (noLs_all fun z hz => ?_) (dpAllApp (dpMonoA (e3.trans e4) p4) (.cons hy .nil))
    rcases List.mem_append.mp hz with h | h
    · obtain ⟨z0, h1, rfl⟩ := List.mem_map.mp h
      exact hn z0 (List.mem_of_mem_take (List.mem_filter.mp h1).1)
    · rcases List.mem_singleton.mp h with rfl
      exact hn d (List.mem_of_getElem? hd)
  | false =>
    refine ⟨p1, p2.trans e3, acc, e3 _ _ p3, ?_⟩
    rw [ht1, List.filter_append, List.filter_cons, if_neg (by rw [hc]; decide), List.filter_nil, List.append_nil]
    exact dpMonoA e3 p4
theorem dpIdx {H : Hp} {xs : List V} {ds : List PyData} {i : Nat} {x : V} (h : DpAll K H xs ds) (e : xs[i]? = some x) : ∃ d, ds[i]? = some d ∧ Dp K H x d := by
  have hi : i < xs.length := (List.getElem?_eq_some_iff.mp e).1
  have hj : i < ds.length := by rw [← dpLen h]; exact hi
  obtain ⟨u, h1, h2⟩ := dpGet h (List.getElem?_eq_getElem hj)
  rw [e] at h1
  cases h1
  exact ⟨_, List.getElem?_eq_getElem hj, h2⟩
theorem i_lcT {ds : List PyData} (c : PyData → Bool) (f : PyData → PyData) (h : Dp K H v (.tuple ds)) (hl : ds.length ≤ 100000) (hn : ∀ d ∈ ds, noL (f d) = true) (hw : ∀ x, wipe ((wipe σ vs).set j (some x)) vs = wipe σ vs)
    (ht : ∀ (u : V) (d : PyData) (H2 : Hp) (R : Bool → Hp → Prop), Ex H H2 → d ∈ ds → Dp K H2 u d → (∀ H3, Ex H2 H3 → R (c d) H3) → tt ((wipe σ vs).set j (some u)) H2 R)
    (he : ∀ (u : V) (d : PyData) (H2 : Hp) (R : VK), Ex H H2 → d ∈ ds → c d = true → Dp K H2 u d → (∀ w H3, Ex H2 H3 → Dp K H3 w (f d) → R w H3) → te ((wipe σ vs).set j (some u)) H2 R)
    (q : ∀ p H2, H p = none → Ex H H2 → (∃ acc, H2 p = some (.lst acc) ∧ DpAll K H2 acc ((ds.filter c).map f)) → Q (.ref p) H2) : tLc (iTup K (tC v)) (gName j) tt te vs σ H Q := by
  obtain ⟨a, xs, rfl, hs, ha⟩ := dpTup h
  refine ⟨a, rfl, ⟨xs, hs⟩, fun D hD => lc_tup (xs := xs) (Lcv K H D ds c f) ⟨hD, Ex.new hD, [], upd_same, .nil⟩ (fun i H' _ p => Evl.ex_t p.2.1 hs) (fun i x H' hi p => ⟨hw x, ?_⟩) (fun H' p => ?_)⟩
  · obtain ⟨d, hd, hx⟩ := dpIdx ha hi
    have hm := List.mem_of_getElem? hd
    exact lcv_turn p hd hl hn (fun H2 R e2 r => ht x d H2 R e2 hm (dpMono e2 hx) r) (fun hc H2 R e2 r => he x d H2 R e2 hm hc (dpMono e2 hx) r)
  · obtain ⟨p1, p2, acc, p3, p4⟩ := p
    rw [dpLen ha, List.take_length] at p4
    exact q D H' p1 p2 ⟨acc, p3, p4⟩
theorem i_lcL {ds : List PyData} (c : PyData → Bool) (f : PyData → PyData) (h : Dp K H v (.list ds)) (hl : ds.length ≤ 100000) (hn : ∀ d ∈ ds, noL (f d) = true) (hw : ∀ x, wipe ((wipe σ vs).set j (some x)) vs = wipe σ vs)
    (ht : ∀ (u : V) (d : PyData) (H2 : Hp) (R : Bool → Hp → Prop), Ex H H2 → d ∈ ds → Dp K H2 u d → (∀ H3, Ex H2 H3 → R (c d) H3) → tt ((wipe σ vs).set j (some u)) H2 R)
    (he : ∀ (u : V) (d : PyData) (H2 : Hp) (R : VK), Ex H H2 → d ∈ ds → c d = true → Dp K H2 u d → (∀ w H3, Ex H2 H3 → Dp K H3 w (f d) → R w H3) → te ((wipe σ vs).set j (some u)) H2 R)
    (q : ∀ p H2, H p = none → Ex H H2 → (∃ acc, H2 p = some (.lst acc) ∧ DpAll K H2 acc ((ds.filter c).map f)) → Q (.ref p) H2) : tLc (iList K (tC v)) (gName j) tt te vs σ H Q := by
  obtain ⟨a, xs, rfl, hs, ha⟩ := dpLst h
  refine ⟨a, rfl, ⟨xs, hs⟩, fun D hD => lc_list (xs := xs) (Lcv K H D ds c f) ⟨hD, Ex.new hD, [], upd_same, .nil⟩ (fun i H' _ p => Evl.ex_l p.2.1 hs) (fun i x H' hi p => ⟨hw x, ?_⟩) (fun H' p => ?_)⟩
  · obtain ⟨d, hd, hx⟩ := dpIdx ha hi
    have hm := List.mem_of_getElem? hd
    exact lcv_turn p hd hl hn (fun H2 R e2 r => ht x d H2 R e2 hm (dpMono e2 hx) r) (fun hc H2 R e2 r => he x d H2 R e2 hm hc (dpMono e2 hx) r)
  · obtain ⟨p1, p2, acc, p3, p4⟩ := p
    rw [dpLen ha, List.take_length] at p4
    exact q D H' p1 p2 ⟨acc, p3, p4⟩
theorem i_yes {R : Bool → Hp → Prop} (q : R true H) : tYes σ H R := q
theorem i_all {ds : List PyData} {bs : List Bool} (h : Dp K H v (.list ds)) (e : ds = bs.map PyData.bool) (q : Q (.bl (bs.all id)) H) : rAll K [v] H Q := by
  obtain ⟨a, xs, rfl, hs, ha⟩ := dpLst h
  subst e
  have ex : ∀ {bs : List Bool} {xs : List V}, DpAll K H xs (bs.map PyData.bool) → xs = bs.map V.bl := by
    intro bs
    induction bs with
    | nil => intro xs h; cases h; rfl
    | cons b bs ih =>
      intro xs h
      cases h with
      | cons h1 h2 => rw [dpBl h1, ih h2]; rfl
  rw [ex ha] at hs
  exact ⟨a, bs, rfl, hs, q⟩
theorem wipe1 (x : V) : wipe ((wipe σ [j]).set j (some x)) [j] = wipe σ [j] := by
  show ((σ.set j none).set j (some x)).set j none = σ.set j none
  rw [List.set_set, List.set_set]
end
end Wb

namespace Wb
open PySem PySem.Spec PyProof.Rows L2
open Evl (Ex Ex.refl Ex.trans Ex.new)
/-! ### the bag of draws: a list of three ints that is changed by each draw; all else is told of the heap without it -/
def hid (b : Addr) (H : Hp) : Hp := fun a => if a = b then none else H a
theorem hid_of {b a : Addr} {H : Hp} {o : HO} (h : H a = some o) (hn : a ≠ b) : hid b H a = some o := by
  unfold hid
  rw [if_neg hn]
  exact h
theorem of_hid {b a : Addr} {H : Hp} {o : HO} (h : hid b H a = some o) : a ≠ b ∧ H a = some o := by
  unfold hid at h
  by_cases e : a = b
  · rw [if_pos e] at h
    cases h
  · rw [if_neg e] at h
    exact ⟨e, h⟩
theorem ex_hid {b : Addr} {H : Hp} : Ex (hid b H) H := fun _ _ h => (of_hid h).2
theorem hid_ex {b : Addr} {H H' : Hp} (e : Ex H H') : Ex (hid b H) (hid b H') := fun a o h => hid_of (e a o (of_hid h).2) (of_hid h).1
theorem hid_upd {b : Addr} {H : Hp} {o : HO} : Ex (hid b H) (hid b (upd H b o)) := fun a u h => hid_of (by rw [upd_ne (of_hid h).1]; exact (of_hid h).2) (of_hid h).1
/-- what did not know the bag stays known -/
theorem ex_unhid {b : Addr} {H0 H H' : Hp} (h0 : H0 b = none) (e : Ex H0 H) (e2 : Ex (hid b H) (hid b H')) : Ex H0 H' := fun a o h => (of_hid (e2 a o (hid_of (e a o h) (ne_of_none h h0)))).2
theorem ex_tohid {b : Addr} {H0 H : Hp} (h0 : H0 b = none) (e : Ex H0 H) : Ex H0 (hid b H) := fun a o h => hid_of (e a o h) (ne_of_none h h0)
structure Bag (b : Addr) (H : Hp) : Prop where
  ex : ∃ x y z : Int, H b = some (.lst [.int x, .int y, .int z]) ∧ 0 ≤ x ∧ Sz 2100 x
theorem Bag.mono {b : Addr} {H H' : Hp} (h : Bag b H) (e : Ex H H') : Bag b H' := by
  obtain ⟨x, y, z, h1, h2, h3⟩ := h.ex
  exact ⟨x, y, z, e _ _ h1, h2, h3⟩
theorem Bag.ne {b p : Addr} {H : Hp} (h : Bag b H) (hp : H p = none) : p ≠ b := by
  obtain ⟨x, y, z, h1, _⟩ := h.ex
  exact (ne_of_none h1 hp).symm
theorem hid_tup {b p : Addr} {H : Hp} {xs : List V} (h : Bag b H) (hp : H p = some (.tup xs)) : hid b H p = some (.tup xs) := by
  obtain ⟨x, y, z, h1, _⟩ := h.ex
  exact hid_of hp (ne_of hp h1 (by intro z; cases z))
theorem hid_new {b p : Addr} {H H' : Hp} {o : HO} (h : Bag b H) (hn : H p = none) (hp : H' p = some o) : hid b H' p = some o := hid_of hp (h.ne hn)
section
variable {K : PySem.W.Frag} {σ : L2.St} {H H' : Hp} {Q : VK} {D : Ends} {ta tb te : TE} {v : V} {i j : Int} {b : Addr}
theorem i_mkTB {xs : List V} (hl : xs.length ≤ 100000) (hb : Bag b H) (q : ∀ p H2, Ex H H2 → Bag b H2 → hid b H2 p = some (.tup xs) → Q (.ref p) H2) : MkT xs H Q :=
  i_mkT hl fun p H2 e hp => q p H2 e (hb.mono e) (hid_tup (hb.mono e) hp)
theorem i_mkLB {xs : List V} (hl : xs.length ≤ 100000) (hb : Bag b H) (q : ∀ p H2, H p = none → Ex H H2 → Bag b H2 → hid b H2 p = some (.lst xs) → Q (.ref p) H2) : MkL xs H Q :=
  i_mkL hl fun p H2 hn e hp => q p H2 hn e (hb.mono e) (hid_new hb hn hp)
theorem i_mulC (h : CMul i j) (q : Q (.int (i * j)) H) : rI CMul (fun i j => .int (i * j)) (.int i) (.int j) H Q := ⟨i, j, rfl, rfl, h, q⟩
theorem cmul_l (h : i.natAbs < 18446744073709551616) : CMul i j := .inl ⟨by omega, by omega⟩
theorem cmul_r (h : j.natAbs < 18446744073709551616) : CMul i j := .inr ⟨by omega, by omega⟩
theorem i_ixLr {xs : List V} {k : Int} (h : H b = some (.lst xs)) (e : atI xs k = some v) (q : Q v H) : rIxL K (.ref b) (.int k) H Q := ⟨b, xs, k, v, rfl, rfl, .inl (.inl h), e, q⟩
theorem i_sub {to ti : TE} {ts : TSet} {R : L2.St → Hp → Prop} (q : to σ H fun o H1 => ti σ H1 fun i H2 => ts o i v H2 fun H3 => R σ H3) : gSub to ti ts v σ H R := q
theorem i_setL {xs : List V} {k : Int} {n : Nat} {R : Hp → Prop} (h : H b = some (.lst xs)) (e : ixN xs.length k = some n) (q : ∀ H2, H2 b = some (.lst (xs.set n v)) → Ex (hid b H) (hid b H2) → R H2) : rSetL (.ref b) (.int k) v H R :=
  ⟨b, xs, k, n, rfl, rfl, h, e, q _ upd_same hid_upd⟩
theorem fmod_lt (a : Int) {b : Int} (hb : b ≠ 0) : (a.fmod b).natAbs < b.natAbs := by
  rcases Int.lt_or_gt_of_ne hb with h | h
  · rw [Int.fmod_eq_emod]
    have h1 := Int.emod_nonneg a hb
    have h2 := Int.emod_lt a hb
    have h3 : b ∣ a → a % b = 0 := Int.emod_eq_zero_of_dvd
    by_cases hd : b ∣ a
    · rw [if_pos (Or.inr hd), h3 hd]
      omega
    · rw [if_neg (by omega)]
      have h4 : a % b ≠ 0 := fun z => hd (Int.dvd_of_emod_eq_zero z)
      omega
  · have h1 := Int.fmod_nonneg_of_pos a h
    have h2 := Int.fmod_lt_of_pos a h
    omega
theorem sz_fmod {a : Nat} {i j : Int} (hj : j ≠ 0) (ha : Sz a j) : Sz a (i.fmod j) := sz_le ha (Nat.le_of_lt (fmod_lt i hj))
theorem i_qlenS {xs : List V} (h : SqL K H b xs) (q : Q (.int (xs.length : Int)) H) : qLen K [.ref b] H Q := ⟨b, xs, rfl, .inl h, q⟩
theorem i_sl {r : V → Option Int → Option Int → Hp → VK → Prop} {tl th : TO} (q : te σ H fun x H1 => tl σ H1 fun l H2 => th σ H2 fun u H3 => r x l u H3 Q) : tSl r te tl th σ H Q := q
theorem i_nopart {R : Option Int → Hp → Prop} (q : R none H) : tNoPart σ H R := q
theorem i_part {R : Option Int → Hp → Prop} (q : te σ H fun x H1 => ∃ i, x = .int i ∧ R (some i) H1) : tPart te σ H R := q
theorem i_part1 {R : Int → Prop} (q : R i) : ∃ k, V.int i = .int k ∧ R k := ⟨i, rfl, q⟩
theorem i_slL {xs : List V} {lo hi : Option Int} (h : SqL K H b xs) (q : ∀ p H2, H p = none → Ex H H2 → H2 p = some (.lst (cutV xs lo hi)) → Q (.ref p) H2) : rSlL K (.ref b) lo hi H Q := ⟨b, xs, rfl, h, fun p hp => q p _ hp (ex_upd hp) upd_same⟩
theorem i_sum {ns : List Int} (h : SqL K H b (ns.map V.int)) (q : Q (.int ns.sum) H) : rSum K [.ref b] H Q := ⟨b, ns, rfl, h, q⟩
theorem i_ixLs {xs : List V} {k : Int} (h : SqL K H b xs) (e : atI xs k = some v) (q : Q v H) : rIxL K (.ref b) (.int k) H Q := ⟨b, xs, k, v, rfl, rfl, h, e, q⟩
end
end Wb

namespace Wb
open PySem PySem.Spec PyProof.Rows L2
/-! ### sorted lists of tuples of ints of any sign -/
/-- ints between -B and B, told from 0 on -/
def sh (B : Int) (ns : List Int) : List Int := ns.map (· + B)
def Bs (B : Int) (ns : List Int) : Prop := ∀ m ∈ ns, -B ≤ m ∧ m < B
theorem Bs.bd {B : Int} {ns : List Int} (h : Bs B ns) : TS.Bd (2 * B) (sh B ns) := fun m hm => by
  obtain ⟨k, hk, rfl⟩ := List.mem_map.mp hm
  have := h k hk
  omega
theorem sh_len {B : Int} {ns : List Int} : (sh B ns).length = ns.length := List.length_map _
section
variable {prog : Program} {w : World} {A : Around} {E : Value → Shared → Prop} {s : Shared} {Q : Bool → Shared → Prop}
/-- the order of two rows of ints of any sign -/
theorem lex_shift {B : Int} {b : Bool} {xs ys : List Value} {ns ms : List Int} (i : Nat) (hx : IntsAre xs ns) (hy : IntsAre ys ms) (hl : ns.length = ms.length) (h1 : Bs B ns) (h2 : Bs B ms)
    (h : Q (decide (TS.code (2 * B) (sh B ns) < TS.code (2 * B) (sh B ms))) s) : PySem.W.KatLex prog w A b false Q (xs.zip ys) i s := by
  induction hx generalizing ys ms i with
  | nil =>
    cases hy with
    | nil => exact PySem.W.kat_nil (by rw [decide_eq_false (Int.lt_irrefl _)] at h; exact h)
    | cons q u hy => cases hl
  | @cons p t xs ns hx ih =>
    cases hy with
    | nil => cases hl
    | @cons q u ys ms hy =>
      have hl' : ns.length = ms.length := by simpa using hl
      have t1 : Bs B ns := fun m hm => h1 m (List.mem_cons_of_mem _ hm)
      have t2 : Bs B ms := fun m hm => h2 m (List.mem_cons_of_mem _ hm)
      have hls : (sh B ns).length = (sh B ms).length := by rw [sh_len, sh_len, hl']
      show PySem.W.KatLex prog w A b false Q ((Value.int p t, Value.int q u) :: xs.zip ys) i s
      refine PySem.W.kat_cons (wpAny_eqBool_int ?_)
      by_cases e : p = q
      · subst e
        rw [beq_self_eq_true]
        refine PySem.W.kat_yes (ih (i + 1) hy hl' t1 t2 ?_)
        have d : decide (TS.code (2 * B) (sh B (p :: ns)) < TS.code (2 * B) (sh B (p :: ms))) = decide (TS.code (2 * B) (sh B ns) < TS.code (2 * B) (sh B ms)) := decide_eq_decide.mpr (TS.code_same hls)
        rw [← d]
        exact h
      · rw [show (p == q) = false from beq_eq_false_iff_ne.mpr e]
        refine PySem.W.kat_no (TS.oneLt_ints _ ?_)
        have d : decide (TS.code (2 * B) (sh B (p :: ns)) < TS.code (2 * B) (sh B (q :: ms))) = decide (p < q) := by
          refine decide_eq_decide.mpr ⟨fun z => ?_, fun z => TS.code_lt hls t1.bd t2.bd (by show p + B < q + B; omega)⟩
          rcases Int.lt_trichotomy p q with y | y | y
          · exact y
          · exact absurd y e
          · have z2 : TS.code (2 * B) (sh B (q :: ms)) < TS.code (2 * B) (sh B (p :: ns)) := TS.code_lt hls.symm t2.bd t1.bd (by show q + B < p + B; omega)
            omega
        rw [← d]
        exact h
end
/-- tuples of d ints each -/
def TupsS (h : Heap) (d : Nat) (B : Int) (vs : List Value) : Prop := ∀ v ∈ vs, ∃ ns, TS.TupInts h v ns ∧ ns.length = d ∧ Bs B ns
theorem TupsS.keeps {h h' : Heap} {d : Nat} {B : Int} {vs : List Value} (x : TupsS h d B vs) (k : ∀ b o, h.get? b = some o → o.cls = .type "tuple" → h'.get? b = some o) : TupsS h' d B vs := fun v hv =>
  let ⟨ns, t, r⟩ := x v hv; ⟨ns, t.keeps k, r⟩
theorem firsts_s {h : Heap} {d : Nat} {B : Int} (hd : 1 ≤ d) : ∀ vs : List Value, TupsS h d B vs → ∃ fs, PySem.W.KatTups h vs fs ∧ fs.length = vs.length ∧ ∀ f ∈ fs, ∃ n t, f = Value.int n t
  | [], _ => ⟨[], .nil, rfl, fun f hf => nomatch hf⟩
  | v :: vs, x => by
    obtain ⟨fs, k, hl, hi⟩ := firsts_s hd vs fun u hu => x u (List.mem_cons_of_mem _ hu)
    obtain ⟨ns, ⟨a, xs, rfl, ⟨o, ho, hc, n, hdt⟩, i⟩, hn, _⟩ := x v List.mem_cons_self
    have hl2 := i.length
    cases hq : xs.toList with
    | nil =>
      rw [hq, List.length_nil] at hl2
      omega
    | cons y ys =>
      obtain ⟨m, t, hy⟩ := i.all y (by rw [hq]; exact List.mem_cons_self)
      have z := congrArg (fun l : List Value => l[0]?) hq
      refine ⟨y :: fs, .cons ho hc hdt (by simpa using z) k, by rw [List.length_cons, List.length_cons, hl], fun f hf => ?_⟩
      rcases List.mem_cons.mp hf with rfl | hf
      · exact ⟨m, t, hy⟩
      · exact hi f hf
section
variable {prog : Program} {w : World} {A : Around} {E : Value → Shared → Prop} {s : Shared}
/-- the rank of a tuple of ints -/
abbrev rank (B : Int) (h : Heap) (v : Value) : Int := TS.code (2 * B) (sh B (TS.intsOf h v))
theorem kind_s {d : Nat} {B : Int} {vs : List Value} (hd : 1 ≤ d) (h2 : 2 ≤ vs.length) (x : TupsS s.heap d B vs) (r : Value → Int) (hr : ∀ v ∈ vs, ∀ ns, TS.TupInts s.heap v ns → r v = TS.code (2 * B) (sh B ns)) (Q : SortKind → Shared → Prop)
    (h : ∀ κ, TS.Cmp prog w A s κ (pairsOf vs) r → Q κ s) : wpAny (model prog w) A (keyKind' vs.toArray) Q E s := by
  obtain ⟨fs, k, hl, hi⟩ := firsts_s hd vs x
  refine PySem.W.kat_kind (T := Value.type "int") k (by omega) (fun f hf => ?_) rfl (h _ fun p q hp hq Q' E' hQ => ?_)
  · obtain ⟨n, t, rfl⟩ := hi f hf
    exact PySem.W.Looks.of_pure rfl
  · rw [pairsOf_toList] at hp hq
    obtain ⟨ns, tp, lp, bp⟩ := x _ (mem_zip_self hp).2
    obtain ⟨ms, tq, lq, bq⟩ := x _ (mem_zip_self hq).2
    rw [hr _ (mem_zip_self hp).2 _ tp, hr _ (mem_zip_self hq).2 _ tq] at hQ
    obtain ⟨a, xs, e1, ⟨o, ho, hc, n, hdt⟩, i⟩ := tp
    obtain ⟨a', ys, e2, ⟨o', ho', hc', n', hdt'⟩, i'⟩ := tq
    rw [e1, e2]
    refine PySem.W.kat_lt ho hdt ho' hdt' ?_
    have l1 := i.length
    have l2 := i'.length
    rw [Array.length_toList] at l1 l2
    rw [decide_eq_false (show ¬ xs.size < ys.size by omega)]
    exact lex_shift 0 i i' (by omega) bp bq hQ
theorem sort_s {a : Addr} {vs : List Value} {n d : Nat} {B : Int} {Q : Value → Shared → Prop} (ho : s.heap.get? a = some (seqObj "list" vs.toArray n)) (h64 : vs.length < 64) (hd : 1 ≤ d) (x : TupsS s.heap d B vs)
    (h : ∀ out : Array Value, out.toList.Perm vs → Q .none { s with heap := sortedHeap s.heap a vs out }) :
    wpAny (model prog w) A (call (.builtin "list.sort") [.ref a]) Q E s := by
  have keep : ∀ b o, s.heap.get? b = some o → o.cls = .type "tuple" → (TS.midHeap s.heap a vs).get? b = some o := fun b o e hc => by
    refine TS.midHeap_old (fun z => ?_) e
    rw [z, ho] at e
    cases e
    injection hc with hc
    exact absurd hc (by decide)
  refine wpAny_call_entry slot_list_sort ⟨_, ho, rfl⟩ entry_list_sort (SK.plain_sort (r := rank B s.heap) ho h64 (fun h2 Q' hQ' => ?_) fun ps out h1 h2 h3 => ⟨_, rfl, h out (TS.out_rank h1 h2 h3).1⟩) (args_list_sort _)
  refine kind_s (s := { s with heap := TS.midHeap s.heap a vs }) hd h2 (x.keeps keep) (rank B s.heap) (fun v hv ns t => ?_) Q' hQ'
  obtain ⟨ns0, t0, _⟩ := x v hv
  have e : ns = ns0 := t.ints.symm.trans (t0.keeps keep).ints
  show TS.code (2 * B) (sh B (TS.intsOf s.heap v)) = _
  rw [e, t0.ints]
end
theorem bs_ex : ∀ L : List (List Int), ∃ B : Int, ∀ l ∈ L, Bs B l
  | [] => ⟨0, fun l hl => nomatch hl⟩
  | l :: L => by
    obtain ⟨B, hB⟩ := bs_ex L
    have one : ∀ l : List Int, ∃ C : Int, Bs C l := by
      intro l
      induction l with
      | nil => exact ⟨0, fun m hm => nomatch hm⟩
      | cons k l ih =>
        obtain ⟨C, hC⟩ := ih
        refine ⟨max C (k.natAbs + 1), fun m hm => ?_⟩
        rcases List.mem_cons.mp hm with rfl | hm
        · omega
        · have := hC m hm
          omega
    obtain ⟨C, hC⟩ := one l
    refine ⟨max B C, fun l' hl => ?_⟩
    rcases List.mem_cons.mp hl with rfl | hl
    · exact fun m hm => by
        have := hC m hm
        omega
    · exact fun m hm => by
        have := hB l' hl m hm
        omega
end Wb

namespace Wb
open PySem PySem.Spec PyProof.Rows L2
theorem perm_map_ex {α β : Type} {f : α → β} {vs ws : List β} (h : vs.Perm ws) : ∀ {L : List α}, ws = L.map f → ∃ L1 : List α, L1.Perm L ∧ vs = L1.map f := by
  induction h with
  | nil =>
    intro L e
    cases L with
    | nil => exact ⟨[], .refl _, rfl⟩
    | cons a L => cases e
  | cons x h ih =>
    intro L e
    cases L with
    | nil => cases e
    | cons a L =>
      rw [List.map_cons] at e
      injection e with e1 e2
      obtain ⟨L1, p, e3⟩ := ih e2
      exact ⟨a :: L1, p.cons a, by rw [List.map_cons, e1, e3]⟩
  | swap x y l =>
    intro L e
    match L, e with
    | a :: b :: L, e =>
      simp only [List.map_cons, List.cons.injEq] at e
      obtain ⟨e1, e2, e3⟩ := e
      exact ⟨b :: a :: L, .swap a b L, by rw [List.map_cons, List.map_cons, e1, e2, e3]⟩
  | trans h1 h2 ih1 ih2 =>
    intro L e
    obtain ⟨L2, p2, e2⟩ := ih2 e
    obtain ⟨L1, p1, e1⟩ := ih1 e2
    exact ⟨L1, p1.trans p2, e1⟩
section
variable {P : Program} {w : World} {A : Around} {E : Value → Shared → Prop} {s : Shared}
/-- sorted of a set of tuples of d ints: a list of them, in some order -/
theorem sorted_setS {a : Addr} {L : List (Addr × List Int)} {es : Array (Int × Value)} {ep : Nat} {t : SetTable} {Q : Value → Shared → Prop} (R : SetTR P w s.heap a L es ep t) (hh : A.handled = none)
    {d : Nat} (hd1 : 1 ≤ d) (hB : ∀ p ∈ L, p.2.length = d)
    (hQ : ∀ s' p (out : Array Value) (c : Nat) (L' : List (Addr × List Int)), (∀ b o, s.heap.get? b = some o → s'.heap.get? b = some o) → s'.gens = s.gens → s'.os = s.os → s.heap.objs.size ≤ p →
      s'.heap.get? p = some (seqObj "list" out c) → out.toList = L'.map (fun q => Value.ref q.1) → L'.Perm L → Q (.ref p) s') :
    wpAny (model P w) A (call (.builtin "sorted") [.ref a]) Q E s := by
  obtain ⟨o, ho, hex, hd⟩ := R.ob
  obtain ⟨B, hBs⟩ := bs_ex (L.map (·.2))
  have hsz := R.size
  have hfew := R.few
  refine Calls.call_function_entry kind_sorted plain_sorted entry_sorted (args_sorted1 _) ?_
  unfold Builtin.«sorted»
  refine wpAny_bind (m := checkCount "sorted" 1 1 _) (wpAny_pure ?_)
  refine wpAny_bind (collect_set (A := A.in1) hh ⟨o, ho, hex.1, hd⟩ R.fits (by unfold scanBound; omega) R.tab.ris R.led fun s1 vs k1 hz g1 o1 pm => ?_)
  have hes : es.toList.map (·.2) = L.map fun q => Value.ref q.1 := by
    rw [R.rows]
    unfold rowsOf
    rw [List.map_map]
    rfl
  obtain ⟨L1, p1, e1⟩ := perm_map_ex pm hes
  have hvl : vs.length < 64 := by
    rw [e1, List.length_map, p1.length_eq]
    exact hfew
  refine wpAny_bind (wpAny_newList ?_ (by rw [sizeLine_eq]; omega))
  have hoL : (s1.heap.push (seqObj "list" vs.toArray 0)).get? s1.heap.objs.size = some (seqObj "list" vs.toArray 0) := Heap.get?_push_size _ rfl
  have x : TupsS (s1.heap.push (seqObj "list" vs.toArray 0)) d B vs := fun v hv => by
    rw [e1] at hv
    obtain ⟨q, hq, rfl⟩ := List.mem_map.mp hv
    have hqL := p1.mem_iff.mp hq
    exact ⟨q.2, tupInts_of (P := P) (w := w) (isT_keep (R.tup q hqL) fun b u e => Heap.get?_push_of_some _ (k1 b u e)), hB q hqL, hBs _ (List.mem_map.mpr ⟨q, hqL, rfl⟩)⟩
  refine wpAny_bind (wpAny_holding (sort_s (s := { s1 with heap := s1.heap.push (seqObj "list" vs.toArray 0) }) hoL hvl hd1 x fun out a1 => ?_))
  obtain ⟨c, hc⟩ := sortedHeap_at (vs := vs) (out := out) hoL
  obtain ⟨L', p2, e2⟩ := perm_map_ex a1 e1
  refine wpAny_pure ⟨_, rfl, hQ _ s1.heap.objs.size out c L' (fun b u e => ?_) g1 o1 hz hc e2 (p2.trans p1)⟩
  have q := k1 b u e
  have hlt := Heap.lt_size q
  show (sortedHeap (s1.heap.push (seqObj "list" vs.toArray 0)) s1.heap.objs.size vs out).get? b = some u
  rw [sortedHeap_old (Nat.ne_of_lt hlt) (by rw [size_push']; exact Nat.lt_succ_of_lt hlt)]
  exact Heap.get?_push_of_some _ q
end
section
variable {X : Cx}
def rSortedS (K : PySem.W.Frag) (P : Program) (w : World) : List V → Hp → VK → Prop := fun vs H Q => ∃ (a : Addr) (L : List (Addr × List Int)) (d : Nat), vs = [V.ref a] ∧ H a = some (SetTO P w a L) ∧ (∀ p ∈ L, SqT K H p.1 (p.2.map V.int)) ∧ 1 ≤ d ∧ (∀ p ∈ L, p.2.length = d) ∧
  ∀ (L' : List (Addr × List Int)) (p : Addr), L'.Perm L → (L'.map (·.2)).Nodup → L'.length < 64 → H p = none → Q (.ref p) (upd H p (.lst (L'.map fun q => V.ref q.1)))
theorem cr_sortedS (hc : X.calm = true) : CallR X (.builtin "sorted") (rSortedS X.K X.prog X.w) := by
  intro pins s σ H vs us Q I r h
  obtain ⟨a, L, d, rfl, ha, hk, hd, hB, q⟩ := h
  have R0 : SetT0 X.prog X.w s.heap a L := (I.hok a _ ha).1
  obtain ⟨es, ep, t, R⟩ := R0.full fun p hp => I.isT (hk p hp)
  rw [Vals.ref1 r]
  refine sorted_setS R (I.ok.hd hc) hd hB fun s' p out c L' k g o hp hg hout pm => ?_
  have hfew : L'.length < 64 := by rw [pm.length_eq]; exact R.few
  have hlen : (L'.map fun q => V.ref q.1).length ≤ sizeLine := by rw [List.length_map, sizeLine_eq]; omega
  have hn : H p = none := I.hok.fresh hp
  have hv : Vals (L'.map fun q => V.ref q.1) out.toList := by rw [hout]; exact vals_of_refs L'
  have J : Inv X pins σ (upd H p (.lst (L'.map fun q => V.ref q.1))) { s with heap := s'.heap, gens := s'.gens, drawn := s'.drawn, toks := s'.toks } :=
    I.call (ch := []) (Un.laid k hp hn) (I.hok.laid k hp ⟨hlen, out.toList, c, hv, hg⟩) (by rw [g]; exact I.bare) (fun _ z => nomatch z)
  have e : s' = { s with heap := s'.heap, gens := s'.gens, drawn := s'.drawn, toks := s'.toks } := by
    cases s'
    cases s
    cases o
    rfl
  rw [e]
  exact ⟨.ref p, _, J, rfl, q L' p pm ((pm.map (·.2)).nodup_iff.mpr R.nd) hfew hn⟩
end
end Wb

namespace Wb
open PySem PySem.Spec PyProof.Rows L2
section
variable {P : Program} {w : World} {A : Around} {E : Value → Shared → Prop} {s : Shared}
/-- a new set -/
abbrev nset (w : World) : Obj := { cls := .type "set", dict := none, data := .set #[] 0 (.fresh 0 0 (!w.params.followText "set-order")) }
/-- set(t), t a tuple of tuples of ints -/
theorem set_of_tuple {l : Addr} {items : Array Value} (ks : List (Addr × List Int)) {Q : Value → Shared → Prop} (hh : A.handled = none) (hl : s.heap.IsTuple l items) (hit : items.toList = ks.map fun p => Value.ref p.1)
    (hk : ∀ p ∈ ks, IsT P w s.heap p.2 p.1) (hfew : ks.length < 64) (hu : A.units + 3 < cLine)
    (h : ∀ (h' : Heap) (tk : Nat) L es ep t, SetTR P w h' s.heap.objs.size L es ep t → Got ks ks.length L → (∀ b o, s.heap.get? b = some o → h'.get? b = some o) → Q (.ref s.heap.objs.size) { s with heap := h', toks := tk }) :
    wpAny (model P w) A (call (.type "set") [.ref l]) Q E s := by
  have hisz : items.size = ks.length := by rw [← Array.length_toList, hit, List.length_map]
  obtain ⟨c, tl, hmro⟩ := F.called_set.mro
  have hmade := F.called_set.made
  have hsub := F.called_set.sub
  refine wpAny_call (codeAny_of_tree ?_)
  show wpAny _ _ (callAny (.type "set") _) _ _ _
  refine wpAny_pure ⟨Code.quiet_builtin _ (by decide +kernel), codeAny_builtin F.entry_type_call ?_⟩
  rw [Around.under_plain (weight_type_call_type "set" [.ref l] []) rfl]
  have h1 := F.called_set.notType
  have h2 := F.called_set.canCreate
  have hct := F.typeCall_set_1 (.ref l)
  repeat (any_goals (first | assumption | wp_step))
  refine codeAny_mono (code_set_led1 (.ref l) (E := E) (Q₁ := fun obj s₁ => obj = .ref s.heap.objs.size ∧ s₁ = { s with heap := s.heap.push (nset w) }) ⟨rfl, rfl⟩) fun r s₁ hr => ?_
  rcases r with e | fl
  · exact hr
  cases fl with
  | ret obj =>
    obtain ⟨rfl, rfl⟩ := hr
    have hS : (s.heap.push (nset w)).get? s.heap.objs.size = some (nset w) := Heap.get?_push_size _ rfl
    have hT : Shared.TypeIs { s with heap := s.heap.push (nset w) } (.ref s.heap.objs.size) "set" := ⟨_, hS, rfl⟩
    have hli := F.called_set.init.lookup
    have hbi := F.called_set.init.bind (.ref s.heap.objs.size)
    repeat (any_goals (first | assumption | wp_step))
    refine codeAny_mono (codeAny_call_builtin (R := wants (fun r s₂ => r = .none ∧ ∃ h' tk L es ep t, s₂ = { s with heap := h', toks := tk } ∧ SetTR P w h' s.heap.objs.size L es ep t ∧ Got ks ks.length L ∧
        (∀ b o, s.heap.get? b = some o → h'.get? b = some o)) E) F.called_set.init.plain F.entry_set_init (check_set_init_1 hT ?_)) fun r₂ s₂ hr₂ => ?_
    · obtain ⟨⟨ocls, odict, odata, oslots⟩, hol, hcl, nl, hdl⟩ := hl
      simp only at hcl hdl
      subst hcl
      subst hdl
      have hol' : (s.heap.push (nset w)).get? l = some { cls := .type "tuple", dict := odict, data := .seq items nl, slots := oslots } := Heap.get?_push_of_some _ hol
      have hsls := F.sub_tuple_set
      have hslf := F.sub_tuple_frozenset
      have hne : (Value.type "tuple" == Value.type "dict") = false := by decide
      have hl1 : (s.heap.push (nset w)).IsTuple l items := ⟨_, hol', rfl, nl, rfl⟩
      unfold Builtin.«set.__init__» noKeywords Builtin.Frozenset.updateFrom
      generalize hPI : pyIter = PI
      wp_walk
      subst hPI
      refine wpAny_pyIter_tuple hl1 ?_
      refine wpAny_bind (wpAny_runValue ?_)
      have hlS : l < s.heap.objs.size := Heap.lt_size hol
      have hh3 : A.in1.in1.in1.handled = none := by simp [hh]
      have hneI : l ≠ (s.heap.push (nset w)).objs.size := by
        rw [Heap.size_push]
        exact Nat.ne_of_lt (Nat.lt_succ_of_lt hlS)
      have hSf : s.heap.objs.size ∉ [(s.heap.push (nset w)).objs.size, l] := by
        rw [Heap.size_push]
        simp only [List.mem_cons, List.not_mem_nil, or_false, not_or]
        exact ⟨Nat.ne_of_lt (Nat.lt_succ_self _), Nat.ne_of_gt hlS⟩
      have none_of : ∀ b, s.heap.objs.size ≤ b → s.heap.get? b = none := fun b hb => by
        cases q : s.heap.get? b with
        | none => rfl
        | some o =>
          exact absurd (Nat.lt_of_lt_of_le (Heap.lt_size q) hb) (Nat.lt_irrefl _)
      refine set_update_tups ((Walks.tuple hh3 _ l hneI items).toS) s.heap.objs.size
        hSf ks hisz hfew (fun i v hv => ?_) s.heap hk (none_of _ (Nat.le_refl _)) (fun b hb => none_of b (by
          rw [List.mem_singleton.mp hb, Heap.size_push]
          exact Nat.le_succ _)) hu (items.size - 0) 0 _ (by omega) (Nat.zero_le _)
        ⟨⟨_, Heap.get?_push_size _ rfl, rfl, rfl⟩, (hl1.push _)⟩ (fun b o e => Heap.get?_push_of_some _ (Heap.get?_push_of_some _ e))
        ⟨[], #[], 0, _, setTR_fresh (Heap.get?_push_of_some _ hS), Got.zero ks⟩ fun s' L es ep t hm hS' g' hkp => ?_
      · have q : items.toList[i]? = some v := by rw [Array.getElem?_toList]; exact hv
        rw [hit, List.getElem?_map] at q
        obtain ⟨p, hp, rfl⟩ := Option.map_eq_some_iff.mp q
        exact ⟨p, hp, rfl⟩
      · obtain ⟨h', g2, d', tk', os'⟩ := s'
        have eg : g2 = s.gens := hm.gens
        have ed : d' = s.drawn := hm.drawn
        have eo : os' = s.os := hm.os
        subst eg ed eo
        show wpAny _ _ _ _ _ _
        refine wpAny_pure ?_
        show wpAny _ _ (ret Value.none) _ _ _
        rw [hisz] at g'
        exact wpAny_pure ⟨rfl, h', tk', L, es, ep, t, rfl, hS', g', hkp⟩
    · rcases r₂ with e | fl₂
      · exact hr₂
      cases fl₂ with
      | ret r =>
        obtain ⟨rfl, h', tk, L, es, ep, t, rfl, hS', g', hk'⟩ := hr₂
        repeat (any_goals (first | assumption | wp_step))
        exact h _ _ _ _ _ _ hS' g' hk'
      | _ => exact hr₂.elim
  | _ => exact hr.elim
end
section
variable {X : Cx}
def rSetT (K : PySem.W.Frag) (P : Program) (w : World) : List V → Hp → VK → Prop := fun xs H Q => ∃ (l : Addr) (ks : List (Addr × List Int)), xs = [V.ref l] ∧ SqT K H l (ks.map fun p => V.ref p.1) ∧ (∀ p ∈ ks, SqT K H p.1 (p.2.map V.int)) ∧ ks.length < 64 ∧
  ∀ a L, H a = none → (∀ p ∈ L, p ∈ ks) → (∀ p ∈ ks, p.2 ∈ L.map (·.2)) → Q (.ref a) (upd H a (SetTO P w a L))
theorem cr_setT (hc : X.calm = true) (hu : X.A.units + 64 < cLine) : CallR X (.type "set") (rSetT X.K X.prog X.w) := by
  intro pins s σ H xs us Q I r h
  obtain ⟨l, ks, rfl, hl, hk, hf, q⟩ := h
  rw [Vals.ref1 r]
  obtain ⟨its, rv, pl, hz⟩ := I.tuple hl
  have hn : H s.heap.objs.size = none := I.hok.fresh (Nat.le_refl _)
  refine set_of_tuple (P := X.prog) (w := X.w) ks (I.ok.hd hc) pl (by simpa using refs_of_vals rv) (fun p hp => I.isT (hk p hp)) hf (by omega) fun h' tk L es ep t R g k => ?_
  exact ⟨.ref s.heap.objs.size, upd H s.heap.objs.size (SetTO X.prog X.w s.heap.objs.size L), I.laid (t' := tk) k (Nat.le_refl _) (setTO_new R.t0), rfl, q _ L hn (fun p hp => List.mem_of_mem_take (g.sub p hp)) fun p hp => g.all p (by rw [List.take_length]; exact hp)⟩
end
end Wb

namespace Wb
open PySem PySem.Spec PyProof.Rows L2
/-- x in t, t a tuple of data of any depth -/
def rInT (K : PySem.W.Frag) : R2 := fun x y H Q => ∃ d ds, Dp K H x d ∧ Dp K H y (.tuple ds) ∧ SeqAt.shaped d = true ∧ PyData.canLayAll0 ds = true ∧ Q (.bl (ds.any fun z => PyData.eqv z d)) H
theorem op_inT {X : Cx} (hu : X.A.units + 65 < cLine) : OpR X (compareOp .In) (rInT X.K) := by
  intro pins s σ H x y v u Q I rx ry h
  obtain ⟨d, ds, hd, he, sd, se, q⟩ := h
  obtain ⟨as, r1⟩ := Dp.reads I d x v hd rx
  obtain ⟨bs, r2⟩ := Dp.reads I (.tuple ds) y u he ry
  exact SeqAt.in_tuple_reads r2 r1 se (SeqAt.canLay_of_shaped sd) (room_in_shaped sd hu) ⟨.bl _, H, I, rfl, q⟩
theorem dp_ints {K : PySem.W.Frag} {H : Hp} : ∀ ns : List Int, DpAll K H (ns.map V.int) (ns.map .int)
  | [] => .nil
  | n :: ns => .cons (.int n) (dp_ints ns)
/-- the rows of a tuple of tuples of ints -/
theorem keys_of {K : PySem.W.Frag} {H : Hp} : ∀ {vs : List V} {ks : List (List Int)}, DpAll K H vs (ks.map fun k => .tuple (k.map .int)) → ∃ qs : List (Addr × List Int), vs = qs.map (fun q => V.ref q.1) ∧ qs.map (·.2) = ks ∧ ∀ q ∈ qs, SqT K H q.1 (q.2.map V.int)
  | [], [], .nil => ⟨[], rfl, rfl, fun q hq => nomatch hq⟩
  | _ :: _, k :: ks, .cons h t => by
    obtain ⟨qs, e1, e2, h2⟩ := keys_of t
    obtain ⟨a, xs, rfl, hs, hx⟩ := dpTup h
    rw [dpInts hx] at hs
    refine ⟨(a, k) :: qs, by rw [List.map_cons, e1], by rw [List.map_cons, e2], fun q hq => ?_⟩
    rcases List.mem_cons.mp hq with rfl | hq
    · exact hs
    · exact h2 q hq
theorem dp_of_keys {K : PySem.W.Frag} {H : Hp} : ∀ {qs : List (Addr × List Int)}, (∀ q ∈ qs, SqT K H q.1 (q.2.map V.int)) → DpAll K H (qs.map fun q => V.ref q.1) ((qs.map (·.2)).map fun k => .tuple (k.map .int))
  | [], _ => .nil
  | q :: qs, h => .cons (.tup (h q List.mem_cons_self) (dp_ints q.2)) (dp_of_keys fun r hr => h r (List.mem_cons_of_mem _ hr))
end Wb

namespace Wb
open PySem PySem.Spec PyProof.Rows L2
section
variable {X : Cx}
theorem vals_get {vs : List V} {us : List Value} (h : Vals vs us) : ∀ {i : Nat} {u : Value}, us[i]? = some u → ∃ v, vs[i]? = some v ∧ RelV v u := by
  induction h with
  | nil =>
    intro i u h
    cases h
  | cons r t ih =>
    intro i u h
    cases i with
    | zero =>
      cases h
      exact ⟨_, rfl, r⟩
    | succ i =>
      rw [List.getElem?_cons_succ] at h
      obtain ⟨v, e, r⟩ := ih h
      exact ⟨v, by rw [List.getElem?_cons_succ]; exact e, r⟩
theorem pick_mem {f : PyData → PyData → Bool} : ∀ (xs : List PyData) (x : PyData), xs.foldl (fun a y => if f a y then y else a) x ∈ x :: xs
  | [], x => List.mem_cons_self
  | y :: xs, x => by
    rw [List.foldl_cons]
    have h := pick_mem (f := f) xs (if f x y then y else x)
    rcases List.mem_cons.mp h with h | h
    · rw [h]
      split
      · exact List.mem_cons_of_mem _ List.mem_cons_self
      · exact List.mem_cons_self
    · exact List.mem_cons_of_mem _ (List.mem_cons_of_mem _ h)
theorem lay_mem {ds : List PyData} {d : PyData} (h : PyData.canLayAll0 ds = true) (hm : d ∈ ds) : d.canLay0 = true := by
  induction ds with
  | nil => cases hm
  | cons x xs ih =>
    have hc' : x.canLay0 = true ∧ PyData.canLayAll0 xs = true := by simpa [PyData.canLayAll0] using h
    rcases List.mem_cons.mp hm with rfl | hm
    · exact hc'.1
    · exact ih hc'.2 hm
/-- min of a list of alike data -/
def rMinLD (K : PySem.W.Frag) : List V → Hp → VK → Prop := fun xs H Q => ∃ (d : PyData) (ds : List PyData) (y : V), xs = [y] ∧ Dp K H y (.list (d :: ds)) ∧ PyData.canLayAll0 (d :: ds) = true ∧ PySem.W.AlikeAll (d :: ds) ∧ PyData.depthAll (d :: ds) ≤ 60 ∧ ∀ v, Dp K H v (PySem.W.minD d ds) → Q v H
def rMaxLD (K : PySem.W.Frag) : List V → Hp → VK → Prop := fun xs H Q => ∃ (d : PyData) (ds : List PyData) (y : V), xs = [y] ∧ Dp K H y (.list (d :: ds)) ∧ PyData.canLayAll0 (d :: ds) = true ∧ PySem.W.AlikeAll (d :: ds) ∧ PyData.depthAll (d :: ds) ≤ 60 ∧ ∀ v, Dp K H v (PySem.W.maxD d ds) → Q v H
theorem cr_minLD (hc : X.calm = true) (hu : X.A.units + 64 < cLine) : CallR X (.builtin "min") (rMinLD X.K) := by
  intro pins s σ H xs us Q I r h
  obtain ⟨d, ds, y, rfl, hy, hl, ha, hd, q⟩ := h
  obtain ⟨a, vs, rfl, hs, hx⟩ := dpLst hy
  rw [Vals.ref1 r]
  obtain ⟨its, rv, pl, hz⟩ := I.list hs
  obtain ⟨as, rs⟩ := Dp.readsAll I (d :: ds) vs its hx rv
  refine PySem.W.min_list_data (I.ok.hd hc) pl.isList (by simpa using rs) ha (by omega) fun i v h' tk bs hi hr k => ?_
  have hi' : its[i]? = some v := by simpa using hi
  obtain ⟨u, hu1, hu2⟩ := vals_get rv hi'
  have hlt : i < (d :: ds).length := by rw [← dpLen hx]; exact (List.getElem?_eq_some_iff.mp hu1).1
  obtain ⟨u', e1, e2⟩ := dpGet hx (List.getElem?_eq_getElem hlt)
  rw [hu1] at e1
  cases e1
  obtain ⟨cs, r2⟩ := Dp.reads I _ u v e2 hu2
  have f1 := SeqAt.readOf_eq (lay_mem hl (List.getElem_mem hlt)) (PySem.W.reads_keeps k r2)
  have f2 := SeqAt.readOf_eq (lay_mem hl (pick_mem (f := fun a y => PySem.W.dataLt y a) ds d)) hr
  refine ⟨u, H, I.kept (t' := tk) k, hu2, q u ?_⟩
  rw [show PySem.W.minD d ds = (d :: ds)[i] from f2.symm.trans f1]
  exact e2
theorem cr_maxLD (hc : X.calm = true) (hu : X.A.units + 64 < cLine) : CallR X (.builtin "max") (rMaxLD X.K) := by
  intro pins s σ H xs us Q I r h
  obtain ⟨d, ds, y, rfl, hy, hl, ha, hd, q⟩ := h
  obtain ⟨a, vs, rfl, hs, hx⟩ := dpLst hy
  rw [Vals.ref1 r]
  obtain ⟨its, rv, pl, hz⟩ := I.list hs
  obtain ⟨as, rs⟩ := Dp.readsAll I (d :: ds) vs its hx rv
  refine PySem.W.max_list_data (I.ok.hd hc) pl.isList (by simpa using rs) ha (by omega) fun i v h' tk bs hi hr k => ?_
  have hi' : its[i]? = some v := by simpa using hi
  obtain ⟨u, hu1, hu2⟩ := vals_get rv hi'
  have hlt : i < (d :: ds).length := by rw [← dpLen hx]; exact (List.getElem?_eq_some_iff.mp hu1).1
  obtain ⟨u', e1, e2⟩ := dpGet hx (List.getElem?_eq_getElem hlt)
  rw [hu1] at e1
  cases e1
  obtain ⟨cs, r2⟩ := Dp.reads I _ u v e2 hu2
  have f1 := SeqAt.readOf_eq (lay_mem hl (List.getElem_mem hlt)) (PySem.W.reads_keeps k r2)
  have f2 := SeqAt.readOf_eq (lay_mem hl (pick_mem (f := fun a y => PySem.W.dataLt a y) ds d)) hr
  refine ⟨u, H, I.kept (t' := tk) k, hu2, q u ?_⟩
  rw [show PySem.W.maxD d ds = (d :: ds)[i] from f2.symm.trans f1]
  exact e2
end
end Wb

namespace Wb
open PySem PySem.Spec PyProof.Rows L2
open Evl (Ex Ex.refl Ex.trans Ex.new)
local macro_rules | `(tactic| wtm_at "dp") => `(tactic| first | with_reducible assumption | with_reducible exact Dp.int _ | with_reducible exact Dp.bl _ | with_reducible exact Dp.str _ | with_reducible exact Dp.non | ((with_reducible refine' dpMono ?dme (by with_reducible assumption)); (case dme => wtm_at "ex")) | ((with_reducible refine' Dp.tup (Evl.st_of ?dph) ?dpa); (case dph => wtm_at "hs"); (case dpa => wtm_at "dpa")) | ((with_reducible refine' Dp.lst (Evl.sq_of ?dph) ?dpa); (case dph => wtm_at "hs"); (case dpa => wtm_at "dpa")))
local macro_rules | `(tactic| wtm_at "dpa") => `(tactic| first | with_reducible exact DpAll.nil | ((with_reducible refine' DpAll.cons ?dp1 ?dp2); (case dp1 => wtm_at "dp"); (case dp2 => wtm_at "dpa")) | with_reducible assumption | ((with_reducible refine' dpMonoA ?dme (by with_reducible assumption)); (case dme => wtm_at "ex")))
local macro_rules | `(tactic| wtm_at "sz") => `(tactic| first | with_reducible assumption | ((with_reducible refine' sz_mul ?sz1 ?sz2); (case sz1 => wtm_at "sz"); (case sz2 => wtm_at "sz")) | ((with_reducible refine' sz_add ?sz1 ?sz2); (case sz1 => wtm_at "sz"); (case sz2 => wtm_at "sz")) | ((with_reducible refine' sz_sub ?sz1 ?sz2); (case sz1 => wtm_at "sz"); (case sz2 => wtm_at "sz")) | ((with_reducible refine' sz_neg ?sz1); (case sz1 => wtm_at "sz")) | ((with_reducible refine' sz_div ?sz1); (case sz1 => wtm_at "sz")) | ((with_reducible refine' sz_fdiv ?sz1); (case sz1 => wtm_at "sz")) | exact sz_lit (by decide) | wtm_at "sz2")
local macro_rules | `(tactic| wtm_at "szb") => `(tactic| first | with_reducible assumption | ((with_reducible refine' sz_mono ?szb1 ?szb2); (case szb1 => wtm_at "sz"); (case szb2 => decide)))
local macro_rules | `(tactic| wtm_at "nz") => `(tactic| first | assumption | decide | omega)
local macro_rules | `(tactic| wtm_at "shaped") => `(tactic| first | rfl | decide)
local macro_rules | `(tactic| wtm_at "sset") => `(tactic| ((dsimp only [L2.wipe, List.set, List.set_cons_zero, List.set_cons_succ]) <;> exact rfl))
local macro_rules | `(tactic| wtm_at "nrm") => `(tactic| dsimp only [L2.start, L2.wipe, List.set, List.append, List.map, List.map_cons, List.map_nil, List.length_cons, List.length_nil, Nat.reduceAdd, Nat.reduceSub, List.reduceReplicate, List.replicate, List.cons_append, List.nil_append, List.set_cons_zero, List.set_cons_succ])
local macro_rules | `(tactic| wtm_at "st") => `(tactic| first
  | ((with_reducible refine' i_var (v := ?u0) ?u1 ?uq); (case u1 => exact rfl))
  | ((with_reducible refine' i_nameN ?u0 ?uq); (case u0 => wtm_at "sset"))
  | (with_reducible refine' i_op ?uq)
  | (with_reducible refine' i_c ?uq)
  | (with_reducible refine' i_I0 ?uq)
  | ((with_reducible refine' i_ixTI (i := ?u0) ?u1 ?u2 ?u3 ?uq); (case u1 => wtm_at "dp"); (case u2 => wtm_at "ex"); (case u3 => exact rfl))
  | ((with_reducible refine' i_ixT (d := ?u0) ?u1 ?u2 ?u3 (fun xu hxu => ?uq)); (case u1 => wtm_at "dp"); (case u2 => wtm_at "ex"); (case u3 => exact rfl))
  | ((with_reducible refine' i_mul ?u0 ?u1 ?u2 ?uq); (case u0 => wtm_at "sz"); (case u1 => wtm_at "sz"); (case u2 => first | decide | omega))
  | (with_reducible refine' i_seq ?uq)
  | (with_reducible refine' i_asg ?uq)
  | (with_reducible refine' i_ret ?uq)
  | (with_reducible refine' i_ifs ?uq)
  | (with_reducible refine' i_drop ?uq)
  | (with_reducible refine' i_next ?uq)
  | (with_reducible refine' i_cons ?uq)
  | (with_reducible refine' i_nil ?uq)
  | (with_reducible refine' i_cl ?uq)
  | (with_reducible refine' i_cb ?uq)
  | (with_reducible refine' i_tup ?uq)
  | (with_reducible refine' i_lst ?uq)
  | ((with_reducible refine' i_mkT ?u0 (fun np nH nhe nhp => ?uq)); (case u0 => exact Nat.le_of_ble_eq_true rfl))
  | (with_reducible refine' i_test ?uq)
  | (with_reducible refine' i_B ?uq)
  | (with_reducible refine' i_k ?uq)
  | (with_reducible refine' i_and ?uq)
  | (with_reducible refine' i_or ?uq)
  | (with_reducible refine' i_not ?uq)
  | (with_reducible refine' i_andV ?uq)
  | (with_reducible refine' i_orV ?uq)
  | (with_reducible refine' i_notV ?uq)
  | (with_reducible refine' i_if ?uq)
  | (with_reducible refine' i_un ?uq)
  | (with_reducible refine' i_U ?uq)
  | (with_reducible refine' i_iteT ?uq)
  | (with_reducible refine' i_iteF ?uq)
  | ((with_reducible refine' i_iteTr ?u0 ?uq); (case u0 => first | with_reducible rfl | decide | (simp only [dIsInt, dIsBool, dIsTup, dIsStr, dIsLst, Bool.not_true, Bool.not_false]; done)))
  | ((with_reducible refine' i_iteFr ?u0 ?uq); (case u0 => first | with_reducible rfl | decide | (simp only [dIsInt, dIsBool, dIsTup, dIsStr, dIsLst, Bool.not_true, Bool.not_false]; done)))
  | (with_reducible refine' i_ite (fun hif => ?uqa) (fun hif => ?uqb))
  | (with_reducible refine' i_iteN (fun hif => ?uqa) (fun hif => ?uqb))
  | (with_reducible refine' i_iteBN (fun hif => ?uqa) (fun hif => ?uqb))
  | (with_reducible refine' i_iteB (fun hif => ?uqa) (fun hif => ?uqb))
  | ((with_reducible refine' i_modN ?u0 ?uq); (case u0 => wtm_at "nz"))
  | ((with_reducible refine' i_fdX ?u0 ?u1 ?u2 ?uq); (case u0 => wtm_at "nz"); (case u1 => wtm_at "sz"); (case u2 => first | decide | omega))
  | ((with_reducible refine' i_pow ?u0 ?uq); (case u0 => exact ⟨by decide, by decide +kernel⟩))
  | (with_reducible refine' i_eqI ?uq)
  | (with_reducible refine' i_neI ?uq)
  | (with_reducible refine' i_gcd ?uq)
  | (with_reducible refine' i_qabs ?uq)
  | (with_reducible refine' i_qint ?uq)
  | (with_reducible refine' i_qintB ?uq)
  | (with_reducible refine' i_qmax2 ?uq)
  | (with_reducible refine' i_qmin2 ?uq)
  | (with_reducible refine' i_isB ?uq)
  | (with_reducible refine' i_notB ?uq)
  | (with_reducible refine' i_chain ?uq)
  | (with_reducible refine' i_qisN ?uq)
  | (with_reducible refine' i_qnotN ?uq)
  | (with_reducible refine' i_yes ?uq)
  | (with_reducible refine' i_par ?uq)
  | (with_reducible refine' i_par3 ?uq)
  | ((with_reducible refine' i_par2 ?u0 ?uq); (case u0 => wtm_at "sset"))
  | ((with_reducible refine' i_par33 ?u0 ?uq); (case u0 => wtm_at "sset"))
  | ((with_reducible refine' i_ixLI (i := ?u0) ?u1 ?u2 ?u3 ?uq); (case u1 => wtm_at "dp"); (case u2 => wtm_at "ex"); (case u3 => exact rfl))
  | ((with_reducible refine' i_ixL (d := ?u0) ?u1 ?u2 ?u3 (fun xu hxu => ?uq)); (case u1 => wtm_at "dp"); (case u2 => wtm_at "ex"); (case u3 => exact rfl))
  | ((with_reducible refine' i_qlenT ?u0 ?uq); (case u0 => wtm_at "dp"))
  | ((with_reducible refine' i_qlenL ?u0 ?uq); (case u0 => wtm_at "dp"))
  | ((with_reducible refine' i_gtup ?u0 ?u1 ?u2 (fun gvs gdp => ?uq)); (case u0 => wtm_at "dp"); (case u1 => wtm_at "ex"); (case u2 => exact rfl))
  | ((with_reducible refine' i_glst ?u0 ?u1 ?u2 (fun gvs gdp => ?uq)); (case u0 => wtm_at "dp"); (case u1 => wtm_at "ex"); (case u2 => exact rfl))
  | ((with_reducible refine' i_gconsI ?u0 (fun gr gh => ?uq)); (case u0 => with_reducible assumption))
  | ((with_reducible refine' i_gconsA ?u0 (fun gv gr gh1 gh2 => ?uq)); (case u0 => with_reducible assumption))
  | ((with_reducible refine' i_gnilA ?u0 ?uq); (case u0 => with_reducible assumption))
  | ((with_reducible refine' i_isiI ?u0 ?uq); (case u0 => wtm_at "dp"))
  | ((with_reducible refine' i_isiB ?u0 ?uq); (case u0 => wtm_at "dp"))
  | ((with_reducible refine' i_isiT ?u0 ?uq); (case u0 => wtm_at "dp"))
  | ((with_reducible refine' i_isiS ?u0 ?uq); (case u0 => wtm_at "dp"))
  | ((with_reducible refine' i_isiL ?u0 ?uq); (case u0 => wtm_at "dp"))
  | ((with_reducible refine' i_eqD ?u0 ?u1 ?u2 ?u3 ?uq); (case u0 => wtm_at "dp"); (case u1 => wtm_at "dp"); (case u2 => wtm_at "shaped"); (case u3 => wtm_at "shaped"))
  | ((with_reducible refine' i_neD ?u0 ?u1 ?u2 ?u3 ?uq); (case u0 => wtm_at "dp"); (case u1 => wtm_at "dp"); (case u2 => wtm_at "shaped"); (case u3 => wtm_at "shaped"))
  | wtm_at "st2"
  | wtm_at "use")
local macro_rules | `(tactic| wtm_at "go") => `(tactic| repeat' (wtm_at "st"))
local macro_rules | `(tactic| wtm_at "go0") => `(tactic| ((try dsimp only [L2.cxOf, L2.Cx.nox, L2.Cx.wish, L2.Cx.tr, L2.Cx.blk]); (try wtm_at "nrm"); wtm_at "go"))
local macro_rules | `(tactic| wtm_at "fin") => `(tactic| ((try dsimp only); first | with_reducible assumption | assumption | ((with_reducible refine' Ret.use ?rur ?rue ?rud); (case rur => with_reducible assumption); (case rue => wtm_at "ex"); (case rud => wtm_at "dp"))))
local macro_rules | `(tactic| wtm_at "ex") => `(tactic| first | with_reducible assumption | with_reducible exact Ex.refl _ | with_reducible exact ex_hid | ((with_reducible refine' Ex.trans ?exe (by with_reducible assumption)); (case exe => wtm_at "ex")) | ((with_reducible refine' Ex.trans ?exe (hid_ex (by with_reducible assumption))); (case exe => wtm_at "ex")) | ((with_reducible refine' Ex.trans ?exe ex_hid); (case exe => wtm_at "ex")))
local macro_rules | `(tactic| wtm_at "bag") => `(tactic| first | with_reducible assumption | ((with_reducible refine' Bag.mono ?bgm (by with_reducible assumption)); (case bgm => wtm_at "bag")))
local macro_rules | `(tactic| wtm_at "hs") => `(tactic| first | with_reducible assumption | ((with_reducible refine' hid_tup ?hb ?hp); (case hp => with_reducible assumption); (case hb => wtm_at "bag")) | ((with_reducible refine' hid_new ?hb ?hn ?hp); (case hp => with_reducible assumption); (case hn => with_reducible assumption); (case hb => wtm_at "bag")) | ((with_reducible refine' ex_at ?exe (by with_reducible assumption)); (case exe => wtm_at "ex")))
local macro_rules | `(tactic| wtm_at "st2") => `(tactic| first
  | ((with_reducible refine' i_mulC ?u0 ?uq); (case u0 => first | exact cmul_l (by decide) | exact cmul_r (by decide)))
  | ((with_reducible refine' i_ixLr (v := ?u0) ?u1 ?u2 ?uq); (case u1 => with_reducible assumption); (case u2 => exact rfl))
  | (with_reducible refine' i_sub ?uq)
  | ((with_reducible refine' i_mkL ?u0 (fun np nH nfr nhe nhp => ?uq)); (case u0 => exact Nat.le_of_ble_eq_true rfl))
  | ((with_reducible refine' i_setL (n := ?u0) ?u1 ?u2 (fun sH sh se => ?uq)); (case u1 => with_reducible assumption); (case u2 => exact rfl))
  | (with_reducible refine' i_sl ?uq)
  | (with_reducible refine' i_nopart ?uq)
  | (with_reducible refine' i_part ?uq)
  | (with_reducible refine' i_part1 ?uq))
local macro_rules | `(tactic| wtm_at "sz2") => `(tactic| ((with_reducible refine' sz_fmod ?sz1 ?sz2); (case sz1 => wtm_at "nz"); (case sz2 => wtm_at "sz")))
local macro_rules | `(tactic| wtm_at "stb") => `(tactic| first
  | ((with_reducible refine' i_mkTB ?u0 ?u1 (fun np nH nhe nhb nhp => ?uq)); (case u0 => exact Nat.le_of_ble_eq_true rfl); (case u1 => wtm_at "bag"))
  | ((with_reducible refine' i_mkLB ?u0 ?u1 (fun np nH nfr nhe nhb nhp => ?uq)); (case u0 => exact Nat.le_of_ble_eq_true rfl); (case u1 => wtm_at "bag"))
  | wtm_at "st")
local macro_rules | `(tactic| wtm_at "gob") => `(tactic| repeat' (wtm_at "stb"))
local macro_rules | `(tactic| wtm_at "gob0") => `(tactic| ((try dsimp only [L2.cxOf, L2.Cx.nox, L2.Cx.wish, L2.Cx.tr, L2.Cx.blk]); (try wtm_at "nrm"); wtm_at "gob"))
structure G (mg : Str → Option Value) : Prop where
  f_len : mg "len" = none
  f_abs : mg "abs" = none
  f_int : mg "int" = none
  f_bool : mg "bool" = none
  f_tuple : mg "tuple" = none
  f_list : mg "list" = none
  f_isinstance : mg "isinstance" = none
  f_all : mg "all" = none
  f_max : mg "max" = none
  f_min : mg "min" = none
  f_sum : mg "sum" = none
  f_range : mg "range" = none
  f_set : mg "set" = none
  f_sorted : mg "sorted" = none
  b_gcd : mg "gcd" = some (.builtin "math.gcd")
abbrev FnP (K : PySem.W.Frag) (x : Str) (st : Stmt) (f : Addr) (fd : FuncData) : Prop := FunD K x x (defArgs st) (defBody st) (defScope st) [] [] f fd
abbrev pt (x y w : Int) : PyData := .tuple [.int x, .int y, .int w]
abbrev B0 : Nat := 400
def sgn (s : Int) : Int := if 0 < s then 1 else if s < 0 then -1 else 0
abbrev det (x1 y1 w1 x2 y2 w2 x3 y3 w3 : Int) : Int := x1 * (y2 * w3 - y3 * w2) - y1 * (x2 * w3 - x3 * w2) + w1 * (x2 * y3 - x3 * y2)
@[reducible] def isInt : PyData → Bool
  | .int _ => true
  | _ => false
/-- the common divisor, with the sign of the bottom -/
def sg (g w : Int) : Int := if w < 0 then -gd g w else gd g w
theorem sg_ne {g w : Int} (h : w ≠ 0) : sg g w ≠ 0 := by
  have h1 : gd g w ≠ 0 := by
    unfold gd
    have := Nat.gcd_pos_of_pos_right (m := g.natAbs) (Int.natAbs_pos.mpr h)
    omega
  unfold sg
  split <;> omega
theorem gd_abs {g w : Int} (h : w ≠ 0) : (gd g w).natAbs ≤ w.natAbs := by
  unfold gd
  rw [Int.natAbs_natCast]
  exact Nat.gcd_le_right _ (Int.natAbs_pos.mpr h)
theorem sg_abs (g w : Int) : (sg g w).natAbs = (gd g w).natAbs := by
  unfold sg
  split
  · rw [Int.natAbs_neg]
  · rfl
theorem sz_sg {a : Nat} {g w : Int} (ha : Sz a w ∧ w ≠ 0) : Sz a (sg g w) := sz_le ha.1 (by rw [sg_abs]; exact gd_abs ha.2)
abbrev rp (x y w : Int) : PyData := pt (x.fdiv (sg (gd x y) w)) (y.fdiv (sg (gd x y) w)) (w.fdiv (sg (gd x y) w))
abbrev rf (x w : Int) : PyData := .tuple [.int (x.fdiv (sg x w)), .int (w.fdiv (sg x w))]
section
variable {P : Program} {w : World} {K : PySem.W.Frag} {mg : Str → Option Value} {base : Heap} {H H' : Hp} {Q : VK} {E : XK} {v1 v2 v3 v4 : V} {x1 y1 w1 x2 y2 w2 x3 y3 w3 x4 y4 w4 : Int}
def sp_is_integer (K : PySem.W.Frag) : Sp := A1 fun v1 H Q => ∃ d, Dp K H v1 d ∧ Q (.bl (isInt d)) H
abbrev s_is_integer : Stmt := top 6
theorem sc_is_integer : FnScope ["value"] ["value"] (defScope s_is_integer) := ⟨rfl, rfl, rfl, by decide +kernel, rfl, by decide +kernel, by decide +kernel⟩
theorem ok_is_integer {f : Addr} {fd : FuncData} (F : FnP K "is_integer" s_is_integer f fd) (g : G mg)   : FnOk P w K mg base CX0 1 f fd ["value"] (sp_is_integer K) := by
  have nd := sc_is_integer.nd
  refine F.ok sc_is_integer (fun vs H Q E h => h.len) (fun cdv A outer s H vs Q E hr h => ?_)
  obtain ⟨v1, rfl, h⟩ := h
  refine ⟨_, PSs.nox (pss_one (ps_ret (pe_and (pe_callB call_isi (by rfl) g.f_isinstance boot_isinstance (pa_cons (pv 0) (pa_cons (pe_bltn (v := .ty "int") (by rfl) g.f_int boot_int rfl) pa_nil))) (pe_one (pe_not (pe_callB call_isi (by rfl) g.f_isinstance boot_isinstance (pa_cons (pv 0) (pa_cons (pe_bltn (v := .ty "bool") (by rfl) g.f_bool boot_bool rfl) pa_nil)))))))), ?_⟩
  obtain ⟨d, hd, q⟩ := h
  cases d <;> wtm_at "go0" <;> wtm_at "fin"
theorem use_is_integer {d : PyData} (h : Dp K H v1 d) (q : Q (.bl (isInt d)) H) : sp_is_integer K [v1] H Q E := ⟨_, rfl, _, h, q⟩
def sp_shared_of (K : PySem.W.Frag) : Sp := A2 fun v1 v2 H Q => ∃ a b, v1 = .int a ∧ v2 = .int b ∧ Q (.int (gd a b)) H
theorem gd_step (a b : Int) : gd b (a.fmod b) = gd a b := by
  unfold gd
  congr 1
  have e : (Nat.gcd b.natAbs (a.fmod b).natAbs) = Nat.gcd b.natAbs a.natAbs := by
    have h : (Int.gcd b (a.fmod b)) = Int.gcd b a := by
      rw [Int.fmod_def, Int.sub_eq_add_neg, ← Int.mul_neg]
      exact Int.gcd_add_mul_left_right b a _
    exact h
  rw [e, Nat.gcd_comm]
abbrev s_shared_of : Stmt := top 7
theorem sc_shared_of : FnScope ["one", "other"] ["one", "other"] (defScope s_shared_of) := ⟨rfl, rfl, rfl, by decide +kernel, rfl, by decide +kernel, by decide +kernel⟩
theorem ok_shared_of {f : Addr} {fd : FuncData} (F : FnP K "shared_of" s_shared_of f fd) (g : G mg)   : FnOk P w K mg base CX0 1 f fd ["one", "other"] (sp_shared_of K) := by
  have nd := sc_shared_of.nd
  refine F.ok sc_shared_of (fun vs H Q E h => h.len) (fun cdv A outer s H vs Q E hr h => ?_)
  obtain ⟨v1, v2, rfl, h⟩ := h
  refine ⟨_, PSs.nox (pss_cons (ps_while PassesOwn.never (pt_cmpR op_ne (pv 1) pe_int (nomark _)) (pss_one (ps_par (i := 0) (j := 1) (by rfl) nd rfl rfl (by decide) rfl rfl (pa_cons (pv 1) (pa_cons (pe_op op_modN (pv 0) (pv 1)) pa_nil)) (by rfl)))) (pss_one (ps_ret (pe_callB call_qabs (by rfl) g.f_abs boot_abs (pa_cons (pv 0) pa_nil))))), ?_⟩
  obtain ⟨a, b, rfl, rfl, q⟩ := h
  try dsimp only [L2.cxOf, L2.Cx.nox, L2.Cx.wish]
  refine i_seq (i_tw (fun m σ H' => ∃ a' b' : Int, m = b'.natAbs ∧ σ = [some (.int a'), some (.int b')] ∧ H' = H ∧ gd a' b' = gd a b) b.natAbs ⟨a, b, rfl, rfl, rfl, rfl⟩ ?_)
  rintro m σ H' ⟨a', b', rfl, rfl, rfl, hg⟩
  wtm_at "go"
  · refine ⟨fun σ2 H2 => σ2 = [some (.int b'), some (.int (a'.fmod b'))] ∧ H2 = H', ?_, ?_⟩
    · rintro σ2 H2 ⟨rfl, rfl⟩
      refine ⟨(a'.fmod b').natAbs, ?_, b', a'.fmod b', rfl, rfl, rfl, (gd_step a' b').trans hg⟩
      have hb : b' ≠ 0 := by assumption
      exact fmod_lt a' hb
    · wtm_at "go"
      exact ⟨rfl, rfl⟩
  · dsimp only
    have hb : b' = 0 := by assumption
    subst hb
    have e : (if a' < 0 then -a' else a') = gd a b := by
      rw [← hg]
      unfold gd
      rw [Int.natAbs_zero, Nat.gcd_zero_right]
      split <;> omega
    rw [e]
    exact q
theorem use_shared_of {a b : Int} (q : Q (.int (gd a b)) H) : sp_shared_of K [.int a, .int b] H Q E := ⟨_, _, rfl, _, _, rfl, rfl, q⟩
def sp_turn_in (K : PySem.W.Frag) : Sp := A3 fun v1 v2 v3 H Q => ∃ x1 y1 w1 x2 y2 w2 x3 y3 w3, Dp K H v1 (pt x1 y1 w1) ∧ Dp K H v2 (pt x2 y2 w2) ∧ Dp K H v3 (pt x3 y3 w3) ∧ (Sz B0 x1 ∧ Sz B0 y1 ∧ Sz B0 w1) ∧ (Sz B0 x2 ∧ Sz B0 y2 ∧ Sz B0 w2) ∧ (Sz B0 x3 ∧ Sz B0 y3 ∧ Sz B0 w3) ∧ Q (.int (sgn (det x1 y1 w1 x2 y2 w2 x3 y3 w3))) H
abbrev s_turn_in : Stmt := top 13
theorem sc_turn_in : FnScope ["one", "two", "three", "across", "along", "part", "sign"] ["one", "two", "three"] (defScope s_turn_in) := ⟨rfl, rfl, rfl, by decide +kernel, rfl, by decide +kernel, by decide +kernel⟩
theorem ok_turn_in {f : Addr} {fd : FuncData} (F : FnP K "turn_in" s_turn_in f fd) (g : G mg)   : FnOk P w K mg base CX0 1 f fd ["one", "two", "three"] (sp_turn_in K) := by
  have nd := sc_turn_in.nd
  refine F.ok sc_turn_in (fun vs H Q E h => h.len) (fun cdv A outer s H vs Q E hr h => ?_)
  obtain ⟨v1, v2, v3, rfl, h⟩ := h
  refine ⟨_, PSs.nox (pss_cons (ps_set (i := 3) nd rfl (Or.inl rfl) (pe_op op_sub (pe_op op_mulX (pe_ix ix_tup (pv 1) pe_int (fun _ _ => rfl)) (pe_ix ix_tup (pv 2) pe_int (fun _ _ => rfl))) (pe_op op_mulX (pe_ix ix_tup (pv 2) pe_int (fun _ _ => rfl)) (pe_ix ix_tup (pv 1) pe_int (fun _ _ => rfl))))) (pss_cons (ps_set (i := 4) nd rfl (Or.inl rfl) (pe_op op_sub (pe_op op_mulX (pe_ix ix_tup (pv 1) pe_int (fun _ _ => rfl)) (pe_ix ix_tup (pv 2) pe_int (fun _ _ => rfl))) (pe_op op_mulX (pe_ix ix_tup (pv 2) pe_int (fun _ _ => rfl)) (pe_ix ix_tup (pv 1) pe_int (fun _ _ => rfl))))) (pss_cons (ps_set (i := 5) nd rfl (Or.inl rfl) (pe_op op_sub (pe_op op_mulX (pe_ix ix_tup (pv 1) pe_int (fun _ _ => rfl)) (pe_ix ix_tup (pv 2) pe_int (fun _ _ => rfl))) (pe_op op_mulX (pe_ix ix_tup (pv 2) pe_int (fun _ _ => rfl)) (pe_ix ix_tup (pv 1) pe_int (fun _ _ => rfl))))) (pss_cons (ps_set (i := 6) nd rfl (Or.inl rfl) (pe_op op_add (pe_op op_sub (pe_op op_mulX (pe_ix ix_tup (pv 0) pe_int (fun _ _ => rfl)) (pv 3)) (pe_op op_mulX (pe_ix ix_tup (pv 0) pe_int (fun _ _ => rfl)) (pv 4))) (pe_op op_mulX (pe_ix ix_tup (pv 0) pe_int (fun _ _ => rfl)) (pv 5)))) (pss_cons (ps_if (pt_cmpR op_gt (pv 6) pe_int (nomark _)) (pss_one (ps_ret pe_int)) pss_nil) (pss_one (ps_ret (pe_ifExp (pt_cmpR op_lt (pv 6) pe_int (nomark _)) (pe_un un_neg pe_int) pe_int)))))))), ?_⟩
  obtain ⟨x1, y1, w1, x2, y2, w2, x3, y3, w3, h1, h2, h3, ⟨a1, a2, a3⟩, ⟨b1, b2, b3⟩, ⟨c1, c2, c3⟩, q⟩ := h
  unfold sgn at q
  wtm_at "go0"
  all_goals (dsimp only; simpa only [*, if_true, if_false] using q)
theorem use_turn_in (h1 : Dp K H v1 (pt x1 y1 w1)) (h2 : Dp K H v2 (pt x2 y2 w2)) (h3 : Dp K H v3 (pt x3 y3 w3)) (a1 : Sz B0 x1) (a2 : Sz B0 y1) (a3 : Sz B0 w1) (b1 : Sz B0 x2) (b2 : Sz B0 y2) (b3 : Sz B0 w2) (c1 : Sz B0 x3) (c2 : Sz B0 y3) (c3 : Sz B0 w3)
    (q : Q (.int (sgn (det x1 y1 w1 x2 y2 w2 x3 y3 w3))) H) : sp_turn_in K [v1, v2, v3] H Q E := ⟨_, _, _, rfl, _, _, _, _, _, _, _, _, _, h1, h2, h3, ⟨a1, a2, a3⟩, ⟨b1, b2, b3⟩, ⟨c1, c2, c3⟩, q⟩
def sp_step_from (K : PySem.W.Frag) : Sp := A2 fun v1 v2 H Q => ∃ x1 y1 w1 x2 y2 w2, Dp K H v1 (pt x1 y1 w1) ∧ Dp K H v2 (pt x2 y2 w2) ∧ (Sz B0 x1 ∧ Sz B0 y1 ∧ Sz B0 w1) ∧ (Sz B0 x2 ∧ Sz B0 y2 ∧ Sz B0 w2) ∧ Ret K (.tuple [.int (x2 * w1 - x1 * w2), .int (y2 * w1 - y1 * w2)]) H Q
abbrev s_step_from : Stmt := top 14
theorem sc_step_from : FnScope ["centre", "point"] ["centre", "point"] (defScope s_step_from) := ⟨rfl, rfl, rfl, by decide +kernel, rfl, by decide +kernel, by decide +kernel⟩
theorem ok_step_from {f : Addr} {fd : FuncData} (F : FnP K "step_from" s_step_from f fd) (g : G mg)   : FnOk P w K mg base CX0 1 f fd ["centre", "point"] (sp_step_from K) := by
  have nd := sc_step_from.nd
  refine F.ok sc_step_from (fun vs H Q E h => h.len) (fun cdv A outer s H vs Q E hr h => ?_)
  obtain ⟨v1, v2, rfl, h⟩ := h
  refine ⟨_, PSs.nox (pss_one (ps_ret (pe_tup (pa_cons (pe_op op_sub (pe_op op_mulX (pe_ix ix_tup (pv 1) pe_int (fun _ _ => rfl)) (pe_ix ix_tup (pv 0) pe_int (fun _ _ => rfl))) (pe_op op_mulX (pe_ix ix_tup (pv 0) pe_int (fun _ _ => rfl)) (pe_ix ix_tup (pv 1) pe_int (fun _ _ => rfl)))) (pa_cons (pe_op op_sub (pe_op op_mulX (pe_ix ix_tup (pv 1) pe_int (fun _ _ => rfl)) (pe_ix ix_tup (pv 0) pe_int (fun _ _ => rfl))) (pe_op op_mulX (pe_ix ix_tup (pv 0) pe_int (fun _ _ => rfl)) (pe_ix ix_tup (pv 1) pe_int (fun _ _ => rfl)))) pa_nil))))), ?_⟩
  obtain ⟨x1, y1, w1, x2, y2, w2, h1, h2, ⟨a1, a2, a3⟩, ⟨b1, b2, b3⟩, q⟩ := h
  wtm_at "go0"
  all_goals wtm_at "fin"
theorem use_step_from (h1 : Dp K H v1 (pt x1 y1 w1)) (h2 : Dp K H v2 (pt x2 y2 w2)) (a1 : Sz B0 x1) (a2 : Sz B0 y1) (a3 : Sz B0 w1) (b1 : Sz B0 x2) (b2 : Sz B0 y2) (b3 : Sz B0 w2)
    (q : ∀ v H2, Ex H H2 → Dp K H2 v (.tuple [.int (x2 * w1 - x1 * w2), .int (y2 * w1 - y1 * w2)]) → Q v H2) : sp_step_from K [v1, v2] H Q E := ⟨_, _, rfl, _, _, _, _, _, _, h1, h2, ⟨a1, a2, a3⟩, ⟨b1, b2, b3⟩, q⟩
local macro_rules | `(tactic| wtm_at "use") => `(tactic| ((with_reducible refine' use_turn_in ?u0 ?u1 ?u2 ?u3 ?u4 ?u5 ?u6 ?u7 ?u8 ?u9 ?u10 ?u11 ?uq); (case u0 => wtm_at "dp"); (case u1 => wtm_at "dp"); (case u2 => wtm_at "dp"); (case u3 => wtm_at "szb"); (case u4 => wtm_at "szb"); (case u5 => wtm_at "szb"); (case u6 => wtm_at "szb"); (case u7 => wtm_at "szb"); (case u8 => wtm_at "szb"); (case u9 => wtm_at "szb"); (case u10 => wtm_at "szb"); (case u11 => wtm_at "szb")))
local macro_rules | `(tactic| wtm_at "use") => `(tactic| ((with_reducible refine' use_step_from ?u0 ?u1 ?u2 ?u3 ?u4 ?u5 ?u6 ?u7 (fun ur uH ue ud => ?uq)); (case u0 => wtm_at "dp"); (case u1 => wtm_at "dp"); (case u2 => wtm_at "szb"); (case u3 => wtm_at "szb"); (case u4 => wtm_at "szb"); (case u5 => wtm_at "szb"); (case u6 => wtm_at "szb"); (case u7 => wtm_at "szb")))
local macro_rules | `(tactic| wtm_at "use") => `(tactic| (with_reducible refine' use_shared_of ?uq))
local macro_rules | `(tactic| wtm_at "use") => `(tactic| ((with_reducible refine' use_is_integer ?u0 ?uq); (case u0 => wtm_at "dp")))
/-- whether p lies on the piece from 1 to 2 -/
def btw (x1 y1 w1 x2 y2 w2 x3 y3 w3 : Int) : Bool := decide (det x1 y1 w1 x2 y2 w2 x3 y3 w3 = 0) && decide ((x2 * w1 - x1 * w2) * (x3 * w1 - x1 * w3) + (y2 * w1 - y1 * w2) * (y3 * w1 - y1 * w3) ≤ 0)
theorem sgn_zero {s : Int} : sgn s = 0 ↔ s = 0 := by
  unfold sgn
  split
  · omega
  · split <;> omega
def sp_is_between_in (K : PySem.W.Frag) : Sp := A3 fun v1 v2 v3 H Q => ∃ x1 y1 w1 x2 y2 w2 x3 y3 w3, Dp K H v1 (pt x1 y1 w1) ∧ Dp K H v2 (pt x2 y2 w2) ∧ Dp K H v3 (pt x3 y3 w3) ∧ (Sz B0 x1 ∧ Sz B0 y1 ∧ Sz B0 w1) ∧ (Sz B0 x2 ∧ Sz B0 y2 ∧ Sz B0 w2) ∧ (Sz B0 x3 ∧ Sz B0 y3 ∧ Sz B0 w3) ∧ Ret K (.bool (btw x1 y1 w1 x2 y2 w2 x3 y3 w3)) H Q
abbrev s_is_between_in : Stmt := top 15
theorem sc_is_between_in : FnScope ["point", "one", "two", "back", "ahead"] ["point", "one", "two"] (defScope s_is_between_in) := ⟨rfl, rfl, rfl, by decide +kernel, rfl, by decide +kernel, by decide +kernel⟩
theorem ok_is_between_in {f : Addr} {fd : FuncData} (F : FnP K "is_between_in" s_is_between_in f fd) (g : G mg) (c_step_from : Cl P w K mg base 1 "step_from" (sp_step_from K)) (c_turn_in : Cl P w K mg base 1 "turn_in" (sp_turn_in K))  : FnOk P w K mg base CX0 2 f fd ["point", "one", "two"] (sp_is_between_in K) := by
  have nd := sc_is_between_in.nd
  refine F.ok sc_is_between_in (fun vs H Q E h => h.len) (fun cdv A outer s H vs Q E hr h => ?_)
  obtain ⟨v1, v2, v3, rfl, h⟩ := h
  refine ⟨_, PSs.nox (pss_cons (ps_if (pt_cmpR op_ne (pc c_turn_in hr (by decide) (by rfl) (pa_cons (pv 0) (pa_cons (pv 1) (pa_cons (pv 2) pa_nil)))) pe_int (nomark _)) (pss_one (ps_ret pe_bl)) pss_nil) (pss_cons (ps_set (i := 3) nd rfl (Or.inl rfl) (pc c_step_from hr (by decide) (by rfl) (pa_cons (pv 0) (pa_cons (pv 1) pa_nil)))) (pss_cons (ps_set (i := 4) nd rfl (Or.inl rfl) (pc c_step_from hr (by decide) (by rfl) (pa_cons (pv 0) (pa_cons (pv 2) pa_nil)))) (pss_one (ps_ret (pe_cmpR op_le (pe_op op_add (pe_op op_mulX (pe_ix ix_tup (pv 3) pe_int (fun _ _ => rfl)) (pe_ix ix_tup (pv 4) pe_int (fun _ _ => rfl))) (pe_op op_mulX (pe_ix ix_tup (pv 3) pe_int (fun _ _ => rfl)) (pe_ix ix_tup (pv 4) pe_int (fun _ _ => rfl)))) pe_int (nomark _))))))), ?_⟩
  obtain ⟨x1, y1, w1, x2, y2, w2, x3, y3, w3, h1, h2, h3, ⟨a1, a2, a3⟩, ⟨b1, b2, b3⟩, ⟨c1, c2, c3⟩, q⟩ := h
  wtm_at "go0"
  · rename_i hn
    dsimp only
    refine Ret.bl' q (by wtm_at "ex") ?_
    unfold btw
    rw [decide_eq_false (fun z => hn (sgn_zero.mpr z)), Bool.false_and]
  · have hn : sgn (det x1 y1 w1 x2 y2 w2 x3 y3 w3) = 0 := by assumption
    dsimp only
    refine Ret.bl' q (by wtm_at "ex") ?_
    unfold btw
    rw [decide_eq_true (sgn_zero.mp hn), Bool.true_and]
theorem use_is_between_in (h1 : Dp K H v1 (pt x1 y1 w1)) (h2 : Dp K H v2 (pt x2 y2 w2)) (h3 : Dp K H v3 (pt x3 y3 w3)) (a1 : Sz B0 x1) (a2 : Sz B0 y1) (a3 : Sz B0 w1) (b1 : Sz B0 x2) (b2 : Sz B0 y2) (b3 : Sz B0 w2) (c1 : Sz B0 x3) (c2 : Sz B0 y3) (c3 : Sz B0 w3)
    (q : ∀ H2, Ex H H2 → Q (.bl (btw x1 y1 w1 x2 y2 w2 x3 y3 w3)) H2) : sp_is_between_in K [v1, v2, v3] H Q E := ⟨_, _, _, rfl, _, _, _, _, _, _, _, _, _, h1, h2, h3, ⟨a1, a2, a3⟩, ⟨b1, b2, b3⟩, ⟨c1, c2, c3⟩, ret_bl q⟩
def sp_line_through (K : PySem.W.Frag) : Sp := A2 fun v1 v2 H Q => ∃ x1 y1 w1 x2 y2 w2, Dp K H v1 (pt x1 y1 w1) ∧ Dp K H v2 (pt x2 y2 w2) ∧ (Sz B0 x1 ∧ Sz B0 y1 ∧ Sz B0 w1) ∧ (Sz B0 x2 ∧ Sz B0 y2 ∧ Sz B0 w2) ∧ Ret K (pt (y1 * w2 - y2 * w1) (w1 * x2 - w2 * x1) (x1 * y2 - x2 * y1)) H Q
abbrev s_line_through : Stmt := top 16
theorem sc_line_through : FnScope ["one", "two"] ["one", "two"] (defScope s_line_through) := ⟨rfl, rfl, rfl, by decide +kernel, rfl, by decide +kernel, by decide +kernel⟩
theorem ok_line_through {f : Addr} {fd : FuncData} (F : FnP K "line_through" s_line_through f fd) (g : G mg)   : FnOk P w K mg base CX0 1 f fd ["one", "two"] (sp_line_through K) := by
  have nd := sc_line_through.nd
  refine F.ok sc_line_through (fun vs H Q E h => h.len) (fun cdv A outer s H vs Q E hr h => ?_)
  obtain ⟨v1, v2, rfl, h⟩ := h
  refine ⟨_, PSs.nox (pss_one (ps_ret (pe_tup (pa_cons (pe_op op_sub (pe_op op_mulX (pe_ix ix_tup (pv 0) pe_int (fun _ _ => rfl)) (pe_ix ix_tup (pv 1) pe_int (fun _ _ => rfl))) (pe_op op_mulX (pe_ix ix_tup (pv 1) pe_int (fun _ _ => rfl)) (pe_ix ix_tup (pv 0) pe_int (fun _ _ => rfl)))) (pa_cons (pe_op op_sub (pe_op op_mulX (pe_ix ix_tup (pv 0) pe_int (fun _ _ => rfl)) (pe_ix ix_tup (pv 1) pe_int (fun _ _ => rfl))) (pe_op op_mulX (pe_ix ix_tup (pv 1) pe_int (fun _ _ => rfl)) (pe_ix ix_tup (pv 0) pe_int (fun _ _ => rfl)))) (pa_cons (pe_op op_sub (pe_op op_mulX (pe_ix ix_tup (pv 0) pe_int (fun _ _ => rfl)) (pe_ix ix_tup (pv 1) pe_int (fun _ _ => rfl))) (pe_op op_mulX (pe_ix ix_tup (pv 1) pe_int (fun _ _ => rfl)) (pe_ix ix_tup (pv 0) pe_int (fun _ _ => rfl)))) pa_nil)))))), ?_⟩
  obtain ⟨x1, y1, w1, x2, y2, w2, h1, h2, ⟨a1, a2, a3⟩, ⟨b1, b2, b3⟩, q⟩ := h
  wtm_at "go0"
  all_goals wtm_at "fin"
theorem use_line_through (h1 : Dp K H v1 (pt x1 y1 w1)) (h2 : Dp K H v2 (pt x2 y2 w2)) (a1 : Sz B0 x1) (a2 : Sz B0 y1) (a3 : Sz B0 w1) (b1 : Sz B0 x2) (b2 : Sz B0 y2) (b3 : Sz B0 w2)
    (q : ∀ v H2, Ex H H2 → Dp K H2 v (pt (y1 * w2 - y2 * w1) (w1 * x2 - w2 * x1) (x1 * y2 - x2 * y1)) → Q v H2) : sp_line_through K [v1, v2] H Q E := ⟨_, _, rfl, _, _, _, _, _, _, h1, h2, ⟨a1, a2, a3⟩, ⟨b1, b2, b3⟩, q⟩
def sp_reduced_point (K : PySem.W.Frag) : Sp := A3 fun v1 v2 v3 H Q => ∃ x y w : Int, v1 = .int x ∧ v2 = .int y ∧ v3 = .int w ∧ w ≠ 0 ∧ Sz 9000 w ∧ Ret K (rp x y w) H Q
abbrev s_reduced_point : Stmt := top 12
theorem sc_reduced_point : FnScope ["x", "y", "w", "shared"] ["x", "y", "w"] (defScope s_reduced_point) := ⟨rfl, rfl, rfl, by decide +kernel, rfl, by decide +kernel, by decide +kernel⟩
theorem ok_reduced_point {f : Addr} {fd : FuncData} (F : FnP K "reduced_point" s_reduced_point f fd) (g : G mg)   : FnOk P w K mg base CX0 1 f fd ["x", "y", "w"] (sp_reduced_point K) := by
  have nd := sc_reduced_point.nd
  refine F.ok sc_reduced_point (fun vs H Q E h => h.len) (fun cdv A outer s H vs Q E hr h => ?_)
  obtain ⟨v1, v2, v3, rfl, h⟩ := h
  refine ⟨_, PSs.nox (pss_cons (ps_set (i := 3) nd rfl (Or.inl rfl) (pe_callBfun cr_gcd (by rfl) g.b_gcd (pa_cons (pe_callBfun cr_gcd (by rfl) g.b_gcd (pa_cons (pv 0) (pa_cons (pv 1) pa_nil))) (pa_cons (pv 2) pa_nil)))) (pss_cons (ps_if (pt_cmpR op_lt (pv 2) pe_int (nomark _)) (pss_one (ps_set (i := 3) nd rfl (Or.inl rfl) (pe_un un_neg (pv 3)))) pss_nil) (pss_one (ps_ret (pe_tup (pa_cons (pe_op op_fdivX (pv 0) (pv 3)) (pa_cons (pe_op op_fdivX (pv 1) (pv 3)) (pa_cons (pe_op op_fdivX (pv 2) (pv 3)) pa_nil)))))))), ?_⟩
  obtain ⟨x, y, w', rfl, rfl, rfl, hw, sw, q⟩ := h
  have s1 : Sz 9000 (gd (gd x y) w') := sz_le sw (gd_abs hw)
  have s2 : Sz 9000 (-gd (gd x y) w') := sz_neg s1
  have n1 : gd (gd x y) w' ≠ 0 := by
    have := sg_ne (g := gd x y) hw
    unfold sg at this
    split at this <;> omega
  have n2 : -gd (gd x y) w' ≠ 0 := by omega
  wtm_at "go0"
  all_goals (simp only [rp, sg, *, if_true, if_false] at q)
  all_goals wtm_at "fin"
theorem use_reduced_point {x y w : Int} (hw : w ≠ 0) (sw : Sz 9000 w) (q : ∀ v H2, Ex H H2 → Dp K H2 v (rp x y w) → Q v H2) : sp_reduced_point K [.int x, .int y, .int w] H Q E := ⟨_, _, _, rfl, _, _, _, rfl, rfl, rfl, hw, sw, q⟩
end
end Wb

namespace Wb
open PySem PySem.Spec PyProof.Rows L2
open Evl (Ex Ex.refl Ex.trans Ex.new)
local macro_rules | `(tactic| wtm_at "dp") => `(tactic| first | with_reducible assumption | with_reducible exact Dp.int _ | with_reducible exact Dp.bl _ | with_reducible exact Dp.str _ | with_reducible exact Dp.non | ((with_reducible refine' dpMono ?dme (by with_reducible assumption)); (case dme => wtm_at "ex")) | ((with_reducible refine' Dp.tup (Evl.st_of ?dph) ?dpa); (case dph => wtm_at "hs"); (case dpa => wtm_at "dpa")) | ((with_reducible refine' Dp.lst (Evl.sq_of ?dph) ?dpa); (case dph => wtm_at "hs"); (case dpa => wtm_at "dpa")))
local macro_rules | `(tactic| wtm_at "dpa") => `(tactic| first | with_reducible exact DpAll.nil | ((with_reducible refine' DpAll.cons ?dp1 ?dp2); (case dp1 => wtm_at "dp"); (case dp2 => wtm_at "dpa")) | with_reducible assumption | ((with_reducible refine' dpMonoA ?dme (by with_reducible assumption)); (case dme => wtm_at "ex")))
local macro_rules | `(tactic| wtm_at "sz") => `(tactic| first | with_reducible assumption | ((with_reducible refine' sz_mul ?sz1 ?sz2); (case sz1 => wtm_at "sz"); (case sz2 => wtm_at "sz")) | ((with_reducible refine' sz_add ?sz1 ?sz2); (case sz1 => wtm_at "sz"); (case sz2 => wtm_at "sz")) | ((with_reducible refine' sz_sub ?sz1 ?sz2); (case sz1 => wtm_at "sz"); (case sz2 => wtm_at "sz")) | ((with_reducible refine' sz_neg ?sz1); (case sz1 => wtm_at "sz")) | ((with_reducible refine' sz_div ?sz1); (case sz1 => wtm_at "sz")) | ((with_reducible refine' sz_fdiv ?sz1); (case sz1 => wtm_at "sz")) | exact sz_lit (by decide) | wtm_at "sz2")
local macro_rules | `(tactic| wtm_at "szb") => `(tactic| first | with_reducible assumption | ((with_reducible refine' sz_mono ?szb1 ?szb2); (case szb1 => wtm_at "sz"); (case szb2 => decide)))
local macro_rules | `(tactic| wtm_at "nz") => `(tactic| first | assumption | decide | omega)
local macro_rules | `(tactic| wtm_at "shaped") => `(tactic| first | rfl | decide)
local macro_rules | `(tactic| wtm_at "sset") => `(tactic| ((dsimp only [L2.wipe, List.set, List.set_cons_zero, List.set_cons_succ]) <;> exact rfl))
local macro_rules | `(tactic| wtm_at "nrm") => `(tactic| dsimp only [L2.start, L2.wipe, List.set, List.append, List.map, List.map_cons, List.map_nil, List.length_cons, List.length_nil, Nat.reduceAdd, Nat.reduceSub, List.reduceReplicate, List.replicate, List.cons_append, List.nil_append, List.set_cons_zero, List.set_cons_succ])
local macro_rules | `(tactic| wtm_at "st") => `(tactic| first
  | ((with_reducible refine' i_var (v := ?u0) ?u1 ?uq); (case u1 => exact rfl))
  | ((with_reducible refine' i_nameN ?u0 ?uq); (case u0 => wtm_at "sset"))
  | (with_reducible refine' i_op ?uq)
  | (with_reducible refine' i_c ?uq)
  | (with_reducible refine' i_I0 ?uq)
  | ((with_reducible refine' i_ixTI (i := ?u0) ?u1 ?u2 ?u3 ?uq); (case u1 => wtm_at "dp"); (case u2 => wtm_at "ex"); (case u3 => exact rfl))
  | ((with_reducible refine' i_ixT (d := ?u0) ?u1 ?u2 ?u3 (fun xu hxu => ?uq)); (case u1 => wtm_at "dp"); (case u2 => wtm_at "ex"); (case u3 => exact rfl))
  | ((with_reducible refine' i_mul ?u0 ?u1 ?u2 ?uq); (case u0 => wtm_at "sz"); (case u1 => wtm_at "sz"); (case u2 => first | decide | omega))
  | (with_reducible refine' i_seq ?uq)
  | (with_reducible refine' i_asg ?uq)
  | (with_reducible refine' i_ret ?uq)
  | (with_reducible refine' i_ifs ?uq)
  | (with_reducible refine' i_drop ?uq)
  | (with_reducible refine' i_next ?uq)
  | (with_reducible refine' i_cons ?uq)
  | (with_reducible refine' i_nil ?uq)
  | (with_reducible refine' i_cl ?uq)
  | (with_reducible refine' i_cb ?uq)
  | (with_reducible refine' i_tup ?uq)
  | (with_reducible refine' i_lst ?uq)
  | ((with_reducible refine' i_mkT ?u0 (fun np nH nhe nhp => ?uq)); (case u0 => exact Nat.le_of_ble_eq_true rfl))
  | (with_reducible refine' i_test ?uq)
  | (with_reducible refine' i_B ?uq)
  | (with_reducible refine' i_k ?uq)
  | (with_reducible refine' i_and ?uq)
  | (with_reducible refine' i_or ?uq)
  | (with_reducible refine' i_not ?uq)
  | (with_reducible refine' i_andV ?uq)
  | (with_reducible refine' i_orV ?uq)
  | (with_reducible refine' i_notV ?uq)
  | (with_reducible refine' i_if ?uq)
  | (with_reducible refine' i_un ?uq)
  | (with_reducible refine' i_U ?uq)
  | (with_reducible refine' i_iteT ?uq)
  | (with_reducible refine' i_iteF ?uq)
  | ((with_reducible refine' i_iteTr ?u0 ?uq); (case u0 => first | with_reducible rfl | decide | (simp only [dIsInt, dIsBool, dIsTup, dIsStr, dIsLst, Bool.not_true, Bool.not_false]; done)))
  | ((with_reducible refine' i_iteFr ?u0 ?uq); (case u0 => first | with_reducible rfl | decide | (simp only [dIsInt, dIsBool, dIsTup, dIsStr, dIsLst, Bool.not_true, Bool.not_false]; done)))
  | (with_reducible refine' i_ite (fun hif => ?uqa) (fun hif => ?uqb))
  | (with_reducible refine' i_iteN (fun hif => ?uqa) (fun hif => ?uqb))
  | (with_reducible refine' i_iteBN (fun hif => ?uqa) (fun hif => ?uqb))
  | (with_reducible refine' i_iteB (fun hif => ?uqa) (fun hif => ?uqb))
  | ((with_reducible refine' i_modN ?u0 ?uq); (case u0 => wtm_at "nz"))
  | ((with_reducible refine' i_fdX ?u0 ?u1 ?u2 ?uq); (case u0 => wtm_at "nz"); (case u1 => wtm_at "sz"); (case u2 => first | decide | omega))
  | ((with_reducible refine' i_pow ?u0 ?uq); (case u0 => exact ⟨by decide, by decide +kernel⟩))
  | (with_reducible refine' i_eqI ?uq)
  | (with_reducible refine' i_neI ?uq)
  | (with_reducible refine' i_gcd ?uq)
  | (with_reducible refine' i_qabs ?uq)
  | (with_reducible refine' i_qint ?uq)
  | (with_reducible refine' i_qintB ?uq)
  | (with_reducible refine' i_qmax2 ?uq)
  | (with_reducible refine' i_qmin2 ?uq)
  | (with_reducible refine' i_isB ?uq)
  | (with_reducible refine' i_notB ?uq)
  | (with_reducible refine' i_chain ?uq)
  | (with_reducible refine' i_qisN ?uq)
  | (with_reducible refine' i_qnotN ?uq)
  | (with_reducible refine' i_yes ?uq)
  | (with_reducible refine' i_par ?uq)
  | (with_reducible refine' i_par3 ?uq)
  | ((with_reducible refine' i_par2 ?u0 ?uq); (case u0 => wtm_at "sset"))
  | ((with_reducible refine' i_par33 ?u0 ?uq); (case u0 => wtm_at "sset"))
  | ((with_reducible refine' i_ixLI (i := ?u0) ?u1 ?u2 ?u3 ?uq); (case u1 => wtm_at "dp"); (case u2 => wtm_at "ex"); (case u3 => exact rfl))
  | ((with_reducible refine' i_ixL (d := ?u0) ?u1 ?u2 ?u3 (fun xu hxu => ?uq)); (case u1 => wtm_at "dp"); (case u2 => wtm_at "ex"); (case u3 => exact rfl))
  | ((with_reducible refine' i_qlenT ?u0 ?uq); (case u0 => wtm_at "dp"))
  | ((with_reducible refine' i_qlenL ?u0 ?uq); (case u0 => wtm_at "dp"))
  | ((with_reducible refine' i_gtup ?u0 ?u1 ?u2 (fun gvs gdp => ?uq)); (case u0 => wtm_at "dp"); (case u1 => wtm_at "ex"); (case u2 => exact rfl))
  | ((with_reducible refine' i_glst ?u0 ?u1 ?u2 (fun gvs gdp => ?uq)); (case u0 => wtm_at "dp"); (case u1 => wtm_at "ex"); (case u2 => exact rfl))
  | ((with_reducible refine' i_gconsI ?u0 (fun gr gh => ?uq)); (case u0 => with_reducible assumption))
  | ((with_reducible refine' i_gconsA ?u0 (fun gv gr gh1 gh2 => ?uq)); (case u0 => with_reducible assumption))
  | ((with_reducible refine' i_gnilA ?u0 ?uq); (case u0 => with_reducible assumption))
  | ((with_reducible refine' i_isiI ?u0 ?uq); (case u0 => wtm_at "dp"))
  | ((with_reducible refine' i_isiB ?u0 ?uq); (case u0 => wtm_at "dp"))
  | ((with_reducible refine' i_isiT ?u0 ?uq); (case u0 => wtm_at "dp"))
  | ((with_reducible refine' i_isiS ?u0 ?uq); (case u0 => wtm_at "dp"))
  | ((with_reducible refine' i_isiL ?u0 ?uq); (case u0 => wtm_at "dp"))
  | ((with_reducible refine' i_eqD ?u0 ?u1 ?u2 ?u3 ?uq); (case u0 => wtm_at "dp"); (case u1 => wtm_at "dp"); (case u2 => wtm_at "shaped"); (case u3 => wtm_at "shaped"))
  | ((with_reducible refine' i_neD ?u0 ?u1 ?u2 ?u3 ?uq); (case u0 => wtm_at "dp"); (case u1 => wtm_at "dp"); (case u2 => wtm_at "shaped"); (case u3 => wtm_at "shaped"))
  | wtm_at "st2"
  | wtm_at "use")
local macro_rules | `(tactic| wtm_at "go") => `(tactic| repeat' (wtm_at "st"))
local macro_rules | `(tactic| wtm_at "go0") => `(tactic| ((try dsimp only [L2.cxOf, L2.Cx.nox, L2.Cx.wish, L2.Cx.tr, L2.Cx.blk]); (try wtm_at "nrm"); wtm_at "go"))
local macro_rules | `(tactic| wtm_at "fin") => `(tactic| ((try dsimp only); first | with_reducible assumption | assumption | ((with_reducible refine' Ret.use ?rur ?rue ?rud); (case rur => with_reducible assumption); (case rue => wtm_at "ex"); (case rud => wtm_at "dp"))))
local macro_rules | `(tactic| wtm_at "ex") => `(tactic| first | with_reducible assumption | with_reducible exact Ex.refl _ | with_reducible exact ex_hid | ((with_reducible refine' Ex.trans ?exe (by with_reducible assumption)); (case exe => wtm_at "ex")) | ((with_reducible refine' Ex.trans ?exe (hid_ex (by with_reducible assumption))); (case exe => wtm_at "ex")) | ((with_reducible refine' Ex.trans ?exe ex_hid); (case exe => wtm_at "ex")))
local macro_rules | `(tactic| wtm_at "bag") => `(tactic| first | with_reducible assumption | ((with_reducible refine' Bag.mono ?bgm (by with_reducible assumption)); (case bgm => wtm_at "bag")))
local macro_rules | `(tactic| wtm_at "hs") => `(tactic| first | with_reducible assumption | ((with_reducible refine' hid_tup ?hb ?hp); (case hp => with_reducible assumption); (case hb => wtm_at "bag")) | ((with_reducible refine' hid_new ?hb ?hn ?hp); (case hp => with_reducible assumption); (case hn => with_reducible assumption); (case hb => wtm_at "bag")) | ((with_reducible refine' ex_at ?exe (by with_reducible assumption)); (case exe => wtm_at "ex")))
local macro_rules | `(tactic| wtm_at "st2") => `(tactic| first
  | ((with_reducible refine' i_mulC ?u0 ?uq); (case u0 => first | exact cmul_l (by decide) | exact cmul_r (by decide)))
  | ((with_reducible refine' i_ixLr (v := ?u0) ?u1 ?u2 ?uq); (case u1 => with_reducible assumption); (case u2 => exact rfl))
  | (with_reducible refine' i_sub ?uq)
  | ((with_reducible refine' i_mkL ?u0 (fun np nH nfr nhe nhp => ?uq)); (case u0 => exact Nat.le_of_ble_eq_true rfl))
  | ((with_reducible refine' i_setL (n := ?u0) ?u1 ?u2 (fun sH sh se => ?uq)); (case u1 => with_reducible assumption); (case u2 => exact rfl))
  | (with_reducible refine' i_sl ?uq)
  | (with_reducible refine' i_nopart ?uq)
  | (with_reducible refine' i_part ?uq)
  | (with_reducible refine' i_part1 ?uq))
local macro_rules | `(tactic| wtm_at "sz2") => `(tactic| ((with_reducible refine' sz_fmod ?sz1 ?sz2); (case sz1 => wtm_at "nz"); (case sz2 => wtm_at "sz")))
local macro_rules | `(tactic| wtm_at "stb") => `(tactic| first
  | ((with_reducible refine' i_mkTB ?u0 ?u1 (fun np nH nhe nhb nhp => ?uq)); (case u0 => exact Nat.le_of_ble_eq_true rfl); (case u1 => wtm_at "bag"))
  | ((with_reducible refine' i_mkLB ?u0 ?u1 (fun np nH nfr nhe nhb nhp => ?uq)); (case u0 => exact Nat.le_of_ble_eq_true rfl); (case u1 => wtm_at "bag"))
  | wtm_at "st")
local macro_rules | `(tactic| wtm_at "gob") => `(tactic| repeat' (wtm_at "stb"))
local macro_rules | `(tactic| wtm_at "gob0") => `(tactic| ((try dsimp only [L2.cxOf, L2.Cx.nox, L2.Cx.wish, L2.Cx.tr, L2.Cx.blk]); (try wtm_at "nrm"); wtm_at "gob"))
local macro_rules | `(tactic| wtm_at "use") => `(tactic| ((with_reducible refine' use_turn_in ?u0 ?u1 ?u2 ?u3 ?u4 ?u5 ?u6 ?u7 ?u8 ?u9 ?u10 ?u11 ?uq); (case u0 => wtm_at "dp"); (case u1 => wtm_at "dp"); (case u2 => wtm_at "dp"); (case u3 => wtm_at "szb"); (case u4 => wtm_at "szb"); (case u5 => wtm_at "szb"); (case u6 => wtm_at "szb"); (case u7 => wtm_at "szb"); (case u8 => wtm_at "szb"); (case u9 => wtm_at "szb"); (case u10 => wtm_at "szb"); (case u11 => wtm_at "szb")))
local macro_rules | `(tactic| wtm_at "use") => `(tactic| ((with_reducible refine' use_step_from ?u0 ?u1 ?u2 ?u3 ?u4 ?u5 ?u6 ?u7 (fun ur uH ue ud => ?uq)); (case u0 => wtm_at "dp"); (case u1 => wtm_at "dp"); (case u2 => wtm_at "szb"); (case u3 => wtm_at "szb"); (case u4 => wtm_at "szb"); (case u5 => wtm_at "szb"); (case u6 => wtm_at "szb"); (case u7 => wtm_at "szb")))
local macro_rules | `(tactic| wtm_at "use") => `(tactic| (with_reducible refine' use_shared_of ?uq))
local macro_rules | `(tactic| wtm_at "use") => `(tactic| ((with_reducible refine' use_is_integer ?u0 ?uq); (case u0 => wtm_at "dp")))
local macro_rules | `(tactic| wtm_at "use") => `(tactic| ((with_reducible refine' use_is_between_in ?u0 ?u1 ?u2 ?u3 ?u4 ?u5 ?u6 ?u7 ?u8 ?u9 ?u10 ?u11 (fun uH ue => ?uq)); (case u0 => wtm_at "dp"); (case u1 => wtm_at "dp"); (case u2 => wtm_at "dp"); (case u3 => wtm_at "szb"); (case u4 => wtm_at "szb"); (case u5 => wtm_at "szb"); (case u6 => wtm_at "szb"); (case u7 => wtm_at "szb"); (case u8 => wtm_at "szb"); (case u9 => wtm_at "szb"); (case u10 => wtm_at "szb"); (case u11 => wtm_at "szb")))
local macro_rules | `(tactic| wtm_at "use") => `(tactic| ((with_reducible refine' use_line_through ?u0 ?u1 ?u2 ?u3 ?u4 ?u5 ?u6 ?u7 (fun ur uH ue ud => ?uq)); (case u0 => wtm_at "dp"); (case u1 => wtm_at "dp"); (case u2 => wtm_at "szb"); (case u3 => wtm_at "szb"); (case u4 => wtm_at "szb"); (case u5 => wtm_at "szb"); (case u6 => wtm_at "szb"); (case u7 => wtm_at "szb")))
local macro_rules | `(tactic| wtm_at "use") => `(tactic| ((with_reducible refine' use_reduced_point ?u0 ?u1 (fun ur uH ue ud => ?uq)); (case u0 => wtm_at "nz"); (case u1 => wtm_at "szb")))
section
variable {P : Program} {w : World} {K : PySem.W.Frag} {mg : Str → Option Value} {base : Heap} {H H' : Hp} {Q : VK} {E : XK} {v1 v2 v3 v4 : V} {x1 y1 w1 x2 y2 w2 x3 y3 w3 x4 y4 w4 : Int}
def isPoint : PyData → Bool
  | .tuple [.int x, .int y, .int w] => decide (1 ≤ w) && decide (gd (gd x y) w = 1)
  | _ => false
theorem len3 {α : Type} {ds : List α} (h : (ds.length : Int) = 3) : ∃ a b c, ds = [a, b, c] := by
  match ds, h with
  | [a, b, c], _ => exact ⟨a, b, c, rfl⟩
  | [], h => simp at h
  | [_], h => simp at h
  | [_, _], h => simp at h
  | _ :: _ :: _ :: _ :: r, h =>
    simp only [List.length_cons] at h
    omega
theorem isPoint_len {ds : List PyData} (h : ¬ (ds.length : Int) = 3) : isPoint (.tuple ds) = false := by
  unfold isPoint
  split
  · rename_i e
    cases e
    exact absurd rfl h
  · rfl
theorem isInt_ex {d : PyData} (h : isInt d = true) : ∃ i, d = .int i := by
  cases d with
  | int i => exact ⟨i, rfl⟩
  | _ => cases h
theorem isPoint_no {a b c : PyData} (h : ([isInt a, isInt b, isInt c].all id) = false) : isPoint (.tuple [a, b, c]) = false := by
  unfold isPoint
  split
  · rename_i e
    cases e
    cases h
  · rfl
def sp_is_point (K : PySem.W.Frag) : Sp := A1 fun v1 H Q => ∃ d, Dp K H v1 d ∧ Ret K (.bool (isPoint d)) H Q
abbrev s_is_point : Stmt := top 9
theorem sc_is_point : FnScope ["value", "part"] ["value"] (defScope s_is_point) := ⟨rfl, rfl, rfl, by decide +kernel, rfl, by decide +kernel, by decide +kernel⟩
theorem ok_is_point {f : Addr} {fd : FuncData} (F : FnP K "is_point" s_is_point f fd) (g : G mg) (c_shared_of : Cl P w K mg base 1 "shared_of" (sp_shared_of K)) (c_is_integer : Cl P w K mg base 1 "is_integer" (sp_is_integer K))  : FnOk P w K mg base CX0 2 f fd ["value"] (sp_is_point K) := by
  have nd := sc_is_point.nd
  refine F.ok sc_is_point (fun vs H Q E h => h.len) (fun cdv A outer s H vs Q E hr h => ?_)
  obtain ⟨v1, rfl, h⟩ := h
  refine ⟨_, PSs.nox (pss_cons (ps_if (PW.pt (pw_or (pt_not (pt_val (pe_callB call_isi (by rfl) g.f_isinstance boot_isinstance (pa_cons (pv 0) (pa_cons (pe_bltn (v := .ty "tuple") (by rfl) g.f_tuple boot_tuple rfl) pa_nil))))) (pw_or1 (pt_cmpR op_ne (pe_callB call_qlen (by rfl) g.f_len boot_len (pa_cons (pv 0) pa_nil)) pe_int (nomark _))))) (pss_one (ps_ret pe_bl)) pss_nil) (pss_cons (ps_if (pt_not (pt_val (pe_callB (cr_all rfl) (by rfl) g.f_all boot_all (pa_cons (pe_lc (own := [("part", 1)]) (g := gName 1) (by rfl) nd (pi_tup (pv 0)) (blkOk_by (N := ["value", "part"]) (sc := defScope s_is_point) (own := [("part", 1)]) (by decide +kernel)) (fun _ _ _ _ _ => (pg_name (i := 1) nd rfl (Or.inl rfl))) (fun _ _ _ _ _ => pts_nil) (fun _ _ _ _ _ => (pc c_is_integer hr (by decide) (by rfl) (pa_cons (pv 1) pa_nil)))) pa_nil)))) (pss_one (ps_ret pe_bl)) pss_nil) (pss_one (ps_ret (pe_and (pe_cmpR op_ge (pe_ix ix_tup (pv 0) pe_int (fun _ _ => rfl)) pe_int (nomark _)) (pe_one (pe_cmpR op_eq (pc c_shared_of hr (by decide) (by rfl) (pa_cons (pc c_shared_of hr (by decide) (by rfl) (pa_cons (pe_ix ix_tup (pv 0) pe_int (fun _ _ => rfl)) (pa_cons (pe_ix ix_tup (pv 0) pe_int (fun _ _ => rfl)) pa_nil))) (pa_cons (pe_ix ix_tup (pv 0) pe_int (fun _ _ => rfl)) pa_nil))) pe_int (nomark _)))))))), ?_⟩
  obtain ⟨d, hd, q⟩ := h
  cases d with
  | tuple ds =>
    wtm_at "go0"
    · rename_i hn
      dsimp only
      exact Ret.bl' q (by wtm_at "ex") (isPoint_len hn)
    · rename_i hn
      obtain ⟨a, b, c, rfl⟩ := len3 hn
      refine i_lcU ?_
      wtm_at "go"
      refine i_lcT (fun _ => true) (fun d => .bool (isInt d)) hd (Nat.le_of_ble_eq_true rfl) (fun _ _ => rfl) (fun x => wipe1 x) (fun u d H2 R e2 hm hu r => ?_) (fun u d H2 R e2 hm hc hu r => ?_) (fun p H2 hp e2 hacc => ?_)
      · wtm_at "go"
        exact r _ (Ex.refl _)
      · wtm_at "go"
        exact r _ _ (Ex.refl _) (Dp.bl _)
      · obtain ⟨acc, h3, h4⟩ := hacc
        have hl : Dp K H2 (.ref p) (.list [.bool (isInt a), .bool (isInt b), .bool (isInt c)]) := .lst (Evl.sq_of h3) h4
        wtm_at "go"
        refine i_all (bs := [isInt a, isInt b, isInt c]) hl rfl ?_
        wtm_at "st"
        refine i_iteBN (fun hb => ?_) (fun hb => ?_)
        · wtm_at "go"
          dsimp only
          exact Ret.bl' q (by wtm_at "ex") (isPoint_no hb)
        · have hb2 : (isInt a && (isInt b && (isInt c && true))) = true := hb
          obtain ⟨k1, k2⟩ := Bool.and_eq_true_iff.mp hb2
          obtain ⟨k3, k4⟩ := Bool.and_eq_true_iff.mp k2
          obtain ⟨k5, _⟩ := Bool.and_eq_true_iff.mp k4
          obtain ⟨x, rfl⟩ := isInt_ex k1
          obtain ⟨y, rfl⟩ := isInt_ex k3
          obtain ⟨z, rfl⟩ := isInt_ex k5
          wtm_at "go"
          · rename_i h1
            dsimp only
            refine Ret.bl' q (by wtm_at "ex") ?_
            show (decide (1 ≤ z) && decide (gd (gd x y) z = 1)) = _
            rw [decide_eq_true h1, Bool.true_and]
          · rename_i h1
            dsimp only
            refine Ret.bl' q (by wtm_at "ex") ?_
            show (decide (1 ≤ z) && decide (gd (gd x y) z = 1)) = _
            rw [decide_eq_false h1, Bool.false_and]
  | _ =>
    wtm_at "go0"
    all_goals (dsimp only; exact Ret.bl' q (Ex.refl _) rfl)
theorem use_is_point {d : PyData} (h : Dp K H v1 d) (q : ∀ H2, Ex H H2 → Q (.bl (isPoint d)) H2) : sp_is_point K [v1] H Q E := ⟨_, rfl, _, h, ret_bl q⟩
/-- the meet of the lines through 1, 2 and 3, 4 -/
abbrev lw (x1 y1 w1 x2 y2 w2 x3 y3 w3 x4 y4 w4 : Int) : Int := (y1 * w2 - y2 * w1) * (w3 * x4 - w4 * x3) - (y3 * w4 - y4 * w3) * (w1 * x2 - w2 * x1)
abbrev lx (x1 y1 w1 x2 y2 w2 x3 y3 w3 x4 y4 w4 : Int) : Int := (w1 * x2 - w2 * x1) * (x3 * y4 - x4 * y3) - (w3 * x4 - w4 * x3) * (x1 * y2 - x2 * y1)
abbrev ly (x1 y1 w1 x2 y2 w2 x3 y3 w3 x4 y4 w4 : Int) : Int := (x1 * y2 - x2 * y1) * (y3 * w4 - y4 * w3) - (x3 * y4 - x4 * y3) * (y1 * w2 - y2 * w1)
def lmeet (x1 y1 w1 x2 y2 w2 x3 y3 w3 x4 y4 w4 : Int) : PyData := if lw x1 y1 w1 x2 y2 w2 x3 y3 w3 x4 y4 w4 = 0 then .none else
  rp (lx x1 y1 w1 x2 y2 w2 x3 y3 w3 x4 y4 w4) (ly x1 y1 w1 x2 y2 w2 x3 y3 w3 x4 y4 w4) (lw x1 y1 w1 x2 y2 w2 x3 y3 w3 x4 y4 w4)
def sp_line_meet_in (K : PySem.W.Frag) : Sp := A4 fun v1 v2 v3 v4 H Q => ∃ x1 y1 w1 x2 y2 w2 x3 y3 w3 x4 y4 w4, Dp K H v1 (pt x1 y1 w1) ∧ Dp K H v2 (pt x2 y2 w2) ∧ Dp K H v3 (pt x3 y3 w3) ∧ Dp K H v4 (pt x4 y4 w4) ∧
  (Sz B0 x1 ∧ Sz B0 y1 ∧ Sz B0 w1) ∧ (Sz B0 x2 ∧ Sz B0 y2 ∧ Sz B0 w2) ∧ (Sz B0 x3 ∧ Sz B0 y3 ∧ Sz B0 w3) ∧ (Sz B0 x4 ∧ Sz B0 y4 ∧ Sz B0 w4) ∧
  Ret K (lmeet x1 y1 w1 x2 y2 w2 x3 y3 w3 x4 y4 w4) H Q
abbrev s_line_meet_in : Stmt := top 17
theorem sc_line_meet_in : FnScope ["one", "two", "three", "four", "a", "b", "c", "d", "e", "f", "w"] ["one", "two", "three", "four"] (defScope s_line_meet_in) := ⟨rfl, rfl, rfl, by decide +kernel, rfl, by decide +kernel, by decide +kernel⟩
theorem ok_line_meet_in {f : Addr} {fd : FuncData} (F : FnP K "line_meet_in" s_line_meet_in f fd) (g : G mg) (c_line_through : Cl P w K mg base 1 "line_through" (sp_line_through K)) (c_reduced_point : Cl P w K mg base 1 "reduced_point" (sp_reduced_point K))  : FnOk P w K mg base CX0 2 f fd ["one", "two", "three", "four"] (sp_line_meet_in K) := by
  have nd := sc_line_meet_in.nd
  refine F.ok sc_line_meet_in (fun vs H Q E h => h.len) (fun cdv A outer s H vs Q E hr h => ?_)
  obtain ⟨v1, v2, v3, v4, rfl, h⟩ := h
  refine ⟨_, PSs.nox (pss_cons (ps_asg (pc c_line_through hr (by decide) (by rfl) (pa_cons (pv 0) (pa_cons (pv 1) pa_nil))) (pg_tup (n := 3) (by rfl) (pgs_cons (pg_name (i := 4) nd rfl (Or.inl rfl)) (pgs_cons (pg_name (i := 5) nd rfl (Or.inl rfl)) (pgs_cons (pg_name (i := 6) nd rfl (Or.inl rfl)) pgs_nil))))) (pss_cons (ps_asg (pc c_line_through hr (by decide) (by rfl) (pa_cons (pv 2) (pa_cons (pv 3) pa_nil))) (pg_tup (n := 3) (by rfl) (pgs_cons (pg_name (i := 7) nd rfl (Or.inl rfl)) (pgs_cons (pg_name (i := 8) nd rfl (Or.inl rfl)) (pgs_cons (pg_name (i := 9) nd rfl (Or.inl rfl)) pgs_nil))))) (pss_cons (ps_set (i := 10) nd rfl (Or.inl rfl) (pe_op op_sub (pe_op op_mulX (pv 4) (pv 8)) (pe_op op_mulX (pv 7) (pv 5)))) (pss_cons (ps_if (pt_cmpR op_eq (pv 10) pe_int (nomark _)) (pss_one (ps_ret pe_non)) pss_nil) (pss_one (ps_ret (pc c_reduced_point hr (by decide) (by rfl) (pa_cons (pe_op op_sub (pe_op op_mulX (pv 5) (pv 9)) (pe_op op_mulX (pv 8) (pv 6))) (pa_cons (pe_op op_sub (pe_op op_mulX (pv 6) (pv 7)) (pe_op op_mulX (pv 9) (pv 4))) (pa_cons (pv 10) pa_nil)))))))))), ?_⟩
  obtain ⟨x1, y1, w1, x2, y2, w2, x3, y3, w3, x4, y4, w4, h1, h2, h3, h4, ⟨a1, a2, a3⟩, ⟨b1, b2, b3⟩, ⟨c1, c2, c3⟩, ⟨d1, d2, d3⟩, q⟩ := h
  unfold lmeet at q
  wtm_at "go0"
  · rename_i hz
    rw [if_pos hz] at q
    wtm_at "fin"
  · have hz : ¬ lw x1 y1 w1 x2 y2 w2 x3 y3 w3 x4 y4 w4 = 0 := by assumption
    rw [if_neg hz] at q
    wtm_at "fin"
theorem use_line_meet_in (h1 : Dp K H v1 (pt x1 y1 w1)) (h2 : Dp K H v2 (pt x2 y2 w2)) (h3 : Dp K H v3 (pt x3 y3 w3)) (h4 : Dp K H v4 (pt x4 y4 w4)) (a1 : Sz B0 x1) (a2 : Sz B0 y1) (a3 : Sz B0 w1) (b1 : Sz B0 x2) (b2 : Sz B0 y2) (b3 : Sz B0 w2) (c1 : Sz B0 x3) (c2 : Sz B0 y3) (c3 : Sz B0 w3)
    (d1 : Sz B0 x4) (d2 : Sz B0 y4) (d3 : Sz B0 w4) (q : ∀ v H2, Ex H H2 → Dp K H2 v (lmeet x1 y1 w1 x2 y2 w2 x3 y3 w3 x4 y4 w4) → Q v H2) : sp_line_meet_in K [v1, v2, v3, v4] H Q E :=
  ⟨_, _, _, _, rfl, _, _, _, _, _, _, _, _, _, _, _, _, h1, h2, h3, h4, ⟨a1, a2, a3⟩, ⟨b1, b2, b3⟩, ⟨c1, c2, c3⟩, ⟨d1, d2, d3⟩, q⟩
end
end Wb

namespace Wb
open PySem PySem.Spec PyProof.Rows L2
open Evl (Ex Ex.refl Ex.trans Ex.new)
local macro_rules | `(tactic| wtm_at "dp") => `(tactic| first | with_reducible assumption | with_reducible exact Dp.int _ | with_reducible exact Dp.bl _ | with_reducible exact Dp.str _ | with_reducible exact Dp.non | ((with_reducible refine' dpMono ?dme (by with_reducible assumption)); (case dme => wtm_at "ex")) | ((with_reducible refine' Dp.tup (Evl.st_of ?dph) ?dpa); (case dph => wtm_at "hs"); (case dpa => wtm_at "dpa")) | ((with_reducible refine' Dp.lst (Evl.sq_of ?dph) ?dpa); (case dph => wtm_at "hs"); (case dpa => wtm_at "dpa")))
local macro_rules | `(tactic| wtm_at "dpa") => `(tactic| first | with_reducible exact DpAll.nil | ((with_reducible refine' DpAll.cons ?dp1 ?dp2); (case dp1 => wtm_at "dp"); (case dp2 => wtm_at "dpa")) | with_reducible assumption | ((with_reducible refine' dpMonoA ?dme (by with_reducible assumption)); (case dme => wtm_at "ex")))
local macro_rules | `(tactic| wtm_at "sz") => `(tactic| first | with_reducible assumption | ((with_reducible refine' sz_mul ?sz1 ?sz2); (case sz1 => wtm_at "sz"); (case sz2 => wtm_at "sz")) | ((with_reducible refine' sz_add ?sz1 ?sz2); (case sz1 => wtm_at "sz"); (case sz2 => wtm_at "sz")) | ((with_reducible refine' sz_sub ?sz1 ?sz2); (case sz1 => wtm_at "sz"); (case sz2 => wtm_at "sz")) | ((with_reducible refine' sz_neg ?sz1); (case sz1 => wtm_at "sz")) | ((with_reducible refine' sz_div ?sz1); (case sz1 => wtm_at "sz")) | ((with_reducible refine' sz_fdiv ?sz1); (case sz1 => wtm_at "sz")) | exact sz_lit (by decide) | wtm_at "sz2")
local macro_rules | `(tactic| wtm_at "szb") => `(tactic| first | with_reducible assumption | ((with_reducible refine' sz_mono ?szb1 ?szb2); (case szb1 => wtm_at "sz"); (case szb2 => decide)))
local macro_rules | `(tactic| wtm_at "nz") => `(tactic| first | assumption | decide | omega)
local macro_rules | `(tactic| wtm_at "shaped") => `(tactic| first | rfl | decide)
local macro_rules | `(tactic| wtm_at "sset") => `(tactic| ((dsimp only [L2.wipe, List.set, List.set_cons_zero, List.set_cons_succ]) <;> exact rfl))
local macro_rules | `(tactic| wtm_at "nrm") => `(tactic| dsimp only [L2.start, L2.wipe, List.set, List.append, List.map, List.map_cons, List.map_nil, List.length_cons, List.length_nil, Nat.reduceAdd, Nat.reduceSub, List.reduceReplicate, List.replicate, List.cons_append, List.nil_append, List.set_cons_zero, List.set_cons_succ])
local macro_rules | `(tactic| wtm_at "st") => `(tactic| first
  | ((with_reducible refine' i_var (v := ?u0) ?u1 ?uq); (case u1 => exact rfl))
  | ((with_reducible refine' i_nameN ?u0 ?uq); (case u0 => wtm_at "sset"))
  | (with_reducible refine' i_op ?uq)
  | (with_reducible refine' i_c ?uq)
  | (with_reducible refine' i_I0 ?uq)
  | ((with_reducible refine' i_ixTI (i := ?u0) ?u1 ?u2 ?u3 ?uq); (case u1 => wtm_at "dp"); (case u2 => wtm_at "ex"); (case u3 => exact rfl))
  | ((with_reducible refine' i_ixT (d := ?u0) ?u1 ?u2 ?u3 (fun xu hxu => ?uq)); (case u1 => wtm_at "dp"); (case u2 => wtm_at "ex"); (case u3 => exact rfl))
  | ((with_reducible refine' i_mul ?u0 ?u1 ?u2 ?uq); (case u0 => wtm_at "sz"); (case u1 => wtm_at "sz"); (case u2 => first | decide | omega))
  | (with_reducible refine' i_seq ?uq)
  | (with_reducible refine' i_asg ?uq)
  | (with_reducible refine' i_ret ?uq)
  | (with_reducible refine' i_ifs ?uq)
  | (with_reducible refine' i_drop ?uq)
  | (with_reducible refine' i_next ?uq)
  | (with_reducible refine' i_cons ?uq)
  | (with_reducible refine' i_nil ?uq)
  | (with_reducible refine' i_cl ?uq)
  | (with_reducible refine' i_cb ?uq)
  | (with_reducible refine' i_tup ?uq)
  | (with_reducible refine' i_lst ?uq)
  | ((with_reducible refine' i_mkT ?u0 (fun np nH nhe nhp => ?uq)); (case u0 => exact Nat.le_of_ble_eq_true rfl))
  | (with_reducible refine' i_test ?uq)
  | (with_reducible refine' i_B ?uq)
  | (with_reducible refine' i_k ?uq)
  | (with_reducible refine' i_and ?uq)
  | (with_reducible refine' i_or ?uq)
  | (with_reducible refine' i_not ?uq)
  | (with_reducible refine' i_andV ?uq)
  | (with_reducible refine' i_orV ?uq)
  | (with_reducible refine' i_notV ?uq)
  | (with_reducible refine' i_if ?uq)
  | (with_reducible refine' i_un ?uq)
  | (with_reducible refine' i_U ?uq)
  | (with_reducible refine' i_iteT ?uq)
  | (with_reducible refine' i_iteF ?uq)
  | ((with_reducible refine' i_iteTr ?u0 ?uq); (case u0 => first | with_reducible rfl | decide | (simp only [dIsInt, dIsBool, dIsTup, dIsStr, dIsLst, Bool.not_true, Bool.not_false]; done)))
  | ((with_reducible refine' i_iteFr ?u0 ?uq); (case u0 => first | with_reducible rfl | decide | (simp only [dIsInt, dIsBool, dIsTup, dIsStr, dIsLst, Bool.not_true, Bool.not_false]; done)))
  | (with_reducible refine' i_ite (fun hif => ?uqa) (fun hif => ?uqb))
  | (with_reducible refine' i_iteN (fun hif => ?uqa) (fun hif => ?uqb))
  | (with_reducible refine' i_iteBN (fun hif => ?uqa) (fun hif => ?uqb))
  | (with_reducible refine' i_iteB (fun hif => ?uqa) (fun hif => ?uqb))
  | ((with_reducible refine' i_modN ?u0 ?uq); (case u0 => wtm_at "nz"))
  | ((with_reducible refine' i_fdX ?u0 ?u1 ?u2 ?uq); (case u0 => wtm_at "nz"); (case u1 => wtm_at "sz"); (case u2 => first | decide | omega))
  | ((with_reducible refine' i_pow ?u0 ?uq); (case u0 => exact ⟨by decide, by decide +kernel⟩))
  | (with_reducible refine' i_eqI ?uq)
  | (with_reducible refine' i_neI ?uq)
  | (with_reducible refine' i_gcd ?uq)
  | (with_reducible refine' i_qabs ?uq)
  | (with_reducible refine' i_qint ?uq)
  | (with_reducible refine' i_qintB ?uq)
  | (with_reducible refine' i_qmax2 ?uq)
  | (with_reducible refine' i_qmin2 ?uq)
  | (with_reducible refine' i_isB ?uq)
  | (with_reducible refine' i_notB ?uq)
  | (with_reducible refine' i_chain ?uq)
  | (with_reducible refine' i_qisN ?uq)
  | (with_reducible refine' i_qnotN ?uq)
  | (with_reducible refine' i_yes ?uq)
  | (with_reducible refine' i_par ?uq)
  | (with_reducible refine' i_par3 ?uq)
  | ((with_reducible refine' i_par2 ?u0 ?uq); (case u0 => wtm_at "sset"))
  | ((with_reducible refine' i_par33 ?u0 ?uq); (case u0 => wtm_at "sset"))
  | ((with_reducible refine' i_ixLI (i := ?u0) ?u1 ?u2 ?u3 ?uq); (case u1 => wtm_at "dp"); (case u2 => wtm_at "ex"); (case u3 => exact rfl))
  | ((with_reducible refine' i_ixL (d := ?u0) ?u1 ?u2 ?u3 (fun xu hxu => ?uq)); (case u1 => wtm_at "dp"); (case u2 => wtm_at "ex"); (case u3 => exact rfl))
  | ((with_reducible refine' i_qlenT ?u0 ?uq); (case u0 => wtm_at "dp"))
  | ((with_reducible refine' i_qlenL ?u0 ?uq); (case u0 => wtm_at "dp"))
  | ((with_reducible refine' i_gtup ?u0 ?u1 ?u2 (fun gvs gdp => ?uq)); (case u0 => wtm_at "dp"); (case u1 => wtm_at "ex"); (case u2 => exact rfl))
  | ((with_reducible refine' i_glst ?u0 ?u1 ?u2 (fun gvs gdp => ?uq)); (case u0 => wtm_at "dp"); (case u1 => wtm_at "ex"); (case u2 => exact rfl))
  | ((with_reducible refine' i_gconsI ?u0 (fun gr gh => ?uq)); (case u0 => with_reducible assumption))
  | ((with_reducible refine' i_gconsA ?u0 (fun gv gr gh1 gh2 => ?uq)); (case u0 => with_reducible assumption))
  | ((with_reducible refine' i_gnilA ?u0 ?uq); (case u0 => with_reducible assumption))
  | ((with_reducible refine' i_isiI ?u0 ?uq); (case u0 => wtm_at "dp"))
  | ((with_reducible refine' i_isiB ?u0 ?uq); (case u0 => wtm_at "dp"))
  | ((with_reducible refine' i_isiT ?u0 ?uq); (case u0 => wtm_at "dp"))
  | ((with_reducible refine' i_isiS ?u0 ?uq); (case u0 => wtm_at "dp"))
  | ((with_reducible refine' i_isiL ?u0 ?uq); (case u0 => wtm_at "dp"))
  | ((with_reducible refine' i_eqD ?u0 ?u1 ?u2 ?u3 ?uq); (case u0 => wtm_at "dp"); (case u1 => wtm_at "dp"); (case u2 => wtm_at "shaped"); (case u3 => wtm_at "shaped"))
  | ((with_reducible refine' i_neD ?u0 ?u1 ?u2 ?u3 ?uq); (case u0 => wtm_at "dp"); (case u1 => wtm_at "dp"); (case u2 => wtm_at "shaped"); (case u3 => wtm_at "shaped"))
  | wtm_at "st2"
  | wtm_at "use")
local macro_rules | `(tactic| wtm_at "go") => `(tactic| repeat' (wtm_at "st"))
local macro_rules | `(tactic| wtm_at "go0") => `(tactic| ((try dsimp only [L2.cxOf, L2.Cx.nox, L2.Cx.wish, L2.Cx.tr, L2.Cx.blk]); (try wtm_at "nrm"); wtm_at "go"))
local macro_rules | `(tactic| wtm_at "fin") => `(tactic| ((try dsimp only); first | with_reducible assumption | assumption | ((with_reducible refine' Ret.use ?rur ?rue ?rud); (case rur => with_reducible assumption); (case rue => wtm_at "ex"); (case rud => wtm_at "dp"))))
local macro_rules | `(tactic| wtm_at "ex") => `(tactic| first | with_reducible assumption | with_reducible exact Ex.refl _ | with_reducible exact ex_hid | ((with_reducible refine' Ex.trans ?exe (by with_reducible assumption)); (case exe => wtm_at "ex")) | ((with_reducible refine' Ex.trans ?exe (hid_ex (by with_reducible assumption))); (case exe => wtm_at "ex")) | ((with_reducible refine' Ex.trans ?exe ex_hid); (case exe => wtm_at "ex")))
local macro_rules | `(tactic| wtm_at "bag") => `(tactic| first | with_reducible assumption | ((with_reducible refine' Bag.mono ?bgm (by with_reducible assumption)); (case bgm => wtm_at "bag")))
local macro_rules | `(tactic| wtm_at "hs") => `(tactic| first | with_reducible assumption | ((with_reducible refine' hid_tup ?hb ?hp); (case hp => with_reducible assumption); (case hb => wtm_at "bag")) | ((with_reducible refine' hid_new ?hb ?hn ?hp); (case hp => with_reducible assumption); (case hn => with_reducible assumption); (case hb => wtm_at "bag")) | ((with_reducible refine' ex_at ?exe (by with_reducible assumption)); (case exe => wtm_at "ex")))
local macro_rules | `(tactic| wtm_at "st2") => `(tactic| first
  | ((with_reducible refine' i_mulC ?u0 ?uq); (case u0 => first | exact cmul_l (by decide) | exact cmul_r (by decide)))
  | ((with_reducible refine' i_ixLr (v := ?u0) ?u1 ?u2 ?uq); (case u1 => with_reducible assumption); (case u2 => exact rfl))
  | (with_reducible refine' i_sub ?uq)
  | ((with_reducible refine' i_mkL ?u0 (fun np nH nfr nhe nhp => ?uq)); (case u0 => exact Nat.le_of_ble_eq_true rfl))
  | ((with_reducible refine' i_setL (n := ?u0) ?u1 ?u2 (fun sH sh se => ?uq)); (case u1 => with_reducible assumption); (case u2 => exact rfl))
  | (with_reducible refine' i_sl ?uq)
  | (with_reducible refine' i_nopart ?uq)
  | (with_reducible refine' i_part ?uq)
  | (with_reducible refine' i_part1 ?uq))
local macro_rules | `(tactic| wtm_at "sz2") => `(tactic| ((with_reducible refine' sz_fmod ?sz1 ?sz2); (case sz1 => wtm_at "nz"); (case sz2 => wtm_at "sz")))
local macro_rules | `(tactic| wtm_at "stb") => `(tactic| first
  | ((with_reducible refine' i_mkTB ?u0 ?u1 (fun np nH nhe nhb nhp => ?uq)); (case u0 => exact Nat.le_of_ble_eq_true rfl); (case u1 => wtm_at "bag"))
  | ((with_reducible refine' i_mkLB ?u0 ?u1 (fun np nH nfr nhe nhb nhp => ?uq)); (case u0 => exact Nat.le_of_ble_eq_true rfl); (case u1 => wtm_at "bag"))
  | wtm_at "st")
local macro_rules | `(tactic| wtm_at "gob") => `(tactic| repeat' (wtm_at "stb"))
local macro_rules | `(tactic| wtm_at "gob0") => `(tactic| ((try dsimp only [L2.cxOf, L2.Cx.nox, L2.Cx.wish, L2.Cx.tr, L2.Cx.blk]); (try wtm_at "nrm"); wtm_at "gob"))
local macro_rules | `(tactic| wtm_at "use") => `(tactic| ((with_reducible refine' use_turn_in ?u0 ?u1 ?u2 ?u3 ?u4 ?u5 ?u6 ?u7 ?u8 ?u9 ?u10 ?u11 ?uq); (case u0 => wtm_at "dp"); (case u1 => wtm_at "dp"); (case u2 => wtm_at "dp"); (case u3 => wtm_at "szb"); (case u4 => wtm_at "szb"); (case u5 => wtm_at "szb"); (case u6 => wtm_at "szb"); (case u7 => wtm_at "szb"); (case u8 => wtm_at "szb"); (case u9 => wtm_at "szb"); (case u10 => wtm_at "szb"); (case u11 => wtm_at "szb")))
local macro_rules | `(tactic| wtm_at "use") => `(tactic| ((with_reducible refine' use_step_from ?u0 ?u1 ?u2 ?u3 ?u4 ?u5 ?u6 ?u7 (fun ur uH ue ud => ?uq)); (case u0 => wtm_at "dp"); (case u1 => wtm_at "dp"); (case u2 => wtm_at "szb"); (case u3 => wtm_at "szb"); (case u4 => wtm_at "szb"); (case u5 => wtm_at "szb"); (case u6 => wtm_at "szb"); (case u7 => wtm_at "szb")))
local macro_rules | `(tactic| wtm_at "use") => `(tactic| (with_reducible refine' use_shared_of ?uq))
local macro_rules | `(tactic| wtm_at "use") => `(tactic| ((with_reducible refine' use_is_integer ?u0 ?uq); (case u0 => wtm_at "dp")))
local macro_rules | `(tactic| wtm_at "use") => `(tactic| ((with_reducible refine' use_is_between_in ?u0 ?u1 ?u2 ?u3 ?u4 ?u5 ?u6 ?u7 ?u8 ?u9 ?u10 ?u11 (fun uH ue => ?uq)); (case u0 => wtm_at "dp"); (case u1 => wtm_at "dp"); (case u2 => wtm_at "dp"); (case u3 => wtm_at "szb"); (case u4 => wtm_at "szb"); (case u5 => wtm_at "szb"); (case u6 => wtm_at "szb"); (case u7 => wtm_at "szb"); (case u8 => wtm_at "szb"); (case u9 => wtm_at "szb"); (case u10 => wtm_at "szb"); (case u11 => wtm_at "szb")))
local macro_rules | `(tactic| wtm_at "use") => `(tactic| ((with_reducible refine' use_line_through ?u0 ?u1 ?u2 ?u3 ?u4 ?u5 ?u6 ?u7 (fun ur uH ue ud => ?uq)); (case u0 => wtm_at "dp"); (case u1 => wtm_at "dp"); (case u2 => wtm_at "szb"); (case u3 => wtm_at "szb"); (case u4 => wtm_at "szb"); (case u5 => wtm_at "szb"); (case u6 => wtm_at "szb"); (case u7 => wtm_at "szb")))
local macro_rules | `(tactic| wtm_at "use") => `(tactic| ((with_reducible refine' use_reduced_point ?u0 ?u1 (fun ur uH ue ud => ?uq)); (case u0 => wtm_at "nz"); (case u1 => wtm_at "szb")))
local macro_rules | `(tactic| wtm_at "use") => `(tactic| ((with_reducible refine' use_is_point ?u0 (fun uH ue => ?uq)); (case u0 => wtm_at "dp")))
local macro_rules | `(tactic| wtm_at "use") => `(tactic| ((with_reducible refine' use_line_meet_in ?u0 ?u1 ?u2 ?u3 ?u4 ?u5 ?u6 ?u7 ?u8 ?u9 ?u10 ?u11 ?u12 ?u13 ?u14 ?u15 (fun ur uH ue ud => ?uq)); (case u0 => wtm_at "dp"); (case u1 => wtm_at "dp"); (case u2 => wtm_at "dp"); (case u3 => wtm_at "dp"); (case u4 => wtm_at "szb"); (case u5 => wtm_at "szb"); (case u6 => wtm_at "szb"); (case u7 => wtm_at "szb"); (case u8 => wtm_at "szb"); (case u9 => wtm_at "szb"); (case u10 => wtm_at "szb"); (case u11 => wtm_at "szb"); (case u12 => wtm_at "szb"); (case u13 => wtm_at "szb"); (case u14 => wtm_at "szb"); (case u15 => wtm_at "szb")))
section
variable {P : Program} {w : World} {K : PySem.W.Frag} {mg : Str → Option Value} {base : Heap} {H H' : Hp} {Q : VK} {E : XK} {v1 v2 v3 v4 : V} {x1 y1 w1 x2 y2 w2 x3 y3 w3 x4 y4 w4 : Int}
structure Exc1 (K : PySem.W.Frag) (mg : Str → Option Value) (x : Str) (C : Addr) : Prop where
  g : mg x = some (.ref C)
  x : PySem.W.excIn K C [.type "ValueError", .type "Exception", .type "BaseException", .type "object"] "ValueError.__new__" = true
  k : PySem.W.keepIn K (.ref C) = true
  b : PySem.W.subIn K (.ref C) (.type "BaseException") = some true
  t : PySem.W.typeIn K (.ref C) = some (.type "type")
  m : PySem.W.exmOne K (.ref C) (.ref C) = some true
def B1 (P : V → Hp → VK → XK → Prop) : Sp := fun vs H Q E => ∃ v1, vs = [v1] ∧ P v1 H Q E
def B2 (P : V → V → Hp → VK → XK → Prop) : Sp := fun vs H Q E => ∃ v1 v2, vs = [v1, v2] ∧ P v1 v2 H Q E
def B4 (P : V → V → V → V → Hp → VK → XK → Prop) : Sp := fun vs H Q E => ∃ v1 v2 v3 v4, vs = [v1, v2, v3, v4] ∧ P v1 v2 v3 v4 H Q E
theorem B1.len {P} {vs : List V} (h : B1 P vs H Q E) : vs.length = 1 := by obtain ⟨_, rfl, _⟩ := h; rfl
theorem B2.len {P} {vs : List V} (h : B2 P vs H Q E) : vs.length = 2 := by obtain ⟨_, _, rfl, _⟩ := h; rfl
theorem B4.len {P} {vs : List V} (h : B4 P vs H Q E) : vs.length = 4 := by obtain ⟨_, _, _, _, rfl, _⟩ := h; rfl
/-- an error of the class C leaves -/
def XL (C : Addr) (H : Hp) (E : XK) : Prop := ∀ H2, Ex H H2 → E (.ref C) none H2
theorem XL.up {C : Addr} (x : XL C H E) (e : Ex H H') : XL C H' E := fun H2 e2 => x H2 (e.trans e2)
structure ClX (P : Program) (w : World) (K : PySem.W.Frag) (mg : Str → Option Value) (base : Heap) (k : Nat) (x : Str) (sp : Sp) : Prop where
  ex : ∃ (f : Addr) (fd : FuncData) (ps : List Str), FnOk P w K mg base (L2.CX P w) k f fd ps sp ∧ mg x = some (.ref f) ∧ PySem.W.keepIn K (.ref f) = true ∧ Binds K fd ps []
theorem pcX {X : Cx} {W : WX} {k j : Nat} {x : Str} {sp : Sp} {p pos : Pos} {e : Expr} {es : List Expr} {t : TA} (c : ClX X.prog X.w X.K X.mg X.base k x sp) (tk : Takes X W) (hr : Room j X.A) (hk : k ≤ j) (hg : Gl X x) (ha : PA X (e :: es) t)
    (hdb : (x == ("__debug__" : Str)) = false := by decide) (he : starEach (e :: es) X.env = (false, eval e X.env) :: starEach es X.env := by rfl) (hpl : (backTo pos (starEach es X.env)).any (·.1) = false := by rfl) :
    PE X (.Call (.Name x p) (e :: es) [] pos) (tCallS sp (WE W) t) := by
  obtain ⟨f, fd, ps, F, hm, kp, b⟩ := c.ex
  exact pe_callS F (hr.mono hk) hg hm kp b (fun σ => passAt tk σ) ha hdb he hpl
theorem run_fnRA {X : Cx} {pins : List (Addr × Obj)} {σ : L2.St} {H : Hp} {s : Shared} {CX : CXT} {k : Nat} {f : Addr} {sp : Sp} {E : XK} {Q : VK} {us : List Value} {vs : List V} (F : FnR X.prog X.w X.K X.mg X.base CX k f sp) (hr : Room k X.A) (hx : PassesAt CX X σ E) (I : Inv X pins σ H s) (r : Vals vs us) (h : sp vs H Q E) :
    codeAny (model X.prog X.w) X.A (.call (.ref f) ⟨us, []⟩) (fun r s' => match r with | .ok (.ret v) => EP X pins σ Q v s' | .ok _ => False | .error e => X.xe e s') s := by
  refine codeAny_mono (F X.A X.stack s H us vs Q E hr I.env0 r h) fun r s' hq => ?_
  rcases r with e | fl
  · exact hx pins H s e s' I hq
  · cases fl with
    | ret u => exact I.after hq
    | _ => exact False.elim hq
structure ClXR (P : Program) (w : World) (K : PySem.W.Frag) (mg : Str → Option Value) (base : Heap) (k : Nat) (x : Str) (sp : Sp) : Prop where
  ex : ∃ f : Addr, FnR P w K mg base (L2.CX P w) k f sp ∧ mg x = some (.ref f) ∧ PySem.W.keepIn K (.ref f) = true
theorem pcXR {X : Cx} {W : WX} {k j : Nat} {x : Str} {sp : Sp} {p pos : Pos} {e : Expr} {es : List Expr} {t : TA} (c : ClXR X.prog X.w X.K X.mg X.base k x sp) (tk : Takes X W) (hr : Room j X.A) (hk : k ≤ j) (hg : Gl X x) (ha : PA X (e :: es) t)
    (hdb : (x == ("__debug__" : Str)) = false := by decide) (he : starEach (e :: es) X.env = (false, eval e X.env) :: starEach es X.env := by rfl) (hpl : (backTo pos (starEach es X.env)).any (·.1) = false := by rfl) :
    PE X (.Call (.Name x p) (e :: es) [] pos) (tCallS sp (WE W) t) := by
  obtain ⟨f, F, hm, kp⟩ := c.ex
  refine ⟨fun pins s σ H Q I h => ?_⟩
  refine wpAny_Call_Name_kw (ld_glob I hg hm ?_ hdb)
  refine PySem.W.callWith_K (h₀ := X.base) I.ok.mod.kin kp (thn (ha.run pos pins s σ H _ I h) fun us s1 ⟨vs, H1, I1, r, q⟩ => ⟨I1.kIn, ?_⟩) he hpl
  exact wpAny_call (run_fnRA F (hr.mono hk) (passAt tk σ) I1 r q)
def tStarS (K : PySem.W.Frag) (sp : Sp) (EE : L2.St → XK) (te : TE) : TE := fun σ H Q => te σ H fun y H1 => ∃ a xs, y = V.ref a ∧ (SqT K H1 a xs ∨ SqL K H1 a xs) ∧ sp xs H1 Q (EE σ)
theorem pcXS {X : Cx} {W : WX} {k j : Nat} {x : Str} {sp : Sp} {p sp_ pos : Pos} {e : Expr} {te : TE} (c : ClXR X.prog X.w X.K X.mg X.base k x sp) (tk : Takes X W) (hr : Room j X.A) (hk : k ≤ j) (hg : Gl X x) (he : PE X e te)
    (hdb : (x == ("__debug__" : Str)) = false := by decide) (hst : starEach [.Starred e sp_] X.env = [(true, eval e X.env)] := by rfl) :
    PE X (.Call (.Name x p) [.Starred e sp_] [] pos) (tStarS X.K sp (WE W) te) := by
  obtain ⟨f, F, hm, kp⟩ := c.ex
  refine ⟨fun pins s σ H Q I h => ?_⟩
  refine wpAny_Call_Name_kw (ld_glob I hg hm ?_ hdb)
  refine PySem.W.callWith_S (h₀ := X.base) I.ok.mod.kin kp (thn (he.run pins s σ H _ I h) fun v s1 ⟨y, H1, I1, ry, a, xs, ey, hxs, q⟩ => ?_) hst
  subst ey
  obtain rfl : v = Value.ref a := ry
  exact StX.star_any I1 hxs fun us s2 I2 rv => ⟨I2.kIn, wpAny_call (run_fnRA F (hr.mono hk) (passAt tk σ) I2 rv q)⟩
theorem i_cs {sp : Sp} {EE : L2.St → XK} {t : TA} {σ : L2.St} (q : t σ H fun vs H1 => sp vs H1 Q (EE σ)) : tCallS sp EE t σ H Q := q
theorem i_star {sp : Sp} {EE : L2.St → XK} {te : TE} {σ : L2.St} (q : te σ H fun y H1 => ∃ a xs, y = V.ref a ∧ (SqT K H1 a xs ∨ SqL K H1 a xs) ∧ sp xs H1 Q (EE σ)) : tStarS K sp EE te σ H Q := q
def tRaise (t : L2.St → Hp → XK → Prop) (W : WX) : TS := fun _ σ H => t σ H fun cls d H' => W cls d σ H'
theorem psR {X : Cx} {W : WX} {e : Expr} {t : L2.St → Hp → XK → Prop} {pos : Pos} (hc : X.calm = true) (tk : Takes X W) (he : PMk X e t) : PS X (.Raise (some e) none pos) (tRaise t W) := ps_raise hc tk he
theorem i_raise {C : Addr} {W : WX} {D : Ends} {σ : L2.St} (q : W (.ref C) none σ H) : tRaise (fun _ H Q => Q (.ref C) none H) W D σ H := q
theorem i_xl {C : Addr} (x : XL C H E) (e : Ex H H') : E (.ref C) none H' := x H' e
theorem isPoint_ex {d : PyData} (h : isPoint d = true) : ∃ x y w, d = pt x y w ∧ 1 ≤ w ∧ gd (gd x y) w = 1 := by
  unfold isPoint at h
  split at h
  · rename_i x y w
    have h2 := Bool.and_eq_true_iff.mp h
    exact ⟨x, y, w, rfl, of_decide_eq_true h2.1, of_decide_eq_true h2.2⟩
  · cases h
local macro_rules | `(tactic| wtm_at "st2") => `(tactic| (with_reducible refine' i_cs ?uq))
local macro_rules | `(tactic| wtm_at "st2") => `(tactic| (with_reducible refine' i_raise ?uq))
def sp_require_point (K : PySem.W.Frag) (C : Addr) : Sp := B1 fun v1 H Q E => ∃ d, Dp K H v1 d ∧ (isPoint d = true → Ret K .none H Q) ∧ (isPoint d = false → XL C H E)
abbrev s_require_point : Stmt := top 10
theorem sc_require_point : FnScope ["value"] ["value"] (defScope s_require_point) := ⟨rfl, rfl, rfl, by decide +kernel, rfl, by decide +kernel, by decide +kernel⟩
theorem ok_require_point {f : Addr} {fd : FuncData} (F : FnP K "require_point" s_require_point f fd) (g : G mg) {CP CO : Addr} (eP : Exc1 K mg "InvalidPoint" CP) (eO : Exc1 K mg "InvalidOperation" CO) (c_is_point : Cl P w K mg base 2 "is_point" (sp_is_point K)) : FnOk P w K mg base (L2.CX P w) 3 f fd ["value"] (sp_require_point K CP) := by
  have nd := sc_require_point.nd
  refine F.ok sc_require_point (fun vs H Q E h => h.len) (fun cdv A outer s H vs Q E hr h => ?_)
  obtain ⟨v1, rfl, h⟩ := h
  refine ⟨_, (pss_one (ps_if (pt_not (pt_val (pc c_is_point hr (by decide) (by rfl) (pa_cons (pv 0) pa_nil)))) (pss_one (psR rfl (takes_of rfl rfl rfl rfl) (pmk_own PySem.F.excBase_ValueError eP.x eP.g eP.k (raises_own eP.b eP.t) rfl))) pss_nil)), ?_⟩
  obtain ⟨d, hd, q, x⟩ := h
  wtm_at "go0"
  · rename_i hz
    exact x hz _ (by wtm_at "ex")
  · rename_i hz
    have q2 := q hz
    wtm_at "fin"
theorem use_require_point {d : PyData} {C : Addr} (h : Dp K H v1 d) (hp : isPoint d = true) (q : ∀ H2, Ex H H2 → Q .non H2) : sp_require_point K C [v1] H Q E := ⟨_, rfl, _, h, fun _ => ret_non q, fun z => by rw [hp] at z; cases z⟩
theorem use_require_pointX {d : PyData} {C : Addr} (h : Dp K H v1 d) (hp : isPoint d = false) (q : XL C H E) : sp_require_point K C [v1] H Q E := ⟨_, rfl, _, h, (fun z => by rw [hp] at z; cases z), fun _ => q⟩
local macro_rules | `(tactic| wtm_at "use") => `(tactic| (first | ((with_reducible refine' use_require_pointX ?u0 ?u1 ?uq); (case u0 => wtm_at "dp"); (case u1 => with_reducible assumption)) | fail))
local macro_rules | `(tactic| wtm_at "use") => `(tactic| (first | ((with_reducible refine' use_require_point ?u0 ?u1 (fun uH ue => ?uq)); (case u0 => wtm_at "dp"); (case u1 => with_reducible assumption)) | fail))
theorem i_forTP {v : V} {σ : L2.St} {D : Ends} {tb : TS} {ds : List PyData} {j : Nat} (Pd : PyData → Prop) (h : Dp K H v (.tuple ds))
    (hs : ∀ (u : V) (d : PyData) (H2 : Hp) (N : L2.St → Hp → Prop), Ex H H2 → d ∈ ds → Dp K H2 u d → (Pd d → ∀ H3, Ex H2 H3 → N (σ.set j (some u)) H3) → tb { D with nx := N, ct := N, bk := D.nx } (σ.set j (some u)) H2)
    (hd : (∀ d ∈ ds, Pd d) → ∀ (y : Option V) (H2 : Hp), Ex H H2 → D.nx (σ.set j y) H2) (h0 : σ.set j none = σ) : tFor (iTup K (tC v)) (gName j) tb D σ H := by
  obtain ⟨a, xs, rfl, hq, ha⟩ := dpTup h
  have hl : xs.length = ds.length := dpLen ha
  refine ⟨a, rfl, ⟨xs, hq⟩, for_tup (xs := xs) (fun i σ' H' => (∃ y, σ' = σ.set j y) ∧ Ex H H' ∧ ∀ k d, k < i → ds[k]? = some d → Pd d) ⟨⟨none, h0.symm⟩, Ex.refl H, fun k d hk => absurd hk (Nat.not_lt_zero k)⟩ (fun i σ' H' _ p => Evl.ex_t p.2.1 hq) (fun i x σ' H' hi p => ?_) (fun σ' H' p => ?_)⟩
  · obtain ⟨⟨y, rfl⟩, e, hp⟩ := p
    have hj : i < ds.length := by rw [← hl]; exact (List.getElem?_eq_some_iff.mp hi).1
    obtain ⟨u, h1, h2⟩ := dpGet ha (List.getElem?_eq_getElem hj)
    rw [hi] at h1
    cases h1
    show tb _ ((σ.set j y).set j (some x)) H'
    rw [List.set_set]
    refine hs x ds[i] H' _ e (List.getElem_mem hj) (dpMono e h2) fun hpd H3 e3 => ⟨⟨some x, rfl⟩, e.trans e3, fun k d hk hkd => ?_⟩
    rcases Nat.lt_succ_iff_lt_or_eq.mp hk with hk | rfl
    · exact hp k d hk hkd
    · rw [List.getElem?_eq_getElem hj] at hkd
      cases hkd
      exact hpd
  · obtain ⟨⟨y, rfl⟩, e, hp⟩ := p
    refine hd (fun d hm => ?_) y H' e
    obtain ⟨k, hk, rfl⟩ := List.mem_iff_getElem.mp hm
    exact hp k _ (by omega) (List.getElem?_eq_getElem hk)
def sp_require_points (K : PySem.W.Frag) (C : Addr) : Sp := fun vs H Q E => ∃ ds, DpAll K H vs ds ∧ ds.length ≤ 100000 ∧ ((∀ d ∈ ds, isPoint d = true) → Ret K .none H Q) ∧ (¬ (∀ d ∈ ds, isPoint d = true) → XL C H E)
abbrev s_require_points : Stmt := top 11
theorem sc_require_points : FnScope ["values", "value"] ["values"] (defScope s_require_points) := ⟨rfl, rfl, rfl, by decide +kernel, rfl, by decide +kernel, by decide +kernel⟩
theorem ok_require_points {f : Addr} {fd : FuncData} (F : FnP K "require_points" s_require_points f fd) (g : G mg) {C : Addr} (c_require_point : ClX P w K mg base 4 "require_point" (sp_require_point K C)) : FnR P w K mg base (L2.CX P w) 5 f (sp_require_points K C) := by
  have nd := sc_require_points.nd
  obtain ⟨oc, od, dV, kV, doc, pm, an, cdv, ct, osl, rfl, lk, hcd, hD, _⟩ := F.ex
  rcases hD with ⟨_, rfl⟩ | ⟨e, _⟩
  · refine FnR.weak (StX.fn_star (P := P) (w := w) (mg := mg) (base := base) (CX := L2.CX P w) (ps := []) (pv := "values") (k := 4) (sp := fun vs H Q E => ∃ a xs ds, vs = [.ref a] ∧ H a = some (.tup xs) ∧ DpAll K H xs ds ∧ ((∀ d ∈ ds, isPoint d = true) → Ret K .none H Q) ∧ (¬ (∀ d ∈ ds, isPoint d = true) → XL C H E)) lk hcd sc_require_points StX.cxUp (fun us rest hu => ?_) (fun A outer s H vs Q E hr h => ?_)) (fun vs H Q E h => ?_)
    · cases us with
      | nil => cases rest <;> rfl
      | cons _ _ => cases hu
    · obtain ⟨a, xs, ds, rfl, ha, hx, q, x⟩ := h
      refine ⟨_, (pss_one (ps_for (passes_of rfl) rfl (pi_tup (pv 0)) (pg_name (i := 1) nd rfl (Or.inl rfl)) (pss_one (ps_expr (pcX c_require_point (takes_of rfl rfl rfl rfl) hr (by decide) (by rfl) (pa_cons (pv 1) pa_nil)))))), ?_⟩
      (try dsimp only [L2.cxOf, L2.Cx.nox, L2.Cx.wish, L2.Cx.tr, L2.Cx.blk])
      refine i_forU ?_
      wtm_at "go"
      refine i_forTP (fun d => isPoint d = true) (.tup (Evl.st_of ha) hx) (fun u d H2 N e2 hm hu hN => ?_) (fun hp y H2 e2 => ?_) rfl
      · cases hpd : isPoint d with
        | true =>
          have hN2 := hN hpd
          wtm_at "go"
          exact hN2 _ (by wtm_at "ex")
        | false =>
          have x2 := (x fun z => by rw [z d hm] at hpd; cases hpd).up e2
          wtm_at "go"
          exact x2
      · have q2 := q hp
        wtm_at "fin"
    · obtain ⟨ds, hd, hl, q, x⟩ := h
      refine ⟨[], vs, rfl, rfl, Evl.sz_of (by rw [dpLen hd]; exact hl), fun p hpn => ⟨p, vs, ds, rfl, upd_same, dpMonoA (ex_upd hpn) hd, fun hp v H2 e => q hp v H2 ((ex_upd hpn).trans e), fun hp => (x hp).up (ex_upd hpn)⟩⟩
  · exact absurd rfl e
theorem use_require_points {C : Addr} {vs : List V} {ds : List PyData} (h : DpAll K H vs ds) (hl : ds.length ≤ 100000) (hp : ∀ d ∈ ds, isPoint d = true) (q : ∀ H2, Ex H H2 → Q .non H2) : sp_require_points K C vs H Q E := ⟨ds, h, hl, fun _ => ret_non q, fun z => absurd hp z⟩
theorem use_require_pointsX {C : Addr} {vs : List V} {ds : List PyData} (h : DpAll K H vs ds) (hl : ds.length ≤ 100000) (hp : ¬ ∀ d ∈ ds, isPoint d = true) (x : XL C H E) : sp_require_points K C vs H Q E := ⟨ds, h, hl, fun z => absurd z hp, fun _ => x⟩
theorem pts4 {a b c e : PyData} (h1 : isPoint a = true) (h2 : isPoint b = true) (h3 : isPoint c = true) (h4 : isPoint e = true) : ∀ d ∈ [a, b, c, e], isPoint d = true := by
  intro d hd
  simp only [List.mem_cons, List.not_mem_nil, or_false] at hd
  rcases hd with rfl | rfl | rfl | rfl <;> assumption
theorem isPoint_w {x y w : Int} (h : isPoint (pt x y w) = true) : w ≠ 0 := by
  obtain ⟨_, _, _, e, h1, _⟩ := isPoint_ex h
  cases e
  omega
end
end Wb

namespace Wb
open PySem PySem.Spec PyProof.Rows L2
open Evl (Ex Ex.refl Ex.trans Ex.new)
local macro_rules | `(tactic| wtm_at "dp") => `(tactic| first | with_reducible assumption | with_reducible exact Dp.int _ | with_reducible exact Dp.bl _ | with_reducible exact Dp.str _ | with_reducible exact Dp.non | ((with_reducible refine' dpMono ?dme (by with_reducible assumption)); (case dme => wtm_at "ex")) | ((with_reducible refine' Dp.tup (Evl.st_of ?dph) ?dpa); (case dph => wtm_at "hs"); (case dpa => wtm_at "dpa")) | ((with_reducible refine' Dp.lst (Evl.sq_of ?dph) ?dpa); (case dph => wtm_at "hs"); (case dpa => wtm_at "dpa")))
local macro_rules | `(tactic| wtm_at "dpa") => `(tactic| first | with_reducible exact DpAll.nil | ((with_reducible refine' DpAll.cons ?dp1 ?dp2); (case dp1 => wtm_at "dp"); (case dp2 => wtm_at "dpa")) | with_reducible assumption | ((with_reducible refine' dpMonoA ?dme (by with_reducible assumption)); (case dme => wtm_at "ex")))
local macro_rules | `(tactic| wtm_at "sz") => `(tactic| first | with_reducible assumption | ((with_reducible refine' sz_mul ?sz1 ?sz2); (case sz1 => wtm_at "sz"); (case sz2 => wtm_at "sz")) | ((with_reducible refine' sz_add ?sz1 ?sz2); (case sz1 => wtm_at "sz"); (case sz2 => wtm_at "sz")) | ((with_reducible refine' sz_sub ?sz1 ?sz2); (case sz1 => wtm_at "sz"); (case sz2 => wtm_at "sz")) | ((with_reducible refine' sz_neg ?sz1); (case sz1 => wtm_at "sz")) | ((with_reducible refine' sz_div ?sz1); (case sz1 => wtm_at "sz")) | ((with_reducible refine' sz_fdiv ?sz1); (case sz1 => wtm_at "sz")) | exact sz_lit (by decide) | wtm_at "sz2")
local macro_rules | `(tactic| wtm_at "szb") => `(tactic| first | with_reducible assumption | ((with_reducible refine' sz_mono ?szb1 ?szb2); (case szb1 => wtm_at "sz"); (case szb2 => decide)))
local macro_rules | `(tactic| wtm_at "nz") => `(tactic| first | assumption | decide | omega)
local macro_rules | `(tactic| wtm_at "shaped") => `(tactic| first | rfl | decide)
local macro_rules | `(tactic| wtm_at "sset") => `(tactic| ((dsimp only [L2.wipe, List.set, List.set_cons_zero, List.set_cons_succ]) <;> exact rfl))
local macro_rules | `(tactic| wtm_at "nrm") => `(tactic| dsimp only [L2.start, L2.wipe, List.set, List.append, List.map, List.map_cons, List.map_nil, List.length_cons, List.length_nil, Nat.reduceAdd, Nat.reduceSub, List.reduceReplicate, List.replicate, List.cons_append, List.nil_append, List.set_cons_zero, List.set_cons_succ])
local macro_rules | `(tactic| wtm_at "st") => `(tactic| first
  | ((with_reducible refine' i_var (v := ?u0) ?u1 ?uq); (case u1 => exact rfl))
  | ((with_reducible refine' i_nameN ?u0 ?uq); (case u0 => wtm_at "sset"))
  | (with_reducible refine' i_op ?uq)
  | (with_reducible refine' i_c ?uq)
  | (with_reducible refine' i_I0 ?uq)
  | ((with_reducible refine' i_ixTI (i := ?u0) ?u1 ?u2 ?u3 ?uq); (case u1 => wtm_at "dp"); (case u2 => wtm_at "ex"); (case u3 => exact rfl))
  | ((with_reducible refine' i_ixT (d := ?u0) ?u1 ?u2 ?u3 (fun xu hxu => ?uq)); (case u1 => wtm_at "dp"); (case u2 => wtm_at "ex"); (case u3 => exact rfl))
  | ((with_reducible refine' i_mul ?u0 ?u1 ?u2 ?uq); (case u0 => wtm_at "sz"); (case u1 => wtm_at "sz"); (case u2 => first | decide | omega))
  | (with_reducible refine' i_seq ?uq)
  | (with_reducible refine' i_asg ?uq)
  | (with_reducible refine' i_ret ?uq)
  | (with_reducible refine' i_ifs ?uq)
  | (with_reducible refine' i_drop ?uq)
  | (with_reducible refine' i_next ?uq)
  | (with_reducible refine' i_cons ?uq)
  | (with_reducible refine' i_nil ?uq)
  | (with_reducible refine' i_cl ?uq)
  | (with_reducible refine' i_cb ?uq)
  | (with_reducible refine' i_tup ?uq)
  | (with_reducible refine' i_lst ?uq)
  | ((with_reducible refine' i_mkT ?u0 (fun np nH nhe nhp => ?uq)); (case u0 => exact Nat.le_of_ble_eq_true rfl))
  | (with_reducible refine' i_test ?uq)
  | (with_reducible refine' i_B ?uq)
  | (with_reducible refine' i_k ?uq)
  | (with_reducible refine' i_and ?uq)
  | (with_reducible refine' i_or ?uq)
  | (with_reducible refine' i_not ?uq)
  | (with_reducible refine' i_andV ?uq)
  | (with_reducible refine' i_orV ?uq)
  | (with_reducible refine' i_notV ?uq)
  | (with_reducible refine' i_if ?uq)
  | (with_reducible refine' i_un ?uq)
  | (with_reducible refine' i_U ?uq)
  | (with_reducible refine' i_iteT ?uq)
  | (with_reducible refine' i_iteF ?uq)
  | ((with_reducible refine' i_iteTr ?u0 ?uq); (case u0 => first | with_reducible rfl | decide | (simp only [dIsInt, dIsBool, dIsTup, dIsStr, dIsLst, Bool.not_true, Bool.not_false]; done)))
  | ((with_reducible refine' i_iteFr ?u0 ?uq); (case u0 => first | with_reducible rfl | decide | (simp only [dIsInt, dIsBool, dIsTup, dIsStr, dIsLst, Bool.not_true, Bool.not_false]; done)))
  | (with_reducible refine' i_ite (fun hif => ?uqa) (fun hif => ?uqb))
  | (with_reducible refine' i_iteN (fun hif => ?uqa) (fun hif => ?uqb))
  | (with_reducible refine' i_iteBN (fun hif => ?uqa) (fun hif => ?uqb))
  | (with_reducible refine' i_iteB (fun hif => ?uqa) (fun hif => ?uqb))
  | ((with_reducible refine' i_modN ?u0 ?uq); (case u0 => wtm_at "nz"))
  | ((with_reducible refine' i_fdX ?u0 ?u1 ?u2 ?uq); (case u0 => wtm_at "nz"); (case u1 => wtm_at "sz"); (case u2 => first | decide | omega))
  | ((with_reducible refine' i_pow ?u0 ?uq); (case u0 => exact ⟨by decide, by decide +kernel⟩))
  | (with_reducible refine' i_eqI ?uq)
  | (with_reducible refine' i_neI ?uq)
  | (with_reducible refine' i_gcd ?uq)
  | (with_reducible refine' i_qabs ?uq)
  | (with_reducible refine' i_qint ?uq)
  | (with_reducible refine' i_qintB ?uq)
  | (with_reducible refine' i_qmax2 ?uq)
  | (with_reducible refine' i_qmin2 ?uq)
  | (with_reducible refine' i_isB ?uq)
  | (with_reducible refine' i_notB ?uq)
  | (with_reducible refine' i_chain ?uq)
  | (with_reducible refine' i_qisN ?uq)
  | (with_reducible refine' i_qnotN ?uq)
  | (with_reducible refine' i_yes ?uq)
  | (with_reducible refine' i_par ?uq)
  | (with_reducible refine' i_par3 ?uq)
  | ((with_reducible refine' i_par2 ?u0 ?uq); (case u0 => wtm_at "sset"))
  | ((with_reducible refine' i_par33 ?u0 ?uq); (case u0 => wtm_at "sset"))
  | ((with_reducible refine' i_ixLI (i := ?u0) ?u1 ?u2 ?u3 ?uq); (case u1 => wtm_at "dp"); (case u2 => wtm_at "ex"); (case u3 => exact rfl))
  | ((with_reducible refine' i_ixL (d := ?u0) ?u1 ?u2 ?u3 (fun xu hxu => ?uq)); (case u1 => wtm_at "dp"); (case u2 => wtm_at "ex"); (case u3 => exact rfl))
  | ((with_reducible refine' i_qlenT ?u0 ?uq); (case u0 => wtm_at "dp"))
  | ((with_reducible refine' i_qlenL ?u0 ?uq); (case u0 => wtm_at "dp"))
  | ((with_reducible refine' i_gtup ?u0 ?u1 ?u2 (fun gvs gdp => ?uq)); (case u0 => wtm_at "dp"); (case u1 => wtm_at "ex"); (case u2 => exact rfl))
  | ((with_reducible refine' i_glst ?u0 ?u1 ?u2 (fun gvs gdp => ?uq)); (case u0 => wtm_at "dp"); (case u1 => wtm_at "ex"); (case u2 => exact rfl))
  | ((with_reducible refine' i_gconsI ?u0 (fun gr gh => ?uq)); (case u0 => with_reducible assumption))
  | ((with_reducible refine' i_gconsA ?u0 (fun gv gr gh1 gh2 => ?uq)); (case u0 => with_reducible assumption))
  | ((with_reducible refine' i_gnilA ?u0 ?uq); (case u0 => with_reducible assumption))
  | ((with_reducible refine' i_isiI ?u0 ?uq); (case u0 => wtm_at "dp"))
  | ((with_reducible refine' i_isiB ?u0 ?uq); (case u0 => wtm_at "dp"))
  | ((with_reducible refine' i_isiT ?u0 ?uq); (case u0 => wtm_at "dp"))
  | ((with_reducible refine' i_isiS ?u0 ?uq); (case u0 => wtm_at "dp"))
  | ((with_reducible refine' i_isiL ?u0 ?uq); (case u0 => wtm_at "dp"))
  | ((with_reducible refine' i_eqD ?u0 ?u1 ?u2 ?u3 ?uq); (case u0 => wtm_at "dp"); (case u1 => wtm_at "dp"); (case u2 => wtm_at "shaped"); (case u3 => wtm_at "shaped"))
  | ((with_reducible refine' i_neD ?u0 ?u1 ?u2 ?u3 ?uq); (case u0 => wtm_at "dp"); (case u1 => wtm_at "dp"); (case u2 => wtm_at "shaped"); (case u3 => wtm_at "shaped"))
  | wtm_at "st2"
  | wtm_at "use")
local macro_rules | `(tactic| wtm_at "go") => `(tactic| repeat' (wtm_at "st"))
local macro_rules | `(tactic| wtm_at "go0") => `(tactic| ((try dsimp only [L2.cxOf, L2.Cx.nox, L2.Cx.wish, L2.Cx.tr, L2.Cx.blk]); (try wtm_at "nrm"); wtm_at "go"))
local macro_rules | `(tactic| wtm_at "fin") => `(tactic| ((try dsimp only); first | with_reducible assumption | assumption | ((with_reducible refine' Ret.use ?rur ?rue ?rud); (case rur => with_reducible assumption); (case rue => wtm_at "ex"); (case rud => wtm_at "dp"))))
local macro_rules | `(tactic| wtm_at "ex") => `(tactic| first | with_reducible assumption | with_reducible exact Ex.refl _ | with_reducible exact ex_hid | ((with_reducible refine' Ex.trans ?exe (by with_reducible assumption)); (case exe => wtm_at "ex")) | ((with_reducible refine' Ex.trans ?exe (hid_ex (by with_reducible assumption))); (case exe => wtm_at "ex")) | ((with_reducible refine' Ex.trans ?exe ex_hid); (case exe => wtm_at "ex")))
local macro_rules | `(tactic| wtm_at "bag") => `(tactic| first | with_reducible assumption | ((with_reducible refine' Bag.mono ?bgm (by with_reducible assumption)); (case bgm => wtm_at "bag")))
local macro_rules | `(tactic| wtm_at "hs") => `(tactic| first | with_reducible assumption | ((with_reducible refine' hid_tup ?hb ?hp); (case hp => with_reducible assumption); (case hb => wtm_at "bag")) | ((with_reducible refine' hid_new ?hb ?hn ?hp); (case hp => with_reducible assumption); (case hn => with_reducible assumption); (case hb => wtm_at "bag")) | ((with_reducible refine' ex_at ?exe (by with_reducible assumption)); (case exe => wtm_at "ex")))
local macro_rules | `(tactic| wtm_at "st2") => `(tactic| first
  | ((with_reducible refine' i_mulC ?u0 ?uq); (case u0 => first | exact cmul_l (by decide) | exact cmul_r (by decide)))
  | ((with_reducible refine' i_ixLr (v := ?u0) ?u1 ?u2 ?uq); (case u1 => with_reducible assumption); (case u2 => exact rfl))
  | (with_reducible refine' i_sub ?uq)
  | ((with_reducible refine' i_mkL ?u0 (fun np nH nfr nhe nhp => ?uq)); (case u0 => exact Nat.le_of_ble_eq_true rfl))
  | ((with_reducible refine' i_setL (n := ?u0) ?u1 ?u2 (fun sH sh se => ?uq)); (case u1 => with_reducible assumption); (case u2 => exact rfl))
  | (with_reducible refine' i_sl ?uq)
  | (with_reducible refine' i_nopart ?uq)
  | (with_reducible refine' i_part ?uq)
  | (with_reducible refine' i_part1 ?uq))
local macro_rules | `(tactic| wtm_at "sz2") => `(tactic| ((with_reducible refine' sz_fmod ?sz1 ?sz2); (case sz1 => wtm_at "nz"); (case sz2 => wtm_at "sz")))
local macro_rules | `(tactic| wtm_at "stb") => `(tactic| first
  | ((with_reducible refine' i_mkTB ?u0 ?u1 (fun np nH nhe nhb nhp => ?uq)); (case u0 => exact Nat.le_of_ble_eq_true rfl); (case u1 => wtm_at "bag"))
  | ((with_reducible refine' i_mkLB ?u0 ?u1 (fun np nH nfr nhe nhb nhp => ?uq)); (case u0 => exact Nat.le_of_ble_eq_true rfl); (case u1 => wtm_at "bag"))
  | wtm_at "st")
local macro_rules | `(tactic| wtm_at "gob") => `(tactic| repeat' (wtm_at "stb"))
local macro_rules | `(tactic| wtm_at "gob0") => `(tactic| ((try dsimp only [L2.cxOf, L2.Cx.nox, L2.Cx.wish, L2.Cx.tr, L2.Cx.blk]); (try wtm_at "nrm"); wtm_at "gob"))
local macro_rules | `(tactic| wtm_at "use") => `(tactic| ((with_reducible refine' use_turn_in ?u0 ?u1 ?u2 ?u3 ?u4 ?u5 ?u6 ?u7 ?u8 ?u9 ?u10 ?u11 ?uq); (case u0 => wtm_at "dp"); (case u1 => wtm_at "dp"); (case u2 => wtm_at "dp"); (case u3 => wtm_at "szb"); (case u4 => wtm_at "szb"); (case u5 => wtm_at "szb"); (case u6 => wtm_at "szb"); (case u7 => wtm_at "szb"); (case u8 => wtm_at "szb"); (case u9 => wtm_at "szb"); (case u10 => wtm_at "szb"); (case u11 => wtm_at "szb")))
local macro_rules | `(tactic| wtm_at "use") => `(tactic| ((with_reducible refine' use_step_from ?u0 ?u1 ?u2 ?u3 ?u4 ?u5 ?u6 ?u7 (fun ur uH ue ud => ?uq)); (case u0 => wtm_at "dp"); (case u1 => wtm_at "dp"); (case u2 => wtm_at "szb"); (case u3 => wtm_at "szb"); (case u4 => wtm_at "szb"); (case u5 => wtm_at "szb"); (case u6 => wtm_at "szb"); (case u7 => wtm_at "szb")))
local macro_rules | `(tactic| wtm_at "use") => `(tactic| (with_reducible refine' use_shared_of ?uq))
local macro_rules | `(tactic| wtm_at "use") => `(tactic| ((with_reducible refine' use_is_integer ?u0 ?uq); (case u0 => wtm_at "dp")))
local macro_rules | `(tactic| wtm_at "use") => `(tactic| ((with_reducible refine' use_is_between_in ?u0 ?u1 ?u2 ?u3 ?u4 ?u5 ?u6 ?u7 ?u8 ?u9 ?u10 ?u11 (fun uH ue => ?uq)); (case u0 => wtm_at "dp"); (case u1 => wtm_at "dp"); (case u2 => wtm_at "dp"); (case u3 => wtm_at "szb"); (case u4 => wtm_at "szb"); (case u5 => wtm_at "szb"); (case u6 => wtm_at "szb"); (case u7 => wtm_at "szb"); (case u8 => wtm_at "szb"); (case u9 => wtm_at "szb"); (case u10 => wtm_at "szb"); (case u11 => wtm_at "szb")))
local macro_rules | `(tactic| wtm_at "use") => `(tactic| ((with_reducible refine' use_line_through ?u0 ?u1 ?u2 ?u3 ?u4 ?u5 ?u6 ?u7 (fun ur uH ue ud => ?uq)); (case u0 => wtm_at "dp"); (case u1 => wtm_at "dp"); (case u2 => wtm_at "szb"); (case u3 => wtm_at "szb"); (case u4 => wtm_at "szb"); (case u5 => wtm_at "szb"); (case u6 => wtm_at "szb"); (case u7 => wtm_at "szb")))
local macro_rules | `(tactic| wtm_at "use") => `(tactic| ((with_reducible refine' use_reduced_point ?u0 ?u1 (fun ur uH ue ud => ?uq)); (case u0 => wtm_at "nz"); (case u1 => wtm_at "szb")))
local macro_rules | `(tactic| wtm_at "use") => `(tactic| ((with_reducible refine' use_is_point ?u0 (fun uH ue => ?uq)); (case u0 => wtm_at "dp")))
local macro_rules | `(tactic| wtm_at "use") => `(tactic| ((with_reducible refine' use_line_meet_in ?u0 ?u1 ?u2 ?u3 ?u4 ?u5 ?u6 ?u7 ?u8 ?u9 ?u10 ?u11 ?u12 ?u13 ?u14 ?u15 (fun ur uH ue ud => ?uq)); (case u0 => wtm_at "dp"); (case u1 => wtm_at "dp"); (case u2 => wtm_at "dp"); (case u3 => wtm_at "dp"); (case u4 => wtm_at "szb"); (case u5 => wtm_at "szb"); (case u6 => wtm_at "szb"); (case u7 => wtm_at "szb"); (case u8 => wtm_at "szb"); (case u9 => wtm_at "szb"); (case u10 => wtm_at "szb"); (case u11 => wtm_at "szb"); (case u12 => wtm_at "szb"); (case u13 => wtm_at "szb"); (case u14 => wtm_at "szb"); (case u15 => wtm_at "szb")))
section
variable {P : Program} {w : World} {K : PySem.W.Frag} {mg : Str → Option Value} {base : Heap} {H H' : Hp} {Q : VK} {E : XK} {v1 v2 v3 v4 : V} {x1 y1 w1 x2 y2 w2 x3 y3 w3 x4 y4 w4 : Int}
def sp_x_less (K : PySem.W.Frag) : Sp := A2 fun v1 v2 H Q => ∃ x1 y1 w1 x2 y2 w2 : Int, Dp K H v1 (pt x1 y1 w1) ∧ Dp K H v2 (pt x2 y2 w2) ∧ (Sz B0 x1 ∧ Sz B0 y1 ∧ Sz B0 w1) ∧ (Sz B0 x2 ∧ Sz B0 y2 ∧ Sz B0 w2) ∧ Q (.bl (decide (x1 * w2 < x2 * w1))) H
abbrev s_x_less : Stmt := top 18
theorem sc_x_less : FnScope ["one", "two"] ["one", "two"] (defScope s_x_less) := ⟨rfl, rfl, rfl, by decide +kernel, rfl, by decide +kernel, by decide +kernel⟩
theorem ok_x_less {f : Addr} {fd : FuncData} (F : FnP K "x_less" s_x_less f fd) (g : G mg)   : FnOk P w K mg base CX0 1 f fd ["one", "two"] (sp_x_less K) := by
  have nd := sc_x_less.nd
  refine F.ok sc_x_less (fun vs H Q E h => h.len) (fun cdv A outer s H vs Q E hr h => ?_)
  obtain ⟨v1, v2, rfl, h⟩ := h
  refine ⟨_, PSs.nox (pss_one (ps_ret (pe_cmpR op_lt (pe_op op_mulX (pe_ix ix_tup (pv 0) pe_int (fun _ _ => rfl)) (pe_ix ix_tup (pv 1) pe_int (fun _ _ => rfl))) (pe_op op_mulX (pe_ix ix_tup (pv 1) pe_int (fun _ _ => rfl)) (pe_ix ix_tup (pv 0) pe_int (fun _ _ => rfl))) (nomark _)))), ?_⟩
  obtain ⟨x1, y1, w1, x2, y2, w2, h1, h2, ⟨a1, a2, a3⟩, ⟨b1, b2, b3⟩, q⟩ := h
  wtm_at "go0"
  all_goals wtm_at "fin"
theorem use_x_less (h1 : Dp K H v1 (pt x1 y1 w1)) (h2 : Dp K H v2 (pt x2 y2 w2)) (a1 : Sz B0 x1) (a2 : Sz B0 y1) (a3 : Sz B0 w1) (b1 : Sz B0 x2) (b2 : Sz B0 y2) (b3 : Sz B0 w2) (q : Q (.bl (decide (x1 * w2 < x2 * w1))) H) : sp_x_less K [v1, v2] H Q E := ⟨_, _, rfl, _, _, _, _, _, _, h1, h2, ⟨a1, a2, a3⟩, ⟨b1, b2, b3⟩, q⟩
local macro_rules | `(tactic| wtm_at "use") => `(tactic| (first | ((with_reducible refine' use_x_less ?u0 ?u1 ?u2 ?u3 ?u4 ?u5 ?u6 ?u7 ?uq); (case u0 => wtm_at "dp"); (case u1 => wtm_at "dp"); (case u2 => wtm_at "szb"); (case u3 => wtm_at "szb"); (case u4 => wtm_at "szb"); (case u5 => wtm_at "szb"); (case u6 => wtm_at "szb"); (case u7 => wtm_at "szb")) | fail))
def sp_y_less (K : PySem.W.Frag) : Sp := A2 fun v1 v2 H Q => ∃ x1 y1 w1 x2 y2 w2 : Int, Dp K H v1 (pt x1 y1 w1) ∧ Dp K H v2 (pt x2 y2 w2) ∧ (Sz B0 x1 ∧ Sz B0 y1 ∧ Sz B0 w1) ∧ (Sz B0 x2 ∧ Sz B0 y2 ∧ Sz B0 w2) ∧ Q (.bl (decide (y1 * w2 < y2 * w1))) H
abbrev s_y_less : Stmt := top 19
theorem sc_y_less : FnScope ["one", "two"] ["one", "two"] (defScope s_y_less) := ⟨rfl, rfl, rfl, by decide +kernel, rfl, by decide +kernel, by decide +kernel⟩
theorem ok_y_less {f : Addr} {fd : FuncData} (F : FnP K "y_less" s_y_less f fd) (g : G mg)   : FnOk P w K mg base CX0 1 f fd ["one", "two"] (sp_y_less K) := by
  have nd := sc_y_less.nd
  refine F.ok sc_y_less (fun vs H Q E h => h.len) (fun cdv A outer s H vs Q E hr h => ?_)
  obtain ⟨v1, v2, rfl, h⟩ := h
  refine ⟨_, PSs.nox (pss_one (ps_ret (pe_cmpR op_lt (pe_op op_mulX (pe_ix ix_tup (pv 0) pe_int (fun _ _ => rfl)) (pe_ix ix_tup (pv 1) pe_int (fun _ _ => rfl))) (pe_op op_mulX (pe_ix ix_tup (pv 1) pe_int (fun _ _ => rfl)) (pe_ix ix_tup (pv 0) pe_int (fun _ _ => rfl))) (nomark _)))), ?_⟩
  obtain ⟨x1, y1, w1, x2, y2, w2, h1, h2, ⟨a1, a2, a3⟩, ⟨b1, b2, b3⟩, q⟩ := h
  wtm_at "go0"
  all_goals wtm_at "fin"
theorem use_y_less (h1 : Dp K H v1 (pt x1 y1 w1)) (h2 : Dp K H v2 (pt x2 y2 w2)) (a1 : Sz B0 x1) (a2 : Sz B0 y1) (a3 : Sz B0 w1) (b1 : Sz B0 x2) (b2 : Sz B0 y2) (b3 : Sz B0 w2) (q : Q (.bl (decide (y1 * w2 < y2 * w1))) H) : sp_y_less K [v1, v2] H Q E := ⟨_, _, rfl, _, _, _, _, _, _, h1, h2, ⟨a1, a2, a3⟩, ⟨b1, b2, b3⟩, q⟩
local macro_rules | `(tactic| wtm_at "use") => `(tactic| (first | ((with_reducible refine' use_y_less ?u0 ?u1 ?u2 ?u3 ?u4 ?u5 ?u6 ?u7 ?uq); (case u0 => wtm_at "dp"); (case u1 => wtm_at "dp"); (case u2 => wtm_at "szb"); (case u3 => wtm_at "szb"); (case u4 => wtm_at "szb"); (case u5 => wtm_at "szb"); (case u6 => wtm_at "szb"); (case u7 => wtm_at "szb")) | fail))
def lower (x1 y1 w1 x2 y2 w2 : Int) : Bool := decide (x1 * w2 < x2 * w1) || (!decide (x2 * w1 < x1 * w2) && decide (y1 * w2 < y2 * w1))
def sp_is_lower (K : PySem.W.Frag) : Sp := A2 fun v1 v2 H Q => ∃ x1 y1 w1 x2 y2 w2 : Int, Dp K H v1 (pt x1 y1 w1) ∧ Dp K H v2 (pt x2 y2 w2) ∧ (Sz B0 x1 ∧ Sz B0 y1 ∧ Sz B0 w1) ∧ (Sz B0 x2 ∧ Sz B0 y2 ∧ Sz B0 w2) ∧ Q (.bl (lower x1 y1 w1 x2 y2 w2)) H
abbrev s_is_lower : Stmt := top 20
theorem sc_is_lower : FnScope ["one", "two"] ["one", "two"] (defScope s_is_lower) := ⟨rfl, rfl, rfl, by decide +kernel, rfl, by decide +kernel, by decide +kernel⟩
theorem ok_is_lower {f : Addr} {fd : FuncData} (F : FnP K "is_lower" s_is_lower f fd) (g : G mg) (c_x_less : Cl P w K mg base 1 "x_less" (sp_x_less K)) (c_y_less : Cl P w K mg base 1 "y_less" (sp_y_less K))  : FnOk P w K mg base CX0 2 f fd ["one", "two"] (sp_is_lower K) := by
  have nd := sc_is_lower.nd
  refine F.ok sc_is_lower (fun vs H Q E h => h.len) (fun cdv A outer s H vs Q E hr h => ?_)
  obtain ⟨v1, v2, rfl, h⟩ := h
  refine ⟨_, PSs.nox (pss_cons (ps_if (pt_val (pc c_x_less hr (by decide) (by rfl) (pa_cons (pv 0) (pa_cons (pv 1) pa_nil)))) (pss_one (ps_ret pe_bl)) pss_nil) (pss_one (ps_ret (pe_and (pe_not (pc c_x_less hr (by decide) (by rfl) (pa_cons (pv 1) (pa_cons (pv 0) pa_nil)))) (pe_one (pc c_y_less hr (by decide) (by rfl) (pa_cons (pv 0) (pa_cons (pv 1) pa_nil)))))))), ?_⟩
  obtain ⟨x1, y1, w1, x2, y2, w2, h1, h2, ⟨a1, a2, a3⟩, ⟨b1, b2, b3⟩, q⟩ := h
  wtm_at "go0"
  all_goals (dsimp only; refine cast (congrArg (fun b => Q (.bl b) H) ?_) q; unfold lower; simp [*])
theorem use_is_lower (h1 : Dp K H v1 (pt x1 y1 w1)) (h2 : Dp K H v2 (pt x2 y2 w2)) (a1 : Sz B0 x1) (a2 : Sz B0 y1) (a3 : Sz B0 w1) (b1 : Sz B0 x2) (b2 : Sz B0 y2) (b3 : Sz B0 w2) (q : Q (.bl (lower x1 y1 w1 x2 y2 w2)) H) : sp_is_lower K [v1, v2] H Q E := ⟨_, _, rfl, _, _, _, _, _, _, h1, h2, ⟨a1, a2, a3⟩, ⟨b1, b2, b3⟩, q⟩
local macro_rules | `(tactic| wtm_at "use") => `(tactic| (first | ((with_reducible refine' use_is_lower ?u0 ?u1 ?u2 ?u3 ?u4 ?u5 ?u6 ?u7 ?uq); (case u0 => wtm_at "dp"); (case u1 => wtm_at "dp"); (case u2 => wtm_at "szb"); (case u3 => wtm_at "szb"); (case u4 => wtm_at "szb"); (case u5 => wtm_at "szb"); (case u6 => wtm_at "szb"); (case u7 => wtm_at "szb")) | fail))
def hf (a b : Int) : Int := if 0 < b ∨ (b = 0 ∧ 0 < a) then 0 else 1
def sp_half_of (K : PySem.W.Frag) : Sp := A1 fun v1 H Q => ∃ a b : Int, Dp K H v1 (.tuple [.int a, .int b]) ∧ Q (.int (hf a b)) H
abbrev s_half_of : Stmt := top 23
theorem sc_half_of : FnScope ["step"] ["step"] (defScope s_half_of) := ⟨rfl, rfl, rfl, by decide +kernel, rfl, by decide +kernel, by decide +kernel⟩
theorem ok_half_of {f : Addr} {fd : FuncData} (F : FnP K "half_of" s_half_of f fd) (g : G mg)   : FnOk P w K mg base CX0 1 f fd ["step"] (sp_half_of K) := by
  have nd := sc_half_of.nd
  refine F.ok sc_half_of (fun vs H Q E h => h.len) (fun cdv A outer s H vs Q E hr h => ?_)
  obtain ⟨v1, rfl, h⟩ := h
  refine ⟨_, PSs.nox (pss_cons (ps_if (PW.pt (pw_or (pt_cmpR op_gt (pe_ix ix_tup (pv 0) pe_int (fun _ _ => rfl)) pe_int (nomark _)) (pw_or1 (PW.pt (pw_and (pt_cmpR op_eq (pe_ix ix_tup (pv 0) pe_int (fun _ _ => rfl)) pe_int (nomark _)) (pw_and1 (pt_cmpR op_gt (pe_ix ix_tup (pv 0) pe_int (fun _ _ => rfl)) pe_int (nomark _)))))))) (pss_one (ps_ret pe_int)) pss_nil) (pss_one (ps_ret pe_int))), ?_⟩
  obtain ⟨a, b, hd, q⟩ := h
  wtm_at "go0"
  all_goals (dsimp only; refine cast (congrArg (fun b => Q (.int b) H) ?_) q; unfold hf; split <;> omega)
theorem use_half_of {a b : Int} (hd : Dp K H v1 (.tuple [.int a, .int b])) (q : Q (.int (hf a b)) H) : sp_half_of K [v1] H Q E := ⟨_, rfl, _, _, hd, q⟩
local macro_rules | `(tactic| wtm_at "use") => `(tactic| (first | ((with_reducible refine' use_half_of ?u0 ?uq); (case u0 => wtm_at "dp")) | fail))
def ahd (a b c d : Int) : Bool := if hf a b = hf c d then decide (0 < a * d - b * c) else decide (hf a b < hf c d)
abbrev ahr (x1 y1 w1 x2 y2 w2 x3 y3 w3 : Int) : Bool := ahd (x2 * w1 - x1 * w2) (y2 * w1 - y1 * w2) (x3 * w1 - x1 * w3) (y3 * w1 - y1 * w3)
def sp_is_ahead_round (K : PySem.W.Frag) : Sp := A3 fun v1 v2 v3 H Q => ∃ x1 y1 w1 x2 y2 w2 x3 y3 w3 : Int, Dp K H v1 (pt x1 y1 w1) ∧ Dp K H v2 (pt x2 y2 w2) ∧ Dp K H v3 (pt x3 y3 w3) ∧ (Sz B0 x1 ∧ Sz B0 y1 ∧ Sz B0 w1) ∧ (Sz B0 x2 ∧ Sz B0 y2 ∧ Sz B0 w2) ∧ (Sz B0 x3 ∧ Sz B0 y3 ∧ Sz B0 w3) ∧ Ret K (.bool (ahr x1 y1 w1 x2 y2 w2 x3 y3 w3)) H Q
abbrev s_is_ahead_round : Stmt := top 24
theorem sc_is_ahead_round : FnScope ["centre", "one", "two", "first", "second"] ["centre", "one", "two"] (defScope s_is_ahead_round) := ⟨rfl, rfl, rfl, by decide +kernel, rfl, by decide +kernel, by decide +kernel⟩
theorem ok_is_ahead_round {f : Addr} {fd : FuncData} (F : FnP K "is_ahead_round" s_is_ahead_round f fd) (g : G mg) (c_step_from : Cl P w K mg base 1 "step_from" (sp_step_from K)) (c_half_of : Cl P w K mg base 1 "half_of" (sp_half_of K))  : FnOk P w K mg base CX0 2 f fd ["centre", "one", "two"] (sp_is_ahead_round K) := by
  have nd := sc_is_ahead_round.nd
  refine F.ok sc_is_ahead_round (fun vs H Q E h => h.len) (fun cdv A outer s H vs Q E hr h => ?_)
  obtain ⟨v1, v2, v3, rfl, h⟩ := h
  refine ⟨_, PSs.nox (pss_cons (ps_set (i := 3) nd rfl (Or.inl rfl) (pc c_step_from hr (by decide) (by rfl) (pa_cons (pv 0) (pa_cons (pv 1) pa_nil)))) (pss_cons (ps_set (i := 4) nd rfl (Or.inl rfl) (pc c_step_from hr (by decide) (by rfl) (pa_cons (pv 0) (pa_cons (pv 2) pa_nil)))) (pss_cons (ps_if (pt_cmpR op_ne (pc c_half_of hr (by decide) (by rfl) (pa_cons (pv 3) pa_nil)) (pc c_half_of hr (by decide) (by rfl) (pa_cons (pv 4) pa_nil)) (nomark _)) (pss_one (ps_ret (pe_cmpR op_lt (pc c_half_of hr (by decide) (by rfl) (pa_cons (pv 3) pa_nil)) (pc c_half_of hr (by decide) (by rfl) (pa_cons (pv 4) pa_nil)) (nomark _)))) pss_nil) (pss_one (ps_ret (pe_cmpR op_gt (pe_op op_sub (pe_op op_mulX (pe_ix ix_tup (pv 3) pe_int (fun _ _ => rfl)) (pe_ix ix_tup (pv 4) pe_int (fun _ _ => rfl))) (pe_op op_mulX (pe_ix ix_tup (pv 3) pe_int (fun _ _ => rfl)) (pe_ix ix_tup (pv 4) pe_int (fun _ _ => rfl)))) pe_int (nomark _))))))), ?_⟩
  obtain ⟨x1, y1, w1, x2, y2, w2, x3, y3, w3, h1, h2, h3, ⟨a1, a2, a3⟩, ⟨b1, b2, b3⟩, ⟨c1, c2, c3⟩, q⟩ := h
  wtm_at "go0"
  · rename_i hz
    dsimp only
    refine Ret.bl' q (by wtm_at "ex") ?_
    show ahd _ _ _ _ = _
    unfold ahd
    rw [if_neg hz]
  · rename_i hz
    dsimp only
    refine Ret.bl' q (by wtm_at "ex") ?_
    show ahd _ _ _ _ = _
    unfold ahd
    rw [if_pos hz]
theorem use_is_ahead_round (h1 : Dp K H v1 (pt x1 y1 w1)) (h2 : Dp K H v2 (pt x2 y2 w2)) (h3 : Dp K H v3 (pt x3 y3 w3)) (a1 : Sz B0 x1) (a2 : Sz B0 y1) (a3 : Sz B0 w1) (b1 : Sz B0 x2) (b2 : Sz B0 y2) (b3 : Sz B0 w2) (c1 : Sz B0 x3) (c2 : Sz B0 y3) (c3 : Sz B0 w3) (q : ∀ H2, Ex H H2 → Q (.bl (ahr x1 y1 w1 x2 y2 w2 x3 y3 w3)) H2) : sp_is_ahead_round K [v1, v2, v3] H Q E := ⟨_, _, _, rfl, _, _, _, _, _, _, _, _, _, h1, h2, h3, ⟨a1, a2, a3⟩, ⟨b1, b2, b3⟩, ⟨c1, c2, c3⟩, ret_bl q⟩
local macro_rules | `(tactic| wtm_at "use") => `(tactic| (first | ((with_reducible refine' use_is_ahead_round ?u0 ?u1 ?u2 ?u3 ?u4 ?u5 ?u6 ?u7 ?u8 ?u9 ?u10 ?u11 (fun uH ue => ?uq)); (case u0 => wtm_at "dp"); (case u1 => wtm_at "dp"); (case u2 => wtm_at "dp"); (case u3 => wtm_at "szb"); (case u4 => wtm_at "szb"); (case u5 => wtm_at "szb"); (case u6 => wtm_at "szb"); (case u7 => wtm_at "szb"); (case u8 => wtm_at "szb"); (case u9 => wtm_at "szb"); (case u10 => wtm_at "szb"); (case u11 => wtm_at "szb")) | fail))
abbrev nea (x1 y1 w1 x2 y2 w2 x3 y3 w3 : Int) : Bool := decide (((x2 * w1 - x1 * w2) * (x2 * w1 - x1 * w2) + (y2 * w1 - y1 * w2) * (y2 * w1 - y1 * w2)) * w3 * w3 < ((x3 * w1 - x1 * w3) * (x3 * w1 - x1 * w3) + (y3 * w1 - y1 * w3) * (y3 * w1 - y1 * w3)) * w2 * w2)
def sp_is_nearer (K : PySem.W.Frag) : Sp := A3 fun v1 v2 v3 H Q => ∃ x1 y1 w1 x2 y2 w2 x3 y3 w3 : Int, Dp K H v1 (pt x1 y1 w1) ∧ Dp K H v2 (pt x2 y2 w2) ∧ Dp K H v3 (pt x3 y3 w3) ∧ (Sz B0 x1 ∧ Sz B0 y1 ∧ Sz B0 w1) ∧ (Sz B0 x2 ∧ Sz B0 y2 ∧ Sz B0 w2) ∧ (Sz B0 x3 ∧ Sz B0 y3 ∧ Sz B0 w3) ∧ Ret K (.bool (nea x1 y1 w1 x2 y2 w2 x3 y3 w3)) H Q
abbrev s_is_nearer : Stmt := top 25
theorem sc_is_nearer : FnScope ["centre", "one", "two", "first", "second", "size"] ["centre", "one", "two"] (defScope s_is_nearer) := ⟨rfl, rfl, rfl, by decide +kernel, rfl, by decide +kernel, by decide +kernel⟩
theorem ok_is_nearer {f : Addr} {fd : FuncData} (F : FnP K "is_nearer" s_is_nearer f fd) (g : G mg) (c_step_from : Cl P w K mg base 1 "step_from" (sp_step_from K))  : FnOk P w K mg base CX0 2 f fd ["centre", "one", "two"] (sp_is_nearer K) := by
  have nd := sc_is_nearer.nd
  refine F.ok sc_is_nearer (fun vs H Q E h => h.len) (fun cdv A outer s H vs Q E hr h => ?_)
  obtain ⟨v1, v2, v3, rfl, h⟩ := h
  refine ⟨_, PSs.nox (pss_cons (ps_set (i := 3) nd rfl (Or.inl rfl) (pc c_step_from hr (by decide) (by rfl) (pa_cons (pv 0) (pa_cons (pv 1) pa_nil)))) (pss_cons (ps_set (i := 4) nd rfl (Or.inl rfl) (pc c_step_from hr (by decide) (by rfl) (pa_cons (pv 0) (pa_cons (pv 2) pa_nil)))) (pss_cons (ps_set (i := 5) nd rfl (Or.inl rfl) (pe_op op_mulX (pe_op op_mulX (pe_op op_add (pe_op op_mulX (pe_ix ix_tup (pv 3) pe_int (fun _ _ => rfl)) (pe_ix ix_tup (pv 3) pe_int (fun _ _ => rfl))) (pe_op op_mulX (pe_ix ix_tup (pv 3) pe_int (fun _ _ => rfl)) (pe_ix ix_tup (pv 3) pe_int (fun _ _ => rfl)))) (pe_ix ix_tup (pv 2) pe_int (fun _ _ => rfl))) (pe_ix ix_tup (pv 2) pe_int (fun _ _ => rfl)))) (pss_one (ps_ret (pe_cmpR op_lt (pv 5) (pe_op op_mulX (pe_op op_mulX (pe_op op_add (pe_op op_mulX (pe_ix ix_tup (pv 4) pe_int (fun _ _ => rfl)) (pe_ix ix_tup (pv 4) pe_int (fun _ _ => rfl))) (pe_op op_mulX (pe_ix ix_tup (pv 4) pe_int (fun _ _ => rfl)) (pe_ix ix_tup (pv 4) pe_int (fun _ _ => rfl)))) (pe_ix ix_tup (pv 1) pe_int (fun _ _ => rfl))) (pe_ix ix_tup (pv 1) pe_int (fun _ _ => rfl))) (nomark _))))))), ?_⟩
  obtain ⟨x1, y1, w1, x2, y2, w2, x3, y3, w3, h1, h2, h3, ⟨a1, a2, a3⟩, ⟨b1, b2, b3⟩, ⟨c1, c2, c3⟩, q⟩ := h
  wtm_at "go0"
  all_goals wtm_at "fin"
theorem use_is_nearer (h1 : Dp K H v1 (pt x1 y1 w1)) (h2 : Dp K H v2 (pt x2 y2 w2)) (h3 : Dp K H v3 (pt x3 y3 w3)) (a1 : Sz B0 x1) (a2 : Sz B0 y1) (a3 : Sz B0 w1) (b1 : Sz B0 x2) (b2 : Sz B0 y2) (b3 : Sz B0 w2) (c1 : Sz B0 x3) (c2 : Sz B0 y3) (c3 : Sz B0 w3) (q : ∀ H2, Ex H H2 → Q (.bl (nea x1 y1 w1 x2 y2 w2 x3 y3 w3)) H2) : sp_is_nearer K [v1, v2, v3] H Q E := ⟨_, _, _, rfl, _, _, _, _, _, _, _, _, _, h1, h2, h3, ⟨a1, a2, a3⟩, ⟨b1, b2, b3⟩, ⟨c1, c2, c3⟩, ret_bl q⟩
local macro_rules | `(tactic| wtm_at "use") => `(tactic| (first | ((with_reducible refine' use_is_nearer ?u0 ?u1 ?u2 ?u3 ?u4 ?u5 ?u6 ?u7 ?u8 ?u9 ?u10 ?u11 (fun uH ue => ?uq)); (case u0 => wtm_at "dp"); (case u1 => wtm_at "dp"); (case u2 => wtm_at "dp"); (case u3 => wtm_at "szb"); (case u4 => wtm_at "szb"); (case u5 => wtm_at "szb"); (case u6 => wtm_at "szb"); (case u7 => wtm_at "szb"); (case u8 => wtm_at "szb"); (case u9 => wtm_at "szb"); (case u10 => wtm_at "szb"); (case u11 => wtm_at "szb")) | fail))
def fst (x1 y1 w1 x2 y2 w2 x3 y3 w3 : Int) : Bool := ahr x1 y1 w1 x2 y2 w2 x3 y3 w3 || (!ahr x1 y1 w1 x3 y3 w3 x2 y2 w2 && nea x1 y1 w1 x2 y2 w2 x3 y3 w3)
def sp_is_first_round (K : PySem.W.Frag) : Sp := A3 fun v1 v2 v3 H Q => ∃ x1 y1 w1 x2 y2 w2 x3 y3 w3 : Int, Dp K H v1 (pt x1 y1 w1) ∧ Dp K H v2 (pt x2 y2 w2) ∧ Dp K H v3 (pt x3 y3 w3) ∧ (Sz B0 x1 ∧ Sz B0 y1 ∧ Sz B0 w1) ∧ (Sz B0 x2 ∧ Sz B0 y2 ∧ Sz B0 w2) ∧ (Sz B0 x3 ∧ Sz B0 y3 ∧ Sz B0 w3) ∧ Ret K (.bool (fst x1 y1 w1 x2 y2 w2 x3 y3 w3)) H Q
abbrev s_is_first_round : Stmt := top 26
theorem sc_is_first_round : FnScope ["centre", "one", "two"] ["centre", "one", "two"] (defScope s_is_first_round) := ⟨rfl, rfl, rfl, by decide +kernel, rfl, by decide +kernel, by decide +kernel⟩
theorem ok_is_first_round {f : Addr} {fd : FuncData} (F : FnP K "is_first_round" s_is_first_round f fd) (g : G mg) (c_is_ahead_round : Cl P w K mg base 2 "is_ahead_round" (sp_is_ahead_round K)) (c_is_nearer : Cl P w K mg base 2 "is_nearer" (sp_is_nearer K))  : FnOk P w K mg base CX0 3 f fd ["centre", "one", "two"] (sp_is_first_round K) := by
  have nd := sc_is_first_round.nd
  refine F.ok sc_is_first_round (fun vs H Q E h => h.len) (fun cdv A outer s H vs Q E hr h => ?_)
  obtain ⟨v1, v2, v3, rfl, h⟩ := h
  refine ⟨_, PSs.nox (pss_cons (ps_if (pt_val (pc c_is_ahead_round hr (by decide) (by rfl) (pa_cons (pv 0) (pa_cons (pv 1) (pa_cons (pv 2) pa_nil))))) (pss_one (ps_ret pe_bl)) pss_nil) (pss_one (ps_ret (pe_and (pe_not (pc c_is_ahead_round hr (by decide) (by rfl) (pa_cons (pv 0) (pa_cons (pv 2) (pa_cons (pv 1) pa_nil))))) (pe_one (pc c_is_nearer hr (by decide) (by rfl) (pa_cons (pv 0) (pa_cons (pv 1) (pa_cons (pv 2) pa_nil))))))))), ?_⟩
  obtain ⟨x1, y1, w1, x2, y2, w2, x3, y3, w3, h1, h2, h3, ⟨a1, a2, a3⟩, ⟨b1, b2, b3⟩, ⟨c1, c2, c3⟩, q⟩ := h
  wtm_at "go0"
  · rename_i hz
    dsimp only
    refine Ret.bl' q (by wtm_at "ex") ?_
    unfold fst
    rw [hz]
    rfl
  · rename_i H1 _ hz H2 _ hy H3 _
    dsimp only
    refine Ret.bl' q (by wtm_at "ex") ?_
    unfold fst
    rw [hz, hy]
    rfl
  · rename_i H1 _ hz H2 _ hy
    dsimp only
    refine Ret.bl' q (by wtm_at "ex") ?_
    unfold fst
    rw [hz, hy]
    rfl
theorem use_is_first_round (h1 : Dp K H v1 (pt x1 y1 w1)) (h2 : Dp K H v2 (pt x2 y2 w2)) (h3 : Dp K H v3 (pt x3 y3 w3)) (a1 : Sz B0 x1) (a2 : Sz B0 y1) (a3 : Sz B0 w1) (b1 : Sz B0 x2) (b2 : Sz B0 y2) (b3 : Sz B0 w2) (c1 : Sz B0 x3) (c2 : Sz B0 y3) (c3 : Sz B0 w3) (q : ∀ H2, Ex H H2 → Q (.bl (fst x1 y1 w1 x2 y2 w2 x3 y3 w3)) H2) : sp_is_first_round K [v1, v2, v3] H Q E := ⟨_, _, _, rfl, _, _, _, _, _, _, _, _, _, h1, h2, h3, ⟨a1, a2, a3⟩, ⟨b1, b2, b3⟩, ⟨c1, c2, c3⟩, ret_bl q⟩
local macro_rules | `(tactic| wtm_at "use") => `(tactic| (first | ((with_reducible refine' use_is_first_round ?u0 ?u1 ?u2 ?u3 ?u4 ?u5 ?u6 ?u7 ?u8 ?u9 ?u10 ?u11 (fun uH ue => ?uq)); (case u0 => wtm_at "dp"); (case u1 => wtm_at "dp"); (case u2 => wtm_at "dp"); (case u3 => wtm_at "szb"); (case u4 => wtm_at "szb"); (case u5 => wtm_at "szb"); (case u6 => wtm_at "szb"); (case u7 => wtm_at "szb"); (case u8 => wtm_at "szb"); (case u9 => wtm_at "szb"); (case u10 => wtm_at "szb"); (case u11 => wtm_at "szb")) | fail))
end
end Wb

namespace Wb
open PySem PySem.Spec PyProof.Rows L2
open Evl (Ex Ex.refl Ex.trans Ex.new)
local macro_rules | `(tactic| wtm_at "dp") => `(tactic| first | with_reducible assumption | with_reducible exact Dp.int _ | with_reducible exact Dp.bl _ | with_reducible exact Dp.str _ | with_reducible exact Dp.non | ((with_reducible refine' dpMono ?dme (by with_reducible assumption)); (case dme => wtm_at "ex")) | ((with_reducible refine' Dp.tup (Evl.st_of ?dph) ?dpa); (case dph => wtm_at "hs"); (case dpa => wtm_at "dpa")) | ((with_reducible refine' Dp.lst (Evl.sq_of ?dph) ?dpa); (case dph => wtm_at "hs"); (case dpa => wtm_at "dpa")))
local macro_rules | `(tactic| wtm_at "dpa") => `(tactic| first | with_reducible exact DpAll.nil | ((with_reducible refine' DpAll.cons ?dp1 ?dp2); (case dp1 => wtm_at "dp"); (case dp2 => wtm_at "dpa")) | with_reducible assumption | ((with_reducible refine' dpMonoA ?dme (by with_reducible assumption)); (case dme => wtm_at "ex")))
local macro_rules | `(tactic| wtm_at "sz") => `(tactic| first | with_reducible assumption | ((with_reducible refine' sz_mul ?sz1 ?sz2); (case sz1 => wtm_at "sz"); (case sz2 => wtm_at "sz")) | ((with_reducible refine' sz_add ?sz1 ?sz2); (case sz1 => wtm_at "sz"); (case sz2 => wtm_at "sz")) | ((with_reducible refine' sz_sub ?sz1 ?sz2); (case sz1 => wtm_at "sz"); (case sz2 => wtm_at "sz")) | ((with_reducible refine' sz_neg ?sz1); (case sz1 => wtm_at "sz")) | ((with_reducible refine' sz_div ?sz1); (case sz1 => wtm_at "sz")) | ((with_reducible refine' sz_fdiv ?sz1); (case sz1 => wtm_at "sz")) | exact sz_lit (by decide) | wtm_at "sz2")
local macro_rules | `(tactic| wtm_at "szb") => `(tactic| first | with_reducible assumption | ((with_reducible refine' sz_mono ?szb1 ?szb2); (case szb1 => wtm_at "sz"); (case szb2 => decide)))
local macro_rules | `(tactic| wtm_at "nz") => `(tactic| first | assumption | decide | omega)
local macro_rules | `(tactic| wtm_at "shaped") => `(tactic| first | rfl | decide)
local macro_rules | `(tactic| wtm_at "sset") => `(tactic| ((dsimp only [L2.wipe, List.set, List.set_cons_zero, List.set_cons_succ]) <;> exact rfl))
local macro_rules | `(tactic| wtm_at "nrm") => `(tactic| dsimp only [L2.start, L2.wipe, List.set, List.append, List.map, List.map_cons, List.map_nil, List.length_cons, List.length_nil, Nat.reduceAdd, Nat.reduceSub, List.reduceReplicate, List.replicate, List.cons_append, List.nil_append, List.set_cons_zero, List.set_cons_succ])
local macro_rules | `(tactic| wtm_at "st") => `(tactic| first
  | ((with_reducible refine' i_var (v := ?u0) ?u1 ?uq); (case u1 => exact rfl))
  | ((with_reducible refine' i_nameN ?u0 ?uq); (case u0 => wtm_at "sset"))
  | (with_reducible refine' i_op ?uq)
  | (with_reducible refine' i_c ?uq)
  | (with_reducible refine' i_I0 ?uq)
  | ((with_reducible refine' i_ixTI (i := ?u0) ?u1 ?u2 ?u3 ?uq); (case u1 => wtm_at "dp"); (case u2 => wtm_at "ex"); (case u3 => exact rfl))
  | ((with_reducible refine' i_ixT (d := ?u0) ?u1 ?u2 ?u3 (fun xu hxu => ?uq)); (case u1 => wtm_at "dp"); (case u2 => wtm_at "ex"); (case u3 => exact rfl))
  | ((with_reducible refine' i_mul ?u0 ?u1 ?u2 ?uq); (case u0 => wtm_at "sz"); (case u1 => wtm_at "sz"); (case u2 => first | decide | omega))
  | (with_reducible refine' i_seq ?uq)
  | (with_reducible refine' i_asg ?uq)
  | (with_reducible refine' i_ret ?uq)
  | (with_reducible refine' i_ifs ?uq)
  | (with_reducible refine' i_drop ?uq)
  | (with_reducible refine' i_next ?uq)
  | (with_reducible refine' i_cons ?uq)
  | (with_reducible refine' i_nil ?uq)
  | (with_reducible refine' i_cl ?uq)
  | (with_reducible refine' i_cb ?uq)
  | (with_reducible refine' i_tup ?uq)
  | (with_reducible refine' i_lst ?uq)
  | ((with_reducible refine' i_mkT ?u0 (fun np nH nhe nhp => ?uq)); (case u0 => exact Nat.le_of_ble_eq_true rfl))
  | (with_reducible refine' i_test ?uq)
  | (with_reducible refine' i_B ?uq)
  | (with_reducible refine' i_k ?uq)
  | (with_reducible refine' i_and ?uq)
  | (with_reducible refine' i_or ?uq)
  | (with_reducible refine' i_not ?uq)
  | (with_reducible refine' i_andV ?uq)
  | (with_reducible refine' i_orV ?uq)
  | (with_reducible refine' i_notV ?uq)
  | (with_reducible refine' i_if ?uq)
  | (with_reducible refine' i_un ?uq)
  | (with_reducible refine' i_U ?uq)
  | (with_reducible refine' i_iteT ?uq)
  | (with_reducible refine' i_iteF ?uq)
  | ((with_reducible refine' i_iteTr ?u0 ?uq); (case u0 => first | with_reducible rfl | decide | (simp only [dIsInt, dIsBool, dIsTup, dIsStr, dIsLst, Bool.not_true, Bool.not_false]; done)))
  | ((with_reducible refine' i_iteFr ?u0 ?uq); (case u0 => first | with_reducible rfl | decide | (simp only [dIsInt, dIsBool, dIsTup, dIsStr, dIsLst, Bool.not_true, Bool.not_false]; done)))
  | (with_reducible refine' i_ite (fun hif => ?uqa) (fun hif => ?uqb))
  | (with_reducible refine' i_iteN (fun hif => ?uqa) (fun hif => ?uqb))
  | (with_reducible refine' i_iteBN (fun hif => ?uqa) (fun hif => ?uqb))
  | (with_reducible refine' i_iteB (fun hif => ?uqa) (fun hif => ?uqb))
  | ((with_reducible refine' i_modN ?u0 ?uq); (case u0 => wtm_at "nz"))
  | ((with_reducible refine' i_fdX ?u0 ?u1 ?u2 ?uq); (case u0 => wtm_at "nz"); (case u1 => wtm_at "sz"); (case u2 => first | decide | omega))
  | ((with_reducible refine' i_pow ?u0 ?uq); (case u0 => exact ⟨by decide, by decide +kernel⟩))
  | (with_reducible refine' i_eqI ?uq)
  | (with_reducible refine' i_neI ?uq)
  | (with_reducible refine' i_gcd ?uq)
  | (with_reducible refine' i_qabs ?uq)
  | (with_reducible refine' i_qint ?uq)
  | (with_reducible refine' i_qintB ?uq)
  | (with_reducible refine' i_qmax2 ?uq)
  | (with_reducible refine' i_qmin2 ?uq)
  | (with_reducible refine' i_isB ?uq)
  | (with_reducible refine' i_notB ?uq)
  | (with_reducible refine' i_chain ?uq)
  | (with_reducible refine' i_qisN ?uq)
  | (with_reducible refine' i_qnotN ?uq)
  | (with_reducible refine' i_yes ?uq)
  | (with_reducible refine' i_par ?uq)
  | (with_reducible refine' i_par3 ?uq)
  | ((with_reducible refine' i_par2 ?u0 ?uq); (case u0 => wtm_at "sset"))
  | ((with_reducible refine' i_par33 ?u0 ?uq); (case u0 => wtm_at "sset"))
  | ((with_reducible refine' i_ixLI (i := ?u0) ?u1 ?u2 ?u3 ?uq); (case u1 => wtm_at "dp"); (case u2 => wtm_at "ex"); (case u3 => exact rfl))
  | ((with_reducible refine' i_ixL (d := ?u0) ?u1 ?u2 ?u3 (fun xu hxu => ?uq)); (case u1 => wtm_at "dp"); (case u2 => wtm_at "ex"); (case u3 => exact rfl))
  | ((with_reducible refine' i_qlenT ?u0 ?uq); (case u0 => wtm_at "dp"))
  | ((with_reducible refine' i_qlenL ?u0 ?uq); (case u0 => wtm_at "dp"))
  | ((with_reducible refine' i_gtup ?u0 ?u1 ?u2 (fun gvs gdp => ?uq)); (case u0 => wtm_at "dp"); (case u1 => wtm_at "ex"); (case u2 => exact rfl))
  | ((with_reducible refine' i_glst ?u0 ?u1 ?u2 (fun gvs gdp => ?uq)); (case u0 => wtm_at "dp"); (case u1 => wtm_at "ex"); (case u2 => exact rfl))
  | ((with_reducible refine' i_gconsI ?u0 (fun gr gh => ?uq)); (case u0 => with_reducible assumption))
  | ((with_reducible refine' i_gconsA ?u0 (fun gv gr gh1 gh2 => ?uq)); (case u0 => with_reducible assumption))
  | ((with_reducible refine' i_gnilA ?u0 ?uq); (case u0 => with_reducible assumption))
  | ((with_reducible refine' i_isiI ?u0 ?uq); (case u0 => wtm_at "dp"))
  | ((with_reducible refine' i_isiB ?u0 ?uq); (case u0 => wtm_at "dp"))
  | ((with_reducible refine' i_isiT ?u0 ?uq); (case u0 => wtm_at "dp"))
  | ((with_reducible refine' i_isiS ?u0 ?uq); (case u0 => wtm_at "dp"))
  | ((with_reducible refine' i_isiL ?u0 ?uq); (case u0 => wtm_at "dp"))
  | ((with_reducible refine' i_eqD ?u0 ?u1 ?u2 ?u3 ?uq); (case u0 => wtm_at "dp"); (case u1 => wtm_at "dp"); (case u2 => wtm_at "shaped"); (case u3 => wtm_at "shaped"))
  | ((with_reducible refine' i_neD ?u0 ?u1 ?u2 ?u3 ?uq); (case u0 => wtm_at "dp"); (case u1 => wtm_at "dp"); (case u2 => wtm_at "shaped"); (case u3 => wtm_at "shaped"))
  | wtm_at "st2"
  | wtm_at "use")
local macro_rules | `(tactic| wtm_at "go") => `(tactic| repeat' (wtm_at "st"))
local macro_rules | `(tactic| wtm_at "go0") => `(tactic| ((try dsimp only [L2.cxOf, L2.Cx.nox, L2.Cx.wish, L2.Cx.tr, L2.Cx.blk]); (try wtm_at "nrm"); wtm_at "go"))
local macro_rules | `(tactic| wtm_at "fin") => `(tactic| ((try dsimp only); first | with_reducible assumption | assumption | ((with_reducible refine' Ret.use ?rur ?rue ?rud); (case rur => with_reducible assumption); (case rue => wtm_at "ex"); (case rud => wtm_at "dp"))))
local macro_rules | `(tactic| wtm_at "ex") => `(tactic| first | with_reducible assumption | with_reducible exact Ex.refl _ | with_reducible exact ex_hid | ((with_reducible refine' Ex.trans ?exe (by with_reducible assumption)); (case exe => wtm_at "ex")) | ((with_reducible refine' Ex.trans ?exe (hid_ex (by with_reducible assumption))); (case exe => wtm_at "ex")) | ((with_reducible refine' Ex.trans ?exe ex_hid); (case exe => wtm_at "ex")))
local macro_rules | `(tactic| wtm_at "bag") => `(tactic| first | with_reducible assumption | ((with_reducible refine' Bag.mono ?bgm (by with_reducible assumption)); (case bgm => wtm_at "bag")))
local macro_rules | `(tactic| wtm_at "hs") => `(tactic| first | with_reducible assumption | ((with_reducible refine' hid_tup ?hb ?hp); (case hp => with_reducible assumption); (case hb => wtm_at "bag")) | ((with_reducible refine' hid_new ?hb ?hn ?hp); (case hp => with_reducible assumption); (case hn => with_reducible assumption); (case hb => wtm_at "bag")) | ((with_reducible refine' ex_at ?exe (by with_reducible assumption)); (case exe => wtm_at "ex")))
local macro_rules | `(tactic| wtm_at "st2") => `(tactic| first
  | ((with_reducible refine' i_mulC ?u0 ?uq); (case u0 => first | exact cmul_l (by decide) | exact cmul_r (by decide)))
  | ((with_reducible refine' i_ixLr (v := ?u0) ?u1 ?u2 ?uq); (case u1 => with_reducible assumption); (case u2 => exact rfl))
  | (with_reducible refine' i_sub ?uq)
  | ((with_reducible refine' i_mkL ?u0 (fun np nH nfr nhe nhp => ?uq)); (case u0 => exact Nat.le_of_ble_eq_true rfl))
  | ((with_reducible refine' i_setL (n := ?u0) ?u1 ?u2 (fun sH sh se => ?uq)); (case u1 => with_reducible assumption); (case u2 => exact rfl))
  | (with_reducible refine' i_sl ?uq)
  | (with_reducible refine' i_nopart ?uq)
  | (with_reducible refine' i_part ?uq)
  | (with_reducible refine' i_part1 ?uq))
local macro_rules | `(tactic| wtm_at "sz2") => `(tactic| ((with_reducible refine' sz_fmod ?sz1 ?sz2); (case sz1 => wtm_at "nz"); (case sz2 => wtm_at "sz")))
local macro_rules | `(tactic| wtm_at "stb") => `(tactic| first
  | ((with_reducible refine' i_mkTB ?u0 ?u1 (fun np nH nhe nhb nhp => ?uq)); (case u0 => exact Nat.le_of_ble_eq_true rfl); (case u1 => wtm_at "bag"))
  | ((with_reducible refine' i_mkLB ?u0 ?u1 (fun np nH nfr nhe nhb nhp => ?uq)); (case u0 => exact Nat.le_of_ble_eq_true rfl); (case u1 => wtm_at "bag"))
  | wtm_at "st")
local macro_rules | `(tactic| wtm_at "gob") => `(tactic| repeat' (wtm_at "stb"))
local macro_rules | `(tactic| wtm_at "gob0") => `(tactic| ((try dsimp only [L2.cxOf, L2.Cx.nox, L2.Cx.wish, L2.Cx.tr, L2.Cx.blk]); (try wtm_at "nrm"); wtm_at "gob"))
local macro_rules | `(tactic| wtm_at "use") => `(tactic| ((with_reducible refine' use_turn_in ?u0 ?u1 ?u2 ?u3 ?u4 ?u5 ?u6 ?u7 ?u8 ?u9 ?u10 ?u11 ?uq); (case u0 => wtm_at "dp"); (case u1 => wtm_at "dp"); (case u2 => wtm_at "dp"); (case u3 => wtm_at "szb"); (case u4 => wtm_at "szb"); (case u5 => wtm_at "szb"); (case u6 => wtm_at "szb"); (case u7 => wtm_at "szb"); (case u8 => wtm_at "szb"); (case u9 => wtm_at "szb"); (case u10 => wtm_at "szb"); (case u11 => wtm_at "szb")))
local macro_rules | `(tactic| wtm_at "use") => `(tactic| ((with_reducible refine' use_step_from ?u0 ?u1 ?u2 ?u3 ?u4 ?u5 ?u6 ?u7 (fun ur uH ue ud => ?uq)); (case u0 => wtm_at "dp"); (case u1 => wtm_at "dp"); (case u2 => wtm_at "szb"); (case u3 => wtm_at "szb"); (case u4 => wtm_at "szb"); (case u5 => wtm_at "szb"); (case u6 => wtm_at "szb"); (case u7 => wtm_at "szb")))
local macro_rules | `(tactic| wtm_at "use") => `(tactic| (with_reducible refine' use_shared_of ?uq))
local macro_rules | `(tactic| wtm_at "use") => `(tactic| ((with_reducible refine' use_is_integer ?u0 ?uq); (case u0 => wtm_at "dp")))
local macro_rules | `(tactic| wtm_at "use") => `(tactic| ((with_reducible refine' use_is_between_in ?u0 ?u1 ?u2 ?u3 ?u4 ?u5 ?u6 ?u7 ?u8 ?u9 ?u10 ?u11 (fun uH ue => ?uq)); (case u0 => wtm_at "dp"); (case u1 => wtm_at "dp"); (case u2 => wtm_at "dp"); (case u3 => wtm_at "szb"); (case u4 => wtm_at "szb"); (case u5 => wtm_at "szb"); (case u6 => wtm_at "szb"); (case u7 => wtm_at "szb"); (case u8 => wtm_at "szb"); (case u9 => wtm_at "szb"); (case u10 => wtm_at "szb"); (case u11 => wtm_at "szb")))
local macro_rules | `(tactic| wtm_at "use") => `(tactic| ((with_reducible refine' use_line_through ?u0 ?u1 ?u2 ?u3 ?u4 ?u5 ?u6 ?u7 (fun ur uH ue ud => ?uq)); (case u0 => wtm_at "dp"); (case u1 => wtm_at "dp"); (case u2 => wtm_at "szb"); (case u3 => wtm_at "szb"); (case u4 => wtm_at "szb"); (case u5 => wtm_at "szb"); (case u6 => wtm_at "szb"); (case u7 => wtm_at "szb")))
local macro_rules | `(tactic| wtm_at "use") => `(tactic| ((with_reducible refine' use_reduced_point ?u0 ?u1 (fun ur uH ue ud => ?uq)); (case u0 => wtm_at "nz"); (case u1 => wtm_at "szb")))
local macro_rules | `(tactic| wtm_at "use") => `(tactic| ((with_reducible refine' use_is_point ?u0 (fun uH ue => ?uq)); (case u0 => wtm_at "dp")))
local macro_rules | `(tactic| wtm_at "use") => `(tactic| ((with_reducible refine' use_line_meet_in ?u0 ?u1 ?u2 ?u3 ?u4 ?u5 ?u6 ?u7 ?u8 ?u9 ?u10 ?u11 ?u12 ?u13 ?u14 ?u15 (fun ur uH ue ud => ?uq)); (case u0 => wtm_at "dp"); (case u1 => wtm_at "dp"); (case u2 => wtm_at "dp"); (case u3 => wtm_at "dp"); (case u4 => wtm_at "szb"); (case u5 => wtm_at "szb"); (case u6 => wtm_at "szb"); (case u7 => wtm_at "szb"); (case u8 => wtm_at "szb"); (case u9 => wtm_at "szb"); (case u10 => wtm_at "szb"); (case u11 => wtm_at "szb"); (case u12 => wtm_at "szb"); (case u13 => wtm_at "szb"); (case u14 => wtm_at "szb"); (case u15 => wtm_at "szb")))
local macro_rules | `(tactic| wtm_at "use") => `(tactic| (first | ((with_reducible refine' use_x_less ?u0 ?u1 ?u2 ?u3 ?u4 ?u5 ?u6 ?u7 ?uq); (case u0 => wtm_at "dp"); (case u1 => wtm_at "dp"); (case u2 => wtm_at "szb"); (case u3 => wtm_at "szb"); (case u4 => wtm_at "szb"); (case u5 => wtm_at "szb"); (case u6 => wtm_at "szb"); (case u7 => wtm_at "szb")) | fail))
local macro_rules | `(tactic| wtm_at "use") => `(tactic| (first | ((with_reducible refine' use_y_less ?u0 ?u1 ?u2 ?u3 ?u4 ?u5 ?u6 ?u7 ?uq); (case u0 => wtm_at "dp"); (case u1 => wtm_at "dp"); (case u2 => wtm_at "szb"); (case u3 => wtm_at "szb"); (case u4 => wtm_at "szb"); (case u5 => wtm_at "szb"); (case u6 => wtm_at "szb"); (case u7 => wtm_at "szb")) | fail))
local macro_rules | `(tactic| wtm_at "use") => `(tactic| (first | ((with_reducible refine' use_is_lower ?u0 ?u1 ?u2 ?u3 ?u4 ?u5 ?u6 ?u7 ?uq); (case u0 => wtm_at "dp"); (case u1 => wtm_at "dp"); (case u2 => wtm_at "szb"); (case u3 => wtm_at "szb"); (case u4 => wtm_at "szb"); (case u5 => wtm_at "szb"); (case u6 => wtm_at "szb"); (case u7 => wtm_at "szb")) | fail))
local macro_rules | `(tactic| wtm_at "use") => `(tactic| (first | ((with_reducible refine' use_half_of ?u0 ?uq); (case u0 => wtm_at "dp")) | fail))
local macro_rules | `(tactic| wtm_at "use") => `(tactic| (first | ((with_reducible refine' use_is_ahead_round ?u0 ?u1 ?u2 ?u3 ?u4 ?u5 ?u6 ?u7 ?u8 ?u9 ?u10 ?u11 (fun uH ue => ?uq)); (case u0 => wtm_at "dp"); (case u1 => wtm_at "dp"); (case u2 => wtm_at "dp"); (case u3 => wtm_at "szb"); (case u4 => wtm_at "szb"); (case u5 => wtm_at "szb"); (case u6 => wtm_at "szb"); (case u7 => wtm_at "szb"); (case u8 => wtm_at "szb"); (case u9 => wtm_at "szb"); (case u10 => wtm_at "szb"); (case u11 => wtm_at "szb")) | fail))
local macro_rules | `(tactic| wtm_at "use") => `(tactic| (first | ((with_reducible refine' use_is_nearer ?u0 ?u1 ?u2 ?u3 ?u4 ?u5 ?u6 ?u7 ?u8 ?u9 ?u10 ?u11 (fun uH ue => ?uq)); (case u0 => wtm_at "dp"); (case u1 => wtm_at "dp"); (case u2 => wtm_at "dp"); (case u3 => wtm_at "szb"); (case u4 => wtm_at "szb"); (case u5 => wtm_at "szb"); (case u6 => wtm_at "szb"); (case u7 => wtm_at "szb"); (case u8 => wtm_at "szb"); (case u9 => wtm_at "szb"); (case u10 => wtm_at "szb"); (case u11 => wtm_at "szb")) | fail))
local macro_rules | `(tactic| wtm_at "use") => `(tactic| (first | ((with_reducible refine' use_is_first_round ?u0 ?u1 ?u2 ?u3 ?u4 ?u5 ?u6 ?u7 ?u8 ?u9 ?u10 ?u11 (fun uH ue => ?uq)); (case u0 => wtm_at "dp"); (case u1 => wtm_at "dp"); (case u2 => wtm_at "dp"); (case u3 => wtm_at "szb"); (case u4 => wtm_at "szb"); (case u5 => wtm_at "szb"); (case u6 => wtm_at "szb"); (case u7 => wtm_at "szb"); (case u8 => wtm_at "szb"); (case u9 => wtm_at "szb"); (case u10 => wtm_at "szb"); (case u11 => wtm_at "szb")) | fail))
section
variable {P : Program} {w : World} {K : PySem.W.Frag} {mg : Str → Option Value} {base : Heap} {H H' : Hp} {Q : VK} {E : XK} {v1 v2 v3 v4 : V} {x1 y1 w1 x2 y2 w2 x3 y3 w3 x4 y4 w4 : Int}
abbrev Pt : Type := Int × Int × Int
abbrev dpt (p : Pt) : PyData := pt p.1 p.2.1 p.2.2
abbrev low (p q : Pt) : Bool := lower p.1 p.2.1 p.2.2 q.1 q.2.1 q.2.2
def com (a b c d : Pt) : PyData :=
  let l0 := if low b a then b else a
  let h0 := if low b a then a else b
  let l1 := if low d c then d else c
  let h1 := if low d c then c else d
  let l := if low l0 l1 then l1 else l0
  let h := if low h1 h0 then h1 else h0
  if low h l then .tuple [] else if PyData.eqv (dpt l) (dpt h) then .tuple [dpt l] else if HT.lexLt [l.1, l.2.1, l.2.2] [h.1, h.2.1, h.2.2] then .tuple [dpt l, dpt h] else .tuple [dpt h, dpt l]
theorem i_ltP {x y w x' y' w' : Int} (h1 : Dp K H v1 (pt x y w)) (h2 : Dp K H v2 (pt x' y' w')) (q : Q (.bl (HT.lexLt [x, y, w] [x', y', w'])) H) : rLtT K v1 v2 H Q := i_ltT (ns := [x, y, w]) (ms := [x', y', w']) h1 h2 rfl rfl q
local macro_rules | `(tactic| wtm_at "st2") => `(tactic| (first | ((with_reducible refine' i_ltP ?u0 ?u1 ?uq); (case u0 => wtm_at "dp"); (case u1 => wtm_at "dp")) | fail))
def sp_common_on_line (K : PySem.W.Frag) : Sp := A4 fun v1 v2 v3 v4 H Q => ∃ x1 y1 w1 x2 y2 w2 x3 y3 w3 x4 y4 w4 : Int, Dp K H v1 (pt x1 y1 w1) ∧ Dp K H v2 (pt x2 y2 w2) ∧ Dp K H v3 (pt x3 y3 w3) ∧ Dp K H v4 (pt x4 y4 w4) ∧ (Sz B0 x1 ∧ Sz B0 y1 ∧ Sz B0 w1) ∧ (Sz B0 x2 ∧ Sz B0 y2 ∧ Sz B0 w2) ∧ (Sz B0 x3 ∧ Sz B0 y3 ∧ Sz B0 w3) ∧ (Sz B0 x4 ∧ Sz B0 y4 ∧ Sz B0 w4) ∧ Ret K (com (x1, y1, w1) (x2, y2, w2) (x3, y3, w3) (x4, y4, w4)) H Q
abbrev s_common_on_line : Stmt := top 21
theorem sc_common_on_line : FnScope ["one", "two", "three", "four", "low", "high", "least", "most"] ["one", "two", "three", "four"] (defScope s_common_on_line) := ⟨rfl, rfl, rfl, by decide +kernel, rfl, by decide +kernel, by decide +kernel⟩
theorem ok_common_on_line {f : Addr} {fd : FuncData} (F : FnP K "common_on_line" s_common_on_line f fd) (g : G mg) (c_is_lower : Cl P w K mg base 2 "is_lower" (sp_is_lower K))  : FnOk P w K mg base CX0 3 f fd ["one", "two", "three", "four"] (sp_common_on_line K) := by
  have nd := sc_common_on_line.nd
  refine F.ok sc_common_on_line (fun vs H Q E h => h.len) (fun cdv A outer s H vs Q E hr h => ?_)
  obtain ⟨v1, v2, v3, v4, rfl, h⟩ := h
  refine ⟨_, PSs.nox (pss_cons (ps_asg (pe_ifExp (pt_val (pc c_is_lower hr (by decide) (by rfl) (pa_cons (pv 1) (pa_cons (pv 0) pa_nil)))) (pe_tup (pa_cons (pv 1) (pa_cons (pv 0) pa_nil))) (pe_tup (pa_cons (pv 0) (pa_cons (pv 1) pa_nil)))) (pg_tup (n := 2) (by rfl) (pgs_cons (pg_name (i := 4) nd rfl (Or.inl rfl)) (pgs_cons (pg_name (i := 5) nd rfl (Or.inl rfl)) pgs_nil)))) (pss_cons (ps_asg (pe_ifExp (pt_val (pc c_is_lower hr (by decide) (by rfl) (pa_cons (pv 3) (pa_cons (pv 2) pa_nil)))) (pe_tup (pa_cons (pv 3) (pa_cons (pv 2) pa_nil))) (pe_tup (pa_cons (pv 2) (pa_cons (pv 3) pa_nil)))) (pg_tup (n := 2) (by rfl) (pgs_cons (pg_name (i := 6) nd rfl (Or.inl rfl)) (pgs_cons (pg_name (i := 7) nd rfl (Or.inl rfl)) pgs_nil)))) (pss_cons (ps_if (pt_val (pc c_is_lower hr (by decide) (by rfl) (pa_cons (pv 4) (pa_cons (pv 6) pa_nil)))) (pss_one (ps_set (i := 4) nd rfl (Or.inl rfl) (pv 6))) pss_nil) (pss_cons (ps_if (pt_val (pc c_is_lower hr (by decide) (by rfl) (pa_cons (pv 7) (pa_cons (pv 5) pa_nil)))) (pss_one (ps_set (i := 5) nd rfl (Or.inl rfl) (pv 7))) pss_nil) (pss_cons (ps_if (pt_val (pc c_is_lower hr (by decide) (by rfl) (pa_cons (pv 5) (pa_cons (pv 4) pa_nil)))) (pss_one (ps_ret (pe_tup pa_nil))) pss_nil) (pss_cons (ps_if (pt_cmpR (op_eqD hr.units) (pv 4) (pv 5) (nomark _)) (pss_one (ps_ret (pe_tup (pa_cons (pv 4) pa_nil)))) pss_nil) (pss_one (ps_ret (pe_ifExp (pt_cmpR (op_ltT hr.units0) (pv 4) (pv 5) (nomark _)) (pe_tup (pa_cons (pv 4) (pa_cons (pv 5) pa_nil))) (pe_tup (pa_cons (pv 5) (pa_cons (pv 4) pa_nil)))))))))))), ?_⟩
  obtain ⟨x1, y1, w1, x2, y2, w2, x3, y3, w3, x4, y4, w4, h1, h2, h3, h4, ⟨a1, a2, a3⟩, ⟨b1, b2, b3⟩, ⟨c1, c2, c3⟩, ⟨d1, d2, d3⟩, q⟩ := h
  wtm_at "go0"
  all_goals (dsimp only; simp only [com, low, dpt, *, if_true, if_false, Bool.false_eq_true] at q; first | (wtm_at "fin"; done) | (exfalso; clear q; simp_all only [Bool.false_eq_true, Bool.true_eq_false]))
theorem use_common_on_line (h1 : Dp K H v1 (pt x1 y1 w1)) (h2 : Dp K H v2 (pt x2 y2 w2)) (h3 : Dp K H v3 (pt x3 y3 w3)) (h4 : Dp K H v4 (pt x4 y4 w4)) (a1 : Sz B0 x1) (a2 : Sz B0 y1) (a3 : Sz B0 w1) (b1 : Sz B0 x2) (b2 : Sz B0 y2) (b3 : Sz B0 w2) (c1 : Sz B0 x3) (c2 : Sz B0 y3) (c3 : Sz B0 w3) (d1 : Sz B0 x4) (d2 : Sz B0 y4) (d3 : Sz B0 w4) (q : ∀ v H2, Ex H H2 → Dp K H2 v (com (x1, y1, w1) (x2, y2, w2) (x3, y3, w3) (x4, y4, w4)) → Q v H2) : sp_common_on_line K [v1, v2, v3, v4] H Q E := ⟨_, _, _, _, rfl, _, _, _, _, _, _, _, _, _, _, _, _, h1, h2, h3, h4, ⟨a1, a2, a3⟩, ⟨b1, b2, b3⟩, ⟨c1, c2, c3⟩, ⟨d1, d2, d3⟩, q⟩
local macro_rules | `(tactic| wtm_at "use") => `(tactic| (first | ((with_reducible refine' use_common_on_line ?u0 ?u1 ?u2 ?u3 ?u4 ?u5 ?u6 ?u7 ?u8 ?u9 ?u10 ?u11 ?u12 ?u13 ?u14 ?u15 (fun ur uH ue ud => ?uq)); (case u0 => wtm_at "dp"); (case u1 => wtm_at "dp"); (case u2 => wtm_at "dp"); (case u3 => wtm_at "dp"); (case u4 => wtm_at "szb"); (case u5 => wtm_at "szb"); (case u6 => wtm_at "szb"); (case u7 => wtm_at "szb"); (case u8 => wtm_at "szb"); (case u9 => wtm_at "szb"); (case u10 => wtm_at "szb"); (case u11 => wtm_at "szb"); (case u12 => wtm_at "szb"); (case u13 => wtm_at "szb"); (case u14 => wtm_at "szb"); (case u15 => wtm_at "szb")) | fail))
/-- what pieces_meet_in tells -/
def pmt (a b c d : Pt) : PyData :=
  if PyData.eqv (dpt a) (dpt b) then (if btw a.1 a.2.1 a.2.2 c.1 c.2.1 c.2.2 d.1 d.2.1 d.2.2 then .tuple [dpt a] else .tuple [])
  else if PyData.eqv (dpt c) (dpt d) then (if btw c.1 c.2.1 c.2.2 a.1 a.2.1 a.2.2 b.1 b.2.1 b.2.2 then .tuple [dpt c] else .tuple [])
  else if sgn (det a.1 a.2.1 a.2.2 b.1 b.2.1 b.2.2 c.1 c.2.1 c.2.2) = 0 ∧ sgn (det a.1 a.2.1 a.2.2 b.1 b.2.1 b.2.2 d.1 d.2.1 d.2.2) = 0 then com a b c d
  else if 0 < sgn (det a.1 a.2.1 a.2.2 b.1 b.2.1 b.2.2 c.1 c.2.1 c.2.2) * sgn (det a.1 a.2.1 a.2.2 b.1 b.2.1 b.2.2 d.1 d.2.1 d.2.2) ∨ 0 < sgn (det c.1 c.2.1 c.2.2 d.1 d.2.1 d.2.2 a.1 a.2.1 a.2.2) * sgn (det c.1 c.2.1 c.2.2 d.1 d.2.1 d.2.2 b.1 b.2.1 b.2.2) then .tuple []
  else .tuple [lmeet a.1 a.2.1 a.2.2 b.1 b.2.1 b.2.2 c.1 c.2.1 c.2.2 d.1 d.2.1 d.2.2]
theorem sz_sgn (s : Int) : Sz 2 (sgn s) := by
  unfold sgn Sz
  split
  · decide
  · split <;> decide
local macro_rules | `(tactic| wtm_at "sz") => `(tactic| (with_reducible exact sz_sgn _))
def sp_pieces_meet_in (K : PySem.W.Frag) : Sp := A4 fun v1 v2 v3 v4 H Q => ∃ x1 y1 w1 x2 y2 w2 x3 y3 w3 x4 y4 w4 : Int, Dp K H v1 (pt x1 y1 w1) ∧ Dp K H v2 (pt x2 y2 w2) ∧ Dp K H v3 (pt x3 y3 w3) ∧ Dp K H v4 (pt x4 y4 w4) ∧ (Sz B0 x1 ∧ Sz B0 y1 ∧ Sz B0 w1) ∧ (Sz B0 x2 ∧ Sz B0 y2 ∧ Sz B0 w2) ∧ (Sz B0 x3 ∧ Sz B0 y3 ∧ Sz B0 w3) ∧ (Sz B0 x4 ∧ Sz B0 y4 ∧ Sz B0 w4) ∧ Ret K (pmt (x1, y1, w1) (x2, y2, w2) (x3, y3, w3) (x4, y4, w4)) H Q
abbrev s_pieces_meet_in : Stmt := top 22
theorem sc_pieces_meet_in : FnScope ["one", "two", "three", "four", "first", "second"] ["one", "two", "three", "four"] (defScope s_pieces_meet_in) := ⟨rfl, rfl, rfl, by decide +kernel, rfl, by decide +kernel, by decide +kernel⟩
theorem ok_pieces_meet_in {f : Addr} {fd : FuncData} (F : FnP K "pieces_meet_in" s_pieces_meet_in f fd) (g : G mg) (c_turn_in : Cl P w K mg base 1 "turn_in" (sp_turn_in K)) (c_common_on_line : Cl P w K mg base 3 "common_on_line" (sp_common_on_line K)) (c_line_meet_in : Cl P w K mg base 2 "line_meet_in" (sp_line_meet_in K)) (c_is_between_in : Cl P w K mg base 2 "is_between_in" (sp_is_between_in K))  : FnOk P w K mg base CX0 4 f fd ["one", "two", "three", "four"] (sp_pieces_meet_in K) := by
  have nd := sc_pieces_meet_in.nd
  refine F.ok sc_pieces_meet_in (fun vs H Q E h => h.len) (fun cdv A outer s H vs Q E hr h => ?_)
  obtain ⟨v1, v2, v3, v4, rfl, h⟩ := h
  refine ⟨_, PSs.nox (pss_cons (ps_if (pt_cmpR (op_eqD hr.units) (pv 0) (pv 1) (nomark _)) (pss_one (ps_ret (pe_ifExp (pt_val (pc c_is_between_in hr (by decide) (by rfl) (pa_cons (pv 0) (pa_cons (pv 2) (pa_cons (pv 3) pa_nil))))) (pe_tup (pa_cons (pv 0) pa_nil)) (pe_tup pa_nil)))) pss_nil) (pss_cons (ps_if (pt_cmpR (op_eqD hr.units) (pv 2) (pv 3) (nomark _)) (pss_one (ps_ret (pe_ifExp (pt_val (pc c_is_between_in hr (by decide) (by rfl) (pa_cons (pv 2) (pa_cons (pv 0) (pa_cons (pv 1) pa_nil))))) (pe_tup (pa_cons (pv 2) pa_nil)) (pe_tup pa_nil)))) pss_nil) (pss_cons (ps_set (i := 4) nd rfl (Or.inl rfl) (pc c_turn_in hr (by decide) (by rfl) (pa_cons (pv 0) (pa_cons (pv 1) (pa_cons (pv 2) pa_nil))))) (pss_cons (ps_set (i := 5) nd rfl (Or.inl rfl) (pc c_turn_in hr (by decide) (by rfl) (pa_cons (pv 0) (pa_cons (pv 1) (pa_cons (pv 3) pa_nil))))) (pss_cons (ps_if (PW.pt (pw_and (pt_cmpR op_eq (pv 4) pe_int (nomark _)) (pw_and1 (pt_cmpR op_eq (pv 5) pe_int (nomark _))))) (pss_one (ps_ret (pc c_common_on_line hr (by decide) (by rfl) (pa_cons (pv 0) (pa_cons (pv 1) (pa_cons (pv 2) (pa_cons (pv 3) pa_nil))))))) pss_nil) (pss_cons (ps_if (PW.pt (pw_or (pt_cmpR op_gt (pe_op op_mulX (pv 4) (pv 5)) pe_int (nomark _)) (pw_or1 (pt_cmpR op_gt (pe_op op_mulX (pc c_turn_in hr (by decide) (by rfl) (pa_cons (pv 2) (pa_cons (pv 3) (pa_cons (pv 0) pa_nil)))) (pc c_turn_in hr (by decide) (by rfl) (pa_cons (pv 2) (pa_cons (pv 3) (pa_cons (pv 1) pa_nil))))) pe_int (nomark _))))) (pss_one (ps_ret (pe_tup pa_nil))) pss_nil) (pss_one (ps_ret (pe_tup (pa_cons (pc c_line_meet_in hr (by decide) (by rfl) (pa_cons (pv 0) (pa_cons (pv 1) (pa_cons (pv 2) (pa_cons (pv 3) pa_nil))))) pa_nil)))))))))), ?_⟩
  obtain ⟨x1, y1, w1, x2, y2, w2, x3, y3, w3, x4, y4, w4, h1, h2, h3, h4, ⟨a1, a2, a3⟩, ⟨b1, b2, b3⟩, ⟨c1, c2, c3⟩, ⟨d1, d2, d3⟩, q⟩ := h
  wtm_at "go0"
  all_goals (dsimp only; simp only [pmt, dpt, *, if_true, if_false, Bool.false_eq_true, and_true, true_and, and_false, false_and, or_true, true_or, or_false, false_or, and_self, or_self, Int.zero_mul, Int.mul_zero, Int.lt_irrefl] at q; first | (wtm_at "fin"; done) | (exfalso; clear q; simp_all only [Int.zero_mul, Int.mul_zero, Int.lt_irrefl]))
theorem use_pieces_meet_in (h1 : Dp K H v1 (pt x1 y1 w1)) (h2 : Dp K H v2 (pt x2 y2 w2)) (h3 : Dp K H v3 (pt x3 y3 w3)) (h4 : Dp K H v4 (pt x4 y4 w4)) (a1 : Sz B0 x1) (a2 : Sz B0 y1) (a3 : Sz B0 w1) (b1 : Sz B0 x2) (b2 : Sz B0 y2) (b3 : Sz B0 w2) (c1 : Sz B0 x3) (c2 : Sz B0 y3) (c3 : Sz B0 w3) (d1 : Sz B0 x4) (d2 : Sz B0 y4) (d3 : Sz B0 w4) (q : ∀ v H2, Ex H H2 → Dp K H2 v (pmt (x1, y1, w1) (x2, y2, w2) (x3, y3, w3) (x4, y4, w4)) → Q v H2) : sp_pieces_meet_in K [v1, v2, v3, v4] H Q E := ⟨_, _, _, _, rfl, _, _, _, _, _, _, _, _, _, _, _, _, h1, h2, h3, h4, ⟨a1, a2, a3⟩, ⟨b1, b2, b3⟩, ⟨c1, c2, c3⟩, ⟨d1, d2, d3⟩, q⟩
local macro_rules | `(tactic| wtm_at "use") => `(tactic| (first | ((with_reducible refine' use_pieces_meet_in ?u0 ?u1 ?u2 ?u3 ?u4 ?u5 ?u6 ?u7 ?u8 ?u9 ?u10 ?u11 ?u12 ?u13 ?u14 ?u15 (fun ur uH ue ud => ?uq)); (case u0 => wtm_at "dp"); (case u1 => wtm_at "dp"); (case u2 => wtm_at "dp"); (case u3 => wtm_at "dp"); (case u4 => wtm_at "szb"); (case u5 => wtm_at "szb"); (case u6 => wtm_at "szb"); (case u7 => wtm_at "szb"); (case u8 => wtm_at "szb"); (case u9 => wtm_at "szb"); (case u10 => wtm_at "szb"); (case u11 => wtm_at "szb"); (case u12 => wtm_at "szb"); (case u13 => wtm_at "szb"); (case u14 => wtm_at "szb"); (case u15 => wtm_at "szb")) | fail))
end
end Wb

namespace Wb
open PySem PySem.Spec PyProof.Rows L2
open Evl (Ex Ex.refl Ex.trans Ex.new)
local macro_rules | `(tactic| wtm_at "dp") => `(tactic| first | with_reducible assumption | with_reducible exact Dp.int _ | with_reducible exact Dp.bl _ | with_reducible exact Dp.str _ | with_reducible exact Dp.non | ((with_reducible refine' dpMono ?dme (by with_reducible assumption)); (case dme => wtm_at "ex")) | ((with_reducible refine' Dp.tup (Evl.st_of ?dph) ?dpa); (case dph => wtm_at "hs"); (case dpa => wtm_at "dpa")) | ((with_reducible refine' Dp.lst (Evl.sq_of ?dph) ?dpa); (case dph => wtm_at "hs"); (case dpa => wtm_at "dpa")))
local macro_rules | `(tactic| wtm_at "dpa") => `(tactic| first | with_reducible exact DpAll.nil | ((with_reducible refine' DpAll.cons ?dp1 ?dp2); (case dp1 => wtm_at "dp"); (case dp2 => wtm_at "dpa")) | with_reducible assumption | ((with_reducible refine' dpMonoA ?dme (by with_reducible assumption)); (case dme => wtm_at "ex")))
local macro_rules | `(tactic| wtm_at "sz") => `(tactic| first | with_reducible assumption | ((with_reducible refine' sz_mul ?sz1 ?sz2); (case sz1 => wtm_at "sz"); (case sz2 => wtm_at "sz")) | ((with_reducible refine' sz_add ?sz1 ?sz2); (case sz1 => wtm_at "sz"); (case sz2 => wtm_at "sz")) | ((with_reducible refine' sz_sub ?sz1 ?sz2); (case sz1 => wtm_at "sz"); (case sz2 => wtm_at "sz")) | ((with_reducible refine' sz_neg ?sz1); (case sz1 => wtm_at "sz")) | ((with_reducible refine' sz_div ?sz1); (case sz1 => wtm_at "sz")) | ((with_reducible refine' sz_fdiv ?sz1); (case sz1 => wtm_at "sz")) | exact sz_lit (by decide) | wtm_at "sz2")
local macro_rules | `(tactic| wtm_at "szb") => `(tactic| first | with_reducible assumption | ((with_reducible refine' sz_mono ?szb1 ?szb2); (case szb1 => wtm_at "sz"); (case szb2 => decide)))
local macro_rules | `(tactic| wtm_at "nz") => `(tactic| first | assumption | decide | omega)
local macro_rules | `(tactic| wtm_at "shaped") => `(tactic| first | rfl | decide)
local macro_rules | `(tactic| wtm_at "sset") => `(tactic| ((dsimp only [L2.wipe, List.set, List.set_cons_zero, List.set_cons_succ]) <;> exact rfl))
local macro_rules | `(tactic| wtm_at "nrm") => `(tactic| dsimp only [L2.start, L2.wipe, List.set, List.append, List.map, List.map_cons, List.map_nil, List.length_cons, List.length_nil, Nat.reduceAdd, Nat.reduceSub, List.reduceReplicate, List.replicate, List.cons_append, List.nil_append, List.set_cons_zero, List.set_cons_succ])
local macro_rules | `(tactic| wtm_at "st") => `(tactic| first
  | ((with_reducible refine' i_var (v := ?u0) ?u1 ?uq); (case u1 => exact rfl))
  | ((with_reducible refine' i_nameN ?u0 ?uq); (case u0 => wtm_at "sset"))
  | (with_reducible refine' i_op ?uq)
  | (with_reducible refine' i_c ?uq)
  | (with_reducible refine' i_I0 ?uq)
  | ((with_reducible refine' i_ixTI (i := ?u0) ?u1 ?u2 ?u3 ?uq); (case u1 => wtm_at "dp"); (case u2 => wtm_at "ex"); (case u3 => exact rfl))
  | ((with_reducible refine' i_ixT (d := ?u0) ?u1 ?u2 ?u3 (fun xu hxu => ?uq)); (case u1 => wtm_at "dp"); (case u2 => wtm_at "ex"); (case u3 => exact rfl))
  | ((with_reducible refine' i_mul ?u0 ?u1 ?u2 ?uq); (case u0 => wtm_at "sz"); (case u1 => wtm_at "sz"); (case u2 => first | decide | omega))
  | (with_reducible refine' i_seq ?uq)
  | (with_reducible refine' i_asg ?uq)
  | (with_reducible refine' i_ret ?uq)
  | (with_reducible refine' i_ifs ?uq)
  | (with_reducible refine' i_drop ?uq)
  | (with_reducible refine' i_next ?uq)
  | (with_reducible refine' i_cons ?uq)
  | (with_reducible refine' i_nil ?uq)
  | (with_reducible refine' i_cl ?uq)
  | (with_reducible refine' i_cb ?uq)
  | (with_reducible refine' i_tup ?uq)
  | (with_reducible refine' i_lst ?uq)
  | ((with_reducible refine' i_mkT ?u0 (fun np nH nhe nhp => ?uq)); (case u0 => exact Nat.le_of_ble_eq_true rfl))
  | (with_reducible refine' i_test ?uq)
  | (with_reducible refine' i_B ?uq)
  | (with_reducible refine' i_k ?uq)
  | (with_reducible refine' i_and ?uq)
  | (with_reducible refine' i_or ?uq)
  | (with_reducible refine' i_not ?uq)
  | (with_reducible refine' i_andV ?uq)
  | (with_reducible refine' i_orV ?uq)
  | (with_reducible refine' i_notV ?uq)
  | (with_reducible refine' i_if ?uq)
  | (with_reducible refine' i_un ?uq)
  | (with_reducible refine' i_U ?uq)
  | (with_reducible refine' i_iteT ?uq)
  | (with_reducible refine' i_iteF ?uq)
  | ((with_reducible refine' i_iteTr ?u0 ?uq); (case u0 => first | with_reducible rfl | decide | (simp only [dIsInt, dIsBool, dIsTup, dIsStr, dIsLst, Bool.not_true, Bool.not_false]; done)))
  | ((with_reducible refine' i_iteFr ?u0 ?uq); (case u0 => first | with_reducible rfl | decide | (simp only [dIsInt, dIsBool, dIsTup, dIsStr, dIsLst, Bool.not_true, Bool.not_false]; done)))
  | (with_reducible refine' i_ite (fun hif => ?uqa) (fun hif => ?uqb))
  | (with_reducible refine' i_iteN (fun hif => ?uqa) (fun hif => ?uqb))
  | (with_reducible refine' i_iteBN (fun hif => ?uqa) (fun hif => ?uqb))
  | (with_reducible refine' i_iteB (fun hif => ?uqa) (fun hif => ?uqb))
  | ((with_reducible refine' i_modN ?u0 ?uq); (case u0 => wtm_at "nz"))
  | ((with_reducible refine' i_fdX ?u0 ?u1 ?u2 ?uq); (case u0 => wtm_at "nz"); (case u1 => wtm_at "sz"); (case u2 => first | decide | omega))
  | ((with_reducible refine' i_pow ?u0 ?uq); (case u0 => exact ⟨by decide, by decide +kernel⟩))
  | (with_reducible refine' i_eqI ?uq)
  | (with_reducible refine' i_neI ?uq)
  | (with_reducible refine' i_gcd ?uq)
  | (with_reducible refine' i_qabs ?uq)
  | (with_reducible refine' i_qint ?uq)
  | (with_reducible refine' i_qintB ?uq)
  | (with_reducible refine' i_qmax2 ?uq)
  | (with_reducible refine' i_qmin2 ?uq)
  | (with_reducible refine' i_isB ?uq)
  | (with_reducible refine' i_notB ?uq)
  | (with_reducible refine' i_chain ?uq)
  | (with_reducible refine' i_qisN ?uq)
  | (with_reducible refine' i_qnotN ?uq)
  | (with_reducible refine' i_yes ?uq)
  | (with_reducible refine' i_par ?uq)
  | (with_reducible refine' i_par3 ?uq)
  | ((with_reducible refine' i_par2 ?u0 ?uq); (case u0 => wtm_at "sset"))
  | ((with_reducible refine' i_par33 ?u0 ?uq); (case u0 => wtm_at "sset"))
  | ((with_reducible refine' i_ixLI (i := ?u0) ?u1 ?u2 ?u3 ?uq); (case u1 => wtm_at "dp"); (case u2 => wtm_at "ex"); (case u3 => exact rfl))
  | ((with_reducible refine' i_ixL (d := ?u0) ?u1 ?u2 ?u3 (fun xu hxu => ?uq)); (case u1 => wtm_at "dp"); (case u2 => wtm_at "ex"); (case u3 => exact rfl))
  | ((with_reducible refine' i_qlenT ?u0 ?uq); (case u0 => wtm_at "dp"))
  | ((with_reducible refine' i_qlenL ?u0 ?uq); (case u0 => wtm_at "dp"))
  | ((with_reducible refine' i_gtup ?u0 ?u1 ?u2 (fun gvs gdp => ?uq)); (case u0 => wtm_at "dp"); (case u1 => wtm_at "ex"); (case u2 => exact rfl))
  | ((with_reducible refine' i_glst ?u0 ?u1 ?u2 (fun gvs gdp => ?uq)); (case u0 => wtm_at "dp"); (case u1 => wtm_at "ex"); (case u2 => exact rfl))
  | ((with_reducible refine' i_gconsI ?u0 (fun gr gh => ?uq)); (case u0 => with_reducible assumption))
  | ((with_reducible refine' i_gconsA ?u0 (fun gv gr gh1 gh2 => ?uq)); (case u0 => with_reducible assumption))
  | ((with_reducible refine' i_gnilA ?u0 ?uq); (case u0 => with_reducible assumption))
  | ((with_reducible refine' i_isiI ?u0 ?uq); (case u0 => wtm_at "dp"))
  | ((with_reducible refine' i_isiB ?u0 ?uq); (case u0 => wtm_at "dp"))
  | ((with_reducible refine' i_isiT ?u0 ?uq); (case u0 => wtm_at "dp"))
  | ((with_reducible refine' i_isiS ?u0 ?uq); (case u0 => wtm_at "dp"))
  | ((with_reducible refine' i_isiL ?u0 ?uq); (case u0 => wtm_at "dp"))
  | ((with_reducible refine' i_eqD ?u0 ?u1 ?u2 ?u3 ?uq); (case u0 => wtm_at "dp"); (case u1 => wtm_at "dp"); (case u2 => wtm_at "shaped"); (case u3 => wtm_at "shaped"))
  | ((with_reducible refine' i_neD ?u0 ?u1 ?u2 ?u3 ?uq); (case u0 => wtm_at "dp"); (case u1 => wtm_at "dp"); (case u2 => wtm_at "shaped"); (case u3 => wtm_at "shaped"))
  | wtm_at "st2"
  | wtm_at "use")
local macro_rules | `(tactic| wtm_at "go") => `(tactic| repeat' (wtm_at "st"))
local macro_rules | `(tactic| wtm_at "go0") => `(tactic| ((try dsimp only [L2.cxOf, L2.Cx.nox, L2.Cx.wish, L2.Cx.tr, L2.Cx.blk]); (try wtm_at "nrm"); wtm_at "go"))
local macro_rules | `(tactic| wtm_at "fin") => `(tactic| ((try dsimp only); first | with_reducible assumption | assumption | ((with_reducible refine' Ret.use ?rur ?rue ?rud); (case rur => with_reducible assumption); (case rue => wtm_at "ex"); (case rud => wtm_at "dp"))))
local macro_rules | `(tactic| wtm_at "ex") => `(tactic| first | with_reducible assumption | with_reducible exact Ex.refl _ | with_reducible exact ex_hid | ((with_reducible refine' Ex.trans ?exe (by with_reducible assumption)); (case exe => wtm_at "ex")) | ((with_reducible refine' Ex.trans ?exe (hid_ex (by with_reducible assumption))); (case exe => wtm_at "ex")) | ((with_reducible refine' Ex.trans ?exe ex_hid); (case exe => wtm_at "ex")))
local macro_rules | `(tactic| wtm_at "bag") => `(tactic| first | with_reducible assumption | ((with_reducible refine' Bag.mono ?bgm (by with_reducible assumption)); (case bgm => wtm_at "bag")))
local macro_rules | `(tactic| wtm_at "hs") => `(tactic| first | with_reducible assumption | ((with_reducible refine' hid_tup ?hb ?hp); (case hp => with_reducible assumption); (case hb => wtm_at "bag")) | ((with_reducible refine' hid_new ?hb ?hn ?hp); (case hp => with_reducible assumption); (case hn => with_reducible assumption); (case hb => wtm_at "bag")) | ((with_reducible refine' ex_at ?exe (by with_reducible assumption)); (case exe => wtm_at "ex")))
local macro_rules | `(tactic| wtm_at "st2") => `(tactic| first
  | ((with_reducible refine' i_mulC ?u0 ?uq); (case u0 => first | exact cmul_l (by decide) | exact cmul_r (by decide)))
  | ((with_reducible refine' i_ixLr (v := ?u0) ?u1 ?u2 ?uq); (case u1 => with_reducible assumption); (case u2 => exact rfl))
  | (with_reducible refine' i_sub ?uq)
  | ((with_reducible refine' i_mkL ?u0 (fun np nH nfr nhe nhp => ?uq)); (case u0 => exact Nat.le_of_ble_eq_true rfl))
  | ((with_reducible refine' i_setL (n := ?u0) ?u1 ?u2 (fun sH sh se => ?uq)); (case u1 => with_reducible assumption); (case u2 => exact rfl))
  | (with_reducible refine' i_sl ?uq)
  | (with_reducible refine' i_nopart ?uq)
  | (with_reducible refine' i_part ?uq)
  | (with_reducible refine' i_part1 ?uq))
local macro_rules | `(tactic| wtm_at "sz2") => `(tactic| ((with_reducible refine' sz_fmod ?sz1 ?sz2); (case sz1 => wtm_at "nz"); (case sz2 => wtm_at "sz")))
local macro_rules | `(tactic| wtm_at "stb") => `(tactic| first
  | ((with_reducible refine' i_mkTB ?u0 ?u1 (fun np nH nhe nhb nhp => ?uq)); (case u0 => exact Nat.le_of_ble_eq_true rfl); (case u1 => wtm_at "bag"))
  | ((with_reducible refine' i_mkLB ?u0 ?u1 (fun np nH nfr nhe nhb nhp => ?uq)); (case u0 => exact Nat.le_of_ble_eq_true rfl); (case u1 => wtm_at "bag"))
  | wtm_at "st")
local macro_rules | `(tactic| wtm_at "gob") => `(tactic| repeat' (wtm_at "stb"))
local macro_rules | `(tactic| wtm_at "gob0") => `(tactic| ((try dsimp only [L2.cxOf, L2.Cx.nox, L2.Cx.wish, L2.Cx.tr, L2.Cx.blk]); (try wtm_at "nrm"); wtm_at "gob"))
local macro_rules | `(tactic| wtm_at "use") => `(tactic| ((with_reducible refine' use_turn_in ?u0 ?u1 ?u2 ?u3 ?u4 ?u5 ?u6 ?u7 ?u8 ?u9 ?u10 ?u11 ?uq); (case u0 => wtm_at "dp"); (case u1 => wtm_at "dp"); (case u2 => wtm_at "dp"); (case u3 => wtm_at "szb"); (case u4 => wtm_at "szb"); (case u5 => wtm_at "szb"); (case u6 => wtm_at "szb"); (case u7 => wtm_at "szb"); (case u8 => wtm_at "szb"); (case u9 => wtm_at "szb"); (case u10 => wtm_at "szb"); (case u11 => wtm_at "szb")))
local macro_rules | `(tactic| wtm_at "use") => `(tactic| ((with_reducible refine' use_step_from ?u0 ?u1 ?u2 ?u3 ?u4 ?u5 ?u6 ?u7 (fun ur uH ue ud => ?uq)); (case u0 => wtm_at "dp"); (case u1 => wtm_at "dp"); (case u2 => wtm_at "szb"); (case u3 => wtm_at "szb"); (case u4 => wtm_at "szb"); (case u5 => wtm_at "szb"); (case u6 => wtm_at "szb"); (case u7 => wtm_at "szb")))
local macro_rules | `(tactic| wtm_at "use") => `(tactic| (with_reducible refine' use_shared_of ?uq))
local macro_rules | `(tactic| wtm_at "use") => `(tactic| ((with_reducible refine' use_is_integer ?u0 ?uq); (case u0 => wtm_at "dp")))
local macro_rules | `(tactic| wtm_at "use") => `(tactic| ((with_reducible refine' use_is_between_in ?u0 ?u1 ?u2 ?u3 ?u4 ?u5 ?u6 ?u7 ?u8 ?u9 ?u10 ?u11 (fun uH ue => ?uq)); (case u0 => wtm_at "dp"); (case u1 => wtm_at "dp"); (case u2 => wtm_at "dp"); (case u3 => wtm_at "szb"); (case u4 => wtm_at "szb"); (case u5 => wtm_at "szb"); (case u6 => wtm_at "szb"); (case u7 => wtm_at "szb"); (case u8 => wtm_at "szb"); (case u9 => wtm_at "szb"); (case u10 => wtm_at "szb"); (case u11 => wtm_at "szb")))
local macro_rules | `(tactic| wtm_at "use") => `(tactic| ((with_reducible refine' use_line_through ?u0 ?u1 ?u2 ?u3 ?u4 ?u5 ?u6 ?u7 (fun ur uH ue ud => ?uq)); (case u0 => wtm_at "dp"); (case u1 => wtm_at "dp"); (case u2 => wtm_at "szb"); (case u3 => wtm_at "szb"); (case u4 => wtm_at "szb"); (case u5 => wtm_at "szb"); (case u6 => wtm_at "szb"); (case u7 => wtm_at "szb")))
local macro_rules | `(tactic| wtm_at "use") => `(tactic| ((with_reducible refine' use_reduced_point ?u0 ?u1 (fun ur uH ue ud => ?uq)); (case u0 => wtm_at "nz"); (case u1 => wtm_at "szb")))
local macro_rules | `(tactic| wtm_at "use") => `(tactic| ((with_reducible refine' use_is_point ?u0 (fun uH ue => ?uq)); (case u0 => wtm_at "dp")))
local macro_rules | `(tactic| wtm_at "use") => `(tactic| ((with_reducible refine' use_line_meet_in ?u0 ?u1 ?u2 ?u3 ?u4 ?u5 ?u6 ?u7 ?u8 ?u9 ?u10 ?u11 ?u12 ?u13 ?u14 ?u15 (fun ur uH ue ud => ?uq)); (case u0 => wtm_at "dp"); (case u1 => wtm_at "dp"); (case u2 => wtm_at "dp"); (case u3 => wtm_at "dp"); (case u4 => wtm_at "szb"); (case u5 => wtm_at "szb"); (case u6 => wtm_at "szb"); (case u7 => wtm_at "szb"); (case u8 => wtm_at "szb"); (case u9 => wtm_at "szb"); (case u10 => wtm_at "szb"); (case u11 => wtm_at "szb"); (case u12 => wtm_at "szb"); (case u13 => wtm_at "szb"); (case u14 => wtm_at "szb"); (case u15 => wtm_at "szb")))
local macro_rules | `(tactic| wtm_at "use") => `(tactic| (first | ((with_reducible refine' use_x_less ?u0 ?u1 ?u2 ?u3 ?u4 ?u5 ?u6 ?u7 ?uq); (case u0 => wtm_at "dp"); (case u1 => wtm_at "dp"); (case u2 => wtm_at "szb"); (case u3 => wtm_at "szb"); (case u4 => wtm_at "szb"); (case u5 => wtm_at "szb"); (case u6 => wtm_at "szb"); (case u7 => wtm_at "szb")) | fail))
local macro_rules | `(tactic| wtm_at "use") => `(tactic| (first | ((with_reducible refine' use_y_less ?u0 ?u1 ?u2 ?u3 ?u4 ?u5 ?u6 ?u7 ?uq); (case u0 => wtm_at "dp"); (case u1 => wtm_at "dp"); (case u2 => wtm_at "szb"); (case u3 => wtm_at "szb"); (case u4 => wtm_at "szb"); (case u5 => wtm_at "szb"); (case u6 => wtm_at "szb"); (case u7 => wtm_at "szb")) | fail))
local macro_rules | `(tactic| wtm_at "use") => `(tactic| (first | ((with_reducible refine' use_is_lower ?u0 ?u1 ?u2 ?u3 ?u4 ?u5 ?u6 ?u7 ?uq); (case u0 => wtm_at "dp"); (case u1 => wtm_at "dp"); (case u2 => wtm_at "szb"); (case u3 => wtm_at "szb"); (case u4 => wtm_at "szb"); (case u5 => wtm_at "szb"); (case u6 => wtm_at "szb"); (case u7 => wtm_at "szb")) | fail))
local macro_rules | `(tactic| wtm_at "use") => `(tactic| (first | ((with_reducible refine' use_half_of ?u0 ?uq); (case u0 => wtm_at "dp")) | fail))
local macro_rules | `(tactic| wtm_at "use") => `(tactic| (first | ((with_reducible refine' use_is_ahead_round ?u0 ?u1 ?u2 ?u3 ?u4 ?u5 ?u6 ?u7 ?u8 ?u9 ?u10 ?u11 (fun uH ue => ?uq)); (case u0 => wtm_at "dp"); (case u1 => wtm_at "dp"); (case u2 => wtm_at "dp"); (case u3 => wtm_at "szb"); (case u4 => wtm_at "szb"); (case u5 => wtm_at "szb"); (case u6 => wtm_at "szb"); (case u7 => wtm_at "szb"); (case u8 => wtm_at "szb"); (case u9 => wtm_at "szb"); (case u10 => wtm_at "szb"); (case u11 => wtm_at "szb")) | fail))
local macro_rules | `(tactic| wtm_at "use") => `(tactic| (first | ((with_reducible refine' use_is_nearer ?u0 ?u1 ?u2 ?u3 ?u4 ?u5 ?u6 ?u7 ?u8 ?u9 ?u10 ?u11 (fun uH ue => ?uq)); (case u0 => wtm_at "dp"); (case u1 => wtm_at "dp"); (case u2 => wtm_at "dp"); (case u3 => wtm_at "szb"); (case u4 => wtm_at "szb"); (case u5 => wtm_at "szb"); (case u6 => wtm_at "szb"); (case u7 => wtm_at "szb"); (case u8 => wtm_at "szb"); (case u9 => wtm_at "szb"); (case u10 => wtm_at "szb"); (case u11 => wtm_at "szb")) | fail))
local macro_rules | `(tactic| wtm_at "use") => `(tactic| (first | ((with_reducible refine' use_is_first_round ?u0 ?u1 ?u2 ?u3 ?u4 ?u5 ?u6 ?u7 ?u8 ?u9 ?u10 ?u11 (fun uH ue => ?uq)); (case u0 => wtm_at "dp"); (case u1 => wtm_at "dp"); (case u2 => wtm_at "dp"); (case u3 => wtm_at "szb"); (case u4 => wtm_at "szb"); (case u5 => wtm_at "szb"); (case u6 => wtm_at "szb"); (case u7 => wtm_at "szb"); (case u8 => wtm_at "szb"); (case u9 => wtm_at "szb"); (case u10 => wtm_at "szb"); (case u11 => wtm_at "szb")) | fail))
local macro_rules | `(tactic| wtm_at "use") => `(tactic| (first | ((with_reducible refine' use_common_on_line ?u0 ?u1 ?u2 ?u3 ?u4 ?u5 ?u6 ?u7 ?u8 ?u9 ?u10 ?u11 ?u12 ?u13 ?u14 ?u15 (fun ur uH ue ud => ?uq)); (case u0 => wtm_at "dp"); (case u1 => wtm_at "dp"); (case u2 => wtm_at "dp"); (case u3 => wtm_at "dp"); (case u4 => wtm_at "szb"); (case u5 => wtm_at "szb"); (case u6 => wtm_at "szb"); (case u7 => wtm_at "szb"); (case u8 => wtm_at "szb"); (case u9 => wtm_at "szb"); (case u10 => wtm_at "szb"); (case u11 => wtm_at "szb"); (case u12 => wtm_at "szb"); (case u13 => wtm_at "szb"); (case u14 => wtm_at "szb"); (case u15 => wtm_at "szb")) | fail))
local macro_rules | `(tactic| wtm_at "use") => `(tactic| (first | ((with_reducible refine' use_pieces_meet_in ?u0 ?u1 ?u2 ?u3 ?u4 ?u5 ?u6 ?u7 ?u8 ?u9 ?u10 ?u11 ?u12 ?u13 ?u14 ?u15 (fun ur uH ue ud => ?uq)); (case u0 => wtm_at "dp"); (case u1 => wtm_at "dp"); (case u2 => wtm_at "dp"); (case u3 => wtm_at "dp"); (case u4 => wtm_at "szb"); (case u5 => wtm_at "szb"); (case u6 => wtm_at "szb"); (case u7 => wtm_at "szb"); (case u8 => wtm_at "szb"); (case u9 => wtm_at "szb"); (case u10 => wtm_at "szb"); (case u11 => wtm_at "szb"); (case u12 => wtm_at "szb"); (case u13 => wtm_at "szb"); (case u14 => wtm_at "szb"); (case u15 => wtm_at "szb")) | fail))
section
variable {P : Program} {w : World} {K : PySem.W.Frag} {mg : Str → Option Value} {base : Heap} {H H' : Hp} {Q : VK} {E : XK} {v1 v2 v3 v4 : V} {x1 y1 w1 x2 y2 w2 x3 y3 w3 x4 y4 w4 : Int}
def rIns : V → List V → Hp → VK → Prop := fun x vs H Q => ∃ (l : Addr) (xs : List V) (i : Int) (y : V), x = .ref l ∧ vs = [.int i, y] ∧ H l = some (.lst xs) ∧ xs.length < sizeLine ∧ 0 ≤ i ∧ i < 2 ^ 63 ∧ Q .non (upd H l (.lst (xs.take i.toNat ++ [y] ++ xs.drop i.toNat)))
theorem mt_ins {X : Cx} : MtR X "list.insert" rIns := mt_insert
abbrev fstP (c p q : Pt) : Bool := fst c.1 c.2.1 c.2.2 p.1 p.2.1 p.2.2 q.1 q.2.1 q.2.2
abbrev SzP (p : Pt) : Prop := Sz B0 p.1 ∧ Sz B0 p.2.1 ∧ Sz B0 p.2.2
def sp_round_list (K : PySem.W.Frag) : Sp := A2 fun v1 v2 H Q => ∃ (c : Pt) (ps : List Pt) (rk : Pt → Int), Dp K H v1 (dpt c) ∧ Dp K H v2 (.list (ps.map dpt)) ∧ SzP c ∧ (∀ p ∈ ps, SzP p) ∧ ps.length ≤ 70 ∧ (∀ p ∈ ps, ∀ q ∈ ps, fstP c p q = decide (rk p < rk q)) ∧
  ∀ (qs : List Pt) (v : V) (H2 : Hp), qs.Perm ps → qs.Pairwise (fun p q => rk p ≤ rk q) → Ex H H2 → Dp K H2 v (.list (qs.map dpt)) → Q v H2
theorem ins_sorted {rk : Pt → Int} {qs : List Pt} {p : Pt} {lo : Nat} (h : qs.Pairwise (fun p q => rk p ≤ rk q)) (h1 : ∀ i q, i < lo → qs[i]? = some q → rk q < rk p) (h2 : ∀ i q, lo ≤ i → qs[i]? = some q → rk p ≤ rk q) : (qs.take lo ++ [p] ++ qs.drop lo).Pairwise (fun p q => rk p ≤ rk q) := by
  have hd : ∀ q ∈ qs.drop lo, rk p ≤ rk q := fun q hq => by
    obtain ⟨i, hi, rfl⟩ := List.mem_iff_getElem.mp hq
    refine h2 (lo + i) _ (by omega) ?_
    rw [← List.getElem?_drop, List.getElem?_eq_getElem hi]
  have ht : ∀ q ∈ qs.take lo, rk q < rk p := fun q hq => by
    obtain ⟨i, hi, rfl⟩ := List.mem_iff_getElem.mp hq
    have hi2 : i < lo := by
      rw [List.length_take] at hi
      omega
    refine h1 i _ hi2 ?_
    rw [← List.getElem?_take_of_lt hi2, List.getElem?_eq_getElem hi]
  rw [List.append_assoc, List.pairwise_append]
  refine ⟨h.sublist (List.take_sublist _ _), ?_, fun a ha b hb => ?_⟩
  · rw [List.singleton_append, List.pairwise_cons]
    exact ⟨hd, h.sublist (List.drop_sublist _ _)⟩
  · have := ht a ha
    rcases List.mem_append.mp hb with hb | hb
    · rw [List.mem_singleton.mp hb]
      omega
    · have := hd b hb
      omega
theorem i_forLV {σ : L2.St} {tb : TS} {D : Ends} {j : Nat} {vs : List V} {a : Addr} (h : SqL K H a vs) (Pv : Nat → L2.St → Hp → Prop) (h0 : Pv 0 σ H) (hl : ∀ i σ' H', Pv i σ' H' → SqL K H' a vs)
    (hs : ∀ (i : Nat) (x : V) σ' H', vs[i]? = some x → Pv i σ' H' → tb { D with nx := Pv (i + 1), ct := Pv (i + 1), bk := D.nx } (σ'.set j (some x)) H') (hd : ∀ σ' H', Pv vs.length σ' H' → D.nx σ' H') : tFor (iList K (tC (.ref a))) (gName j) tb D σ H :=
  ⟨a, rfl, ⟨_, h⟩, for_list (xs := vs) Pv h0 (fun i σ' H' _ p => hl i σ' H' p) hs hd⟩
theorem i_bm {T : String} {r : V → List V → Hp → VK → Prop} {to : TE} {t : TA} {σ : L2.St} (q : to σ H fun x H1 => tyV K T x H1 ∧ t σ H1 fun xs H2 => r x xs H2 Q) : tBM K T r to t σ H Q := q
theorem i_tyL {a : Addr} {xs : List V} {R : Prop} (h : SqL K H a xs) (q : R) : tyV K "list" (.ref a) H ∧ R := ⟨.inl ⟨rfl, xs, h⟩, q⟩
theorem i_ins {l : Addr} {xs : List V} {i : Nat} {y : V} (h : H l = some (.lst xs)) (h1 : xs.length ≤ 1000) (h2 : i ≤ 1000) (q : Q .non (upd H l (.lst (xs.take i ++ [y] ++ xs.drop i)))) : rIns (.ref l) [.int (i : Int), y] H Q :=
  ⟨l, xs, i, y, rfl, rfl, h, Nat.lt_of_lt_of_le (Nat.lt_succ_of_le h1) (Evl.sz_of (by decide)), Int.natCast_nonneg i, by omega, by rw [Int.toNat_natCast]; exact q⟩
local macro_rules | `(tactic| wtm_at "st2") => `(tactic| (first | ((with_reducible refine' i_qlenS ?u0 ?uq); (case u0 => with_reducible assumption)) | fail))
local macro_rules | `(tactic| wtm_at "st2") => `(tactic| (with_reducible refine' i_bm ?uq))
local macro_rules | `(tactic| wtm_at "st2") => `(tactic| (first | ((with_reducible refine' i_tyL ?u0 ?uq); (case u0 => with_reducible assumption)) | fail))
theorem dpTakeN : ∀ {n : Nat} {us : List V} {ds : List PyData}, DpAll K H us ds → DpAll K H (us.take n) (ds.take n)
  | 0, _, _, _ => by rw [List.take_zero, List.take_zero]; exact .nil
  | _ + 1, _, _, .nil => .nil
  | _ + 1, _, _, .cons h t => .cons h (dpTakeN t)
theorem dpDropN : ∀ {n : Nat} {us : List V} {ds : List PyData}, DpAll K H us ds → DpAll K H (us.drop n) (ds.drop n)
  | 0, _, _, h => h
  | _ + 1, _, _, .nil => .nil
  | n + 1, _ :: us, _ :: ds, .cons _ t => by
    rw [List.drop_succ_cons, List.drop_succ_cons]
    exact dpDropN t
theorem dpAppN : ∀ {us us' : List V} {ds ds' : List PyData}, DpAll K H us ds → DpAll K H us' ds' → DpAll K H (us ++ us') (ds ++ ds')
  | _, _, _, _, .nil, h => h
  | _, _, _, _, .cons h t, h' => .cons h (dpAppN t h')
theorem pw_get {rk : Pt → Int} {qs : List Pt} (h : qs.Pairwise (fun p q => rk p ≤ rk q)) {k m : Nat} {y x : Pt} (hk : k ≤ m) (hy : qs[k]? = some y) (hx : qs[m]? = some x) : rk y ≤ rk x := by
  obtain ⟨h1, rfl⟩ := List.getElem?_eq_some_iff.mp hy
  obtain ⟨h2, rfl⟩ := List.getElem?_eq_some_iff.mp hx
  rcases Nat.lt_or_eq_of_le hk with hk | rfl
  · exact List.pairwise_iff_getElem.mp h k m h1 h2 hk
  · exact Int.le_refl _
theorem put_permN {qs ps : List Pt} {i lo : Nat} {p : Pt} (h : qs.Perm (ps.take i)) (hp : ps[i]? = some p) : (qs.take lo ++ [p] ++ qs.drop lo).Perm (ps.take (i + 1)) := by
  have e : ps.take (i + 1) = ps.take i ++ [p] := by rw [List.take_add_one, hp]; rfl
  rw [e, List.append_assoc]
  refine (List.perm_middle (a := p) (l₁ := qs.take lo) (l₂ := qs.drop lo)).trans ?_
  rw [List.take_append_drop]
  refine ((List.Perm.cons p h)).trans ?_
  exact (List.perm_append_singleton p (ps.take i)).symm
def rlW (v1 : V) (b fa : Addr) (us : List V) (u : V) (H' : Hp) (qs : List Pt) (rk : Pt → Int) (p : Pt) : Nat → L2.St → Hp → Prop := fun m σ2 H2 => ∃ (lo hi : Nat) (o6 : Option V), m = hi - lo ∧ σ2 = [some v1, some (.ref b), some (.ref fa), some u, some (.int lo), some (.int hi), o6] ∧ Ex H' H2 ∧
  lo ≤ hi ∧ hi ≤ qs.length ∧ (∀ k x, k < lo → qs[k]? = some x → rk x < rk p) ∧ (∀ k x, hi ≤ k → qs[k]? = some x → rk p ≤ rk x)
abbrev s_round_list : Stmt := top 27
theorem sc_round_list : FnScope ["centre", "points", "found", "point", "low", "high", "half"] ["centre", "points"] (defScope s_round_list) := ⟨rfl, rfl, rfl, by decide +kernel, rfl, by decide +kernel, by decide +kernel⟩
theorem ok_round_list {f : Addr} {fd : FuncData} (F : FnP K "round_list" s_round_list f fd) (g : G mg) (c_is_first_round : Cl P w K mg base 3 "is_first_round" (sp_is_first_round K))  : FnOk P w K mg base CX0 4 f fd ["centre", "points"] (sp_round_list K) := by
  have nd := sc_round_list.nd
  refine F.ok sc_round_list (fun vs H Q E h => h.len) (fun cdv A outer s H vs Q E hr h => ?_)
  obtain ⟨v1, v2, rfl, h⟩ := h
  refine ⟨_, PSs.nox (pss_cons (ps_set (i := 2) nd rfl (Or.inl rfl) (pe_lst pa_nil)) (pss_cons (ps_for PassesOwn.never rfl (pi_list (pv 1)) (pg_name (i := 3) nd rfl (Or.inl rfl)) (pss_cons (ps_par (i := 4) (j := 5) (by rfl) nd rfl rfl (by decide) rfl rfl (pa_cons pe_int (pa_cons (pe_callB call_qlen (by rfl) g.f_len boot_len (pa_cons (pv 2) pa_nil)) pa_nil)) (by rfl)) (pss_cons (ps_while PassesOwn.never (pt_cmpR op_lt (pv 4) (pv 5) (nomark _)) (pss_cons (ps_set (i := 6) nd rfl (Or.inl rfl) (pe_op op_fdivX (pe_op op_add (pv 4) (pv 5)) pe_int)) (pss_one (ps_if (pt_val (pc c_is_first_round hr (by decide) (by rfl) (pa_cons (pv 0) (pa_cons (pe_ix ix_list (pv 2) (pv 6) (fun _ _ => rfl)) (pa_cons (pv 3) pa_nil))))) (pss_one (ps_set (i := 4) nd rfl (Or.inl rfl) (pe_op op_add (pv 6) pe_int))) (pss_one (ps_set (i := 5) nd rfl (Or.inl rfl) (pv 6))))))) (pss_one (ps_expr (pe_bm PySem.F.plainAttrs_list PySem.F.slot_list_insert PySem.F.type_list_insert mt_ins (pv 2) (pa_cons (pv 4) (pa_cons (pv 3) pa_nil)))))))) (pss_one (ps_ret (pv 2))))), ?_⟩
  obtain ⟨c, ps, rk, h1, h2, ⟨hc1, hc2, hc3⟩, hz, hl, hr2, q⟩ := h
  obtain ⟨b, vs, rfl, hs, ha⟩ := dpLst h2
  have hlen : vs.length = ps.length := by rw [dpLen ha, List.length_map]
  wtm_at "go0"
  rename_i fa Hf fn fe fp
  refine i_forV ?_
  wtm_at "go"
  refine i_forLV (Evl.ex_l fe hs) (fun i σ' H' => ∃ (qs : List Pt) (us : List V) (o3 o4 o5 o6 : Option V), σ' = [some v1, some (.ref b), some (.ref fa), o3, o4, o5, o6] ∧ Ex H H' ∧ H' fa = some (.lst us) ∧ DpAll K H us (qs.map dpt) ∧ qs.Perm (ps.take i) ∧ qs.Pairwise (fun p q => rk p ≤ rk q))
    ⟨[], [], _, _, _, _, rfl, fe, fp, .nil, by rw [List.take_zero], .nil⟩ (fun i σ' H' hp => ?_) (fun i u σ' H' hi hp => ?_) (fun σ' H' hp => ?_)
  · obtain ⟨_, _, _, _, _, _, _, e, _⟩ := hp
    exact Evl.ex_l e hs
  · obtain ⟨qs, us, o3, o4, o5, o6, rfl, e, hf, hd, hpm, hpw⟩ := hp
    have hi2 : i < ps.length := by rw [← hlen]; exact (List.getElem?_eq_some_iff.mp hi).1
    obtain ⟨p, hpi⟩ : ∃ p, ps[i]? = some p := ⟨_, List.getElem?_eq_getElem hi2⟩
    obtain ⟨u', hu', hud⟩ := dpGet ha (i := i) (d := dpt p) (by rw [List.getElem?_map, hpi]; rfl)
    rw [hi] at hu'
    cases hu'
    have hmem := List.mem_of_getElem? hpi
    have hqs : ∀ x ∈ qs, x ∈ ps := fun x hx => List.mem_of_mem_take (hpm.mem_iff.mp hx)
    have hlu : us.length = qs.length := by rw [dpLen hd, List.length_map]
    have hlm : (qs.map dpt).length = qs.length := List.length_map _
    have hlq : qs.length = i := by rw [hpm.length_eq, List.length_take]; omega
    have hsq : SqL K H' fa us := Evl.sq_of hf
    obtain ⟨sp1, sp2, sp3⟩ := hz p hmem
    wtm_at "nrm"
    wtm_at "go"
    refine i_tw (rlW v1 b fa us u H' qs rk p) qs.length ⟨0, (qs.map dpt).length, _, by omega, rfl, Ex.refl _, by omega, by omega, fun k x hk => absurd hk (Nat.not_lt_zero k), fun k x hk hx => ?_⟩ ?_
    · have := (List.getElem?_eq_some_iff.mp hx).1
      omega
    rintro m σ2 H2 ⟨lo, hi', o6', rfl, rfl, e2, h3, h4, h5, h6⟩
    wtm_at "go"
    · refine ⟨fun σ3 H3 => ∃ m', m' < hi' - lo ∧ rlW v1 b fa us u H' qs rk p m' σ3 H3, fun σ3 H3 z => z, ?_⟩
      wtm_at "go"
      rename_i hlt
      have hlt' : lo < hi' := by omega
      have emid : ((lo : Int) + hi').fdiv 2 = (((lo + hi') / 2 : Nat) : Int) := by
        rw [Int.fdiv_eq_ediv_of_nonneg _ (by decide)]
        omega
      have hm1 : lo ≤ (lo + hi') / 2 := by omega
      have hm2 : (lo + hi') / 2 < hi' := by omega
      rw [emid]
      generalize (lo + hi') / 2 = mid at *
      obtain ⟨x, hx⟩ : ∃ x, qs[mid]? = some x := ⟨_, List.getElem?_eq_getElem (by omega)⟩
      obtain ⟨w', hw', hwd⟩ := dpGet hd (i := mid) (d := dpt x) (by rw [List.getElem?_map, hx]; rfl)
      refine ⟨fa, us, mid, w', rfl, rfl, Evl.sq_of (e2 _ _ hf), atI_nat hw', ?_⟩
      have hxm := hqs x (List.mem_of_getElem? hx)
      obtain ⟨sx1, sx2, sx3⟩ := hz x hxm
      have hfx := hr2 x hxm p hmem
      wtm_at "go"
      · rename_i H3 e3 hif
        have hif' : fstP c x p = true := hif
        rw [hfx] at hif'
        have hlt2 := of_decide_eq_true hif'
        refine ⟨hi' - (mid + 1), by omega, mid + 1, hi', _, rfl, rfl, by wtm_at "ex", by omega, h4, fun k y hk hy => ?_, h6⟩
        have := pw_get hpw (Nat.le_of_lt_succ hk) hy hx
        omega
      · rename_i H3 e3 hif
        have hif' : fstP c x p = false := hif
        rw [hfx] at hif'
        have hlt2 := of_decide_eq_false hif'
        refine ⟨mid - lo, by omega, lo, mid, _, rfl, rfl, by wtm_at "ex", by omega, by omega, h5, fun k y hk hy => ?_⟩
        have := pw_get hpw hk hx hy
        omega
    · dsimp only
      wtm_at "go"
      rename_i hlt
      have hlo : lo = hi' := by omega
      refine i_tyL (Evl.sq_of (e2 _ _ hf)) ?_
      wtm_at "go"
      refine i_ins (e2 _ _ hf) (by omega) (by omega) ?_
      refine ⟨qs.take lo ++ [p] ++ qs.drop lo, us.take lo ++ [u] ++ us.drop lo, _, _, _, _, rfl, Evl.Ex.mut (e.trans e2) fn, upd_same, ?_, put_permN hpm hpi, ins_sorted hpw h5 (fun k x hk => h6 k x (by omega))⟩
      rw [List.map_append, List.map_append, List.map_take, List.map_drop]
      exact dpAppN (dpAppN (dpTakeN hd) (.cons hud .nil)) (dpDropN hd)
  · obtain ⟨qs, us, o3, o4, o5, o6, rfl, e, hf, hd, hpm, hpw⟩ := hp
    rw [hlen, List.take_length] at hpm
    dsimp only
    wtm_at "go"
    exact q qs _ _ hpm hpw e (.lst (Evl.sq_of hf) (dpMonoA e hd))
end
end Wb

namespace Wb
open PySem PySem.Spec PyProof.Rows L2
open Evl (Ex Ex.refl Ex.trans Ex.new)
local macro_rules | `(tactic| wtm_at "dp") => `(tactic| first | with_reducible assumption | with_reducible exact Dp.int _ | with_reducible exact Dp.bl _ | with_reducible exact Dp.str _ | with_reducible exact Dp.non | ((with_reducible refine' dpMono ?dme (by with_reducible assumption)); (case dme => wtm_at "ex")) | ((with_reducible refine' Dp.tup (Evl.st_of ?dph) ?dpa); (case dph => wtm_at "hs"); (case dpa => wtm_at "dpa")) | ((with_reducible refine' Dp.lst (Evl.sq_of ?dph) ?dpa); (case dph => wtm_at "hs"); (case dpa => wtm_at "dpa")))
local macro_rules | `(tactic| wtm_at "dpa") => `(tactic| first | with_reducible exact DpAll.nil | ((with_reducible refine' DpAll.cons ?dp1 ?dp2); (case dp1 => wtm_at "dp"); (case dp2 => wtm_at "dpa")) | with_reducible assumption | ((with_reducible refine' dpMonoA ?dme (by with_reducible assumption)); (case dme => wtm_at "ex")))
local macro_rules | `(tactic| wtm_at "sz") => `(tactic| first | with_reducible assumption | ((with_reducible refine' sz_mul ?sz1 ?sz2); (case sz1 => wtm_at "sz"); (case sz2 => wtm_at "sz")) | ((with_reducible refine' sz_add ?sz1 ?sz2); (case sz1 => wtm_at "sz"); (case sz2 => wtm_at "sz")) | ((with_reducible refine' sz_sub ?sz1 ?sz2); (case sz1 => wtm_at "sz"); (case sz2 => wtm_at "sz")) | ((with_reducible refine' sz_neg ?sz1); (case sz1 => wtm_at "sz")) | ((with_reducible refine' sz_div ?sz1); (case sz1 => wtm_at "sz")) | ((with_reducible refine' sz_fdiv ?sz1); (case sz1 => wtm_at "sz")) | exact sz_lit (by decide) | wtm_at "sz2")
local macro_rules | `(tactic| wtm_at "szb") => `(tactic| first | with_reducible assumption | ((with_reducible refine' sz_mono ?szb1 ?szb2); (case szb1 => wtm_at "sz"); (case szb2 => decide)))
local macro_rules | `(tactic| wtm_at "nz") => `(tactic| first | assumption | decide | omega)
local macro_rules | `(tactic| wtm_at "shaped") => `(tactic| first | rfl | decide)
local macro_rules | `(tactic| wtm_at "sset") => `(tactic| ((dsimp only [L2.wipe, List.set, List.set_cons_zero, List.set_cons_succ]) <;> exact rfl))
local macro_rules | `(tactic| wtm_at "nrm") => `(tactic| dsimp only [L2.start, L2.wipe, List.set, List.append, List.map, List.map_cons, List.map_nil, List.length_cons, List.length_nil, Nat.reduceAdd, Nat.reduceSub, List.reduceReplicate, List.replicate, List.cons_append, List.nil_append, List.set_cons_zero, List.set_cons_succ])
local macro_rules | `(tactic| wtm_at "st") => `(tactic| first
  | ((with_reducible refine' i_var (v := ?u0) ?u1 ?uq); (case u1 => exact rfl))
  | ((with_reducible refine' i_nameN ?u0 ?uq); (case u0 => wtm_at "sset"))
  | (with_reducible refine' i_op ?uq)
  | (with_reducible refine' i_c ?uq)
  | (with_reducible refine' i_I0 ?uq)
  | ((with_reducible refine' i_ixTI (i := ?u0) ?u1 ?u2 ?u3 ?uq); (case u1 => wtm_at "dp"); (case u2 => wtm_at "ex"); (case u3 => exact rfl))
  | ((with_reducible refine' i_ixT (d := ?u0) ?u1 ?u2 ?u3 (fun xu hxu => ?uq)); (case u1 => wtm_at "dp"); (case u2 => wtm_at "ex"); (case u3 => exact rfl))
  | ((with_reducible refine' i_mul ?u0 ?u1 ?u2 ?uq); (case u0 => wtm_at "sz"); (case u1 => wtm_at "sz"); (case u2 => first | decide | omega))
  | (with_reducible refine' i_seq ?uq)
  | (with_reducible refine' i_asg ?uq)
  | (with_reducible refine' i_ret ?uq)
  | (with_reducible refine' i_ifs ?uq)
  | (with_reducible refine' i_drop ?uq)
  | (with_reducible refine' i_next ?uq)
  | (with_reducible refine' i_cons ?uq)
  | (with_reducible refine' i_nil ?uq)
  | (with_reducible refine' i_cl ?uq)
  | (with_reducible refine' i_cb ?uq)
  | (with_reducible refine' i_tup ?uq)
  | (with_reducible refine' i_lst ?uq)
  | ((with_reducible refine' i_mkT ?u0 (fun np nH nhe nhp => ?uq)); (case u0 => exact Nat.le_of_ble_eq_true rfl))
  | (with_reducible refine' i_test ?uq)
  | (with_reducible refine' i_B ?uq)
  | (with_reducible refine' i_k ?uq)
  | (with_reducible refine' i_and ?uq)
  | (with_reducible refine' i_or ?uq)
  | (with_reducible refine' i_not ?uq)
  | (with_reducible refine' i_andV ?uq)
  | (with_reducible refine' i_orV ?uq)
  | (with_reducible refine' i_notV ?uq)
  | (with_reducible refine' i_if ?uq)
  | (with_reducible refine' i_un ?uq)
  | (with_reducible refine' i_U ?uq)
  | (with_reducible refine' i_iteT ?uq)
  | (with_reducible refine' i_iteF ?uq)
  | ((with_reducible refine' i_iteTr ?u0 ?uq); (case u0 => first | with_reducible rfl | decide | (simp only [dIsInt, dIsBool, dIsTup, dIsStr, dIsLst, Bool.not_true, Bool.not_false]; done)))
  | ((with_reducible refine' i_iteFr ?u0 ?uq); (case u0 => first | with_reducible rfl | decide | (simp only [dIsInt, dIsBool, dIsTup, dIsStr, dIsLst, Bool.not_true, Bool.not_false]; done)))
  | (with_reducible refine' i_ite (fun hif => ?uqa) (fun hif => ?uqb))
  | (with_reducible refine' i_iteN (fun hif => ?uqa) (fun hif => ?uqb))
  | (with_reducible refine' i_iteBN (fun hif => ?uqa) (fun hif => ?uqb))
  | (with_reducible refine' i_iteB (fun hif => ?uqa) (fun hif => ?uqb))
  | ((with_reducible refine' i_modN ?u0 ?uq); (case u0 => wtm_at "nz"))
  | ((with_reducible refine' i_fdX ?u0 ?u1 ?u2 ?uq); (case u0 => wtm_at "nz"); (case u1 => wtm_at "sz"); (case u2 => first | decide | omega))
  | ((with_reducible refine' i_pow ?u0 ?uq); (case u0 => exact ⟨by decide, by decide +kernel⟩))
  | (with_reducible refine' i_eqI ?uq)
  | (with_reducible refine' i_neI ?uq)
  | (with_reducible refine' i_gcd ?uq)
  | (with_reducible refine' i_qabs ?uq)
  | (with_reducible refine' i_qint ?uq)
  | (with_reducible refine' i_qintB ?uq)
  | (with_reducible refine' i_qmax2 ?uq)
  | (with_reducible refine' i_qmin2 ?uq)
  | (with_reducible refine' i_isB ?uq)
  | (with_reducible refine' i_notB ?uq)
  | (with_reducible refine' i_chain ?uq)
  | (with_reducible refine' i_qisN ?uq)
  | (with_reducible refine' i_qnotN ?uq)
  | (with_reducible refine' i_yes ?uq)
  | (with_reducible refine' i_par ?uq)
  | (with_reducible refine' i_par3 ?uq)
  | ((with_reducible refine' i_par2 ?u0 ?uq); (case u0 => wtm_at "sset"))
  | ((with_reducible refine' i_par33 ?u0 ?uq); (case u0 => wtm_at "sset"))
  | ((with_reducible refine' i_ixLI (i := ?u0) ?u1 ?u2 ?u3 ?uq); (case u1 => wtm_at "dp"); (case u2 => wtm_at "ex"); (case u3 => exact rfl))
  | ((with_reducible refine' i_ixL (d := ?u0) ?u1 ?u2 ?u3 (fun xu hxu => ?uq)); (case u1 => wtm_at "dp"); (case u2 => wtm_at "ex"); (case u3 => exact rfl))
  | ((with_reducible refine' i_qlenT ?u0 ?uq); (case u0 => wtm_at "dp"))
  | ((with_reducible refine' i_qlenL ?u0 ?uq); (case u0 => wtm_at "dp"))
  | ((with_reducible refine' i_gtup ?u0 ?u1 ?u2 (fun gvs gdp => ?uq)); (case u0 => wtm_at "dp"); (case u1 => wtm_at "ex"); (case u2 => exact rfl))
  | ((with_reducible refine' i_glst ?u0 ?u1 ?u2 (fun gvs gdp => ?uq)); (case u0 => wtm_at "dp"); (case u1 => wtm_at "ex"); (case u2 => exact rfl))
  | ((with_reducible refine' i_gconsI ?u0 (fun gr gh => ?uq)); (case u0 => with_reducible assumption))
  | ((with_reducible refine' i_gconsA ?u0 (fun gv gr gh1 gh2 => ?uq)); (case u0 => with_reducible assumption))
  | ((with_reducible refine' i_gnilA ?u0 ?uq); (case u0 => with_reducible assumption))
  | ((with_reducible refine' i_isiI ?u0 ?uq); (case u0 => wtm_at "dp"))
  | ((with_reducible refine' i_isiB ?u0 ?uq); (case u0 => wtm_at "dp"))
  | ((with_reducible refine' i_isiT ?u0 ?uq); (case u0 => wtm_at "dp"))
  | ((with_reducible refine' i_isiS ?u0 ?uq); (case u0 => wtm_at "dp"))
  | ((with_reducible refine' i_isiL ?u0 ?uq); (case u0 => wtm_at "dp"))
  | ((with_reducible refine' i_eqD ?u0 ?u1 ?u2 ?u3 ?uq); (case u0 => wtm_at "dp"); (case u1 => wtm_at "dp"); (case u2 => wtm_at "shaped"); (case u3 => wtm_at "shaped"))
  | ((with_reducible refine' i_neD ?u0 ?u1 ?u2 ?u3 ?uq); (case u0 => wtm_at "dp"); (case u1 => wtm_at "dp"); (case u2 => wtm_at "shaped"); (case u3 => wtm_at "shaped"))
  | wtm_at "st2"
  | wtm_at "use")
local macro_rules | `(tactic| wtm_at "go") => `(tactic| repeat' (wtm_at "st"))
local macro_rules | `(tactic| wtm_at "go0") => `(tactic| ((try dsimp only [L2.cxOf, L2.Cx.nox, L2.Cx.wish, L2.Cx.tr, L2.Cx.blk]); (try wtm_at "nrm"); wtm_at "go"))
local macro_rules | `(tactic| wtm_at "fin") => `(tactic| ((try dsimp only); first | with_reducible assumption | assumption | ((with_reducible refine' Ret.use ?rur ?rue ?rud); (case rur => with_reducible assumption); (case rue => wtm_at "ex"); (case rud => wtm_at "dp"))))
local macro_rules | `(tactic| wtm_at "ex") => `(tactic| first | with_reducible assumption | with_reducible exact Ex.refl _ | with_reducible exact ex_hid | ((with_reducible refine' Ex.trans ?exe (by with_reducible assumption)); (case exe => wtm_at "ex")) | ((with_reducible refine' Ex.trans ?exe (hid_ex (by with_reducible assumption))); (case exe => wtm_at "ex")) | ((with_reducible refine' Ex.trans ?exe ex_hid); (case exe => wtm_at "ex")))
local macro_rules | `(tactic| wtm_at "bag") => `(tactic| first | with_reducible assumption | ((with_reducible refine' Bag.mono ?bgm (by with_reducible assumption)); (case bgm => wtm_at "bag")))
local macro_rules | `(tactic| wtm_at "hs") => `(tactic| first | with_reducible assumption | ((with_reducible refine' hid_tup ?hb ?hp); (case hp => with_reducible assumption); (case hb => wtm_at "bag")) | ((with_reducible refine' hid_new ?hb ?hn ?hp); (case hp => with_reducible assumption); (case hn => with_reducible assumption); (case hb => wtm_at "bag")) | ((with_reducible refine' ex_at ?exe (by with_reducible assumption)); (case exe => wtm_at "ex")))
local macro_rules | `(tactic| wtm_at "st2") => `(tactic| first
  | ((with_reducible refine' i_mulC ?u0 ?uq); (case u0 => first | exact cmul_l (by decide) | exact cmul_r (by decide)))
  | ((with_reducible refine' i_ixLr (v := ?u0) ?u1 ?u2 ?uq); (case u1 => with_reducible assumption); (case u2 => exact rfl))
  | (with_reducible refine' i_sub ?uq)
  | ((with_reducible refine' i_mkL ?u0 (fun np nH nfr nhe nhp => ?uq)); (case u0 => exact Nat.le_of_ble_eq_true rfl))
  | ((with_reducible refine' i_setL (n := ?u0) ?u1 ?u2 (fun sH sh se => ?uq)); (case u1 => with_reducible assumption); (case u2 => exact rfl))
  | (with_reducible refine' i_sl ?uq)
  | (with_reducible refine' i_nopart ?uq)
  | (with_reducible refine' i_part ?uq)
  | (with_reducible refine' i_part1 ?uq))
local macro_rules | `(tactic| wtm_at "sz2") => `(tactic| ((with_reducible refine' sz_fmod ?sz1 ?sz2); (case sz1 => wtm_at "nz"); (case sz2 => wtm_at "sz")))
local macro_rules | `(tactic| wtm_at "stb") => `(tactic| first
  | ((with_reducible refine' i_mkTB ?u0 ?u1 (fun np nH nhe nhb nhp => ?uq)); (case u0 => exact Nat.le_of_ble_eq_true rfl); (case u1 => wtm_at "bag"))
  | ((with_reducible refine' i_mkLB ?u0 ?u1 (fun np nH nfr nhe nhb nhp => ?uq)); (case u0 => exact Nat.le_of_ble_eq_true rfl); (case u1 => wtm_at "bag"))
  | wtm_at "st")
local macro_rules | `(tactic| wtm_at "gob") => `(tactic| repeat' (wtm_at "stb"))
local macro_rules | `(tactic| wtm_at "gob0") => `(tactic| ((try dsimp only [L2.cxOf, L2.Cx.nox, L2.Cx.wish, L2.Cx.tr, L2.Cx.blk]); (try wtm_at "nrm"); wtm_at "gob"))
local macro_rules | `(tactic| wtm_at "use") => `(tactic| ((with_reducible refine' use_turn_in ?u0 ?u1 ?u2 ?u3 ?u4 ?u5 ?u6 ?u7 ?u8 ?u9 ?u10 ?u11 ?uq); (case u0 => wtm_at "dp"); (case u1 => wtm_at "dp"); (case u2 => wtm_at "dp"); (case u3 => wtm_at "szb"); (case u4 => wtm_at "szb"); (case u5 => wtm_at "szb"); (case u6 => wtm_at "szb"); (case u7 => wtm_at "szb"); (case u8 => wtm_at "szb"); (case u9 => wtm_at "szb"); (case u10 => wtm_at "szb"); (case u11 => wtm_at "szb")))
local macro_rules | `(tactic| wtm_at "use") => `(tactic| ((with_reducible refine' use_step_from ?u0 ?u1 ?u2 ?u3 ?u4 ?u5 ?u6 ?u7 (fun ur uH ue ud => ?uq)); (case u0 => wtm_at "dp"); (case u1 => wtm_at "dp"); (case u2 => wtm_at "szb"); (case u3 => wtm_at "szb"); (case u4 => wtm_at "szb"); (case u5 => wtm_at "szb"); (case u6 => wtm_at "szb"); (case u7 => wtm_at "szb")))
local macro_rules | `(tactic| wtm_at "use") => `(tactic| (with_reducible refine' use_shared_of ?uq))
local macro_rules | `(tactic| wtm_at "use") => `(tactic| ((with_reducible refine' use_is_integer ?u0 ?uq); (case u0 => wtm_at "dp")))
local macro_rules | `(tactic| wtm_at "use") => `(tactic| ((with_reducible refine' use_is_between_in ?u0 ?u1 ?u2 ?u3 ?u4 ?u5 ?u6 ?u7 ?u8 ?u9 ?u10 ?u11 (fun uH ue => ?uq)); (case u0 => wtm_at "dp"); (case u1 => wtm_at "dp"); (case u2 => wtm_at "dp"); (case u3 => wtm_at "szb"); (case u4 => wtm_at "szb"); (case u5 => wtm_at "szb"); (case u6 => wtm_at "szb"); (case u7 => wtm_at "szb"); (case u8 => wtm_at "szb"); (case u9 => wtm_at "szb"); (case u10 => wtm_at "szb"); (case u11 => wtm_at "szb")))
local macro_rules | `(tactic| wtm_at "use") => `(tactic| ((with_reducible refine' use_line_through ?u0 ?u1 ?u2 ?u3 ?u4 ?u5 ?u6 ?u7 (fun ur uH ue ud => ?uq)); (case u0 => wtm_at "dp"); (case u1 => wtm_at "dp"); (case u2 => wtm_at "szb"); (case u3 => wtm_at "szb"); (case u4 => wtm_at "szb"); (case u5 => wtm_at "szb"); (case u6 => wtm_at "szb"); (case u7 => wtm_at "szb")))
local macro_rules | `(tactic| wtm_at "use") => `(tactic| ((with_reducible refine' use_reduced_point ?u0 ?u1 (fun ur uH ue ud => ?uq)); (case u0 => wtm_at "nz"); (case u1 => wtm_at "szb")))
local macro_rules | `(tactic| wtm_at "use") => `(tactic| ((with_reducible refine' use_is_point ?u0 (fun uH ue => ?uq)); (case u0 => wtm_at "dp")))
local macro_rules | `(tactic| wtm_at "use") => `(tactic| ((with_reducible refine' use_line_meet_in ?u0 ?u1 ?u2 ?u3 ?u4 ?u5 ?u6 ?u7 ?u8 ?u9 ?u10 ?u11 ?u12 ?u13 ?u14 ?u15 (fun ur uH ue ud => ?uq)); (case u0 => wtm_at "dp"); (case u1 => wtm_at "dp"); (case u2 => wtm_at "dp"); (case u3 => wtm_at "dp"); (case u4 => wtm_at "szb"); (case u5 => wtm_at "szb"); (case u6 => wtm_at "szb"); (case u7 => wtm_at "szb"); (case u8 => wtm_at "szb"); (case u9 => wtm_at "szb"); (case u10 => wtm_at "szb"); (case u11 => wtm_at "szb"); (case u12 => wtm_at "szb"); (case u13 => wtm_at "szb"); (case u14 => wtm_at "szb"); (case u15 => wtm_at "szb")))
local macro_rules | `(tactic| wtm_at "use") => `(tactic| (first | ((with_reducible refine' use_x_less ?u0 ?u1 ?u2 ?u3 ?u4 ?u5 ?u6 ?u7 ?uq); (case u0 => wtm_at "dp"); (case u1 => wtm_at "dp"); (case u2 => wtm_at "szb"); (case u3 => wtm_at "szb"); (case u4 => wtm_at "szb"); (case u5 => wtm_at "szb"); (case u6 => wtm_at "szb"); (case u7 => wtm_at "szb")) | fail))
local macro_rules | `(tactic| wtm_at "use") => `(tactic| (first | ((with_reducible refine' use_y_less ?u0 ?u1 ?u2 ?u3 ?u4 ?u5 ?u6 ?u7 ?uq); (case u0 => wtm_at "dp"); (case u1 => wtm_at "dp"); (case u2 => wtm_at "szb"); (case u3 => wtm_at "szb"); (case u4 => wtm_at "szb"); (case u5 => wtm_at "szb"); (case u6 => wtm_at "szb"); (case u7 => wtm_at "szb")) | fail))
local macro_rules | `(tactic| wtm_at "use") => `(tactic| (first | ((with_reducible refine' use_is_lower ?u0 ?u1 ?u2 ?u3 ?u4 ?u5 ?u6 ?u7 ?uq); (case u0 => wtm_at "dp"); (case u1 => wtm_at "dp"); (case u2 => wtm_at "szb"); (case u3 => wtm_at "szb"); (case u4 => wtm_at "szb"); (case u5 => wtm_at "szb"); (case u6 => wtm_at "szb"); (case u7 => wtm_at "szb")) | fail))
local macro_rules | `(tactic| wtm_at "use") => `(tactic| (first | ((with_reducible refine' use_half_of ?u0 ?uq); (case u0 => wtm_at "dp")) | fail))
local macro_rules | `(tactic| wtm_at "use") => `(tactic| (first | ((with_reducible refine' use_is_ahead_round ?u0 ?u1 ?u2 ?u3 ?u4 ?u5 ?u6 ?u7 ?u8 ?u9 ?u10 ?u11 (fun uH ue => ?uq)); (case u0 => wtm_at "dp"); (case u1 => wtm_at "dp"); (case u2 => wtm_at "dp"); (case u3 => wtm_at "szb"); (case u4 => wtm_at "szb"); (case u5 => wtm_at "szb"); (case u6 => wtm_at "szb"); (case u7 => wtm_at "szb"); (case u8 => wtm_at "szb"); (case u9 => wtm_at "szb"); (case u10 => wtm_at "szb"); (case u11 => wtm_at "szb")) | fail))
local macro_rules | `(tactic| wtm_at "use") => `(tactic| (first | ((with_reducible refine' use_is_nearer ?u0 ?u1 ?u2 ?u3 ?u4 ?u5 ?u6 ?u7 ?u8 ?u9 ?u10 ?u11 (fun uH ue => ?uq)); (case u0 => wtm_at "dp"); (case u1 => wtm_at "dp"); (case u2 => wtm_at "dp"); (case u3 => wtm_at "szb"); (case u4 => wtm_at "szb"); (case u5 => wtm_at "szb"); (case u6 => wtm_at "szb"); (case u7 => wtm_at "szb"); (case u8 => wtm_at "szb"); (case u9 => wtm_at "szb"); (case u10 => wtm_at "szb"); (case u11 => wtm_at "szb")) | fail))
local macro_rules | `(tactic| wtm_at "use") => `(tactic| (first | ((with_reducible refine' use_is_first_round ?u0 ?u1 ?u2 ?u3 ?u4 ?u5 ?u6 ?u7 ?u8 ?u9 ?u10 ?u11 (fun uH ue => ?uq)); (case u0 => wtm_at "dp"); (case u1 => wtm_at "dp"); (case u2 => wtm_at "dp"); (case u3 => wtm_at "szb"); (case u4 => wtm_at "szb"); (case u5 => wtm_at "szb"); (case u6 => wtm_at "szb"); (case u7 => wtm_at "szb"); (case u8 => wtm_at "szb"); (case u9 => wtm_at "szb"); (case u10 => wtm_at "szb"); (case u11 => wtm_at "szb")) | fail))
local macro_rules | `(tactic| wtm_at "use") => `(tactic| (first | ((with_reducible refine' use_common_on_line ?u0 ?u1 ?u2 ?u3 ?u4 ?u5 ?u6 ?u7 ?u8 ?u9 ?u10 ?u11 ?u12 ?u13 ?u14 ?u15 (fun ur uH ue ud => ?uq)); (case u0 => wtm_at "dp"); (case u1 => wtm_at "dp"); (case u2 => wtm_at "dp"); (case u3 => wtm_at "dp"); (case u4 => wtm_at "szb"); (case u5 => wtm_at "szb"); (case u6 => wtm_at "szb"); (case u7 => wtm_at "szb"); (case u8 => wtm_at "szb"); (case u9 => wtm_at "szb"); (case u10 => wtm_at "szb"); (case u11 => wtm_at "szb"); (case u12 => wtm_at "szb"); (case u13 => wtm_at "szb"); (case u14 => wtm_at "szb"); (case u15 => wtm_at "szb")) | fail))
local macro_rules | `(tactic| wtm_at "use") => `(tactic| (first | ((with_reducible refine' use_pieces_meet_in ?u0 ?u1 ?u2 ?u3 ?u4 ?u5 ?u6 ?u7 ?u8 ?u9 ?u10 ?u11 ?u12 ?u13 ?u14 ?u15 (fun ur uH ue ud => ?uq)); (case u0 => wtm_at "dp"); (case u1 => wtm_at "dp"); (case u2 => wtm_at "dp"); (case u3 => wtm_at "dp"); (case u4 => wtm_at "szb"); (case u5 => wtm_at "szb"); (case u6 => wtm_at "szb"); (case u7 => wtm_at "szb"); (case u8 => wtm_at "szb"); (case u9 => wtm_at "szb"); (case u10 => wtm_at "szb"); (case u11 => wtm_at "szb"); (case u12 => wtm_at "szb"); (case u13 => wtm_at "szb"); (case u14 => wtm_at "szb"); (case u15 => wtm_at "szb")) | fail))
section
variable {P : Program} {w : World} {K : PySem.W.Frag} {mg : Str → Option Value} {base : Heap} {H H' : Hp} {Q : VK} {E : XK} {v1 v2 v3 v4 : V} {x1 y1 w1 x2 y2 w2 x3 y3 w3 x4 y4 w4 : Int}
theorem _root_.L2.Room.units65 {k : Nat} {A : Around} (r : Room k A) : A.units + 65 < cLine := by
  have := r.un
  omega
local macro_rules | `(tactic| wtm_at "st2") => `(tactic| (with_reducible refine' i_cs ?uq))
local macro_rules | `(tactic| wtm_at "st2") => `(tactic| (with_reducible refine' i_raise ?uq))
local macro_rules | `(tactic| wtm_at "st2") => `(tactic| (with_reducible refine' i_star ?uq))
local macro_rules | `(tactic| wtm_at "use") => `(tactic| (first | ((with_reducible refine' use_require_points ?u0 ?u1 ?u2 (fun uH ue => ?uq)); (case u0 => wtm_at "dpa"); (case u1 => exact Nat.le_of_ble_eq_true rfl); (case u2 => with_reducible exact pts4 (by assumption) (by assumption) (by assumption) (by assumption))) | fail))
local macro_rules | `(tactic| wtm_at "use") => `(tactic| (first | ((with_reducible refine' use_require_pointX ?u0 ?u1 ?uq); (case u0 => wtm_at "dp"); (case u1 => with_reducible assumption)) | fail))
local macro_rules | `(tactic| wtm_at "use") => `(tactic| (first | ((with_reducible refine' use_require_point ?u0 ?u1 (fun uH ue => ?uq)); (case u0 => wtm_at "dp"); (case u1 => with_reducible assumption)) | fail))
def sp_pieces_meet (K : PySem.W.Frag) (C : Addr) : Sp := B4 fun v1 v2 v3 v4 H Q E => ∃ a b c d : Pt, Dp K H v1 (dpt a) ∧ Dp K H v2 (dpt b) ∧ Dp K H v3 (dpt c) ∧ Dp K H v4 (dpt d) ∧ SzP a ∧ SzP b ∧ SzP c ∧ SzP d ∧
  (isPoint (dpt a) = true ∧ isPoint (dpt b) = true ∧ isPoint (dpt c) = true ∧ isPoint (dpt d) = true) ∧ Ret K (pmt a b c d) H Q
abbrev s_pieces_meet : Stmt := top 28
theorem sc_pieces_meet : FnScope ["one", "two", "three", "four"] ["one", "two", "three", "four"] (defScope s_pieces_meet) := ⟨rfl, rfl, rfl, by decide +kernel, rfl, by decide +kernel, by decide +kernel⟩
theorem ok_pieces_meet {f : Addr} {fd : FuncData} (F : FnP K "pieces_meet" s_pieces_meet f fd) (g : G mg) {CP CO : Addr} (eP : Exc1 K mg "InvalidPoint" CP) (eO : Exc1 K mg "InvalidOperation" CO) (c_require_points : ClXR P w K mg base 5 "require_points" (sp_require_points K CP)) (c_pieces_meet_in : Cl P w K mg base 4 "pieces_meet_in" (sp_pieces_meet_in K)) : FnOk P w K mg base (L2.CX P w) 6 f fd ["one", "two", "three", "four"] (sp_pieces_meet K CP) := by
  have nd := sc_pieces_meet.nd
  refine F.ok sc_pieces_meet (fun vs H Q E h => h.len) (fun cdv A outer s H vs Q E hr h => ?_)
  obtain ⟨v1, v2, v3, v4, rfl, h⟩ := h
  refine ⟨_, (pss_cons (ps_expr (pcXR c_require_points (takes_of rfl rfl rfl rfl) hr (by decide) (by rfl) (pa_cons (pv 0) (pa_cons (pv 1) (pa_cons (pv 2) (pa_cons (pv 3) pa_nil)))))) (pss_one (ps_ret (pc c_pieces_meet_in hr (by decide) (by rfl) (pa_cons (pv 0) (pa_cons (pv 1) (pa_cons (pv 2) (pa_cons (pv 3) pa_nil)))))))), ?_⟩
  obtain ⟨⟨x1, y1, w1⟩, ⟨x2, y2, w2⟩, ⟨x3, y3, w3⟩, ⟨x4, y4, w4⟩, h1, h2, h3, h4, ⟨a1, a2, a3⟩, ⟨b1, b2, b3⟩, ⟨c1, c2, c3⟩, ⟨d1, d2, d3⟩, ⟨p1, p2, p3, p4⟩, q⟩ := h
  dsimp only at h1 h2 h3 h4 a1 a2 a3 b1 b2 b3 c1 c2 c3 d1 d2 d3
  wtm_at "go0"
  all_goals wtm_at "fin"
def sp_sorted_round (K : PySem.W.Frag) (CP CO : Addr) : Sp := B2 fun v1 v2 H Q E => ∃ d1 d2, Dp K H v1 d1 ∧ Dp K H v2 d2 ∧ (isPoint d1 = false → XL CP H E) ∧ (isPoint d1 = true → dIsTup d2 = false → XL CP H E) ∧
  (isPoint d1 = true → ∀ ds, d2 = .tuple ds → ds.length ≤ 100000 ∧ (¬ (∀ d ∈ ds, isPoint d = true) → XL CP H E) ∧ ((∀ d ∈ ds, isPoint d = true) → ∃ (c : Pt) (ps : List Pt), d1 = dpt c ∧ ds = ps.map dpt ∧ ps.length ≤ 60 ∧
    (c ∈ ps → XL CO H E) ∧ (c ∉ ps → ∃ rk : Pt → Int, SzP c ∧ (∀ p ∈ ps, SzP p) ∧ (∀ p ∈ ps, ∀ q ∈ ps, fstP c p q = decide (rk p < rk q)) ∧
      ∀ qs : List Pt, (∀ x, x ∈ qs ↔ x ∈ ps) → qs.Nodup → qs.Pairwise (fun p q => rk p ≤ rk q) → Ret K (.tuple (qs.map dpt)) H Q)))
abbrev pInts (p : Pt) : List Int := [p.1, p.2.1, p.2.2]
abbrev toPt (k : List Int) : Pt := (k.getD 0 0, k.getD 1 0, k.getD 2 0)
theorem map_dpt (ps : List Pt) : ps.map dpt = (ps.map pInts).map fun k => .tuple (k.map .int) := by
  rw [List.map_map]
  rfl
theorem eqv_dpt (p c : Pt) : PyData.eqv (dpt p) (dpt c) = decide (p = c) := by
  obtain ⟨a, b, d⟩ := p
  obtain ⟨a', b', d'⟩ := c
  show PyData.eqv (pt a b d) (pt a' b' d') = _
  simp [pt, PyData.eqv, PyData.eqvAll, Prod.ext_iff]
  rfl
theorem any_dpt (ps : List Pt) (c : Pt) : ((ps.map dpt).any fun z => PyData.eqv z (dpt c)) = decide (c ∈ ps) := by
  rw [List.any_map]
  rw [Bool.eq_iff_iff, List.any_eq_true, decide_eq_true_iff]
  constructor
  · rintro ⟨p, hp, e⟩
    have e2 : PyData.eqv (dpt p) (dpt c) = true := e
    rw [eqv_dpt] at e2
    rw [← of_decide_eq_true e2]
    exact hp
  · intro h
    exact ⟨c, h, by show PyData.eqv (dpt c) (dpt c) = true; rw [eqv_dpt]; exact decide_eq_true rfl⟩
theorem lay_dpt : ∀ ps : List Pt, PyData.canLayAll0 (ps.map dpt) = true
  | [] => rfl
  | p :: ps => by
    show (PyData.canLay0 (dpt p) && PyData.canLayAll0 (ps.map dpt)) = true
    rw [lay_dpt ps]
    rfl
abbrev s_sorted_round : Stmt := top 29
theorem sc_sorted_round : FnScope ["centre", "points"] ["centre", "points"] (defScope s_sorted_round) := ⟨rfl, rfl, rfl, by decide +kernel, rfl, by decide +kernel, by decide +kernel⟩
theorem ok_sorted_round {f : Addr} {fd : FuncData} (F : FnP K "sorted_round" s_sorted_round f fd) (g : G mg) {CP CO : Addr} (eP : Exc1 K mg "InvalidPoint" CP) (eO : Exc1 K mg "InvalidOperation" CO) (c_require_point : ClX P w K mg base 3 "require_point" (sp_require_point K CP)) (c_require_points : ClXR P w K mg base 5 "require_points" (sp_require_points K CP)) (c_round_list : Cl P w K mg base 4 "round_list" (sp_round_list K)) : FnOk P w K mg base (L2.CX P w) 6 f fd ["centre", "points"] (sp_sorted_round K CP CO) := by
  have nd := sc_sorted_round.nd
  refine F.ok sc_sorted_round (fun vs H Q E h => h.len) (fun cdv A outer s H vs Q E hr h => ?_)
  obtain ⟨v1, v2, rfl, h⟩ := h
  refine ⟨_, (pss_cons (ps_expr (pcX c_require_point (takes_of rfl rfl rfl rfl) hr (by decide) (by rfl) (pa_cons (pv 0) pa_nil))) (pss_cons (ps_if (pt_not (pt_val (pe_callB call_isi (by rfl) g.f_isinstance boot_isinstance (pa_cons (pv 1) (pa_cons (pe_bltn (v := .ty "tuple") (by rfl) g.f_tuple boot_tuple rfl) pa_nil))))) (pss_one (psR rfl (takes_of rfl rfl rfl rfl) (pmk_own PySem.F.excBase_ValueError eP.x eP.g eP.k (raises_own eP.b eP.t) rfl))) pss_nil) (pss_cons (ps_expr (pcXS c_require_points (takes_of rfl rfl rfl rfl) hr (by decide) (by rfl) (pv 1))) (pss_cons (ps_if (pt_cmpR (op_inT hr.units65) (pv 0) (pv 1) (by rfl)) (pss_one (psR rfl (takes_of rfl rfl rfl rfl) (pmk_own PySem.F.excBase_ValueError eO.x eO.g eO.k (raises_own eO.b eO.t) rfl))) pss_nil) (pss_one (ps_ret (pe_callTy call_qtuple (by rfl) g.f_tuple boot_tuple (pa_cons (pc c_round_list hr (by decide) (by rfl) (pa_cons (pv 0) (pa_cons (pe_callB (cr_sortedS rfl) (by rfl) g.f_sorted boot_sorted (pa_cons (pe_callTy (cr_setT rfl hr.units) (by rfl) g.f_set PyProof.Rows.boot_set (pa_cons (pv 1) pa_nil)) pa_nil)) pa_nil))) pa_nil)))))))), ?_⟩
  obtain ⟨d1, d2, h1, h2, x1, x2, q⟩ := h
  cases p1 : isPoint d1 with
  | false =>
    have y := x1 p1
    wtm_at "go0"
    exact y
  | true =>
    have x2' := x2 p1
    have q' := q p1
    clear x1 x2 q
    cases d2 with
    | tuple ds =>
      obtain ⟨hl, x3, q2⟩ := q' ds rfl
      obtain ⟨a, xs, rfl, hs, hx⟩ := dpTup h2
      wtm_at "go0"
      rename_i H1 e1
      rcases Classical.em (∀ d ∈ ds, isPoint d = true) with hp | hp
      · refine ⟨a, xs, rfl, .inl (Evl.ex_t e1 hs), use_require_points (dpMonoA e1 hx) hl hp (fun H2 e2 => ?_)⟩
        obtain ⟨c, ps, rfl, rfl, h60, xo, q3⟩ := q2 hp
        wtm_at "go"
        refine ⟨dpt c, ps.map dpt, by wtm_at "dp", by wtm_at "dp", rfl, lay_dpt ps, ?_⟩
        rw [any_dpt]
        cases hm : decide (c ∈ ps) with
        | true =>
          have xo' := xo (of_decide_eq_true hm)
          wtm_at "go"
          exact xo' _ (by wtm_at "ex")
        | false =>
          obtain ⟨rk, sc, sp, hrk, q4⟩ := q3 (of_decide_eq_false hm)
          wtm_at "go"
          have hx2 : DpAll K H2 xs ((ps.map pInts).map fun k => .tuple (k.map .int)) := by
            rw [← map_dpt]
            exact dpMonoA (e1.trans e2) hx
          obtain ⟨ks, rfl, hks, hsq⟩ := keys_of hx2
          have hk60 : ks.length = ps.length := by rw [← List.length_map (f := fun q : Addr × List Int => q.2), hks, List.length_map]
          have hkp : ∀ q ∈ ks, ∃ p ∈ ps, q.2 = pInts p := fun q hq => by
            have : q.2 ∈ ps.map pInts := by rw [← hks]; exact List.mem_map.mpr ⟨q, hq, rfl⟩
            obtain ⟨p, hp1, hp2⟩ := List.mem_map.mp this
            exact ⟨p, hp1, hp2.symm⟩
          refine ⟨a, ks, rfl, Evl.ex_t (e1.trans e2) hs, hsq, by omega, fun b L hb hL1 hL2 => ?_⟩
          have eb : Ex H2 (upd H2 b (SetTO P w b L)) := Ex.new hb
          wtm_at "go"
          refine ⟨b, L, 3, rfl, upd_same, fun q hq => Evl.ex_t eb (hsq q (hL1 q hq)), by decide, fun q hq => ?_, fun L' p' hpm hnd hl2 hn => ?_⟩
          · obtain ⟨p, _, e⟩ := hkp q (hL1 q hq)
            rw [e]
            rfl
          have ep : Ex (upd H2 b (SetTO P w b L)) (upd (upd H2 b (SetTO P w b L)) p' (.lst (L'.map fun q => V.ref q.1))) := Ex.new hn
          wtm_at "go"
          have hL' : ∀ q ∈ L', ∃ p ∈ ps, q.2 = pInts p := fun q hq => hkp q (hL1 q (hpm.mem_iff.mp hq))
          have e2' : L'.map (·.2) = (L'.map fun q => toPt q.2).map pInts := by
            rw [List.map_map]
            refine List.map_congr_left fun q hq => ?_
            obtain ⟨p, _, e⟩ := hL' q hq
            show q.2 = pInts (toPt q.2)
            rw [e]
            rfl
          have hmem : ∀ x, x ∈ (L'.map fun q => toPt q.2) ↔ x ∈ ps := fun x => by
            constructor
            · intro hx
              obtain ⟨q, hq, rfl⟩ := List.mem_map.mp hx
              obtain ⟨p, hp1, e⟩ := hL' q hq
              rw [e]
              exact hp1
            · intro hx
              have h1 : pInts x ∈ ks.map (·.2) := by rw [hks]; exact List.mem_map.mpr ⟨x, hx, rfl⟩
              obtain ⟨q, hq, e⟩ := List.mem_map.mp h1
              have h2 := hL2 q hq
              obtain ⟨r, hr1, e3⟩ := List.mem_map.mp h2
              refine List.mem_map.mpr ⟨r, hpm.mem_iff.mpr hr1, ?_⟩
              have e4 : r.2 = pInts x := e3.trans e
              show toPt r.2 = x
              rw [e4]
              rfl
          have hnd2 : (L'.map fun q => toPt q.2).Nodup := by
            rw [e2'] at hnd
            exact nodup_of_map hnd
          refine ⟨v1, _, rfl, c, L'.map (fun q => toPt q.2), rk, by wtm_at "dp", ?_, sc, fun p hp => sp p ((hmem p).mp hp), ?_, fun p hp q hq => hrk p ((hmem p).mp hp) q ((hmem q).mp hq), fun qs v H3 hq1 hq2 e3 hd3 => ?_⟩
          · rw [map_dpt, ← e2']
            exact .lst (Evl.sq_of upd_same) (dpMonoA ep (dp_of_keys fun q hq => Evl.ex_t eb (hsq q (hL1 q (hpm.mem_iff.mp hq)))))
          · rw [List.length_map]
            omega
          have q5 := q4 qs (fun x => hq1.mem_iff.trans (hmem x)) (hq1.nodup_iff.mpr hnd2) hq2
          wtm_at "go"
          refine i_qtupleL hd3 (fun p H4 e4 hh => ?_)
          obtain ⟨vs', hv, hd4⟩ := hh
          exact q5 _ _ (((((e1.trans e2).trans eb).trans ep).trans e3).trans e4) (.tup (Evl.st_of hv) hd4)
      · have x3' := x3 hp
        refine ⟨a, xs, rfl, .inl (Evl.ex_t e1 hs), use_require_pointsX (dpMonoA e1 hx) hl hp (x3'.up e1)⟩
    | _ =>
      have y := x2' rfl
      wtm_at "go0"
      all_goals exact y _ (by wtm_at "ex")
end
end Wb

namespace Wb
open PySem PySem.Spec PyProof.Rows L2
open Evl (Ex Ex.refl Ex.trans Ex.new)
local macro_rules | `(tactic| wtm_at "dp") => `(tactic| first | with_reducible assumption | with_reducible exact Dp.int _ | with_reducible exact Dp.bl _ | with_reducible exact Dp.str _ | with_reducible exact Dp.non | ((with_reducible refine' dpMono ?dme (by with_reducible assumption)); (case dme => wtm_at "ex")) | ((with_reducible refine' Dp.tup (Evl.st_of ?dph) ?dpa); (case dph => wtm_at "hs"); (case dpa => wtm_at "dpa")) | ((with_reducible refine' Dp.lst (Evl.sq_of ?dph) ?dpa); (case dph => wtm_at "hs"); (case dpa => wtm_at "dpa")))
local macro_rules | `(tactic| wtm_at "dpa") => `(tactic| first | with_reducible exact DpAll.nil | ((with_reducible refine' DpAll.cons ?dp1 ?dp2); (case dp1 => wtm_at "dp"); (case dp2 => wtm_at "dpa")) | with_reducible assumption | ((with_reducible refine' dpMonoA ?dme (by with_reducible assumption)); (case dme => wtm_at "ex")))
local macro_rules | `(tactic| wtm_at "sz") => `(tactic| first | with_reducible assumption | ((with_reducible refine' sz_mul ?sz1 ?sz2); (case sz1 => wtm_at "sz"); (case sz2 => wtm_at "sz")) | ((with_reducible refine' sz_add ?sz1 ?sz2); (case sz1 => wtm_at "sz"); (case sz2 => wtm_at "sz")) | ((with_reducible refine' sz_sub ?sz1 ?sz2); (case sz1 => wtm_at "sz"); (case sz2 => wtm_at "sz")) | ((with_reducible refine' sz_neg ?sz1); (case sz1 => wtm_at "sz")) | ((with_reducible refine' sz_div ?sz1); (case sz1 => wtm_at "sz")) | ((with_reducible refine' sz_fdiv ?sz1); (case sz1 => wtm_at "sz")) | exact sz_lit (by decide) | wtm_at "sz2")
local macro_rules | `(tactic| wtm_at "szb") => `(tactic| first | with_reducible assumption | ((with_reducible refine' sz_mono ?szb1 ?szb2); (case szb1 => wtm_at "sz"); (case szb2 => decide)))
local macro_rules | `(tactic| wtm_at "nz") => `(tactic| first | assumption | decide | omega)
local macro_rules | `(tactic| wtm_at "shaped") => `(tactic| first | rfl | decide)
local macro_rules | `(tactic| wtm_at "sset") => `(tactic| ((dsimp only [L2.wipe, List.set, List.set_cons_zero, List.set_cons_succ]) <;> exact rfl))
local macro_rules | `(tactic| wtm_at "nrm") => `(tactic| dsimp only [L2.start, L2.wipe, List.set, List.append, List.map, List.map_cons, List.map_nil, List.length_cons, List.length_nil, Nat.reduceAdd, Nat.reduceSub, List.reduceReplicate, List.replicate, List.cons_append, List.nil_append, List.set_cons_zero, List.set_cons_succ])
local macro_rules | `(tactic| wtm_at "st") => `(tactic| first
  | ((with_reducible refine' i_var (v := ?u0) ?u1 ?uq); (case u1 => exact rfl))
  | ((with_reducible refine' i_nameN ?u0 ?uq); (case u0 => wtm_at "sset"))
  | (with_reducible refine' i_op ?uq)
  | (with_reducible refine' i_c ?uq)
  | (with_reducible refine' i_I0 ?uq)
  | ((with_reducible refine' i_ixTI (i := ?u0) ?u1 ?u2 ?u3 ?uq); (case u1 => wtm_at "dp"); (case u2 => wtm_at "ex"); (case u3 => exact rfl))
  | ((with_reducible refine' i_ixT (d := ?u0) ?u1 ?u2 ?u3 (fun xu hxu => ?uq)); (case u1 => wtm_at "dp"); (case u2 => wtm_at "ex"); (case u3 => exact rfl))
  | ((with_reducible refine' i_mul ?u0 ?u1 ?u2 ?uq); (case u0 => wtm_at "sz"); (case u1 => wtm_at "sz"); (case u2 => first | decide | omega))
  | (with_reducible refine' i_seq ?uq)
  | (with_reducible refine' i_asg ?uq)
  | (with_reducible refine' i_ret ?uq)
  | (with_reducible refine' i_ifs ?uq)
  | (with_reducible refine' i_drop ?uq)
  | (with_reducible refine' i_next ?uq)
  | (with_reducible refine' i_cons ?uq)
  | (with_reducible refine' i_nil ?uq)
  | (with_reducible refine' i_cl ?uq)
  | (with_reducible refine' i_cb ?uq)
  | (with_reducible refine' i_tup ?uq)
  | (with_reducible refine' i_lst ?uq)
  | ((with_reducible refine' i_mkT ?u0 (fun np nH nhe nhp => ?uq)); (case u0 => exact Nat.le_of_ble_eq_true rfl))
  | (with_reducible refine' i_test ?uq)
  | (with_reducible refine' i_B ?uq)
  | (with_reducible refine' i_k ?uq)
  | (with_reducible refine' i_and ?uq)
  | (with_reducible refine' i_or ?uq)
  | (with_reducible refine' i_not ?uq)
  | (with_reducible refine' i_andV ?uq)
  | (with_reducible refine' i_orV ?uq)
  | (with_reducible refine' i_notV ?uq)
  | (with_reducible refine' i_if ?uq)
  | (with_reducible refine' i_un ?uq)
  | (with_reducible refine' i_U ?uq)
  | (with_reducible refine' i_iteT ?uq)
  | (with_reducible refine' i_iteF ?uq)
  | ((with_reducible refine' i_iteTr ?u0 ?uq); (case u0 => first | with_reducible rfl | decide | (simp only [dIsInt, dIsBool, dIsTup, dIsStr, dIsLst, Bool.not_true, Bool.not_false]; done)))
  | ((with_reducible refine' i_iteFr ?u0 ?uq); (case u0 => first | with_reducible rfl | decide | (simp only [dIsInt, dIsBool, dIsTup, dIsStr, dIsLst, Bool.not_true, Bool.not_false]; done)))
  | (with_reducible refine' i_ite (fun hif => ?uqa) (fun hif => ?uqb))
  | (with_reducible refine' i_iteN (fun hif => ?uqa) (fun hif => ?uqb))
  | (with_reducible refine' i_iteBN (fun hif => ?uqa) (fun hif => ?uqb))
  | (with_reducible refine' i_iteB (fun hif => ?uqa) (fun hif => ?uqb))
  | ((with_reducible refine' i_modN ?u0 ?uq); (case u0 => wtm_at "nz"))
  | ((with_reducible refine' i_fdX ?u0 ?u1 ?u2 ?uq); (case u0 => wtm_at "nz"); (case u1 => wtm_at "sz"); (case u2 => first | decide | omega))
  | ((with_reducible refine' i_pow ?u0 ?uq); (case u0 => exact ⟨by decide, by decide +kernel⟩))
  | (with_reducible refine' i_eqI ?uq)
  | (with_reducible refine' i_neI ?uq)
  | (with_reducible refine' i_gcd ?uq)
  | (with_reducible refine' i_qabs ?uq)
  | (with_reducible refine' i_qint ?uq)
  | (with_reducible refine' i_qintB ?uq)
  | (with_reducible refine' i_qmax2 ?uq)
  | (with_reducible refine' i_qmin2 ?uq)
  | (with_reducible refine' i_isB ?uq)
  | (with_reducible refine' i_notB ?uq)
  | (with_reducible refine' i_chain ?uq)
  | (with_reducible refine' i_qisN ?uq)
  | (with_reducible refine' i_qnotN ?uq)
  | (with_reducible refine' i_yes ?uq)
  | (with_reducible refine' i_par ?uq)
  | (with_reducible refine' i_par3 ?uq)
  | ((with_reducible refine' i_par2 ?u0 ?uq); (case u0 => wtm_at "sset"))
  | ((with_reducible refine' i_par33 ?u0 ?uq); (case u0 => wtm_at "sset"))
  | ((with_reducible refine' i_ixLI (i := ?u0) ?u1 ?u2 ?u3 ?uq); (case u1 => wtm_at "dp"); (case u2 => wtm_at "ex"); (case u3 => exact rfl))
  | ((with_reducible refine' i_ixL (d := ?u0) ?u1 ?u2 ?u3 (fun xu hxu => ?uq)); (case u1 => wtm_at "dp"); (case u2 => wtm_at "ex"); (case u3 => exact rfl))
  | ((with_reducible refine' i_qlenT ?u0 ?uq); (case u0 => wtm_at "dp"))
  | ((with_reducible refine' i_qlenL ?u0 ?uq); (case u0 => wtm_at "dp"))
  | ((with_reducible refine' i_gtup ?u0 ?u1 ?u2 (fun gvs gdp => ?uq)); (case u0 => wtm_at "dp"); (case u1 => wtm_at "ex"); (case u2 => exact rfl))
  | ((with_reducible refine' i_glst ?u0 ?u1 ?u2 (fun gvs gdp => ?uq)); (case u0 => wtm_at "dp"); (case u1 => wtm_at "ex"); (case u2 => exact rfl))
  | ((with_reducible refine' i_gconsI ?u0 (fun gr gh => ?uq)); (case u0 => with_reducible assumption))
  | ((with_reducible refine' i_gconsA ?u0 (fun gv gr gh1 gh2 => ?uq)); (case u0 => with_reducible assumption))
  | ((with_reducible refine' i_gnilA ?u0 ?uq); (case u0 => with_reducible assumption))
  | ((with_reducible refine' i_isiI ?u0 ?uq); (case u0 => wtm_at "dp"))
  | ((with_reducible refine' i_isiB ?u0 ?uq); (case u0 => wtm_at "dp"))
  | ((with_reducible refine' i_isiT ?u0 ?uq); (case u0 => wtm_at "dp"))
  | ((with_reducible refine' i_isiS ?u0 ?uq); (case u0 => wtm_at "dp"))
  | ((with_reducible refine' i_isiL ?u0 ?uq); (case u0 => wtm_at "dp"))
  | ((with_reducible refine' i_eqD ?u0 ?u1 ?u2 ?u3 ?uq); (case u0 => wtm_at "dp"); (case u1 => wtm_at "dp"); (case u2 => wtm_at "shaped"); (case u3 => wtm_at "shaped"))
  | ((with_reducible refine' i_neD ?u0 ?u1 ?u2 ?u3 ?uq); (case u0 => wtm_at "dp"); (case u1 => wtm_at "dp"); (case u2 => wtm_at "shaped"); (case u3 => wtm_at "shaped"))
  | wtm_at "st2"
  | wtm_at "use")
local macro_rules | `(tactic| wtm_at "go") => `(tactic| repeat' (wtm_at "st"))
local macro_rules | `(tactic| wtm_at "go0") => `(tactic| ((try dsimp only [L2.cxOf, L2.Cx.nox, L2.Cx.wish, L2.Cx.tr, L2.Cx.blk]); (try wtm_at "nrm"); wtm_at "go"))
local macro_rules | `(tactic| wtm_at "fin") => `(tactic| ((try dsimp only); first | with_reducible assumption | assumption | ((with_reducible refine' Ret.use ?rur ?rue ?rud); (case rur => with_reducible assumption); (case rue => wtm_at "ex"); (case rud => wtm_at "dp"))))
local macro_rules | `(tactic| wtm_at "ex") => `(tactic| first | with_reducible assumption | with_reducible exact Ex.refl _ | with_reducible exact ex_hid | ((with_reducible refine' Ex.trans ?exe (by with_reducible assumption)); (case exe => wtm_at "ex")) | ((with_reducible refine' Ex.trans ?exe (hid_ex (by with_reducible assumption))); (case exe => wtm_at "ex")) | ((with_reducible refine' Ex.trans ?exe ex_hid); (case exe => wtm_at "ex")))
local macro_rules | `(tactic| wtm_at "bag") => `(tactic| first | with_reducible assumption | ((with_reducible refine' Bag.mono ?bgm (by with_reducible assumption)); (case bgm => wtm_at "bag")))
local macro_rules | `(tactic| wtm_at "hs") => `(tactic| first | with_reducible assumption | ((with_reducible refine' hid_tup ?hb ?hp); (case hp => with_reducible assumption); (case hb => wtm_at "bag")) | ((with_reducible refine' hid_new ?hb ?hn ?hp); (case hp => with_reducible assumption); (case hn => with_reducible assumption); (case hb => wtm_at "bag")) | ((with_reducible refine' ex_at ?exe (by with_reducible assumption)); (case exe => wtm_at "ex")))
local macro_rules | `(tactic| wtm_at "st2") => `(tactic| first
  | ((with_reducible refine' i_mulC ?u0 ?uq); (case u0 => first | exact cmul_l (by decide) | exact cmul_r (by decide)))
  | ((with_reducible refine' i_ixLr (v := ?u0) ?u1 ?u2 ?uq); (case u1 => with_reducible assumption); (case u2 => exact rfl))
  | (with_reducible refine' i_sub ?uq)
  | ((with_reducible refine' i_mkL ?u0 (fun np nH nfr nhe nhp => ?uq)); (case u0 => exact Nat.le_of_ble_eq_true rfl))
  | ((with_reducible refine' i_setL (n := ?u0) ?u1 ?u2 (fun sH sh se => ?uq)); (case u1 => with_reducible assumption); (case u2 => exact rfl))
  | (with_reducible refine' i_sl ?uq)
  | (with_reducible refine' i_nopart ?uq)
  | (with_reducible refine' i_part ?uq)
  | (with_reducible refine' i_part1 ?uq))
local macro_rules | `(tactic| wtm_at "sz2") => `(tactic| ((with_reducible refine' sz_fmod ?sz1 ?sz2); (case sz1 => wtm_at "nz"); (case sz2 => wtm_at "sz")))
local macro_rules | `(tactic| wtm_at "stb") => `(tactic| first
  | ((with_reducible refine' i_mkTB ?u0 ?u1 (fun np nH nhe nhb nhp => ?uq)); (case u0 => exact Nat.le_of_ble_eq_true rfl); (case u1 => wtm_at "bag"))
  | ((with_reducible refine' i_mkLB ?u0 ?u1 (fun np nH nfr nhe nhb nhp => ?uq)); (case u0 => exact Nat.le_of_ble_eq_true rfl); (case u1 => wtm_at "bag"))
  | wtm_at "st")
local macro_rules | `(tactic| wtm_at "gob") => `(tactic| repeat' (wtm_at "stb"))
local macro_rules | `(tactic| wtm_at "gob0") => `(tactic| ((try dsimp only [L2.cxOf, L2.Cx.nox, L2.Cx.wish, L2.Cx.tr, L2.Cx.blk]); (try wtm_at "nrm"); wtm_at "gob"))
local macro_rules | `(tactic| wtm_at "use") => `(tactic| ((with_reducible refine' use_turn_in ?u0 ?u1 ?u2 ?u3 ?u4 ?u5 ?u6 ?u7 ?u8 ?u9 ?u10 ?u11 ?uq); (case u0 => wtm_at "dp"); (case u1 => wtm_at "dp"); (case u2 => wtm_at "dp"); (case u3 => wtm_at "szb"); (case u4 => wtm_at "szb"); (case u5 => wtm_at "szb"); (case u6 => wtm_at "szb"); (case u7 => wtm_at "szb"); (case u8 => wtm_at "szb"); (case u9 => wtm_at "szb"); (case u10 => wtm_at "szb"); (case u11 => wtm_at "szb")))
local macro_rules | `(tactic| wtm_at "use") => `(tactic| ((with_reducible refine' use_step_from ?u0 ?u1 ?u2 ?u3 ?u4 ?u5 ?u6 ?u7 (fun ur uH ue ud => ?uq)); (case u0 => wtm_at "dp"); (case u1 => wtm_at "dp"); (case u2 => wtm_at "szb"); (case u3 => wtm_at "szb"); (case u4 => wtm_at "szb"); (case u5 => wtm_at "szb"); (case u6 => wtm_at "szb"); (case u7 => wtm_at "szb")))
local macro_rules | `(tactic| wtm_at "use") => `(tactic| (with_reducible refine' use_shared_of ?uq))
local macro_rules | `(tactic| wtm_at "use") => `(tactic| ((with_reducible refine' use_is_integer ?u0 ?uq); (case u0 => wtm_at "dp")))
local macro_rules | `(tactic| wtm_at "use") => `(tactic| ((with_reducible refine' use_is_between_in ?u0 ?u1 ?u2 ?u3 ?u4 ?u5 ?u6 ?u7 ?u8 ?u9 ?u10 ?u11 (fun uH ue => ?uq)); (case u0 => wtm_at "dp"); (case u1 => wtm_at "dp"); (case u2 => wtm_at "dp"); (case u3 => wtm_at "szb"); (case u4 => wtm_at "szb"); (case u5 => wtm_at "szb"); (case u6 => wtm_at "szb"); (case u7 => wtm_at "szb"); (case u8 => wtm_at "szb"); (case u9 => wtm_at "szb"); (case u10 => wtm_at "szb"); (case u11 => wtm_at "szb")))
local macro_rules | `(tactic| wtm_at "use") => `(tactic| ((with_reducible refine' use_line_through ?u0 ?u1 ?u2 ?u3 ?u4 ?u5 ?u6 ?u7 (fun ur uH ue ud => ?uq)); (case u0 => wtm_at "dp"); (case u1 => wtm_at "dp"); (case u2 => wtm_at "szb"); (case u3 => wtm_at "szb"); (case u4 => wtm_at "szb"); (case u5 => wtm_at "szb"); (case u6 => wtm_at "szb"); (case u7 => wtm_at "szb")))
local macro_rules | `(tactic| wtm_at "use") => `(tactic| ((with_reducible refine' use_reduced_point ?u0 ?u1 (fun ur uH ue ud => ?uq)); (case u0 => wtm_at "nz"); (case u1 => wtm_at "szb")))
local macro_rules | `(tactic| wtm_at "use") => `(tactic| ((with_reducible refine' use_is_point ?u0 (fun uH ue => ?uq)); (case u0 => wtm_at "dp")))
local macro_rules | `(tactic| wtm_at "use") => `(tactic| ((with_reducible refine' use_line_meet_in ?u0 ?u1 ?u2 ?u3 ?u4 ?u5 ?u6 ?u7 ?u8 ?u9 ?u10 ?u11 ?u12 ?u13 ?u14 ?u15 (fun ur uH ue ud => ?uq)); (case u0 => wtm_at "dp"); (case u1 => wtm_at "dp"); (case u2 => wtm_at "dp"); (case u3 => wtm_at "dp"); (case u4 => wtm_at "szb"); (case u5 => wtm_at "szb"); (case u6 => wtm_at "szb"); (case u7 => wtm_at "szb"); (case u8 => wtm_at "szb"); (case u9 => wtm_at "szb"); (case u10 => wtm_at "szb"); (case u11 => wtm_at "szb"); (case u12 => wtm_at "szb"); (case u13 => wtm_at "szb"); (case u14 => wtm_at "szb"); (case u15 => wtm_at "szb")))
section
variable {P : Program} {w : World} {K : PySem.W.Frag} {mg : Str → Option Value} {base : Heap} {H H' : Hp} {Q : VK} {E : XK} {v1 v2 v3 v4 : V} {x1 y1 w1 x2 y2 w2 x3 y3 w3 x4 y4 w4 : Int}
def sp__law_draw (K : PySem.W.Frag) : Sp := A2 fun v1 v2 H Q => ∃ (b : Addr) (t : Int), v1 = .ref b ∧ v2 = .int t ∧ Bag b H ∧ 0 < t ∧ Sz 9000 t ∧ ∀ n H2, 0 ≤ n → n < t → Ex (hid b H) (hid b H2) → Bag b H2 → Q (.int n) H2
abbrev s__law_draw : Stmt := top 32
theorem sc__law_draw : FnScope ["_law_bag_here", "_law_total", "_law_found", "_law_one", "_law_two"] ["_law_bag_here", "_law_total"] (defScope s__law_draw) := ⟨rfl, rfl, rfl, by decide +kernel, rfl, by decide +kernel, by decide +kernel⟩
theorem ok__law_draw {f : Addr} {fd : FuncData} (F : FnP K "_law_draw" s__law_draw f fd) (g : G mg)   : FnOk P w K mg base CX0 1 f fd ["_law_bag_here", "_law_total"] (sp__law_draw K) := by
  have nd := sc__law_draw.nd
  refine F.ok sc__law_draw (fun vs H Q E h => h.len) (fun cdv A outer s H vs Q E hr h => ?_)
  obtain ⟨v1, v2, rfl, h⟩ := h
  refine ⟨_, PSs.nox (pss_cons (ps_if (pt_cmpR op_gt (pe_ix ix_list (pv 0) pe_int (fun _ _ => rfl)) pe_int (nomark _)) (pss_cons (ps_set (i := 2) nd rfl (Or.inl rfl) (pe_op op_modN (pe_callTy call_qint1 (by rfl) g.f_int boot_int (pa_cons (pe_ix ix_list (pv 0) pe_int (fun _ _ => rfl)) pa_nil)) (pv 1))) (pss_cons (ps_asg (pe_op op_fdivX (pe_ix ix_list (pv 0) pe_int (fun _ _ => rfl)) (pv 1)) (pg_sub (pv 0) pe_int set_list)) (pss_one (ps_ret (pv 2))))) pss_nil) (pss_cons (ps_asg (pe_op op_add (pe_ix ix_list (pv 0) pe_int (fun _ _ => rfl)) pe_int) (pg_sub (pv 0) pe_int set_list)) (pss_cons (ps_set (i := 3) nd rfl (Or.inl rfl) (pe_op op_modN (pe_callTy call_qint1 (by rfl) g.f_int boot_int (pa_cons (pe_op op_add (pe_ix ix_list (pv 0) pe_int (fun _ _ => rfl)) (pe_op op_mul pe_int (pe_ix ix_list (pv 0) pe_int (fun _ _ => rfl)))) pa_nil)) pe_int)) (pss_cons (ps_set (i := 4) nd rfl (Or.inl rfl) (pe_op op_add (pe_op op_mulX (pe_op op_modN (pe_callTy call_qint1 (by rfl) g.f_int boot_int (pa_cons (pe_op op_mulX (pv 3) (pv 3)) pa_nil)) pe_int) (pv 3)) (pe_op op_mul pe_int (pe_ix ix_list (pv 0) pe_int (fun _ _ => rfl))))) (pss_one (ps_ret (pe_op op_modN (pe_callTy call_qint1 (by rfl) g.f_int boot_int (pa_cons (pe_op op_fdivX (pe_op op_modN (pe_callTy call_qint1 (by rfl) g.f_int boot_int (pa_cons (pv 4) pa_nil)) pe_int) pe_int) pa_nil)) (pv 1)))))))), ?_⟩
  obtain ⟨b, t, rfl, rfl, hb, ht, st, q⟩ := h
  obtain ⟨x, y, z, hb1, hx, sx⟩ := hb.ex
  have nt : t ≠ 0 := by omega
  wtm_at "go0"
  · dsimp only
    rename_i H2 sh se
    refine q _ _ (Int.fmod_nonneg_of_pos _ ht) (Int.fmod_lt_of_pos _ ht) (by wtm_at "ex") ⟨_, _, _, sh, ?_, sz_fdiv sx⟩
    rw [Int.fdiv_eq_ediv_of_nonneg _ (by omega)]
    exact Int.ediv_nonneg hx (by omega)
  · dsimp only
    rename_i H2 sh se
    exact q _ _ (Int.fmod_nonneg_of_pos _ ht) (Int.fmod_lt_of_pos _ ht) (by wtm_at "ex") ⟨_, _, _, sh, hx, sx⟩
theorem use__law_draw {b : Addr} {t : Int} (hb : Bag b H) (ht : 0 < t) (st : Sz 9000 t) (q : ∀ n H2, 0 ≤ n → n < t → Ex (hid b H) (hid b H2) → Bag b H2 → Q (.int n) H2) : sp__law_draw K [.ref b, .int t] H Q E := ⟨_, _, rfl, _, _, rfl, rfl, hb, ht, st, q⟩
def sp__law_bag (K : PySem.W.Frag) : Sp := A2 fun v1 v2 H Q => ∃ (a : Addr) (ns : List Int) (k : Int), v1 = .ref a ∧ v2 = .int k ∧ SqL K H a (ns.map V.int) ∧ 0 ≤ k ∧ k < 100 ∧ ∀ b H2, H b = none → Ex H H2 → Bag b H2 → Q (.ref b) H2
theorem great_pos : (0 : Int) < ((10 : Int) ^ (47 : Int).toNat) ^ (13 : Int).toNat := by decide +kernel
theorem great_sz : Sz 2100 (((10 : Int) ^ (47 : Int).toNat) ^ (13 : Int).toNat) := by
  unfold Sz
  decide +kernel
theorem bag_x {g m : Int} (hm : 0 < m) (sm : Sz 2100 m) (c : Int) : 0 ≤ (if g.fmod m - c > 0 then g.fmod m - c else 0) ∧ (0 ≤ c → Sz 2100 (if g.fmod m - c > 0 then g.fmod m - c else 0)) := by
  have h0 := Int.fmod_nonneg_of_pos g hm
  have h1 := Int.fmod_lt_of_pos g hm
  refine ⟨by split <;> omega, fun hc => sz_le sm ?_⟩
  split <;> omega
theorem atI_ok {ns : List Int} {k : Int} (h0 : 0 ≤ k) (h : k < ((ns.map V.int).length : Int)) : ∃ c, atI (ns.map V.int) k = some (.int c) := by
  rw [List.length_map] at h
  obtain ⟨j, rfl⟩ : ∃ j : Nat, k = j := ⟨k.toNat, by omega⟩
  have hk : j < ns.length := by omega
  exact ⟨ns[j], atI_nat (by
    rw [List.getElem?_map, List.getElem?_eq_getElem hk]
    rfl)⟩
theorem cut_ints (ns : List Int) (lo hi : Option Int) : ∃ ms : List Int, cutV (ns.map V.int) lo hi = ms.map V.int := by
  unfold cutV
  exact ⟨_, by rw [← List.map_drop, ← List.map_take]⟩
theorem atD {ds : List PyData} {k : Int} (h0 : 0 ≤ k) (h : k < (ds.length : Int)) : ∃ d, d ∈ ds ∧ atI ds k = some d := by
  obtain ⟨j, rfl⟩ : ∃ j : Nat, k = j := ⟨k.toNat, by omega⟩
  have hk : j < ds.length := by omega
  refine ⟨ds[j], List.getElem_mem hk, ?_⟩
  exact atI_nat (List.getElem?_eq_getElem hk)
theorem i_ixLh {b : Addr} {v : V} {ds : List PyData} {k : Int} {d : PyData} (h : Dp K (hid b H) v (.list ds)) (e : atI ds k = some d) (q : ∀ u, Dp K (hid b H) u d → Q u H) : rIxL K v (.int k) H Q := by
  obtain ⟨a, vs, rfl, hs, ha⟩ := dpLst h
  obtain ⟨u, e1, e2⟩ := dpAt ha e
  exact ⟨a, vs, k, _, rfl, rfl, Evl.ex_l ex_hid hs, e1, q u e2⟩
abbrev s__law_bag : Stmt := top 31
theorem sc__law_bag : FnScope ["_law_script", "_law_at", "_law_cell", "_law_great", "_law_mixed"] ["_law_script", "_law_at"] (defScope s__law_bag) := ⟨rfl, rfl, rfl, by decide +kernel, rfl, by decide +kernel, by decide +kernel⟩
theorem ok__law_bag {f : Addr} {fd : FuncData} (F : FnP K "_law_bag" s__law_bag f fd) (g : G mg)   : FnOk P w K mg base CX0 1 f fd ["_law_script", "_law_at"] (sp__law_bag K) := by
  have nd := sc__law_bag.nd
  refine F.ok sc__law_bag (fun vs H Q E h => h.len) (fun cdv A outer s H vs Q E hr h => ?_)
  obtain ⟨v1, v2, rfl, h⟩ := h
  refine ⟨_, PSs.nox (pss_cons (ps_set (i := 2) nd rfl (Or.inl rfl) (pe_ifExp (pt_cmpR op_lt (pv 1) (pe_callB call_qlen (by rfl) g.f_len boot_len (pa_cons (pv 0) pa_nil)) (nomark _)) (pe_ix ix_list (pv 0) (pv 1) (fun _ _ => rfl)) (pe_op op_add (pe_op op_add (pe_callB (cr_sum rfl) (by rfl) g.f_sum boot_sum (pa_cons (pe_slice sl_list (pv 0) po_none (po_some pe_int)) pa_nil)) (pe_op op_mul pe_int (pv 1))) pe_int))) (pss_cons (ps_set (i := 3) nd rfl (Or.inl rfl) (pe_op op_modN (pe_callTy call_qint1 (by rfl) g.f_int boot_int (pa_cons (pe_callB call_qabs (by rfl) g.f_abs boot_abs (pa_cons (pv 2) pa_nil)) pa_nil)) (pe_op op_powX (pe_op op_powX pe_int pe_int) pe_int))) (pss_cons (ps_set (i := 4) nd rfl (Or.inl rfl) (pe_op op_add (pe_op op_add (pe_op op_add (pe_op op_mul (pe_op op_modN (pe_callTy call_qint1 (by rfl) g.f_int boot_int (pa_cons (pv 3) pa_nil)) pe_int) pe_int) (pe_op op_mul pe_int (pv 1))) (pe_op op_mul pe_int (pe_callTy call_qint1 (by rfl) g.f_int boot_int (pa_cons (pe_cmpR op_lt (pv 2) pe_int (nomark _)) pa_nil)))) pe_int)) (pss_one (ps_ret (pe_lst (pa_cons (pe_callB (call_qmax2 rfl) (by rfl) g.f_max boot_max (pa_cons pe_int (pa_cons (pe_op op_sub (pv 3) (pe_op op_powX pe_int pe_int)) pa_nil))) (pa_cons (pe_op op_modN (pe_callTy call_qint1 (by rfl) g.f_int boot_int (pa_cons (pv 4) pa_nil)) pe_int) (pa_cons pe_int pa_nil))))))))), ?_⟩
  obtain ⟨a, ns, k, rfl, rfl, hS, hk, hk2, q⟩ := h
  have hg := great_pos
  have hgn : ((10 : Int) ^ (47 : Int).toNat) ^ (13 : Int).toNat ≠ 0 := by omega
  wtm_at "go0"
  refine i_qlenS hS ?_
  wtm_at "go"
  · rename_i hlt
    obtain ⟨c, hc⟩ := atI_ok hk hlt
    refine i_ixLs hS hc ?_
    wtm_at "go"
    dsimp only
    rename_i b H2 hn he hb
    exact q b H2 hn (by wtm_at "ex") ⟨_, _, _, hb, (bag_x hg great_sz _).1, (bag_x hg great_sz _).2 (by decide)⟩
  · refine i_slL hS (fun p H2 hp e2 h2 => ?_)
    obtain ⟨ms, hms⟩ := cut_ints ns none (some 1)
    rw [hms] at h2
    wtm_at "go"
    refine i_sum (Evl.sq_of h2) ?_
    wtm_at "go"
    dsimp only
    rename_i b H2 hn he hb
    exact q b H2 (Evl.fresh_back e2 hn) (by wtm_at "ex") ⟨_, _, _, hb, (bag_x hg great_sz _).1, (bag_x hg great_sz _).2 (by decide)⟩
theorem use__law_bag {a : Addr} {ns : List Int} {k : Int} (hS : SqL K H a (ns.map V.int)) (h0 : 0 ≤ k) (h1 : k < 100) (q : ∀ b H2, H b = none → Ex H H2 → Bag b H2 → Q (.ref b) H2) : sp__law_bag K [.ref a, .int k] H Q E := ⟨_, _, rfl, _, _, _, rfl, rfl, hS, h0, h1, q⟩
def sp__law_one_of (K : PySem.W.Frag) : Sp := A2 fun v1 v2 H Q => ∃ (b : Addr) (ds : List PyData), v1 = .ref b ∧ Bag b H ∧ Dp K (hid b H) v2 (.list ds) ∧ 0 < ds.length ∧ ds.length ≤ 1000 ∧ ∀ d v H2, d ∈ ds → Ex (hid b H) (hid b H2) → Bag b H2 → Dp K (hid b H2) v d → Q v H2
local macro_rules | `(tactic| wtm_at "use") => `(tactic| ((with_reducible refine' use__law_draw ?u0 ?u1 ?u2 (fun dn dH dn0 dn1 de db => ?uq)); (case u0 => wtm_at "bag"); (case u1 => wtm_at "pos"); (case u2 => wtm_at "szb")))
local macro_rules | `(tactic| wtm_at "pos") => `(tactic| first | assumption | decide | omega)
abbrev s__law_one_of : Stmt := top 33
theorem sc__law_one_of : FnScope ["_law_bag_here", "_law_items"] ["_law_bag_here", "_law_items"] (defScope s__law_one_of) := ⟨rfl, rfl, rfl, by decide +kernel, rfl, by decide +kernel, by decide +kernel⟩
theorem ok__law_one_of {f : Addr} {fd : FuncData} (F : FnP K "_law_one_of" s__law_one_of f fd) (g : G mg) (c__law_draw : Cl P w K mg base 1 "_law_draw" (sp__law_draw K))  : FnOk P w K mg base CX0 2 f fd ["_law_bag_here", "_law_items"] (sp__law_one_of K) := by
  have nd := sc__law_one_of.nd
  refine F.ok sc__law_one_of (fun vs H Q E h => h.len) (fun cdv A outer s H vs Q E hr h => ?_)
  obtain ⟨v1, v2, rfl, h⟩ := h
  refine ⟨_, PSs.nox (pss_one (ps_ret (pe_ix ix_list (pv 1) (pc c__law_draw hr (by decide) (by rfl) (pa_cons (pv 0) (pa_cons (pe_callB call_qlen (by rfl) g.f_len boot_len (pa_cons (pv 1) pa_nil)) pa_nil))) (fun _ _ => rfl)))), ?_⟩
  obtain ⟨b, ds, rfl, hb, hd, h0, h1, q⟩ := h
  have hl : Sz 9000 (ds.length : Int) := sz_mono (sz_lit (by omega)) (by decide)
  wtm_at "go0"
  dsimp only
  rename_i n H2 n0 n1 de db
  obtain ⟨d, hm, hat⟩ := atD n0 n1
  exact i_ixLh (b := b) (dpMono de hd) hat fun u hu => q d u H2 hm de db hu
theorem use__law_one_of {b : Addr} {ds : List PyData} (hb : Bag b H) (hd : Dp K (hid b H) v2 (.list ds)) (h0 : 0 < ds.length) (h1 : ds.length ≤ 1000) (q : ∀ d v H2, d ∈ ds → Ex (hid b H) (hid b H2) → Bag b H2 → Dp K (hid b H2) v d → Q v H2) : sp__law_one_of K [.ref b, v2] H Q E := ⟨_, _, rfl, _, _, rfl, hb, hd, h0, h1, q⟩
end
end Wb

namespace Wb
open PySem PySem.Spec PyProof.Rows L2
open Evl (Ex Ex.refl Ex.trans Ex.new)
local macro_rules | `(tactic| wtm_at "dp") => `(tactic| first | with_reducible assumption | with_reducible exact Dp.int _ | with_reducible exact Dp.bl _ | with_reducible exact Dp.str _ | with_reducible exact Dp.non | ((with_reducible refine' dpMono ?dme (by with_reducible assumption)); (case dme => wtm_at "ex")) | ((with_reducible refine' Dp.tup (Evl.st_of ?dph) ?dpa); (case dph => wtm_at "hs"); (case dpa => wtm_at "dpa")) | ((with_reducible refine' Dp.lst (Evl.sq_of ?dph) ?dpa); (case dph => wtm_at "hs"); (case dpa => wtm_at "dpa")))
local macro_rules | `(tactic| wtm_at "dpa") => `(tactic| first | with_reducible exact DpAll.nil | ((with_reducible refine' DpAll.cons ?dp1 ?dp2); (case dp1 => wtm_at "dp"); (case dp2 => wtm_at "dpa")) | with_reducible assumption | ((with_reducible refine' dpMonoA ?dme (by with_reducible assumption)); (case dme => wtm_at "ex")))
local macro_rules | `(tactic| wtm_at "sz") => `(tactic| first | with_reducible assumption | ((with_reducible refine' sz_mul ?sz1 ?sz2); (case sz1 => wtm_at "sz"); (case sz2 => wtm_at "sz")) | ((with_reducible refine' sz_add ?sz1 ?sz2); (case sz1 => wtm_at "sz"); (case sz2 => wtm_at "sz")) | ((with_reducible refine' sz_sub ?sz1 ?sz2); (case sz1 => wtm_at "sz"); (case sz2 => wtm_at "sz")) | ((with_reducible refine' sz_neg ?sz1); (case sz1 => wtm_at "sz")) | ((with_reducible refine' sz_div ?sz1); (case sz1 => wtm_at "sz")) | ((with_reducible refine' sz_fdiv ?sz1); (case sz1 => wtm_at "sz")) | exact sz_lit (by decide) | wtm_at "sz2")
local macro_rules | `(tactic| wtm_at "szb") => `(tactic| first | with_reducible assumption | ((with_reducible refine' sz_mono ?szb1 ?szb2); (case szb1 => wtm_at "sz"); (case szb2 => decide)))
local macro_rules | `(tactic| wtm_at "nz") => `(tactic| first | assumption | decide | omega)
local macro_rules | `(tactic| wtm_at "shaped") => `(tactic| first | rfl | decide)
local macro_rules | `(tactic| wtm_at "sset") => `(tactic| ((dsimp only [L2.wipe, List.set, List.set_cons_zero, List.set_cons_succ]) <;> exact rfl))
local macro_rules | `(tactic| wtm_at "nrm") => `(tactic| dsimp only [L2.start, L2.wipe, List.set, List.append, List.map, List.map_cons, List.map_nil, List.length_cons, List.length_nil, Nat.reduceAdd, Nat.reduceSub, List.reduceReplicate, List.replicate, List.cons_append, List.nil_append, List.set_cons_zero, List.set_cons_succ])
local macro_rules | `(tactic| wtm_at "st") => `(tactic| first
  | ((with_reducible refine' i_var (v := ?u0) ?u1 ?uq); (case u1 => exact rfl))
  | ((with_reducible refine' i_nameN ?u0 ?uq); (case u0 => wtm_at "sset"))
  | (with_reducible refine' i_op ?uq)
  | (with_reducible refine' i_c ?uq)
  | (with_reducible refine' i_I0 ?uq)
  | ((with_reducible refine' i_ixTI (i := ?u0) ?u1 ?u2 ?u3 ?uq); (case u1 => wtm_at "dp"); (case u2 => wtm_at "ex"); (case u3 => exact rfl))
  | ((with_reducible refine' i_ixT (d := ?u0) ?u1 ?u2 ?u3 (fun xu hxu => ?uq)); (case u1 => wtm_at "dp"); (case u2 => wtm_at "ex"); (case u3 => exact rfl))
  | ((with_reducible refine' i_mul ?u0 ?u1 ?u2 ?uq); (case u0 => wtm_at "sz"); (case u1 => wtm_at "sz"); (case u2 => first | decide | omega))
  | (with_reducible refine' i_seq ?uq)
  | (with_reducible refine' i_asg ?uq)
  | (with_reducible refine' i_ret ?uq)
  | (with_reducible refine' i_ifs ?uq)
  | (with_reducible refine' i_drop ?uq)
  | (with_reducible refine' i_next ?uq)
  | (with_reducible refine' i_cons ?uq)
  | (with_reducible refine' i_nil ?uq)
  | (with_reducible refine' i_cl ?uq)
  | (with_reducible refine' i_cb ?uq)
  | (with_reducible refine' i_tup ?uq)
  | (with_reducible refine' i_lst ?uq)
  | ((with_reducible refine' i_mkT ?u0 (fun np nH nhe nhp => ?uq)); (case u0 => exact Nat.le_of_ble_eq_true rfl))
  | (with_reducible refine' i_test ?uq)
  | (with_reducible refine' i_B ?uq)
  | (with_reducible refine' i_k ?uq)
  | (with_reducible refine' i_and ?uq)
  | (with_reducible refine' i_or ?uq)
  | (with_reducible refine' i_not ?uq)
  | (with_reducible refine' i_andV ?uq)
  | (with_reducible refine' i_orV ?uq)
  | (with_reducible refine' i_notV ?uq)
  | (with_reducible refine' i_if ?uq)
  | (with_reducible refine' i_un ?uq)
  | (with_reducible refine' i_U ?uq)
  | (with_reducible refine' i_iteT ?uq)
  | (with_reducible refine' i_iteF ?uq)
  | ((with_reducible refine' i_iteTr ?u0 ?uq); (case u0 => first | with_reducible rfl | decide | (simp only [dIsInt, dIsBool, dIsTup, dIsStr, dIsLst, Bool.not_true, Bool.not_false]; done)))
  | ((with_reducible refine' i_iteFr ?u0 ?uq); (case u0 => first | with_reducible rfl | decide | (simp only [dIsInt, dIsBool, dIsTup, dIsStr, dIsLst, Bool.not_true, Bool.not_false]; done)))
  | (with_reducible refine' i_ite (fun hif => ?uqa) (fun hif => ?uqb))
  | (with_reducible refine' i_iteN (fun hif => ?uqa) (fun hif => ?uqb))
  | (with_reducible refine' i_iteBN (fun hif => ?uqa) (fun hif => ?uqb))
  | (with_reducible refine' i_iteB (fun hif => ?uqa) (fun hif => ?uqb))
  | ((with_reducible refine' i_modN ?u0 ?uq); (case u0 => wtm_at "nz"))
  | ((with_reducible refine' i_fdX ?u0 ?u1 ?u2 ?uq); (case u0 => wtm_at "nz"); (case u1 => wtm_at "sz"); (case u2 => first | decide | omega))
  | ((with_reducible refine' i_pow ?u0 ?uq); (case u0 => exact ⟨by decide, by decide +kernel⟩))
  | (with_reducible refine' i_eqI ?uq)
  | (with_reducible refine' i_neI ?uq)
  | (with_reducible refine' i_gcd ?uq)
  | (with_reducible refine' i_qabs ?uq)
  | (with_reducible refine' i_qint ?uq)
  | (with_reducible refine' i_qintB ?uq)
  | (with_reducible refine' i_qmax2 ?uq)
  | (with_reducible refine' i_qmin2 ?uq)
  | (with_reducible refine' i_isB ?uq)
  | (with_reducible refine' i_notB ?uq)
  | (with_reducible refine' i_chain ?uq)
  | (with_reducible refine' i_qisN ?uq)
  | (with_reducible refine' i_qnotN ?uq)
  | (with_reducible refine' i_yes ?uq)
  | (with_reducible refine' i_par ?uq)
  | (with_reducible refine' i_par3 ?uq)
  | ((with_reducible refine' i_par2 ?u0 ?uq); (case u0 => wtm_at "sset"))
  | ((with_reducible refine' i_par33 ?u0 ?uq); (case u0 => wtm_at "sset"))
  | ((with_reducible refine' i_ixLI (i := ?u0) ?u1 ?u2 ?u3 ?uq); (case u1 => wtm_at "dp"); (case u2 => wtm_at "ex"); (case u3 => exact rfl))
  | ((with_reducible refine' i_ixL (d := ?u0) ?u1 ?u2 ?u3 (fun xu hxu => ?uq)); (case u1 => wtm_at "dp"); (case u2 => wtm_at "ex"); (case u3 => exact rfl))
  | ((with_reducible refine' i_qlenT ?u0 ?uq); (case u0 => wtm_at "dp"))
  | ((with_reducible refine' i_qlenL ?u0 ?uq); (case u0 => wtm_at "dp"))
  | ((with_reducible refine' i_gtup ?u0 ?u1 ?u2 (fun gvs gdp => ?uq)); (case u0 => wtm_at "dp"); (case u1 => wtm_at "ex"); (case u2 => exact rfl))
  | ((with_reducible refine' i_glst ?u0 ?u1 ?u2 (fun gvs gdp => ?uq)); (case u0 => wtm_at "dp"); (case u1 => wtm_at "ex"); (case u2 => exact rfl))
  | ((with_reducible refine' i_gconsI ?u0 (fun gr gh => ?uq)); (case u0 => with_reducible assumption))
  | ((with_reducible refine' i_gconsA ?u0 (fun gv gr gh1 gh2 => ?uq)); (case u0 => with_reducible assumption))
  | ((with_reducible refine' i_gnilA ?u0 ?uq); (case u0 => with_reducible assumption))
  | ((with_reducible refine' i_isiI ?u0 ?uq); (case u0 => wtm_at "dp"))
  | ((with_reducible refine' i_isiB ?u0 ?uq); (case u0 => wtm_at "dp"))
  | ((with_reducible refine' i_isiT ?u0 ?uq); (case u0 => wtm_at "dp"))
  | ((with_reducible refine' i_isiS ?u0 ?uq); (case u0 => wtm_at "dp"))
  | ((with_reducible refine' i_isiL ?u0 ?uq); (case u0 => wtm_at "dp"))
  | ((with_reducible refine' i_eqD ?u0 ?u1 ?u2 ?u3 ?uq); (case u0 => wtm_at "dp"); (case u1 => wtm_at "dp"); (case u2 => wtm_at "shaped"); (case u3 => wtm_at "shaped"))
  | ((with_reducible refine' i_neD ?u0 ?u1 ?u2 ?u3 ?uq); (case u0 => wtm_at "dp"); (case u1 => wtm_at "dp"); (case u2 => wtm_at "shaped"); (case u3 => wtm_at "shaped"))
  | wtm_at "st2"
  | wtm_at "use")
local macro_rules | `(tactic| wtm_at "go") => `(tactic| repeat' (wtm_at "st"))
local macro_rules | `(tactic| wtm_at "go0") => `(tactic| ((try dsimp only [L2.cxOf, L2.Cx.nox, L2.Cx.wish, L2.Cx.tr, L2.Cx.blk]); (try wtm_at "nrm"); wtm_at "go"))
local macro_rules | `(tactic| wtm_at "fin") => `(tactic| ((try dsimp only); first | with_reducible assumption | assumption | ((with_reducible refine' Ret.use ?rur ?rue ?rud); (case rur => with_reducible assumption); (case rue => wtm_at "ex"); (case rud => wtm_at "dp"))))
local macro_rules | `(tactic| wtm_at "ex") => `(tactic| first | with_reducible assumption | with_reducible exact Ex.refl _ | with_reducible exact ex_hid | ((with_reducible refine' Ex.trans ?exe (by with_reducible assumption)); (case exe => wtm_at "ex")) | ((with_reducible refine' Ex.trans ?exe (hid_ex (by with_reducible assumption))); (case exe => wtm_at "ex")) | ((with_reducible refine' Ex.trans ?exe ex_hid); (case exe => wtm_at "ex")))
local macro_rules | `(tactic| wtm_at "bag") => `(tactic| first | with_reducible assumption | ((with_reducible refine' Bag.mono ?bgm (by with_reducible assumption)); (case bgm => wtm_at "bag")))
local macro_rules | `(tactic| wtm_at "hs") => `(tactic| first | with_reducible assumption | ((with_reducible refine' hid_tup ?hb ?hp); (case hp => with_reducible assumption); (case hb => wtm_at "bag")) | ((with_reducible refine' hid_new ?hb ?hn ?hp); (case hp => with_reducible assumption); (case hn => with_reducible assumption); (case hb => wtm_at "bag")) | ((with_reducible refine' ex_at ?exe (by with_reducible assumption)); (case exe => wtm_at "ex")))
local macro_rules | `(tactic| wtm_at "st2") => `(tactic| first
  | ((with_reducible refine' i_mulC ?u0 ?uq); (case u0 => first | exact cmul_l (by decide) | exact cmul_r (by decide)))
  | ((with_reducible refine' i_ixLr (v := ?u0) ?u1 ?u2 ?uq); (case u1 => with_reducible assumption); (case u2 => exact rfl))
  | (with_reducible refine' i_sub ?uq)
  | ((with_reducible refine' i_mkL ?u0 (fun np nH nfr nhe nhp => ?uq)); (case u0 => exact Nat.le_of_ble_eq_true rfl))
  | ((with_reducible refine' i_setL (n := ?u0) ?u1 ?u2 (fun sH sh se => ?uq)); (case u1 => with_reducible assumption); (case u2 => exact rfl))
  | (with_reducible refine' i_sl ?uq)
  | (with_reducible refine' i_nopart ?uq)
  | (with_reducible refine' i_part ?uq)
  | (with_reducible refine' i_part1 ?uq))
local macro_rules | `(tactic| wtm_at "sz2") => `(tactic| ((with_reducible refine' sz_fmod ?sz1 ?sz2); (case sz1 => wtm_at "nz"); (case sz2 => wtm_at "sz")))
local macro_rules | `(tactic| wtm_at "stb") => `(tactic| first
  | ((with_reducible refine' i_mkTB ?u0 ?u1 (fun np nH nhe nhb nhp => ?uq)); (case u0 => exact Nat.le_of_ble_eq_true rfl); (case u1 => wtm_at "bag"))
  | ((with_reducible refine' i_mkLB ?u0 ?u1 (fun np nH nfr nhe nhb nhp => ?uq)); (case u0 => exact Nat.le_of_ble_eq_true rfl); (case u1 => wtm_at "bag"))
  | wtm_at "st")
local macro_rules | `(tactic| wtm_at "gob") => `(tactic| repeat' (wtm_at "stb"))
local macro_rules | `(tactic| wtm_at "gob0") => `(tactic| ((try dsimp only [L2.cxOf, L2.Cx.nox, L2.Cx.wish, L2.Cx.tr, L2.Cx.blk]); (try wtm_at "nrm"); wtm_at "gob"))
local macro_rules | `(tactic| wtm_at "use") => `(tactic| ((with_reducible refine' use_turn_in ?u0 ?u1 ?u2 ?u3 ?u4 ?u5 ?u6 ?u7 ?u8 ?u9 ?u10 ?u11 ?uq); (case u0 => wtm_at "dp"); (case u1 => wtm_at "dp"); (case u2 => wtm_at "dp"); (case u3 => wtm_at "szb"); (case u4 => wtm_at "szb"); (case u5 => wtm_at "szb"); (case u6 => wtm_at "szb"); (case u7 => wtm_at "szb"); (case u8 => wtm_at "szb"); (case u9 => wtm_at "szb"); (case u10 => wtm_at "szb"); (case u11 => wtm_at "szb")))
local macro_rules | `(tactic| wtm_at "use") => `(tactic| ((with_reducible refine' use_step_from ?u0 ?u1 ?u2 ?u3 ?u4 ?u5 ?u6 ?u7 (fun ur uH ue ud => ?uq)); (case u0 => wtm_at "dp"); (case u1 => wtm_at "dp"); (case u2 => wtm_at "szb"); (case u3 => wtm_at "szb"); (case u4 => wtm_at "szb"); (case u5 => wtm_at "szb"); (case u6 => wtm_at "szb"); (case u7 => wtm_at "szb")))
local macro_rules | `(tactic| wtm_at "use") => `(tactic| (with_reducible refine' use_shared_of ?uq))
local macro_rules | `(tactic| wtm_at "use") => `(tactic| ((with_reducible refine' use_is_integer ?u0 ?uq); (case u0 => wtm_at "dp")))
local macro_rules | `(tactic| wtm_at "use") => `(tactic| ((with_reducible refine' use_is_between_in ?u0 ?u1 ?u2 ?u3 ?u4 ?u5 ?u6 ?u7 ?u8 ?u9 ?u10 ?u11 (fun uH ue => ?uq)); (case u0 => wtm_at "dp"); (case u1 => wtm_at "dp"); (case u2 => wtm_at "dp"); (case u3 => wtm_at "szb"); (case u4 => wtm_at "szb"); (case u5 => wtm_at "szb"); (case u6 => wtm_at "szb"); (case u7 => wtm_at "szb"); (case u8 => wtm_at "szb"); (case u9 => wtm_at "szb"); (case u10 => wtm_at "szb"); (case u11 => wtm_at "szb")))
local macro_rules | `(tactic| wtm_at "use") => `(tactic| ((with_reducible refine' use_line_through ?u0 ?u1 ?u2 ?u3 ?u4 ?u5 ?u6 ?u7 (fun ur uH ue ud => ?uq)); (case u0 => wtm_at "dp"); (case u1 => wtm_at "dp"); (case u2 => wtm_at "szb"); (case u3 => wtm_at "szb"); (case u4 => wtm_at "szb"); (case u5 => wtm_at "szb"); (case u6 => wtm_at "szb"); (case u7 => wtm_at "szb")))
local macro_rules | `(tactic| wtm_at "use") => `(tactic| ((with_reducible refine' use_reduced_point ?u0 ?u1 (fun ur uH ue ud => ?uq)); (case u0 => wtm_at "nz"); (case u1 => wtm_at "szb")))
local macro_rules | `(tactic| wtm_at "use") => `(tactic| ((with_reducible refine' use_is_point ?u0 (fun uH ue => ?uq)); (case u0 => wtm_at "dp")))
local macro_rules | `(tactic| wtm_at "use") => `(tactic| ((with_reducible refine' use_line_meet_in ?u0 ?u1 ?u2 ?u3 ?u4 ?u5 ?u6 ?u7 ?u8 ?u9 ?u10 ?u11 ?u12 ?u13 ?u14 ?u15 (fun ur uH ue ud => ?uq)); (case u0 => wtm_at "dp"); (case u1 => wtm_at "dp"); (case u2 => wtm_at "dp"); (case u3 => wtm_at "dp"); (case u4 => wtm_at "szb"); (case u5 => wtm_at "szb"); (case u6 => wtm_at "szb"); (case u7 => wtm_at "szb"); (case u8 => wtm_at "szb"); (case u9 => wtm_at "szb"); (case u10 => wtm_at "szb"); (case u11 => wtm_at "szb"); (case u12 => wtm_at "szb"); (case u13 => wtm_at "szb"); (case u14 => wtm_at "szb"); (case u15 => wtm_at "szb")))
local macro_rules | `(tactic| wtm_at "use") => `(tactic| ((with_reducible refine' use__law_draw ?u0 ?u1 ?u2 (fun dn dH dn0 dn1 de db => ?uq)); (case u0 => wtm_at "bag"); (case u1 => wtm_at "pos"); (case u2 => wtm_at "szb")))
local macro_rules | `(tactic| wtm_at "pos") => `(tactic| first | assumption | decide | omega)
local macro_rules | `(tactic| wtm_at "oneof") => `(tactic| ((with_reducible refine' use__law_one_of ?u0 ?u1 ?u2 ?u3 ?uq); (case u0 => wtm_at "bag"); (case u1 => wtm_at "dp"); (case u2 => exact Nat.le_of_ble_eq_true rfl); (case u3 => exact Nat.le_of_ble_eq_true rfl)))
section
variable {P : Program} {w : World} {K : PySem.W.Frag} {mg : Str → Option Value} {base : Heap} {H H' : Hp} {Q : VK} {E : XK} {v1 v2 v3 v4 : V} {x1 y1 w1 x2 y2 w2 x3 y3 w3 x4 y4 w4 : Int}
def sp__law_shared (K : PySem.W.Frag) : Sp := A2 fun v1 v2 H Q => ∃ a b, v1 = .int a ∧ v2 = .int b ∧ Q (.int (gd a b)) H
theorem gd_abs2 (a b : Int) : gd (if a < 0 then -a else a) (if b < 0 then -b else b) = gd a b := by
  unfold gd
  have h : ∀ c : Int, (if c < 0 then -c else c).natAbs = c.natAbs := fun c => by split <;> omega
  rw [h, h]
abbrev s__law_shared : Stmt := top 35
theorem sc__law_shared : FnScope ["_law_one", "_law_other", "_law_big", "_law_low"] ["_law_one", "_law_other"] (defScope s__law_shared) := ⟨rfl, rfl, rfl, by decide +kernel, rfl, by decide +kernel, by decide +kernel⟩
theorem ok__law_shared {f : Addr} {fd : FuncData} (F : FnP K "_law_shared" s__law_shared f fd) (g : G mg)   : FnOk P w K mg base CX0 1 f fd ["_law_one", "_law_other"] (sp__law_shared K) := by
  have nd := sc__law_shared.nd
  refine F.ok sc__law_shared (fun vs H Q E h => h.len) (fun cdv A outer s H vs Q E hr h => ?_)
  obtain ⟨v1, v2, rfl, h⟩ := h
  refine ⟨_, PSs.nox (pss_cons (ps_par (i := 2) (j := 3) (by rfl) nd rfl rfl (by decide) rfl rfl (pa_cons (pe_callB call_qabs (by rfl) g.f_abs boot_abs (pa_cons (pv 0) pa_nil)) (pa_cons (pe_callB call_qabs (by rfl) g.f_abs boot_abs (pa_cons (pv 1) pa_nil)) pa_nil)) (by rfl)) (pss_cons (ps_while PassesOwn.never (pt_cmpR op_gt (pv 3) pe_int (nomark _)) (pss_one (ps_par (i := 2) (j := 3) (by rfl) nd rfl rfl (by decide) rfl rfl (pa_cons (pv 3) (pa_cons (pe_op op_modN (pe_callTy call_qint1 (by rfl) g.f_int boot_int (pa_cons (pv 2) pa_nil)) (pv 3)) pa_nil)) (by rfl)))) (pss_one (ps_ret (pv 2))))), ?_⟩
  obtain ⟨a, b, rfl, rfl, q⟩ := h
  wtm_at "go0"
  refine i_tw (fun m σ H' => ∃ a' b' : Int, m = b'.natAbs ∧ σ = [some (.int a), some (.int b), some (.int a'), some (.int b')] ∧ H' = H ∧ 0 ≤ a' ∧ 0 ≤ b' ∧ gd a' b' = gd a b) _ ⟨_, _, rfl, rfl, rfl, by split <;> omega, by split <;> omega, gd_abs2 a b⟩ ?_
  rintro m σ H' ⟨a', b', rfl, rfl, rfl, ha, hb, hg⟩
  wtm_at "go"
  · rename_i hb0
    have nb : b' ≠ 0 := by omega
    refine ⟨fun σ2 H2 => σ2 = [some (.int a), some (.int b), some (.int b'), some (.int (a'.fmod b'))] ∧ H2 = H', ?_, ?_⟩
    · rintro σ2 H2 ⟨rfl, rfl⟩
      exact ⟨_, fmod_lt a' nb, b', a'.fmod b', rfl, rfl, rfl, hb, Int.fmod_nonneg_of_pos _ hb0, (gd_step a' b').trans hg⟩
    · wtm_at "go"
      exact ⟨rfl, rfl⟩
  · rename_i hb0
    dsimp only
    have e0 : b' = 0 := by omega
    subst e0
    have e : a' = gd a b := by
      rw [← hg]
      unfold gd
      rw [Int.natAbs_zero, Nat.gcd_zero_right]
      omega
    rw [e]
    exact q
theorem use__law_shared {a b : Int} (q : Q (.int (gd a b)) H) : sp__law_shared K [.int a, .int b] H Q E := ⟨_, _, rfl, _, _, rfl, rfl, q⟩
local macro_rules | `(tactic| wtm_at "use") => `(tactic| (with_reducible refine' use__law_shared ?_))
def sp__law_point (K : PySem.W.Frag) : Sp := A3 fun v1 v2 v3 H Q => ∃ x y w : Int, v1 = .int x ∧ v2 = .int y ∧ v3 = .int w ∧ 0 < w ∧ Sz 9000 w ∧ Ret K (rp x y w) H Q
abbrev s__law_point : Stmt := top 36
theorem sc__law_point : FnScope ["_law_x", "_law_y", "_law_w", "_law_shared_here"] ["_law_x", "_law_y", "_law_w"] (defScope s__law_point) := ⟨rfl, rfl, rfl, by decide +kernel, rfl, by decide +kernel, by decide +kernel⟩
theorem ok__law_point {f : Addr} {fd : FuncData} (F : FnP K "_law_point" s__law_point f fd) (g : G mg) (c__law_shared : Cl P w K mg base 1 "_law_shared" (sp__law_shared K))  : FnOk P w K mg base CX0 2 f fd ["_law_x", "_law_y", "_law_w"] (sp__law_point K) := by
  have nd := sc__law_point.nd
  refine F.ok sc__law_point (fun vs H Q E h => h.len) (fun cdv A outer s H vs Q E hr h => ?_)
  obtain ⟨v1, v2, v3, rfl, h⟩ := h
  refine ⟨_, PSs.nox (pss_cons (ps_set (i := 3) nd rfl (Or.inl rfl) (pc c__law_shared hr (by decide) (by rfl) (pa_cons (pc c__law_shared hr (by decide) (by rfl) (pa_cons (pv 0) (pa_cons (pv 1) pa_nil))) (pa_cons (pv 2) pa_nil)))) (pss_one (ps_ret (pe_tup (pa_cons (pe_op op_fdivX (pv 0) (pv 3)) (pa_cons (pe_op op_fdivX (pv 1) (pv 3)) (pa_cons (pe_op op_fdivX (pv 2) (pv 3)) pa_nil))))))), ?_⟩
  obtain ⟨x, y, w', rfl, rfl, rfl, hw, sw, q⟩ := h
  have hw0 : w' ≠ 0 := by omega
  have s1 : Sz 9000 (gd (gd x y) w') := sz_le sw (gd_abs hw0)
  have e1 : sg (gd x y) w' = gd (gd x y) w' := by
    unfold sg
    rw [if_neg (by omega)]
  have n1 : gd (gd x y) w' ≠ 0 := by
    rw [← e1]
    exact sg_ne hw0
  unfold rp at q
  rw [e1] at q
  wtm_at "go0"
  all_goals wtm_at "fin"
theorem use__law_point {x y w : Int} (hw : 0 < w) (sw : Sz 9000 w) (q : ∀ v H2, Ex H H2 → Dp K H2 v (rp x y w) → Q v H2) : sp__law_point K [.int x, .int y, .int w] H Q E := ⟨_, _, _, rfl, _, _, _, rfl, rfl, rfl, hw, sw, q⟩
abbrev fr (sx sy sw ux uy vx vy : Int) : PyData := .tuple [.list [.int sx, .int sy, .int sw], .tuple [.int ux, .int uy], .tuple [.int vx, .int vy]]
structure FrOk (sx sy sw ux uy vx vy : Int) : Prop where
  w : 1 ≤ sw
  det : ux * vy ≠ uy * vx
  s1 : Sz 80 sx
  s2 : Sz 80 sy
  s3 : Sz 80 sw
  s4 : Sz 80 ux
  s5 : Sz 80 uy
  s6 : Sz 80 vx
  s7 : Sz 80 vy
def sp__law_frame (K : PySem.W.Frag) : Sp := A1 fun v1 H Q => ∃ b, v1 = .ref b ∧ Bag b H ∧ ∀ sx sy sw ux uy vx vy v H2, FrOk sx sy sw ux uy vx vy → Ex (hid b H) (hid b H2) → Bag b H2 → Dp K (hid b H2) v (fr sx sy sw ux uy vx vy) → Q v H2
theorem sz80 {n s : Int} (h0 : 0 ≤ n) (h1 : n < 2 * s + 1) (hs : s ≤ 100000000000000000000) : Sz 80 (n - s) := by
  unfold Sz
  omega
local macro_rules | `(tactic| wtm_at "sz") => `(tactic| (with_reducible refine' sz80 ?s0 ?s1 ?s2; (case s0 => assumption); (case s1 => assumption); (case s2 => assumption)))
abbrev s__law_frame : Stmt := top 37
theorem sc__law_frame : FnScope ["_law_bag_here", "_law_size", "_law_spot_here", "_law_one", "_law_two"] ["_law_bag_here"] (defScope s__law_frame) := ⟨rfl, rfl, rfl, by decide +kernel, rfl, by decide +kernel, by decide +kernel⟩
theorem ok__law_frame {f : Addr} {fd : FuncData} (F : FnP K "_law_frame" s__law_frame f fd) (g : G mg) (c__law_one_of : Cl P w K mg base 2 "_law_one_of" (sp__law_one_of K)) (c__law_draw : Cl P w K mg base 1 "_law_draw" (sp__law_draw K))  : FnOk P w K mg base CX0 3 f fd ["_law_bag_here"] (sp__law_frame K) := by
  have nd := sc__law_frame.nd
  refine F.ok sc__law_frame (fun vs H Q E h => h.len) (fun cdv A outer s H vs Q E hr h => ?_)
  obtain ⟨v1, rfl, h⟩ := h
  refine ⟨_, PSs.nox (pss_cons (ps_set (i := 1) nd rfl (Or.inl rfl) (pc c__law_one_of hr (by decide) (by rfl) (pa_cons (pv 0) (pa_cons (pe_lst (pa_cons pe_int (pa_cons pe_int (pa_cons pe_int (pa_cons (pe_op op_powX pe_int pe_int) (pa_cons (pe_op op_powX pe_int pe_int) pa_nil)))))) pa_nil)))) (pss_cons (ps_set (i := 2) nd rfl (Or.inl rfl) (pe_lst (pa_cons (pe_op op_sub (pc c__law_draw hr (by decide) (by rfl) (pa_cons (pv 0) (pa_cons (pe_op op_add (pe_op op_mul pe_int (pv 1)) pe_int) pa_nil))) (pv 1)) (pa_cons (pe_op op_sub (pc c__law_draw hr (by decide) (by rfl) (pa_cons (pv 0) (pa_cons (pe_op op_add (pe_op op_mul pe_int (pv 1)) pe_int) pa_nil))) (pv 1)) (pa_cons (pe_op op_add pe_int (pc c__law_draw hr (by decide) (by rfl) (pa_cons (pv 0) (pa_cons (pc c__law_one_of hr (by decide) (by rfl) (pa_cons (pv 0) (pa_cons (pe_lst (pa_cons pe_int (pa_cons pe_int (pa_cons (pv 1) pa_nil)))) pa_nil))) pa_nil)))) pa_nil))))) (pss_cons (ps_set (i := 3) nd rfl (Or.inl rfl) (pe_tup (pa_cons (pe_op op_sub (pc c__law_draw hr (by decide) (by rfl) (pa_cons (pv 0) (pa_cons (pe_op op_add (pe_op op_mul pe_int (pv 1)) pe_int) pa_nil))) (pv 1)) (pa_cons (pe_op op_sub (pc c__law_draw hr (by decide) (by rfl) (pa_cons (pv 0) (pa_cons (pe_op op_add (pe_op op_mul pe_int (pv 1)) pe_int) pa_nil))) (pv 1)) pa_nil)))) (pss_cons (ps_set (i := 4) nd rfl (Or.inl rfl) (pe_tup (pa_cons (pe_op op_sub (pc c__law_draw hr (by decide) (by rfl) (pa_cons (pv 0) (pa_cons (pe_op op_add (pe_op op_mul pe_int (pv 1)) pe_int) pa_nil))) (pv 1)) (pa_cons (pe_op op_sub (pc c__law_draw hr (by decide) (by rfl) (pa_cons (pv 0) (pa_cons (pe_op op_add (pe_op op_mul pe_int (pv 1)) pe_int) pa_nil))) (pv 1)) pa_nil)))) (pss_cons (ps_if (pt_cmpR op_eq (pe_op op_mulX (pe_ix ix_tup (pv 3) pe_int (fun _ _ => rfl)) (pe_ix ix_tup (pv 4) pe_int (fun _ _ => rfl))) (pe_op op_mulX (pe_ix ix_tup (pv 3) pe_int (fun _ _ => rfl)) (pe_ix ix_tup (pv 4) pe_int (fun _ _ => rfl))) (nomark _)) (pss_one (ps_asg (pc c__law_one_of hr (by decide) (by rfl) (pa_cons (pv 0) (pa_cons (pe_lst (pa_cons (pe_tup (pa_cons (pe_tup (pa_cons pe_int (pa_cons pe_int pa_nil))) (pa_cons (pe_tup (pa_cons pe_int (pa_cons pe_int pa_nil))) pa_nil))) (pa_cons (pe_tup (pa_cons (pe_tup (pa_cons pe_int (pa_cons pe_int pa_nil))) (pa_cons (pe_tup (pa_cons pe_int (pa_cons pe_int pa_nil))) pa_nil))) (pa_cons (pe_tup (pa_cons (pe_tup (pa_cons pe_int (pa_cons (pe_un un_neg pe_int) pa_nil))) (pa_cons (pe_tup (pa_cons pe_int (pa_cons pe_int pa_nil))) pa_nil))) (pa_cons (pe_tup (pa_cons (pe_tup (pa_cons (pe_un un_neg pe_int) (pa_cons pe_int pa_nil))) (pa_cons (pe_tup (pa_cons pe_int (pa_cons pe_int pa_nil))) pa_nil))) pa_nil))))) pa_nil))) (pg_tup (n := 2) (by rfl) (pgs_cons (pg_name (i := 3) nd rfl (Or.inl rfl)) (pgs_cons (pg_name (i := 4) nd rfl (Or.inl rfl)) pgs_nil))))) pss_nil) (pss_one (ps_ret (pe_tup (pa_cons (pv 2) (pa_cons (pv 3) (pa_cons (pv 4) pa_nil))))))))))), ?_⟩
  obtain ⟨b, rfl, hb, q⟩ := h
  wtm_at "gob0"
  wtm_at "oneof"
  intro d v H2 hd e2 b2 hv
  obtain ⟨s, rfl, hs1, hs2⟩ : ∃ s : Int, v = .int s ∧ 1 ≤ s ∧ s ≤ 100000000000000000000 := by
    simp only [List.mem_cons, List.not_mem_nil, or_false] at hd
    rcases hd with rfl | rfl | rfl | rfl | rfl <;> exact ⟨_, dpInt hv, by decide, by decide⟩
  have ss : Sz 80 s := by unfold Sz; omega
  wtm_at "gob"
  wtm_at "oneof"
  intro d2 v2 H3 hd2 e3 b3 hv2
  obtain ⟨s2, rfl, hs3, hs4⟩ : ∃ s2 : Int, v2 = .int s2 ∧ 1 ≤ s2 ∧ s2 ≤ 100000000000000000000 := by
    simp only [List.mem_cons, List.not_mem_nil, or_false] at hd2
    rcases hd2 with rfl | rfl | rfl
    · exact ⟨_, dpInt hv2, by decide, by decide⟩
    · exact ⟨_, dpInt hv2, by decide, by decide⟩
    · exact ⟨_, dpInt hv2, hs1, hs2⟩
  have ss2 : Sz 80 s2 := by unfold Sz; omega
  wtm_at "gob"
  · wtm_at "oneof"
    intro d3 v3 H4 hd3 e4 b4 hv3
    simp only [List.mem_cons, List.not_mem_nil, or_false] at hd3
    rcases hd3 with rfl | rfl | rfl | rfl <;> wtm_at "gob"
    all_goals (dsimp only; refine' q _ _ _ _ _ _ _ _ _ ?fok ?fex ?fbg ?fdp; (case fdp => wtm_at "dp"); (case fex => wtm_at "ex"); (case fbg => wtm_at "bag"); (case fok => exact ⟨by omega, by decide, by unfold Sz; omega, by unfold Sz; omega, by unfold Sz; omega, by unfold Sz; decide, by unfold Sz; decide, by unfold Sz; decide, by unfold Sz; decide⟩))
  · dsimp only
    refine' q _ _ _ _ _ _ _ _ _ ?fok ?fex ?fbg ?fdp
    (case fdp => wtm_at "dp")
    (case fex => wtm_at "ex")
    (case fbg => wtm_at "bag")
    (case fok => exact ⟨by omega, by assumption, by unfold Sz; omega, by unfold Sz; omega, by unfold Sz; omega, by unfold Sz; omega, by unfold Sz; omega, by unfold Sz; omega, by unfold Sz; omega⟩)
theorem use__law_frame {b : Addr} (hb : Bag b H) (q : ∀ sx sy sw ux uy vx vy v H2, FrOk sx sy sw ux uy vx vy → Ex (hid b H) (hid b H2) → Bag b H2 → Dp K (hid b H2) v (fr sx sy sw ux uy vx vy) → Q v H2) : sp__law_frame K [.ref b] H Q E := ⟨_, rfl, _, rfl, hb, q⟩
end
end Wb

namespace Wb
open PySem PySem.Spec PyProof.Rows L2
open Evl (Ex Ex.refl Ex.trans Ex.new)
local macro_rules | `(tactic| wtm_at "dp") => `(tactic| first | with_reducible assumption | with_reducible exact Dp.int _ | with_reducible exact Dp.bl _ | with_reducible exact Dp.str _ | with_reducible exact Dp.non | ((with_reducible refine' dpMono ?dme (by with_reducible assumption)); (case dme => wtm_at "ex")) | ((with_reducible refine' Dp.tup (Evl.st_of ?dph) ?dpa); (case dph => wtm_at "hs"); (case dpa => wtm_at "dpa")) | ((with_reducible refine' Dp.lst (Evl.sq_of ?dph) ?dpa); (case dph => wtm_at "hs"); (case dpa => wtm_at "dpa")))
local macro_rules | `(tactic| wtm_at "dpa") => `(tactic| first | with_reducible exact DpAll.nil | ((with_reducible refine' DpAll.cons ?dp1 ?dp2); (case dp1 => wtm_at "dp"); (case dp2 => wtm_at "dpa")) | with_reducible assumption | ((with_reducible refine' dpMonoA ?dme (by with_reducible assumption)); (case dme => wtm_at "ex")))
local macro_rules | `(tactic| wtm_at "sz") => `(tactic| first | with_reducible assumption | ((with_reducible refine' sz_mul ?sz1 ?sz2); (case sz1 => wtm_at "sz"); (case sz2 => wtm_at "sz")) | ((with_reducible refine' sz_add ?sz1 ?sz2); (case sz1 => wtm_at "sz"); (case sz2 => wtm_at "sz")) | ((with_reducible refine' sz_sub ?sz1 ?sz2); (case sz1 => wtm_at "sz"); (case sz2 => wtm_at "sz")) | ((with_reducible refine' sz_neg ?sz1); (case sz1 => wtm_at "sz")) | ((with_reducible refine' sz_div ?sz1); (case sz1 => wtm_at "sz")) | ((with_reducible refine' sz_fdiv ?sz1); (case sz1 => wtm_at "sz")) | exact sz_lit (by decide) | wtm_at "sz2")
local macro_rules | `(tactic| wtm_at "szb") => `(tactic| first | with_reducible assumption | ((with_reducible refine' sz_mono ?szb1 ?szb2); (case szb1 => wtm_at "sz"); (case szb2 => decide)))
local macro_rules | `(tactic| wtm_at "nz") => `(tactic| first | assumption | decide | omega)
local macro_rules | `(tactic| wtm_at "shaped") => `(tactic| first | rfl | decide)
local macro_rules | `(tactic| wtm_at "sset") => `(tactic| ((dsimp only [L2.wipe, List.set, List.set_cons_zero, List.set_cons_succ]) <;> exact rfl))
local macro_rules | `(tactic| wtm_at "nrm") => `(tactic| dsimp only [L2.start, L2.wipe, List.set, List.append, List.map, List.map_cons, List.map_nil, List.length_cons, List.length_nil, Nat.reduceAdd, Nat.reduceSub, List.reduceReplicate, List.replicate, List.cons_append, List.nil_append, List.set_cons_zero, List.set_cons_succ])
local macro_rules | `(tactic| wtm_at "st") => `(tactic| first
  | ((with_reducible refine' i_var (v := ?u0) ?u1 ?uq); (case u1 => exact rfl))
  | ((with_reducible refine' i_nameN ?u0 ?uq); (case u0 => wtm_at "sset"))
  | (with_reducible refine' i_op ?uq)
  | (with_reducible refine' i_c ?uq)
  | (with_reducible refine' i_I0 ?uq)
  | ((with_reducible refine' i_ixTI (i := ?u0) ?u1 ?u2 ?u3 ?uq); (case u1 => wtm_at "dp"); (case u2 => wtm_at "ex"); (case u3 => exact rfl))
  | ((with_reducible refine' i_ixT (d := ?u0) ?u1 ?u2 ?u3 (fun xu hxu => ?uq)); (case u1 => wtm_at "dp"); (case u2 => wtm_at "ex"); (case u3 => exact rfl))
  | ((with_reducible refine' i_mul ?u0 ?u1 ?u2 ?uq); (case u0 => wtm_at "sz"); (case u1 => wtm_at "sz"); (case u2 => first | decide | omega))
  | (with_reducible refine' i_seq ?uq)
  | (with_reducible refine' i_asg ?uq)
  | (with_reducible refine' i_ret ?uq)
  | (with_reducible refine' i_ifs ?uq)
  | (with_reducible refine' i_drop ?uq)
  | (with_reducible refine' i_next ?uq)
  | (with_reducible refine' i_cons ?uq)
  | (with_reducible refine' i_nil ?uq)
  | (with_reducible refine' i_cl ?uq)
  | (with_reducible refine' i_cb ?uq)
  | (with_reducible refine' i_tup ?uq)
  | (with_reducible refine' i_lst ?uq)
  | ((with_reducible refine' i_mkT ?u0 (fun np nH nhe nhp => ?uq)); (case u0 => exact Nat.le_of_ble_eq_true rfl))
  | (with_reducible refine' i_test ?uq)
  | (with_reducible refine' i_B ?uq)
  | (with_reducible refine' i_k ?uq)
  | (with_reducible refine' i_and ?uq)
  | (with_reducible refine' i_or ?uq)
  | (with_reducible refine' i_not ?uq)
  | (with_reducible refine' i_andV ?uq)
  | (with_reducible refine' i_orV ?uq)
  | (with_reducible refine' i_notV ?uq)
  | (with_reducible refine' i_if ?uq)
  | (with_reducible refine' i_un ?uq)
  | (with_reducible refine' i_U ?uq)
  | (with_reducible refine' i_iteT ?uq)
  | (with_reducible refine' i_iteF ?uq)
  | ((with_reducible refine' i_iteTr ?u0 ?uq); (case u0 => first | with_reducible rfl | decide | (simp only [dIsInt, dIsBool, dIsTup, dIsStr, dIsLst, Bool.not_true, Bool.not_false]; done)))
  | ((with_reducible refine' i_iteFr ?u0 ?uq); (case u0 => first | with_reducible rfl | decide | (simp only [dIsInt, dIsBool, dIsTup, dIsStr, dIsLst, Bool.not_true, Bool.not_false]; done)))
  | (with_reducible refine' i_ite (fun hif => ?uqa) (fun hif => ?uqb))
  | (with_reducible refine' i_iteN (fun hif => ?uqa) (fun hif => ?uqb))
  | (with_reducible refine' i_iteBN (fun hif => ?uqa) (fun hif => ?uqb))
  | (with_reducible refine' i_iteB (fun hif => ?uqa) (fun hif => ?uqb))
  | ((with_reducible refine' i_modN ?u0 ?uq); (case u0 => wtm_at "nz"))
  | ((with_reducible refine' i_fdX ?u0 ?u1 ?u2 ?uq); (case u0 => wtm_at "nz"); (case u1 => wtm_at "sz"); (case u2 => first | decide | omega))
  | ((with_reducible refine' i_pow ?u0 ?uq); (case u0 => exact ⟨by decide, by decide +kernel⟩))
  | (with_reducible refine' i_eqI ?uq)
  | (with_reducible refine' i_neI ?uq)
  | (with_reducible refine' i_gcd ?uq)
  | (with_reducible refine' i_qabs ?uq)
  | (with_reducible refine' i_qint ?uq)
  | (with_reducible refine' i_qintB ?uq)
  | (with_reducible refine' i_qmax2 ?uq)
  | (with_reducible refine' i_qmin2 ?uq)
  | (with_reducible refine' i_isB ?uq)
  | (with_reducible refine' i_notB ?uq)
  | (with_reducible refine' i_chain ?uq)
  | (with_reducible refine' i_qisN ?uq)
  | (with_reducible refine' i_qnotN ?uq)
  | (with_reducible refine' i_yes ?uq)
  | (with_reducible refine' i_par ?uq)
  | (with_reducible refine' i_par3 ?uq)
  | ((with_reducible refine' i_par2 ?u0 ?uq); (case u0 => wtm_at "sset"))
  | ((with_reducible refine' i_par33 ?u0 ?uq); (case u0 => wtm_at "sset"))
  | ((with_reducible refine' i_ixLI (i := ?u0) ?u1 ?u2 ?u3 ?uq); (case u1 => wtm_at "dp"); (case u2 => wtm_at "ex"); (case u3 => exact rfl))
  | ((with_reducible refine' i_ixL (d := ?u0) ?u1 ?u2 ?u3 (fun xu hxu => ?uq)); (case u1 => wtm_at "dp"); (case u2 => wtm_at "ex"); (case u3 => exact rfl))
  | ((with_reducible refine' i_qlenT ?u0 ?uq); (case u0 => wtm_at "dp"))
  | ((with_reducible refine' i_qlenL ?u0 ?uq); (case u0 => wtm_at "dp"))
  | ((with_reducible refine' i_gtup ?u0 ?u1 ?u2 (fun gvs gdp => ?uq)); (case u0 => wtm_at "dp"); (case u1 => wtm_at "ex"); (case u2 => exact rfl))
  | ((with_reducible refine' i_glst ?u0 ?u1 ?u2 (fun gvs gdp => ?uq)); (case u0 => wtm_at "dp"); (case u1 => wtm_at "ex"); (case u2 => exact rfl))
  | ((with_reducible refine' i_gconsI ?u0 (fun gr gh => ?uq)); (case u0 => with_reducible assumption))
  | ((with_reducible refine' i_gconsA ?u0 (fun gv gr gh1 gh2 => ?uq)); (case u0 => with_reducible assumption))
  | ((with_reducible refine' i_gnilA ?u0 ?uq); (case u0 => with_reducible assumption))
  | ((with_reducible refine' i_isiI ?u0 ?uq); (case u0 => wtm_at "dp"))
  | ((with_reducible refine' i_isiB ?u0 ?uq); (case u0 => wtm_at "dp"))
  | ((with_reducible refine' i_isiT ?u0 ?uq); (case u0 => wtm_at "dp"))
  | ((with_reducible refine' i_isiS ?u0 ?uq); (case u0 => wtm_at "dp"))
  | ((with_reducible refine' i_isiL ?u0 ?uq); (case u0 => wtm_at "dp"))
  | ((with_reducible refine' i_eqD ?u0 ?u1 ?u2 ?u3 ?uq); (case u0 => wtm_at "dp"); (case u1 => wtm_at "dp"); (case u2 => wtm_at "shaped"); (case u3 => wtm_at "shaped"))
  | ((with_reducible refine' i_neD ?u0 ?u1 ?u2 ?u3 ?uq); (case u0 => wtm_at "dp"); (case u1 => wtm_at "dp"); (case u2 => wtm_at "shaped"); (case u3 => wtm_at "shaped"))
  | wtm_at "st2"
  | wtm_at "use")
local macro_rules | `(tactic| wtm_at "go") => `(tactic| repeat' (wtm_at "st"))
local macro_rules | `(tactic| wtm_at "go0") => `(tactic| ((try dsimp only [L2.cxOf, L2.Cx.nox, L2.Cx.wish, L2.Cx.tr, L2.Cx.blk]); (try wtm_at "nrm"); wtm_at "go"))
local macro_rules | `(tactic| wtm_at "fin") => `(tactic| ((try dsimp only); first | with_reducible assumption | assumption | ((with_reducible refine' Ret.use ?rur ?rue ?rud); (case rur => with_reducible assumption); (case rue => wtm_at "ex"); (case rud => wtm_at "dp"))))
local macro_rules | `(tactic| wtm_at "ex") => `(tactic| first | with_reducible assumption | with_reducible exact Ex.refl _ | with_reducible exact ex_hid | ((with_reducible refine' Ex.trans ?exe (by with_reducible assumption)); (case exe => wtm_at "ex")) | ((with_reducible refine' Ex.trans ?exe (hid_ex (by with_reducible assumption))); (case exe => wtm_at "ex")) | ((with_reducible refine' Ex.trans ?exe ex_hid); (case exe => wtm_at "ex")))
local macro_rules | `(tactic| wtm_at "bag") => `(tactic| first | with_reducible assumption | ((with_reducible refine' Bag.mono ?bgm (by with_reducible assumption)); (case bgm => wtm_at "bag")))
local macro_rules | `(tactic| wtm_at "hs") => `(tactic| first | with_reducible assumption | ((with_reducible refine' hid_tup ?hb ?hp); (case hp => with_reducible assumption); (case hb => wtm_at "bag")) | ((with_reducible refine' hid_new ?hb ?hn ?hp); (case hp => with_reducible assumption); (case hn => with_reducible assumption); (case hb => wtm_at "bag")) | ((with_reducible refine' ex_at ?exe (by with_reducible assumption)); (case exe => wtm_at "ex")))
local macro_rules | `(tactic| wtm_at "st2") => `(tactic| first
  | ((with_reducible refine' i_mulC ?u0 ?uq); (case u0 => first | exact cmul_l (by decide) | exact cmul_r (by decide)))
  | ((with_reducible refine' i_ixLr (v := ?u0) ?u1 ?u2 ?uq); (case u1 => with_reducible assumption); (case u2 => exact rfl))
  | (with_reducible refine' i_sub ?uq)
  | ((with_reducible refine' i_mkL ?u0 (fun np nH nfr nhe nhp => ?uq)); (case u0 => exact Nat.le_of_ble_eq_true rfl))
  | ((with_reducible refine' i_setL (n := ?u0) ?u1 ?u2 (fun sH sh se => ?uq)); (case u1 => with_reducible assumption); (case u2 => exact rfl))
  | (with_reducible refine' i_sl ?uq)
  | (with_reducible refine' i_nopart ?uq)
  | (with_reducible refine' i_part ?uq)
  | (with_reducible refine' i_part1 ?uq))
local macro_rules | `(tactic| wtm_at "sz2") => `(tactic| ((with_reducible refine' sz_fmod ?sz1 ?sz2); (case sz1 => wtm_at "nz"); (case sz2 => wtm_at "sz")))
local macro_rules | `(tactic| wtm_at "stb") => `(tactic| first
  | ((with_reducible refine' i_mkTB ?u0 ?u1 (fun np nH nhe nhb nhp => ?uq)); (case u0 => exact Nat.le_of_ble_eq_true rfl); (case u1 => wtm_at "bag"))
  | ((with_reducible refine' i_mkLB ?u0 ?u1 (fun np nH nfr nhe nhb nhp => ?uq)); (case u0 => exact Nat.le_of_ble_eq_true rfl); (case u1 => wtm_at "bag"))
  | wtm_at "st")
local macro_rules | `(tactic| wtm_at "gob") => `(tactic| repeat' (wtm_at "stb"))
local macro_rules | `(tactic| wtm_at "gob0") => `(tactic| ((try dsimp only [L2.cxOf, L2.Cx.nox, L2.Cx.wish, L2.Cx.tr, L2.Cx.blk]); (try wtm_at "nrm"); wtm_at "gob"))
local macro_rules | `(tactic| wtm_at "use") => `(tactic| ((with_reducible refine' use_turn_in ?u0 ?u1 ?u2 ?u3 ?u4 ?u5 ?u6 ?u7 ?u8 ?u9 ?u10 ?u11 ?uq); (case u0 => wtm_at "dp"); (case u1 => wtm_at "dp"); (case u2 => wtm_at "dp"); (case u3 => wtm_at "szb"); (case u4 => wtm_at "szb"); (case u5 => wtm_at "szb"); (case u6 => wtm_at "szb"); (case u7 => wtm_at "szb"); (case u8 => wtm_at "szb"); (case u9 => wtm_at "szb"); (case u10 => wtm_at "szb"); (case u11 => wtm_at "szb")))
local macro_rules | `(tactic| wtm_at "use") => `(tactic| ((with_reducible refine' use_step_from ?u0 ?u1 ?u2 ?u3 ?u4 ?u5 ?u6 ?u7 (fun ur uH ue ud => ?uq)); (case u0 => wtm_at "dp"); (case u1 => wtm_at "dp"); (case u2 => wtm_at "szb"); (case u3 => wtm_at "szb"); (case u4 => wtm_at "szb"); (case u5 => wtm_at "szb"); (case u6 => wtm_at "szb"); (case u7 => wtm_at "szb")))
local macro_rules | `(tactic| wtm_at "use") => `(tactic| (with_reducible refine' use_shared_of ?uq))
local macro_rules | `(tactic| wtm_at "use") => `(tactic| ((with_reducible refine' use_is_integer ?u0 ?uq); (case u0 => wtm_at "dp")))
local macro_rules | `(tactic| wtm_at "use") => `(tactic| ((with_reducible refine' use_is_between_in ?u0 ?u1 ?u2 ?u3 ?u4 ?u5 ?u6 ?u7 ?u8 ?u9 ?u10 ?u11 (fun uH ue => ?uq)); (case u0 => wtm_at "dp"); (case u1 => wtm_at "dp"); (case u2 => wtm_at "dp"); (case u3 => wtm_at "szb"); (case u4 => wtm_at "szb"); (case u5 => wtm_at "szb"); (case u6 => wtm_at "szb"); (case u7 => wtm_at "szb"); (case u8 => wtm_at "szb"); (case u9 => wtm_at "szb"); (case u10 => wtm_at "szb"); (case u11 => wtm_at "szb")))
local macro_rules | `(tactic| wtm_at "use") => `(tactic| ((with_reducible refine' use_line_through ?u0 ?u1 ?u2 ?u3 ?u4 ?u5 ?u6 ?u7 (fun ur uH ue ud => ?uq)); (case u0 => wtm_at "dp"); (case u1 => wtm_at "dp"); (case u2 => wtm_at "szb"); (case u3 => wtm_at "szb"); (case u4 => wtm_at "szb"); (case u5 => wtm_at "szb"); (case u6 => wtm_at "szb"); (case u7 => wtm_at "szb")))
local macro_rules | `(tactic| wtm_at "use") => `(tactic| ((with_reducible refine' use_reduced_point ?u0 ?u1 (fun ur uH ue ud => ?uq)); (case u0 => wtm_at "nz"); (case u1 => wtm_at "szb")))
local macro_rules | `(tactic| wtm_at "use") => `(tactic| ((with_reducible refine' use_is_point ?u0 (fun uH ue => ?uq)); (case u0 => wtm_at "dp")))
local macro_rules | `(tactic| wtm_at "use") => `(tactic| ((with_reducible refine' use_line_meet_in ?u0 ?u1 ?u2 ?u3 ?u4 ?u5 ?u6 ?u7 ?u8 ?u9 ?u10 ?u11 ?u12 ?u13 ?u14 ?u15 (fun ur uH ue ud => ?uq)); (case u0 => wtm_at "dp"); (case u1 => wtm_at "dp"); (case u2 => wtm_at "dp"); (case u3 => wtm_at "dp"); (case u4 => wtm_at "szb"); (case u5 => wtm_at "szb"); (case u6 => wtm_at "szb"); (case u7 => wtm_at "szb"); (case u8 => wtm_at "szb"); (case u9 => wtm_at "szb"); (case u10 => wtm_at "szb"); (case u11 => wtm_at "szb"); (case u12 => wtm_at "szb"); (case u13 => wtm_at "szb"); (case u14 => wtm_at "szb"); (case u15 => wtm_at "szb")))
local macro_rules | `(tactic| wtm_at "use") => `(tactic| ((with_reducible refine' use__law_draw ?u0 ?u1 ?u2 (fun dn dH dn0 dn1 de db => ?uq)); (case u0 => wtm_at "bag"); (case u1 => wtm_at "pos"); (case u2 => wtm_at "szb")))
local macro_rules | `(tactic| wtm_at "pos") => `(tactic| first | assumption | decide | omega)
local macro_rules | `(tactic| wtm_at "oneof") => `(tactic| ((with_reducible refine' use__law_one_of ?u0 ?u1 ?u2 ?u3 ?uq); (case u0 => wtm_at "bag"); (case u1 => wtm_at "dp"); (case u2 => exact Nat.le_of_ble_eq_true rfl); (case u3 => exact Nat.le_of_ble_eq_true rfl)))
local macro_rules | `(tactic| wtm_at "use") => `(tactic| ((with_reducible refine' use__law_point ?u0 ?u1 (fun ur uH ue ud => ?uq)); (case u0 => wtm_at "pos"); (case u1 => wtm_at "szb")))
local macro_rules | `(tactic| wtm_at "use") => `(tactic| (with_reducible refine' use__law_shared ?_))
theorem gd_dvd_l (a b : Int) : gd a b ∣ a := by
  unfold gd
  exact Int.natAbs_dvd_natAbs.mp (by rw [Int.natAbs_natCast]; exact Nat.gcd_dvd_left _ _)
theorem gd_dvd_r (a b : Int) : gd a b ∣ b := by
  unfold gd
  exact Int.natAbs_dvd_natAbs.mp (by rw [Int.natAbs_natCast]; exact Nat.gcd_dvd_right _ _)
theorem sg_dvd {g w z : Int} (h : gd g w ∣ z) : sg g w ∣ z := by
  unfold sg
  split
  · exact Int.neg_dvd.mpr h
  · exact h
theorem fdiv_mul_of_dvd {z s : Int} (h : s ∣ z) : z.fdiv s * s = z := by
  obtain ⟨c, rfl⟩ := h
  by_cases hs : s = 0
  · subst hs
    simp
  · rw [Int.mul_fdiv_cancel_left _ hs, Int.mul_comm]
/-- what a reduced point is -/
structure Lo (x y w X Y W : Int) : Prop where
  ex : x * W = X * w
  ey : y * W = Y * w
  hw : 1 ≤ w
  g1 : gd (gd x y) w = 1
theorem gd_mul (k a b : Int) : gd (k * a) (k * b) = (k.natAbs : Int) * gd a b := by
  unfold gd
  rw [Int.natAbs_mul, Int.natAbs_mul, Nat.gcd_mul_left]
  exact Int.natCast_mul _ _
theorem gd_abs_l (a b : Int) : gd ((a.natAbs : Int)) b = gd a b := by
  unfold gd
  rw [Int.natAbs_natCast]
theorem gd3_mul (s x y w : Int) : gd (gd (s * x) (s * y)) (s * w) = (s.natAbs : Int) * gd (gd x y) w := by
  rw [gd_mul]
  have k2 : gd ((s.natAbs : Int) * gd x y) (s * w) = gd (s * gd x y) (s * w) := by
    unfold gd
    rw [Int.natAbs_mul, Int.natAbs_natCast, ← Int.natAbs_mul]
  rw [k2, gd_mul]
theorem rp_lo {X Y W : Int} (hW : W ≠ 0) : Lo (X.fdiv (sg (gd X Y) W)) (Y.fdiv (sg (gd X Y) W)) (W.fdiv (sg (gd X Y) W)) X Y W := by
  have hs : sg (gd X Y) W ≠ 0 := sg_ne hW
  have d1 : sg (gd X Y) W ∣ X := sg_dvd (Int.dvd_trans (gd_dvd_l _ _) (gd_dvd_l X Y))
  have d2 : sg (gd X Y) W ∣ Y := sg_dvd (Int.dvd_trans (gd_dvd_l _ _) (gd_dvd_r X Y))
  have d3 : sg (gd X Y) W ∣ W := sg_dvd (gd_dvd_r _ _)
  have e1 := fdiv_mul_of_dvd d1
  have e2 := fdiv_mul_of_dvd d2
  have e3 := fdiv_mul_of_dvd d3
  generalize hx : X.fdiv (sg (gd X Y) W) = x at *
  generalize hy : Y.fdiv (sg (gd X Y) W) = y at *
  generalize hw : W.fdiv (sg (gd X Y) W) = w at *
  have hg : gd (gd X Y) W = ((sg (gd X Y) W).natAbs : Int) * gd (gd x y) w := by
    have k := gd3_mul (sg (gd X Y) W) x y w
    rw [Int.mul_comm _ x, Int.mul_comm _ y, Int.mul_comm _ w, e1, e2, e3] at k
    exact k
  have hgs : gd (gd X Y) W = ((sg (gd X Y) W).natAbs : Int) := by
    have hn : (0 : Int) ≤ gd (gd X Y) W := by unfold gd; omega
    unfold sg
    split
    · rw [Int.natAbs_neg]
      omega
    · omega
  have hpos : (0 : Int) < ((sg (gd X Y) W).natAbs : Int) := by omega
  have g1 : gd (gd x y) w = 1 := by
    rw [hgs] at hg
    have : ((sg (gd X Y) W).natAbs : Int) * 1 = ((sg (gd X Y) W).natAbs : Int) * gd (gd x y) w := by rw [Int.mul_one]; exact hg
    exact (Int.eq_of_mul_eq_mul_left (by omega) this).symm
  have hsw : 0 < w := by
    have hW2 : (0 < W ∧ 0 < sg (gd X Y) W) ∨ (W < 0 ∧ sg (gd X Y) W < 0) := by
      have hn : (0 : Int) ≤ gd (gd X Y) W := by unfold gd; omega
      rcases Int.lt_or_gt_of_ne hW with h | h
      · right
        refine ⟨h, ?_⟩
        unfold sg at hs ⊢
        rw [if_pos h] at hs ⊢
        omega
      · left
        refine ⟨h, ?_⟩
        unfold sg at hs ⊢
        rw [if_neg (by omega)] at hs ⊢
        omega
    rcases hW2 with ⟨a, b⟩ | ⟨a, b⟩
    · rcases Int.lt_trichotomy w 0 with h | h | h
      · have := Int.mul_neg_of_neg_of_pos h b
        omega
      · subst h
        omega
      · exact h
    · rcases Int.lt_trichotomy w 0 with h | h | h
      · have := Int.mul_pos_of_neg_of_neg h b
        omega
      · subst h
        omega
      · exact h
  refine ⟨?_, ?_, by omega, g1⟩
  · rw [← e1, ← e3]; grind
  · rw [← e2, ← e3]; grind
theorem dvd_of_three {k x y w : Int} {m : Int} (g1 : gd (gd x y) w = 1) (h1 : m ∣ k * x) (h2 : m ∣ k * y) (h3 : m ∣ k * w) : m ∣ k := by
  have a1 : m.natAbs ∣ k.natAbs * x.natAbs := by rw [← Int.natAbs_mul]; exact Int.natAbs_dvd_natAbs.mpr h1
  have a2 : m.natAbs ∣ k.natAbs * y.natAbs := by rw [← Int.natAbs_mul]; exact Int.natAbs_dvd_natAbs.mpr h2
  have a3 : m.natAbs ∣ k.natAbs * w.natAbs := by rw [← Int.natAbs_mul]; exact Int.natAbs_dvd_natAbs.mpr h3
  have b := Nat.dvd_gcd (Nat.dvd_gcd a1 a2) a3
  rw [Nat.gcd_mul_left, Nat.gcd_mul_left] at b
  have e : Nat.gcd (Nat.gcd x.natAbs y.natAbs) w.natAbs = 1 := by
    have h := g1
    unfold gd at h
    rw [Int.natAbs_natCast] at h
    omega
  rw [e, Nat.mul_one] at b
  exact Int.natAbs_dvd_natAbs.mp b
/-- a reduced point is one -/
theorem lo_same {x y w x' y' w' : Int} (h1 : 1 ≤ w) (g1 : gd (gd x y) w = 1) (h2 : 1 ≤ w') (g2 : gd (gd x' y') w' = 1) (ex : x * w' = x' * w) (ey : y * w' = y' * w) : x = x' ∧ y = y' ∧ w = w' := by
  have d1 : w ∣ w' := dvd_of_three (k := w') g1 ⟨x', by rw [Int.mul_comm w' x, ex, Int.mul_comm]⟩ ⟨y', by rw [Int.mul_comm w' y, ey, Int.mul_comm]⟩ ⟨w', by rw [Int.mul_comm]⟩
  have d2 : w' ∣ w := dvd_of_three (k := w) g2 ⟨x, by rw [Int.mul_comm w x', ← ex, Int.mul_comm]⟩ ⟨y, by rw [Int.mul_comm w y', ← ey, Int.mul_comm]⟩ ⟨w, by rw [Int.mul_comm]⟩
  have e : w = w' := by
    have l1 := Int.le_of_dvd (by omega) d1
    have l2 := Int.le_of_dvd (by omega) d2
    omega
  subst e
  refine ⟨Int.eq_of_mul_eq_mul_right (by omega) ex, Int.eq_of_mul_eq_mul_right (by omega) ey, rfl⟩
theorem Lo.same {x y w x' y' w' X Y W X' Y' W' : Int} (a : Lo x y w X Y W) (b : Lo x' y' w' X' Y' W') (hW : W ≠ 0) (hW' : W' ≠ 0) (hX : X * W' = X' * W) (hY : Y * W' = Y' * W) : x = x' ∧ y = y' ∧ w = w' := by
  refine lo_same a.hw a.g1 b.hw b.g1 ?_ ?_
  · have h : (W * W') * (x * w') = (W * W') * (x' * w) := by
      have := a.ex; have := b.ex
      grind
    exact Int.eq_of_mul_eq_mul_left (Int.mul_ne_zero hW hW') h
  · have h : (W * W') * (y * w') = (W * W') * (y' * w) := by
      have := a.ey; have := b.ey
      grind
    exact Int.eq_of_mul_eq_mul_left (Int.mul_ne_zero hW hW') h
section
variable {P : Program} {w : World} {K : PySem.W.Frag} {mg : Str → Option Value} {base : Heap} {H H' : Hp} {Q : VK} {E : XK} {v1 v2 v3 v4 : V} {x1 y1 w1 x2 y2 w2 x3 y3 w3 x4 y4 w4 : Int}
variable {sx sy sw ux uy vx vy : Int}
abbrev fx (sx sw ux vx a b o : Int) : Int := sx * o + (a * ux + b * vx) * sw
theorem lo_point {x y w X Y W : Int} (h : Lo x y w X Y W) : isPoint (pt x y w) = true := by
  show (decide (1 ≤ w) && decide (gd (gd x y) w = 1)) = true
  rw [decide_eq_true h.hw, decide_eq_true h.g1]
  rfl
abbrev rs (sx sy sw ux uy vx vy a b o : Int) : PyData := rp (fx sx sw ux vx a b o) (fx sy sw uy vy a b o) (sw * o)
def sp__law_spot (K : PySem.W.Frag) : Sp := A4 fun v1 v2 v3 v4 H Q => ∃ sx sy sw ux uy vx vy a b o : Int, v2 = .int a ∧ v3 = .int b ∧ v4 = .int o ∧ Dp K H v1 (fr sx sy sw ux uy vx vy) ∧ FrOk sx sy sw ux uy vx vy ∧ 0 < o ∧ Sz 34 a ∧ Sz 34 b ∧ Sz 4 o ∧ Ret K (rs sx sy sw ux uy vx vy a b o) H Q
abbrev s__law_spot : Stmt := top 38
theorem sc__law_spot : FnScope ["_law_frame_here", "_law_part", "_law_other", "_law_over", "_law_spot_here", "_law_one", "_law_two", "_law_x", "_law_y"] ["_law_frame_here", "_law_part", "_law_other", "_law_over"] (defScope s__law_spot) := ⟨rfl, rfl, rfl, by decide +kernel, rfl, by decide +kernel, by decide +kernel⟩
theorem ok__law_spot {f : Addr} {fd : FuncData} (F : FnP K "_law_spot" s__law_spot f fd) (g : G mg) (c__law_point : Cl P w K mg base 2 "_law_point" (sp__law_point K))  : FnOk P w K mg base CX0 3 f fd ["_law_frame_here", "_law_part", "_law_other", "_law_over"] (sp__law_spot K) := by
  have nd := sc__law_spot.nd
  refine F.ok sc__law_spot (fun vs H Q E h => h.len) (fun cdv A outer s H vs Q E hr h => ?_)
  obtain ⟨v1, v2, v3, v4, rfl, h⟩ := h
  refine ⟨_, PSs.nox (pss_cons (ps_asg (pv 0) (pg_tup (n := 3) (by rfl) (pgs_cons (pg_name (i := 4) nd rfl (Or.inl rfl)) (pgs_cons (pg_name (i := 5) nd rfl (Or.inl rfl)) (pgs_cons (pg_name (i := 6) nd rfl (Or.inl rfl)) pgs_nil))))) (pss_cons (ps_set (i := 7) nd rfl (Or.inl rfl) (pe_op op_add (pe_op op_mulX (pe_ix ix_list (pv 4) pe_int (fun _ _ => rfl)) (pv 3)) (pe_op op_mulX (pe_op op_add (pe_op op_mulX (pv 1) (pe_ix ix_tup (pv 5) pe_int (fun _ _ => rfl))) (pe_op op_mulX (pv 2) (pe_ix ix_tup (pv 6) pe_int (fun _ _ => rfl)))) (pe_ix ix_list (pv 4) pe_int (fun _ _ => rfl))))) (pss_cons (ps_set (i := 8) nd rfl (Or.inl rfl) (pe_op op_add (pe_op op_mulX (pe_ix ix_list (pv 4) pe_int (fun _ _ => rfl)) (pv 3)) (pe_op op_mulX (pe_op op_add (pe_op op_mulX (pv 1) (pe_ix ix_tup (pv 5) pe_int (fun _ _ => rfl))) (pe_op op_mulX (pv 2) (pe_ix ix_tup (pv 6) pe_int (fun _ _ => rfl)))) (pe_ix ix_list (pv 4) pe_int (fun _ _ => rfl))))) (pss_one (ps_ret (pc c__law_point hr (by decide) (by rfl) (pa_cons (pv 7) (pa_cons (pv 8) (pa_cons (pe_op op_mulX (pe_ix ix_list (pv 4) pe_int (fun _ _ => rfl)) (pv 3)) pa_nil))))))))), ?_⟩
  obtain ⟨sx, sy, sw, ux, uy, vx, vy, a, b, o, rfl, rfl, rfl, hd, fo, ho, sa, sb, so, q⟩ := h
  obtain ⟨hsw, hdet, s1, s2, s3, s4, s5, s6, s7⟩ := fo
  have hW : 0 < sw * o := Int.mul_pos (by omega) ho
  have hW0 : sw * o ≠ 0 := by omega
  wtm_at "go0"
  all_goals wtm_at "fin"
theorem use__law_spotD {a b o : Int} (hd : Dp K H v1 (fr sx sy sw ux uy vx vy)) (fo : FrOk sx sy sw ux uy vx vy) (ho : 0 < o) (sa : Sz 34 a) (sb : Sz 34 b) (so : Sz 4 o)
    (q : ∀ v H2, Ex H H2 → Dp K H2 v (rs sx sy sw ux uy vx vy a b o) → Q v H2) : sp__law_spot K [v1, .int a, .int b, .int o] H Q E :=
  ⟨_, _, _, _, rfl, _, _, _, _, _, _, _, _, _, _, rfl, rfl, rfl, hd, fo, ho, sa, sb, so, q⟩
/-- what a spot of the frame is -/
structure Spt (sx sy sw ux uy vx vy a b o x y w : Int) : Prop where
  lo : Lo x y w (fx sx sw ux vx a b o) (fx sy sw uy vy a b o) (sw * o)
  p : isPoint (pt x y w) = true
  s1 : Sz B0 x
  s2 : Sz B0 y
  s3 : Sz B0 w
theorem spt_of {a b o : Int} (fo : FrOk sx sy sw ux uy vx vy) (ho : 0 < o) (sa : Sz 34 a) (sb : Sz 34 b) (so : Sz 4 o) : ∃ x y w, rs sx sy sw ux uy vx vy a b o = pt x y w ∧ Spt sx sy sw ux uy vx vy a b o x y w := by
  obtain ⟨hsw, hdet, s1, s2, s3, s4, s5, s6, s7⟩ := fo
  have hW : 0 < sw * o := Int.mul_pos (by omega) ho
  have hW0 : sw * o ≠ 0 := by omega
  have l := rp_lo (X := fx sx sw ux vx a b o) (Y := fx sy sw uy vy a b o) hW0
  exact ⟨_, _, _, rfl, l, lo_point l, by wtm_at "szb", by wtm_at "szb", by wtm_at "szb"⟩
theorem use__law_spot {a b o : Int} (hd : Dp K H v1 (fr sx sy sw ux uy vx vy)) (fo : FrOk sx sy sw ux uy vx vy) (ho : 0 < o) (sa : Sz 34 a) (sb : Sz 34 b) (so : Sz 4 o)
    (q : ∀ x y w v H2, Ex H H2 → Spt sx sy sw ux uy vx vy a b o x y w → isPoint (pt x y w) = true → Sz B0 x → Sz B0 y → Sz B0 w → Dp K H2 v (pt x y w) → Q v H2) : sp__law_spot K [v1, .int a, .int b, .int o] H Q E := by
  obtain ⟨x, y, w, e, t⟩ := spt_of fo ho sa sb so
  exact use__law_spotD hd fo ho sa sb so fun v H2 e2 hv => q x y w v H2 e2 t t.p t.s1 t.s2 t.s3 (e ▸ hv)
end
end Wb

namespace Wb
open PySem PySem.Spec PyProof.Rows L2
open Evl (Ex Ex.refl Ex.trans Ex.new)
theorem sgn_pos {s : Int} (h : 0 < s) : sgn s = 1 := by unfold sgn; rw [if_pos h]
theorem sgn_neg {s : Int} (h : s < 0) : sgn s = -1 := by unfold sgn; rw [if_neg (by omega), if_pos h]
theorem sgn_z0 : sgn 0 = 0 := rfl
theorem sgn_mul (a b : Int) : sgn (a * b) = sgn a * sgn b := by
  rcases Int.lt_trichotomy a 0 with h | h | h <;> rcases Int.lt_trichotomy b 0 with k | k | k
  · rw [sgn_neg h, sgn_neg k, sgn_pos (Int.mul_pos_of_neg_of_neg h k)]; rfl
  · subst k; rw [Int.mul_zero, sgn_z0, Int.mul_zero]
  · rw [sgn_neg h, sgn_pos k, sgn_neg (Int.mul_neg_of_neg_of_pos h k)]; rfl
  · subst h; rw [Int.zero_mul, sgn_z0, Int.zero_mul]
  · subst h; rw [Int.zero_mul, sgn_z0, Int.zero_mul]
  · subst h; rw [Int.zero_mul, sgn_z0, Int.zero_mul]
  · rw [sgn_pos h, sgn_neg k, sgn_neg (Int.mul_neg_of_pos_of_neg h k)]; rfl
  · subst k; rw [Int.mul_zero, sgn_z0, Int.mul_zero]
  · rw [sgn_pos h, sgn_pos k, sgn_pos (Int.mul_pos h k)]; rfl
theorem sgn_minus (a : Int) : sgn (-a) = -sgn a := by
  rw [show -a = (-1) * a by omega, sgn_mul]
  show (-1) * sgn a = _
  omega
theorem sz_sgn1 {s : Int} : Sz 1 (sgn s) := by
  unfold sgn Sz
  split
  · decide
  · split <;> decide
theorem turn_math {sx sy sw ux uy vx vy a b c d e f o x1 y1 w1 x2 y2 w2 x3 y3 w3 : Int} (hs : 1 ≤ sw) (ho : 0 < o) (l1 : Lo x1 y1 w1 (sx * o + (a * ux + b * vx) * sw) (sy * o + (a * uy + b * vy) * sw) (sw * o)) (l2 : Lo x2 y2 w2 (sx * o + (c * ux + d * vx) * sw) (sy * o + (c * uy + d * vy) * sw) (sw * o)) (l3 : Lo x3 y3 w3 (sx * o + (e * ux + f * vx) * sw) (sy * o + (e * uy + f * vy) * sw) (sw * o)) :
    sgn (det x1 y1 w1 x2 y2 w2 x3 y3 w3) = sgn ((c - a) * (f - b) - (d - b) * (e - a)) * sgn (ux * vy - uy * vx) := by
  have hW : 0 < sw * o := Int.mul_pos (by omega) ho
  have k1 : (sw * o) * (sw * o) * (sw * o) * det x1 y1 w1 x2 y2 w2 x3 y3 w3 = w1 * w2 * w3 * det (sx * o + (a * ux + b * vx) * sw) (sy * o + (a * uy + b * vy) * sw) (sw * o) (sx * o + (c * ux + d * vx) * sw) (sy * o + (c * uy + d * vy) * sw) (sw * o) (sx * o + (e * ux + f * vx) * sw) (sy * o + (e * uy + f * vy) * sw) (sw * o) := by
    have a1 := l1.ex; have a2 := l1.ey; have b1 := l2.ex; have b2 := l2.ey; have c1 := l3.ex; have c2 := l3.ey
    generalize sx * o + (a * ux + b * vx) * sw = X1 at *
    generalize sy * o + (a * uy + b * vy) * sw = Y1 at *
    generalize sx * o + (c * ux + d * vx) * sw = X2 at *
    generalize sy * o + (c * uy + d * vy) * sw = Y2 at *
    generalize sx * o + (e * ux + f * vx) * sw = X3 at *
    generalize sy * o + (e * uy + f * vy) * sw = Y3 at *
    generalize sw * o = W at *
    have e1 : W * W * W * det x1 y1 w1 x2 y2 w2 x3 y3 w3 = det (x1 * W) (y1 * W) (w1 * W) (x2 * W) (y2 * W) (w2 * W) (x3 * W) (y3 * W) (w3 * W) := by unfold det; grind
    rw [e1, a1, a2, b1, b2, c1, c2]
    unfold det
    grind
  have k2 : det (sx * o + (a * ux + b * vx) * sw) (sy * o + (a * uy + b * vy) * sw) (sw * o) (sx * o + (c * ux + d * vx) * sw) (sy * o + (c * uy + d * vy) * sw) (sw * o) (sx * o + (e * ux + f * vx) * sw) (sy * o + (e * uy + f * vy) * sw) (sw * o) = (sw * o) * (sw * sw) * (((c - a) * (f - b) - (d - b) * (e - a)) * (ux * vy - uy * vx)) := by unfold det; grind
  have h1 := l1.hw; have h2 := l2.hw; have h3 := l3.hw
  have p1 : 0 < w1 * w2 * w3 := Int.mul_pos (Int.mul_pos (by omega) (by omega)) (by omega)
  have p2 : 0 < (sw * o) * (sw * o) * (sw * o) := Int.mul_pos (Int.mul_pos hW hW) hW
  have p3 : 0 < (sw * o) * (sw * sw) := Int.mul_pos hW (Int.mul_pos (by omega) (by omega))
  have z1 := congrArg sgn k1
  rw [k2, sgn_mul, sgn_mul (w1 * w2 * w3), sgn_mul ((sw * o) * (sw * sw)), sgn_pos p1, sgn_pos p2, sgn_pos p3, Int.one_mul, Int.one_mul, Int.one_mul, sgn_mul] at z1
  exact z1
theorem det_rot (x1 y1 w1 x2 y2 w2 x3 y3 w3 : Int) : det x2 y2 w2 x3 y3 w3 x1 y1 w1 = det x1 y1 w1 x2 y2 w2 x3 y3 w3 := by unfold det; grind
theorem det_rot2 (x1 y1 w1 x2 y2 w2 x3 y3 w3 : Int) : det x3 y3 w3 x1 y1 w1 x2 y2 w2 = det x1 y1 w1 x2 y2 w2 x3 y3 w3 := by unfold det; grind
theorem det_sw1 (x1 y1 w1 x2 y2 w2 x3 y3 w3 : Int) : det x2 y2 w2 x1 y1 w1 x3 y3 w3 = -det x1 y1 w1 x2 y2 w2 x3 y3 w3 := by unfold det; grind
theorem det_sw2 (x1 y1 w1 x2 y2 w2 x3 y3 w3 : Int) : det x1 y1 w1 x3 y3 w3 x2 y2 w2 = -det x1 y1 w1 x2 y2 w2 x3 y3 w3 := by unfold det; grind
theorem det_sw3 (x1 y1 w1 x2 y2 w2 x3 y3 w3 : Int) : det x3 y3 w3 x2 y2 w2 x1 y1 w1 = -det x1 y1 w1 x2 y2 w2 x3 y3 w3 := by unfold det; grind
theorem det_eq1 (x1 y1 w1 x2 y2 w2 : Int) : det x1 y1 w1 x1 y1 w1 x2 y2 w2 = 0 := by unfold det; grind
theorem det_eq2 (x1 y1 w1 x2 y2 w2 : Int) : det x1 y1 w1 x2 y2 w2 x1 y1 w1 = 0 := by unfold det; grind
theorem Lo.scale {x y w X Y W : Int} (l : Lo x y w X Y W) (k : Int) : Lo x y w (k * X) (k * Y) (k * W) :=
  ⟨by have := l.ex; grind, by have := l.ey; grind, l.hw, l.g1⟩
theorem sgn_eq0 {s : Int} : sgn s = 0 ↔ s = 0 := by
  unfold sgn
  split
  · omega
  · split <;> omega
theorem btw_math {sx sy sw ux uy vx vy a b c d e f o x1 y1 w1 x2 y2 w2 x3 y3 w3 : Int} (hs : 1 ≤ sw) (hdet : ux * vy ≠ uy * vx) (ho : 0 < o) (l1 : Lo x1 y1 w1 (sx * o + (a * ux + b * vx) * sw) (sy * o + (a * uy + b * vy) * sw) (sw * o)) (l2 : Lo x2 y2 w2 (sx * o + (c * ux + d * vx) * sw) (sy * o + (c * uy + d * vy) * sw) (sw * o)) (l3 : Lo x3 y3 w3 (sx * o + (e * ux + f * vx) * sw) (sy * o + (e * uy + f * vy) * sw) (sw * o)) :
    btw x1 y1 w1 x2 y2 w2 x3 y3 w3 = (decide ((c - a) * (f - b) - (d - b) * (e - a) = 0) && decide (((c - a) * ux + (d - b) * vx) * ((e - a) * ux + (f - b) * vx) + ((c - a) * uy + (d - b) * vy) * ((e - a) * uy + (f - b) * vy) ≤ 0)) := by
  have hW : 0 < sw * o := Int.mul_pos (by omega) ho
  have k1 := turn_math hs ho l1 l2 l3
  have e1 : det x1 y1 w1 x2 y2 w2 x3 y3 w3 = 0 ↔ (c - a) * (f - b) - (d - b) * (e - a) = 0 := by
    rw [← sgn_eq0, k1, Int.mul_eq_zero, sgn_eq0, sgn_eq0]
    have : ux * vy - uy * vx ≠ 0 := by omega
    constructor
    · intro h
      exact h.resolve_right this
    · exact Or.inl
  have h1 := l1.hw; have h2 := l2.hw; have h3 := l3.hw
  have k2 : (sw * o) * (sw * o) * ((x2 * w1 - x1 * w2) * (x3 * w1 - x1 * w3) + (y2 * w1 - y1 * w2) * (y3 * w1 - y1 * w3)) = (w1 * w1) * (w2 * w3) * (sw * sw) * (((c - a) * ux + (d - b) * vx) * ((e - a) * ux + (f - b) * vx) + ((c - a) * uy + (d - b) * vy) * ((e - a) * uy + (f - b) * vy)) := by
    have a1 := l1.ex; have a2 := l1.ey; have b1 := l2.ex; have b2 := l2.ey; have c1 := l3.ex; have c2 := l3.ey
    have p1 : (sw * o) * (x2 * w1 - x1 * w2) = w1 * w2 * sw * ((c - a) * ux + (d - b) * vx) := by
      have : (sw * o) * (x2 * w1 - x1 * w2) = (x2 * (sw * o)) * w1 - (x1 * (sw * o)) * w2 := by grind
      rw [this, a1, b1]; grind
    have p2 : (sw * o) * (y2 * w1 - y1 * w2) = w1 * w2 * sw * ((c - a) * uy + (d - b) * vy) := by
      have : (sw * o) * (y2 * w1 - y1 * w2) = (y2 * (sw * o)) * w1 - (y1 * (sw * o)) * w2 := by grind
      rw [this, a2, b2]; grind
    have p3 : (sw * o) * (x3 * w1 - x1 * w3) = w1 * w3 * sw * ((e - a) * ux + (f - b) * vx) := by
      have : (sw * o) * (x3 * w1 - x1 * w3) = (x3 * (sw * o)) * w1 - (x1 * (sw * o)) * w3 := by grind
      rw [this, a1, c1]; grind
    have p4 : (sw * o) * (y3 * w1 - y1 * w3) = w1 * w3 * sw * ((e - a) * uy + (f - b) * vy) := by
      have : (sw * o) * (y3 * w1 - y1 * w3) = (y3 * (sw * o)) * w1 - (y1 * (sw * o)) * w3 := by grind
      rw [this, a2, c2]; grind
    generalize x2 * w1 - x1 * w2 = A1 at *
    generalize y2 * w1 - y1 * w2 = A2 at *
    generalize x3 * w1 - x1 * w3 = A3 at *
    generalize y3 * w1 - y1 * w3 = A4 at *
    generalize (c - a) * ux + (d - b) * vx = B1 at *
    generalize (c - a) * uy + (d - b) * vy = B2 at *
    generalize (e - a) * ux + (f - b) * vx = B3 at *
    generalize (e - a) * uy + (f - b) * vy = B4 at *
    generalize sw * o = W at *
    have q : W * W * (A1 * A3 + A2 * A4) = (W * A1) * (W * A3) + (W * A2) * (W * A4) := by grind
    rw [q, p1, p2, p3, p4]; grind
  have p1 : 0 < (sw * o) * (sw * o) := Int.mul_pos hW hW
  have p2 : 0 < (w1 * w1) * (w2 * w3) * (sw * sw) := Int.mul_pos (Int.mul_pos (Int.mul_pos (by omega) (by omega)) (Int.mul_pos (by omega) (by omega))) (Int.mul_pos (by omega) (by omega))
  have e2 : ((x2 * w1 - x1 * w2) * (x3 * w1 - x1 * w3) + (y2 * w1 - y1 * w2) * (y3 * w1 - y1 * w3) ≤ 0) ↔ ((c - a) * ux + (d - b) * vx) * ((e - a) * ux + (f - b) * vx) + ((c - a) * uy + (d - b) * vy) * ((e - a) * uy + (f - b) * vy) ≤ 0 := by
    generalize (x2 * w1 - x1 * w2) * (x3 * w1 - x1 * w3) + (y2 * w1 - y1 * w2) * (y3 * w1 - y1 * w3) = A at *
    generalize ((c - a) * ux + (d - b) * vx) * ((e - a) * ux + (f - b) * vx) + ((c - a) * uy + (d - b) * vy) * ((e - a) * uy + (f - b) * vy) = B at *
    generalize (sw * o) * (sw * o) = U at *
    generalize (w1 * w1) * (w2 * w3) * (sw * sw) = V at *
    constructor
    · intro h
      refine Int.not_lt.mp fun hb => ?_
      have := Int.mul_pos p2 hb
      have := Int.mul_nonpos_of_nonneg_of_nonpos (Int.le_of_lt p1) h
      omega
    · intro h
      refine Int.not_lt.mp fun hb => ?_
      have := Int.mul_pos p1 hb
      have := Int.mul_nonpos_of_nonneg_of_nonpos (Int.le_of_lt p2) h
      omega
  unfold btw
  rw [decide_eq_decide.mpr e1, decide_eq_decide.mpr e2]
theorem sq_nn (a : Int) : 0 ≤ a * a := by
  rcases Int.le_total 0 a with h | h
  · exact Int.mul_nonneg h h
  · exact Int.mul_nonneg_of_nonpos_of_nonpos h h
theorem sq_pos {a : Int} (h : a ≠ 0) : 0 < a * a := by
  rcases Int.lt_or_gt_of_ne h with k | k
  · exact Int.mul_pos_of_neg_of_neg k k
  · exact Int.mul_pos k k
theorem u_pos {ux uy vx vy : Int} (hdet : ux * vy ≠ uy * vx) : 0 < ux * ux + uy * uy := by
  by_cases h : ux = 0
  · by_cases k : uy = 0
    · subst h k
      simp at hdet
    · have := sq_pos k; have := sq_nn ux; omega
  · have := sq_pos h; have := sq_nn uy; omega
/-- in order upon a line -/
theorem btw_line {ux uy a b c : Int} (hu : 0 < ux * ux + uy * uy) : ((a - c) * ux * ((b - c) * ux) + (a - c) * uy * ((b - c) * uy) ≤ 0) ↔ ((if b < a then b else a) ≤ c ∧ c ≤ (if b > a then b else a)) := by
  have e : (a - c) * ux * ((b - c) * ux) + (a - c) * uy * ((b - c) * uy) = ((a - c) * (b - c)) * (ux * ux + uy * uy) := by grind
  rw [e]
  have k : ((a - c) * (b - c)) * (ux * ux + uy * uy) ≤ 0 ↔ (a - c) * (b - c) ≤ 0 := by
    generalize ux * ux + uy * uy = U at *
    constructor
    · intro h
      refine Int.not_lt.mp fun hb => ?_
      have := Int.mul_pos hb hu
      omega
    · intro h
      exact Int.mul_nonpos_of_nonpos_of_nonneg h (Int.le_of_lt hu)
  rw [k]
  constructor
  · intro h
    rcases Int.lt_trichotomy a c with h1 | h1 | h1 <;> rcases Int.lt_trichotomy b c with h2 | h2 | h2
    · have := Int.mul_pos_of_neg_of_neg (a := a - c) (b := b - c) (by omega) (by omega); omega
    · constructor <;> split <;> omega
    · constructor <;> split <;> omega
    · constructor <;> split <;> omega
    · constructor <;> split <;> omega
    · constructor <;> split <;> omega
    · constructor <;> split <;> omega
    · constructor <;> split <;> omega
    · have := Int.mul_pos (a := a - c) (b := b - c) (by omega) (by omega); omega
  · rintro ⟨h1, h2⟩
    by_cases hb : b < a
    · rw [if_pos hb] at h1
      rw [if_neg (by omega)] at h2
      exact Int.mul_nonpos_of_nonneg_of_nonpos (by omega) (by omega)
    · rw [if_neg hb] at h1
      by_cases hb2 : b > a
      · rw [if_pos hb2] at h2
        exact Int.mul_nonpos_of_nonpos_of_nonneg (by omega) (by omega)
      · rw [if_neg hb2] at h2
        have : a - c = 0 := by omega
        rw [this, Int.zero_mul]
        omega
/-- beside a line -/
theorem btw_off {ux uy vx vy a b c s : Int} (hdet : ux * vy ≠ uy * vx) (hs : s ≠ 0) : (decide ((a - c) * (0 - s) - (0 - s) * (b - c) = 0) && decide (((a - c) * ux + (0 - s) * vx) * ((b - c) * ux + (0 - s) * vx) + ((a - c) * uy + (0 - s) * vy) * ((b - c) * uy + (0 - s) * vy) ≤ 0)) = false := by
  by_cases h : a = b
  · subst h
    have h0 : 0 < ((a - c) * ux + (0 - s) * vx) * ((a - c) * ux + (0 - s) * vx) + ((a - c) * uy + (0 - s) * vy) * ((a - c) * uy + (0 - s) * vy) := by
      have n : ¬ ((a - c) * ux + (0 - s) * vx = 0 ∧ (a - c) * uy + (0 - s) * vy = 0) := by
        rintro ⟨p, q⟩
        have : s * (ux * vy - uy * vx) = 0 := by grind
        rcases Int.mul_eq_zero.mp this with h | h
        · exact hs h
        · omega
      generalize (a - c) * ux + (0 - s) * vx = A at *
      generalize (a - c) * uy + (0 - s) * vy = B at *
      by_cases hA : A = 0
      · have hB : B ≠ 0 := fun h => n ⟨hA, h⟩
        have := sq_pos hB; have := sq_nn A; omega
      · have := sq_pos hA; have := sq_nn B; omega
    rw [decide_eq_false (p := _ ≤ (0 : Int)) (by omega), Bool.and_false]
  · have : (a - c) * (0 - s) - (0 - s) * (b - c) ≠ 0 := by
      have e : (a - c) * (0 - s) - (0 - s) * (b - c) = s * (b - a) := by grind
      rw [e]
      exact Int.mul_ne_zero hs (by omega)
    rw [decide_eq_false this, Bool.false_and]
/-- the line through two spots that lie along (ux, uy) from a third -/
theorem line_math {sx sy sw ux uy a b o x1 y1 w1 x2 y2 w2 : Int} (l1 : Lo x1 y1 w1 (sx * o + a * ux * sw) (sy * o + a * uy * sw) (sw * o)) (l2 : Lo x2 y2 w2 (sx * o + b * ux * sw) (sy * o + b * uy * sw) (sw * o)) :
    (y1 * w2 - y2 * w1) * ((sw * o) * (sw * o)) = w1 * w2 * (o * sw * (b - a)) * (-(sw * uy)) ∧ (w1 * x2 - w2 * x1) * ((sw * o) * (sw * o)) = w1 * w2 * (o * sw * (b - a)) * (sw * ux) ∧ (x1 * y2 - x2 * y1) * ((sw * o) * (sw * o)) = w1 * w2 * (o * sw * (b - a)) * (sx * uy - sy * ux) := by
  have a1 := l1.ex; have a2 := l1.ey; have b1 := l2.ex; have b2 := l2.ey
  refine ⟨?_, ?_, ?_⟩
  · have e : (y1 * w2 - y2 * w1) * ((sw * o) * (sw * o)) = ((y1 * (sw * o)) * w2 - (y2 * (sw * o)) * w1) * (sw * o) := by grind
    rw [e, a2, b2]; grind
  · have e : (w1 * x2 - w2 * x1) * ((sw * o) * (sw * o)) = ((x2 * (sw * o)) * w1 - (x1 * (sw * o)) * w2) * (sw * o) := by grind
    rw [e, a1, b1]; grind
  · have e : (x1 * y2 - x2 * y1) * ((sw * o) * (sw * o)) = (x1 * (sw * o)) * (y2 * (sw * o)) - (x2 * (sw * o)) * (y1 * (sw * o)) := by grind
    rw [e, a1, a2, b1, b2]; grind
theorem meet_math {sx sy sw ux uy vx vy k1 k2 U A B C D E F : Int} (hs : 1 ≤ sw) (hdet : ux * vy ≠ uy * vx) (hU : 0 < U) (h1 : k1 ≠ 0) (h2 : k2 ≠ 0) (a1 : A * U = k1 * (-(sw * uy))) (a2 : B * U = k1 * (sw * ux)) (a3 : C * U = k1 * (sx * uy - sy * ux)) (b1 : D * U = k2 * (-(sw * vy))) (b2 : E * U = k2 * (sw * vx)) (b3 : F * U = k2 * (sx * vy - sy * vx)) :
    A * E - D * B ≠ 0 ∧ (B * F - E * C) * sw = sx * (A * E - D * B) ∧ (C * D - F * A) * sw = sy * (A * E - D * B) := by
  have m1 : (A * E - D * B) * (U * U) = k1 * k2 * (sw * sw) * (ux * vy - uy * vx) := by
    have e : (A * E - D * B) * (U * U) = (A * U) * (E * U) - (D * U) * (B * U) := by grind
    rw [e, a1, a2, b1, b2]; grind
  have m2 : (B * F - E * C) * (U * U) = k1 * k2 * (sw * sx) * (ux * vy - uy * vx) := by
    have e : (B * F - E * C) * (U * U) = (B * U) * (F * U) - (E * U) * (C * U) := by grind
    rw [e, a2, a3, b2, b3]; grind
  have m3 : (C * D - F * A) * (U * U) = k1 * k2 * (sw * sy) * (ux * vy - uy * vx) := by
    have e : (C * D - F * A) * (U * U) = (C * U) * (D * U) - (F * U) * (A * U) := by grind
    rw [e, a1, a3, b1, b3]; grind
  have hUU : U * U ≠ 0 := Int.mul_ne_zero (by omega) (by omega)
  refine ⟨fun z => ?_, ?_, ?_⟩
  · rw [z, Int.zero_mul] at m1
    have : k1 * k2 * (sw * sw) * (ux * vy - uy * vx) ≠ 0 := Int.mul_ne_zero (Int.mul_ne_zero (Int.mul_ne_zero h1 h2) (Int.mul_ne_zero (by omega) (by omega))) (by omega)
    exact this m1.symm
  · refine Int.eq_of_mul_eq_mul_right hUU ?_
    have e1 : (B * F - E * C) * sw * (U * U) = ((B * F - E * C) * (U * U)) * sw := by grind
    have e2 : sx * (A * E - D * B) * (U * U) = sx * ((A * E - D * B) * (U * U)) := by grind
    rw [e1, e2, m1, m2]; grind
  · refine Int.eq_of_mul_eq_mul_right hUU ?_
    have e1 : (C * D - F * A) * sw * (U * U) = ((C * D - F * A) * (U * U)) * sw := by grind
    have e2 : sy * (A * E - D * B) * (U * U) = sy * ((A * E - D * B) * (U * U)) := by grind
    rw [e1, e2, m1, m3]; grind
theorem eqv3 {a b c a' b' c' : Int} (h1 : a = a') (h2 : b = b') (h3 : c = c') : PyData.eqv (.list [.int a, .int b, .int c]) (.list [.int a', .int b', .int c']) = true := by
  subst h1 h2 h3
  simp [PyData.eqv, PyData.eqvAll]
theorem eqv_pt {x y w x' y' w' : Int} : PyData.eqv (pt x y w) (pt x' y' w') = true ↔ x = x' ∧ y = y' ∧ w = w' := by
  simp [PyData.eqv, PyData.eqvAll]
theorem eqv_ptF {x y w x' y' w' : Int} : PyData.eqv (pt x y w) (pt x' y' w') = false ↔ ¬ (x = x' ∧ y = y' ∧ w = w') := by
  rw [← eqv_pt, Bool.not_eq_true]
theorem eqv_t2 {x y x' y' : Int} : PyData.eqv (.tuple [.int x, .int y]) (.tuple [.int x', .int y']) = true ↔ x = x' ∧ y = y' := by
  simp [PyData.eqv, PyData.eqvAll]
section
variable {sx sy sw ux uy vx vy : Int}
theorem spt_u {a o x y w : Int} (t : Spt sx sy sw ux uy vx vy a 0 o x y w) : Lo x y w (sx * o + a * ux * sw) (sy * o + a * uy * sw) (sw * o) := by
  have l := t.lo
  have e1 : sx * o + (a * ux + 0 * vx) * sw = sx * o + a * ux * sw := by grind
  have e2 : sy * o + (a * uy + 0 * vy) * sw = sy * o + a * uy * sw := by grind
  rw [← e1, ← e2]
  exact l
theorem spt_v {a o x y w : Int} (t : Spt sx sy sw ux uy vx vy 0 a o x y w) : Lo x y w (sx * o + a * vx * sw) (sy * o + a * vy * sw) (sw * o) := by
  have l := t.lo
  have e1 : sx * o + (0 * ux + a * vx) * sw = sx * o + a * vx * sw := by grind
  have e2 : sy * o + (0 * uy + a * vy) * sw = sy * o + a * vy * sw := by grind
  rw [← e1, ← e2]
  exact l
theorem meet_at {a b c d o x1 y1 w1 x2 y2 w2 x3 y3 w3 x4 y4 w4 x y w : Int} (hs : 1 ≤ sw) (hdet : ux * vy ≠ uy * vx) (ho : 0 < o) (hab : a ≠ b) (hcd : c ≠ d) (l1 : Lo x1 y1 w1 (sx * o + a * ux * sw) (sy * o + a * uy * sw) (sw * o)) (l2 : Lo x2 y2 w2 (sx * o + b * ux * sw) (sy * o + b * uy * sw) (sw * o)) (l3 : Lo x3 y3 w3 (sx * o + c * vx * sw) (sy * o + c * vy * sw) (sw * o)) (l4 : Lo x4 y4 w4 (sx * o + d * vx * sw) (sy * o + d * vy * sw) (sw * o)) (l : Lo x y w sx sy sw) :
    lmeet x1 y1 w1 x2 y2 w2 x3 y3 w3 x4 y4 w4 = pt x y w := by
  obtain ⟨a1, a2, a3⟩ := line_math l1 l2
  obtain ⟨b1, b2, b3⟩ := line_math l3 l4
  have h1 := l1.hw; have h2 := l2.hw; have h3 := l3.hw; have h4 := l4.hw
  have k1 : w1 * w2 * (o * sw * (b - a)) ≠ 0 := Int.mul_ne_zero (Int.mul_ne_zero (by omega) (by omega)) (Int.mul_ne_zero (Int.mul_ne_zero (by omega) (by omega)) (by omega))
  have k2 : w3 * w4 * (o * sw * (d - c)) ≠ 0 := Int.mul_ne_zero (Int.mul_ne_zero (by omega) (by omega)) (Int.mul_ne_zero (Int.mul_ne_zero (by omega) (by omega)) (by omega))
  have hU : 0 < (sw * o) * (sw * o) := Int.mul_pos (Int.mul_pos (by omega) ho) (Int.mul_pos (by omega) ho)
  obtain ⟨m1, m2, m3⟩ := meet_math hs hdet hU k1 k2 a1 a2 a3 b1 b2 b3
  unfold lmeet
  rw [if_neg m1]
  have k := Lo.same (rp_lo (X := lx x1 y1 w1 x2 y2 w2 x3 y3 w3 x4 y4 w4) (Y := ly x1 y1 w1 x2 y2 w2 x3 y3 w3 x4 y4 w4) m1) l m1 (by omega) m2 m3
  show pt _ _ _ = pt _ _ _
  rw [k.1, k.2.1, k.2.2]
/-- spots apart -/
theorem spt_ne {a b c o x1 y1 w1 x2 y2 w2 : Int} (fo : FrOk sx sy sw ux uy vx vy) (ho : 0 < o) (hab : a ≠ b) (t1 : Spt sx sy sw ux uy vx vy a c o x1 y1 w1) (t2 : Spt sx sy sw ux uy vx vy b c o x2 y2 w2) : PyData.eqv (pt x1 y1 w1) (pt x2 y2 w2) = false := by
  rw [eqv_ptF]
  rintro ⟨rfl, rfl, rfl⟩
  have a1 := t1.lo.ex; have a2 := t1.lo.ey; have b1 := t2.lo.ex; have b2 := t2.lo.ey
  have hs := fo.w; have hw := t1.lo.hw
  have hu := u_pos fo.det
  have e1 : (a - b) * ux * (sw * w1) = 0 := by grind
  have e2 : (a - b) * uy * (sw * w1) = 0 := by grind
  have hsw : sw * w1 ≠ 0 := Int.mul_ne_zero (by omega) (by omega)
  have f1 := (Int.mul_eq_zero.mp ((Int.mul_eq_zero.mp e1).resolve_right hsw)).resolve_left (by omega)
  have f2 := (Int.mul_eq_zero.mp ((Int.mul_eq_zero.mp e2).resolve_right hsw)).resolve_left (by omega)
  rw [f1, f2] at hu
  simp at hu
theorem spt_neV {a b c o x1 y1 w1 x2 y2 w2 : Int} (fo : FrOk sx sy sw ux uy vx vy) (ho : 0 < o) (hab : a ≠ b) (t1 : Spt sx sy sw ux uy vx vy c a o x1 y1 w1) (t2 : Spt sx sy sw ux uy vx vy c b o x2 y2 w2) : PyData.eqv (pt x1 y1 w1) (pt x2 y2 w2) = false := by
  rw [eqv_ptF]
  rintro ⟨rfl, rfl, rfl⟩
  have a1 := t1.lo.ex; have a2 := t1.lo.ey; have b1 := t2.lo.ex; have b2 := t2.lo.ey
  have hs := fo.w; have hw := t1.lo.hw
  have hu : 0 < vx * vx + vy * vy := u_pos (ux := vx) (uy := vy) (vx := ux) (vy := uy) (by have := fo.det; intro z; apply this; grind)
  have e1 : (a - b) * vx * (sw * w1) = 0 := by grind
  have e2 : (a - b) * vy * (sw * w1) = 0 := by grind
  have hsw : sw * w1 ≠ 0 := Int.mul_ne_zero (by omega) (by omega)
  have f1 := (Int.mul_eq_zero.mp ((Int.mul_eq_zero.mp e1).resolve_right hsw)).resolve_left (by omega)
  have f2 := (Int.mul_eq_zero.mp ((Int.mul_eq_zero.mp e2).resolve_right hsw)).resolve_left (by omega)
  rw [f1, f2] at hu
  simp at hu
theorem meet_self (x1 y1 w1 x2 y2 w2 : Int) : lmeet x1 y1 w1 x2 y2 w2 x2 y2 w2 x1 y1 w1 = .none := by
  have z : lw x1 y1 w1 x2 y2 w2 x2 y2 w2 x1 y1 w1 = 0 := by unfold lw; grind
  unfold lmeet
  rw [if_pos z]
theorem eqv_comm_pt {x y w x' y' w' : Int} (h : PyData.eqv (pt x y w) (pt x' y' w') = false) : PyData.eqv (pt x' y' w') (pt x y w) = false := by
  rw [eqv_ptF] at *
  rintro ⟨rfl, rfl, rfl⟩
  exact h ⟨rfl, rfl, rfl⟩
abbrev SpP (sx sy sw ux uy vx vy a b o : Int) (p : Pt) : Prop := Spt sx sy sw ux uy vx vy a b o p.1 p.2.1 p.2.2
theorem FrOk.swap (f : FrOk sx sy sw ux uy vx vy) : FrOk sx sy sw vx vy ux uy := ⟨f.w, fun z => f.det (by grind), f.s1, f.s2, f.s3, f.s6, f.s7, f.s4, f.s5⟩
theorem Spt.swap {a b o x y w : Int} (t : Spt sx sy sw ux uy vx vy a b o x y w) : Spt sx sy sw vx vy ux uy b a o x y w := by
  obtain ⟨l, p, s1, s2, s3⟩ := t
  refine ⟨?_, p, s1, s2, s3⟩
  have e1 : fx sx sw vx ux b a o = fx sx sw ux vx a b o := by unfold fx; grind
  have e2 : fx sy sw vy uy b a o = fx sy sw uy vy a b o := by unfold fx; grind
  rw [e1, e2]
  exact l
theorem spt_same {a b o o' : Int} {p q : Pt} (fo : FrOk sx sy sw ux uy vx vy) (ho : 0 < o) (ho' : 0 < o') (t1 : SpP sx sy sw ux uy vx vy (a * o) (b * o) o p) (t2 : SpP sx sy sw ux uy vx vy (a * o') (b * o') o' q) : p = q := by
  have hs := fo.w
  have n1 : sw * o ≠ 0 := Int.mul_ne_zero (by omega) (by omega)
  have n2 : sw * o' ≠ 0 := Int.mul_ne_zero (by omega) (by omega)
  obtain ⟨h1, h2, h3⟩ := Lo.same t1.lo t2.lo n1 n2 (by unfold fx; grind) (by unfold fx; grind)
  exact Prod.ext h1 (Prod.ext h2 h3)
theorem spt_eq {a b o : Int} {p q : Pt} (fo : FrOk sx sy sw ux uy vx vy) (ho : 0 < o) (t1 : SpP sx sy sw ux uy vx vy a b o p) (t2 : SpP sx sy sw ux uy vx vy a b o q) : p = q := by
  have hs := fo.w
  have n1 : sw * o ≠ 0 := Int.mul_ne_zero (by omega) (by omega)
  obtain ⟨h1, h2, h3⟩ := Lo.same t1.lo t2.lo n1 n1 rfl rfl
  exact Prod.ext h1 (Prod.ext h2 h3)
theorem sgn_sq {s : Int} (h : s ≠ 0) : sgn s * sgn s = 1 := by
  unfold sgn
  split
  · rfl
  · rw [if_pos (by omega)]
    rfl
theorem sgn_gt {s : Int} : 0 < sgn s ↔ 0 < s := by
  unfold sgn
  split
  · exact ⟨fun _ => by assumption, fun _ => by decide⟩
  · split
    · exact ⟨fun z => absurd z (by decide), fun z => by omega⟩
    · exact ⟨fun z => absurd z (by decide), fun z => by omega⟩
theorem sq_zero {x y : Int} (h : x * x + y * y ≤ 0) : x = 0 ∧ y = 0 := by
  have h1 : 0 ≤ x * x := by rcases Int.le_total 0 x with k | k; exact Int.mul_nonneg k k; exact Int.mul_nonneg_of_nonpos_of_nonpos k k
  have h2 : 0 ≤ y * y := by rcases Int.le_total 0 y with k | k; exact Int.mul_nonneg k k; exact Int.mul_nonneg_of_nonpos_of_nonpos k k
  have e1 : x * x = 0 := by omega
  have e2 : y * y = 0 := by omega
  exact ⟨by rcases Int.mul_eq_zero.mp e1 with k | k <;> exact k, by rcases Int.mul_eq_zero.mp e2 with k | k <;> exact k⟩
/-- a spot of the one axis between two of the other -/
theorem btw_axes {a c d o : Int} {p r s : Pt} (fo : FrOk sx sy sw ux uy vx vy) (ho : 0 < o) (t1 : SpP sx sy sw ux uy vx vy a 0 o p) (t3 : SpP sx sy sw ux uy vx vy 0 c o r) (t4 : SpP sx sy sw ux uy vx vy 0 d o s) :
    btw p.1 p.2.1 p.2.2 r.1 r.2.1 r.2.2 s.1 s.2.1 s.2.2 = decide (a = 0 ∧ c * d ≤ 0) := by
  have hv : 0 < vx * vx + vy * vy := u_pos (ux := vx) (uy := vy) (vx := ux) (vy := uy) fo.swap.det
  rw [btw_math fo.w fo.det ho t1.lo t3.lo t4.lo, Bool.eq_iff_iff, Bool.and_eq_true, decide_eq_true_eq, decide_eq_true_eq, decide_eq_true_eq]
  have key : a = 0 → ((0 - a) * ux + (c - 0) * vx) * ((0 - a) * ux + (d - 0) * vx) + ((0 - a) * uy + (c - 0) * vy) * ((0 - a) * uy + (d - 0) * vy) = (c * d) * (vx * vx + vy * vy) := fun z => by
    subst z
    grind
  constructor
  · rintro ⟨h1, h2⟩
    have h3 : a * (c - d) = 0 := by grind
    have ha : a = 0 := by
      rcases Int.mul_eq_zero.mp h3 with k | k
      · exact k
      · have hcd : d = c := by omega
        subst hcd
        obtain ⟨k1, k2⟩ := sq_zero h2
        have k3 : a * (ux * vy - uy * vx) = 0 := by grind
        rcases Int.mul_eq_zero.mp k3 with k | k
        · exact k
        · exact absurd (show ux * vy = uy * vx by omega) fo.det
    refine ⟨ha, ?_⟩
    rw [key ha] at h2
    rcases Int.lt_or_le 0 (c * d) with k | k
    · have := Int.mul_pos k hv
      omega
    · exact k
  · rintro ⟨h1, h2⟩
    refine ⟨by subst h1; grind, ?_⟩
    rw [key h1]
    exact Int.mul_nonpos_of_nonpos_of_nonneg h2 (by omega)
/-- what two pieces along the two steps have in common -/
theorem cross_pm {a b c d o : Int} {p q r s m : Pt} (fo : FrOk sx sy sw ux uy vx vy) (ho : 0 < o) (t1 : SpP sx sy sw ux uy vx vy a 0 o p) (t2 : SpP sx sy sw ux uy vx vy b 0 o q) (t3 : SpP sx sy sw ux uy vx vy 0 c o r) (t4 : SpP sx sy sw ux uy vx vy 0 d o s) (t5 : SpP sx sy sw ux uy vx vy 0 0 1 m) :
    pmt p q r s = if a * b ≤ 0 ∧ c * d ≤ 0 then .tuple [dpt m] else .tuple [] := by
  have atm : ∀ {x : Pt}, SpP sx sy sw ux uy vx vy 0 0 o x → x = m := fun t => spt_same (a := 0) (b := 0) (o := o) (o' := 1) fo ho (by decide) (by rw [Int.zero_mul]; exact t) (by rw [Int.zero_mul]; exact t5)
  unfold pmt
  by_cases hab : a = b
  · subst hab
    obtain rfl := spt_eq fo ho t1 t2
    rw [if_pos (eqv_pt.mpr ⟨rfl, rfl, rfl⟩), btw_axes fo ho t1 t3 t4]
    by_cases h : a = 0 ∧ c * d ≤ 0
    · obtain ⟨rfl, h2⟩ := h
      rw [if_pos (decide_eq_true ⟨rfl, h2⟩), if_pos ⟨by decide, h2⟩, atm t1]
    · rw [if_neg (by rw [decide_eq_false h]; decide), if_neg]
      rintro ⟨h1, h2⟩
      have h3 : a * a + 0 * 0 ≤ 0 := by omega
      exact h ⟨(sq_zero h3).1, h2⟩
  · rw [if_neg (by rw [spt_ne fo ho hab t1 t2]; decide)]
    by_cases hcd : c = d
    · subst hcd
      obtain rfl := spt_eq fo ho t3 t4
      rw [if_pos (eqv_pt.mpr ⟨rfl, rfl, rfl⟩), btw_axes fo.swap ho t3.swap t1.swap t2.swap]
      by_cases h : c = 0 ∧ a * b ≤ 0
      · obtain ⟨rfl, h2⟩ := h
        rw [if_pos (decide_eq_true ⟨rfl, h2⟩), if_pos ⟨h2, by decide⟩, atm t3]
      · rw [if_neg (by rw [decide_eq_false h]; decide), if_neg]
        rintro ⟨h1, h2⟩
        have h3 : c * c + 0 * 0 ≤ 0 := by omega
        exact h ⟨(sq_zero h3).1, h1⟩
    · rw [if_neg (by rw [spt_neV fo ho hcd t3 t4]; decide)]
      have S2 := sgn_sq (s := ux * vy - uy * vx) (by have := fo.det; omega)
      have ba := sgn_sq (s := b - a) (by omega)
      have dc := sgn_sq (s := d - c) (by omega)
      have z1 := turn_math fo.w ho t1.lo t2.lo t3.lo
      have z2 := turn_math fo.w ho t1.lo t2.lo t4.lo
      have z3 := turn_math fo.w ho t3.lo t4.lo t1.lo
      have z4 := turn_math fo.w ho t3.lo t4.lo t2.lo
      have e1 : (b - a) * (c - 0) - (0 - 0) * (0 - a) = (b - a) * c := by grind
      have e2 : (b - a) * (d - 0) - (0 - 0) * (0 - a) = (b - a) * d := by grind
      have e3 : (0 - 0) * (0 - c) - (d - c) * (a - 0) = -((d - c) * a) := by grind
      have e4 : (0 - 0) * (0 - c) - (d - c) * (b - 0) = -((d - c) * b) := by grind
      rw [e1, sgn_mul] at z1
      rw [e2, sgn_mul] at z2
      rw [e3, sgn_minus, sgn_mul] at z3
      rw [e4, sgn_minus, sgn_mul] at z4
      rw [z1, z2, z3, z4]
      have hS : sgn (ux * vy - uy * vx) ≠ 0 := fun z => by rw [z] at S2; simp at S2
      have hba : sgn (b - a) ≠ 0 := fun z => by rw [z] at ba; simp at ba
      have y1 : sgn (b - a) * sgn c * sgn (ux * vy - uy * vx) * (sgn (b - a) * sgn d * sgn (ux * vy - uy * vx)) = sgn (c * d) := by
        rw [sgn_mul]
        generalize sgn (b - a) = A at *
        generalize sgn (ux * vy - uy * vx) = S at *
        grind
      have y2 : -(sgn (d - c) * sgn a) * sgn (ux * vy - uy * vx) * (-(sgn (d - c) * sgn b) * sgn (ux * vy - uy * vx)) = sgn (a * b) := by
        rw [sgn_mul]
        generalize sgn (d - c) = A at *
        generalize sgn (ux * vy - uy * vx) = S at *
        grind
      rw [y1, y2]
      simp only [sgn_gt]
      rw [if_neg]
      · by_cases h : a * b ≤ 0 ∧ c * d ≤ 0
        · rw [if_pos h, if_neg (by omega)]
          have lm : Lo m.1 m.2.1 m.2.2 sx sy sw := by
            have l := t5.lo
            have e1 : fx sx sw ux vx 0 0 1 = sx := by unfold fx; grind
            have e2 : fx sy sw uy vy 0 0 1 = sy := by unfold fx; grind
            rw [e1, e2, Int.mul_one] at l
            exact l
          rw [meet_at fo.w fo.det ho hab hcd (spt_u t1) (spt_u t2) (spt_v t3) (spt_v t4) lm]
        · rw [if_neg h, if_pos (by omega)]
      · rintro ⟨k1, k2⟩
        have c0 : sgn c = 0 := by
          rcases Int.mul_eq_zero.mp k1 with k | k
          · rcases Int.mul_eq_zero.mp k with k | k
            · exact absurd k hba
            · exact k
          · exact absurd k hS
        have d0 : sgn d = 0 := by
          rcases Int.mul_eq_zero.mp k2 with k | k
          · rcases Int.mul_eq_zero.mp k with k | k
            · exact absurd k hba
            · exact k
          · exact absurd k hS
        rw [sgn_eq0] at c0 d0
        omega
end
end Wb

namespace Wb
open PySem PySem.Spec PyProof.Rows L2
open Evl (Ex Ex.refl Ex.trans Ex.new)
section
variable {sx sy sw ux uy vx vy : Int}
/-- the sense of the step u in the order of points -/
def eps (ux uy : Int) : Int := if 0 < ux ∨ (ux = 0 ∧ 0 < uy) then 1 else -1
theorem eps_cases (ux uy : Int) : eps ux uy = 1 ∨ eps ux uy = -1 := by
  unfold eps
  split
  · exact .inl rfl
  · exact .inr rfl
theorem scale_lt {k x y X Y : Int} (hk : 0 < k) (h : (x - y) * k = X - Y) : x < y ↔ X < Y := by
  constructor
  · intro z
    have : (x - y) * k < 0 := Int.mul_neg_of_neg_of_pos (by omega) hk
    omega
  · intro z
    rcases Int.lt_or_le x y with c | c
    · exact c
    · have : 0 ≤ (x - y) * k := Int.mul_nonneg (by omega) (by omega)
      omega
theorem low_line {x y o : Int} {p q : Pt} (fo : FrOk sx sy sw ux uy vx vy) (ho : 0 < o) (t1 : SpP sx sy sw ux uy vx vy x 0 o p) (t2 : SpP sx sy sw ux uy vx vy y 0 o q) : low p q = decide (eps ux uy * x < eps ux uy * y) := by
  have hs := fo.w
  have hW : 0 < sw * o := Int.mul_pos (by omega) ho
  have h1 := t1.lo.hw; have h2 := t2.lo.hw
  have ex1 := t1.lo.ex; have ey1 := t1.lo.ey; have ex2 := t2.lo.ex; have ey2 := t2.lo.ey
  have hww : 0 < p.2.2 * q.2.2 * sw := Int.mul_pos (Int.mul_pos (by omega) (by omega)) (by omega)
  have e1 : (p.1 * q.2.2 - q.1 * p.2.2) * (sw * o) = p.2.2 * q.2.2 * sw * ((x - y) * ux) := by
    have e : (p.1 * q.2.2 - q.1 * p.2.2) * (sw * o) = (p.1 * (sw * o)) * q.2.2 - (q.1 * (sw * o)) * p.2.2 := by grind
    rw [e, ex1, ex2]
    unfold fx
    grind
  have e2 : (p.2.1 * q.2.2 - q.2.1 * p.2.2) * (sw * o) = p.2.2 * q.2.2 * sw * ((x - y) * uy) := by
    have e : (p.2.1 * q.2.2 - q.2.1 * p.2.2) * (sw * o) = (p.2.1 * (sw * o)) * q.2.2 - (q.2.1 * (sw * o)) * p.2.2 := by grind
    rw [e, ey1, ey2]
    unfold fx
    grind
  have sg : ∀ {A B k C : Int}, 0 < k → 0 < C → A * k = C * B → (A < 0 ↔ B < 0) ∧ (0 < A ↔ 0 < B) := by
    intro A B k C hk hC h
    refine ⟨⟨fun z => ?_, fun z => ?_⟩, ⟨fun z => ?_, fun z => ?_⟩⟩
    · have := Int.mul_neg_of_neg_of_pos z hk
      rcases Int.lt_or_le B 0 with c | c
      · exact c
      · have := Int.mul_nonneg (Int.le_of_lt hC) c
        omega
    · have := Int.mul_neg_of_pos_of_neg hC z
      rcases Int.lt_or_le A 0 with c | c
      · exact c
      · have := Int.mul_nonneg c (Int.le_of_lt hk)
        omega
    · have := Int.mul_pos z hk
      rcases Int.lt_or_le 0 B with c | c
      · exact c
      · have := Int.mul_nonpos_of_nonneg_of_nonpos (Int.le_of_lt hC) c
        omega
    · have := Int.mul_pos hC z
      rcases Int.lt_or_le 0 A with c | c
      · exact c
      · have := Int.mul_nonpos_of_nonpos_of_nonneg c (Int.le_of_lt hk)
        omega
  obtain ⟨a1, a2⟩ := sg hW hww e1
  obtain ⟨b1, b2⟩ := sg hW hww e2
  have u0 := u_pos fo.det
  have m1 : ∀ z : Int, ((x - y) * z < 0 ↔ (x < y ∧ 0 < z) ∨ (y < x ∧ z < 0)) ∧ (0 < (x - y) * z ↔ (y < x ∧ 0 < z) ∨ (x < y ∧ z < 0)) := by
    intro z
    rcases Int.lt_trichotomy x y with c | c | c <;> rcases Int.lt_trichotomy z 0 with k | k | k
    · have := Int.mul_pos_of_neg_of_neg (show x - y < 0 by omega) k; omega
    · subst k; simp
    · have := Int.mul_neg_of_neg_of_pos (show x - y < 0 by omega) k; omega
    · subst c; simp
    · subst c; simp
    · subst c; simp
    · have := Int.mul_neg_of_pos_of_neg (show 0 < x - y by omega) k; omega
    · subst k; simp
    · have := Int.mul_pos (show 0 < x - y by omega) k; omega
  obtain ⟨c1, c2⟩ := m1 ux
  obtain ⟨d1, d2⟩ := m1 uy
  have hu : ¬ (ux = 0 ∧ uy = 0) := by
    rintro ⟨z1, z2⟩
    rw [z1, z2] at u0
    simp at u0
  show lower p.1 p.2.1 p.2.2 q.1 q.2.1 q.2.2 = _
  unfold lower
  rw [Bool.eq_iff_iff]
  simp only [Bool.or_eq_true, Bool.and_eq_true, Bool.not_eq_true', decide_eq_true_eq, decide_eq_false_iff_not]
  have g1 : p.1 * q.2.2 < q.1 * p.2.2 ↔ (x - y) * ux < 0 := by rw [← a1]; omega
  have g2 : q.1 * p.2.2 < p.1 * q.2.2 ↔ 0 < (x - y) * ux := by rw [← a2]; omega
  have g3 : p.2.1 * q.2.2 < q.2.1 * p.2.2 ↔ (x - y) * uy < 0 := by rw [← b1]; omega
  rw [g1, g2, g3, c1, c2, d1]
  unfold eps
  split <;> omega
def pairT (p q : Pt) : PyData := if HT.lexLt [p.1, p.2.1, p.2.2] [q.1, q.2.1, q.2.2] then .tuple [dpt p, dpt q] else .tuple [dpt q, dpt p]
theorem lexLt3 (a b c a' b' c' : Int) : HT.lexLt [a, b, c] [a', b', c'] = decide (a < a' ∨ (a = a' ∧ (b < b' ∨ (b = b' ∧ c < c')))) := by
  simp only [HT.lexLt]
  split
  · split
    · split
      · rw [eq_comm, decide_eq_false_iff_not]; omega
      · refine decide_eq_decide.mpr ?_; omega
    · refine decide_eq_decide.mpr ?_; omega
  · refine decide_eq_decide.mpr ?_; omega
theorem pairT_comm {p q : Pt} (h : p ≠ q) : pairT p q = pairT q p := by
  obtain ⟨a, b, c⟩ := p
  obtain ⟨a', b', c'⟩ := q
  have hn : ¬ (a = a' ∧ b = b' ∧ c = c') := fun ⟨z1, z2, z3⟩ => h (by rw [z1, z2, z3])
  unfold pairT
  dsimp only
  rw [lexLt3, lexLt3]
  by_cases k : a < a' ∨ (a = a' ∧ (b < b' ∨ (b = b' ∧ c < c')))
  · rw [if_pos (decide_eq_true k), if_neg (by rw [decide_eq_true_eq]; omega)]
  · rw [if_neg (by rw [decide_eq_true_eq]; exact k), if_pos (by rw [decide_eq_true_eq]; omega)]
theorem sel {x y o : Int} {p q : Pt} {C : Prop} [Decidable C] {b : Bool} (h : b = decide C) (t1 : SpP sx sy sw ux uy vx vy x 0 o p) (t2 : SpP sx sy sw ux uy vx vy y 0 o q) : SpP sx sy sw ux uy vx vy (if C then x else y) 0 o (if b = true then p else q) := by
  subst h
  by_cases k : C
  · rw [if_pos k, if_pos (decide_eq_true k)]
    exact t1
  · rw [if_neg k, if_neg (by rw [decide_eq_true_eq]; exact k)]
    exact t2
theorem eqv_line {x y o : Int} {p q : Pt} (fo : FrOk sx sy sw ux uy vx vy) (ho : 0 < o) (t1 : SpP sx sy sw ux uy vx vy x 0 o p) (t2 : SpP sx sy sw ux uy vx vy y 0 o q) : PyData.eqv (dpt p) (dpt q) = decide (x = y) := by
  by_cases h : x = y
  · subst h
    obtain rfl := spt_eq fo ho t1 t2
    rw [decide_eq_true rfl]
    exact eqv_pt.mpr ⟨rfl, rfl, rfl⟩
  · rw [decide_eq_false h]
    exact spt_ne fo ho h t1 t2
theorem com_line {a b c d o : Int} {p q r s : Pt} (fo : FrOk sx sy sw ux uy vx vy) (ho : 0 < o) (t1 : SpP sx sy sw ux uy vx vy a 0 o p) (t2 : SpP sx sy sw ux uy vx vy b 0 o q) (t3 : SpP sx sy sw ux uy vx vy c 0 o r) (t4 : SpP sx sy sw ux uy vx vy d 0 o s) {e : Int} (he : e = eps ux uy) :
    ∃ (l h : Pt) (l' h' l0 h0 l1 h1 : Int), l0 = (if e * b < e * a then b else a) ∧ h0 = (if e * b < e * a then a else b) ∧ l1 = (if e * d < e * c then d else c) ∧ h1 = (if e * d < e * c then c else d) ∧
      l' = (if e * l0 < e * l1 then l1 else l0) ∧ h' = (if e * h1 < e * h0 then h1 else h0) ∧ SpP sx sy sw ux uy vx vy l' 0 o l ∧ SpP sx sy sw ux uy vx vy h' 0 o h ∧
      com p q r s = if e * h' < e * l' then .tuple [] else if l' = h' then .tuple [dpt l] else pairT l h := by
  subst he
  have k1 := low_line fo ho t2 t1
  have k2 := low_line fo ho t4 t3
  have sl0 := sel k1 t2 t1
  have sh0 := sel k1 t1 t2
  have sl1 := sel k2 t4 t3
  have sh1 := sel k2 t3 t4
  unfold com
  dsimp only
  generalize (if low q p = true then q else p) = L0 at *
  generalize (if low q p = true then p else q) = H0 at *
  generalize (if low s r = true then s else r) = L1 at *
  generalize (if low s r = true then r else s) = H1 at *
  have sl := sel (low_line fo ho sl0 sl1) sl1 sl0
  have sh := sel (low_line fo ho sh1 sh0) sh1 sh0
  generalize (if low L0 L1 = true then L1 else L0) = l at *
  generalize (if low H1 H0 = true then H1 else H0) = h at *
  refine ⟨l, h, _, _, _, _, _, _, rfl, rfl, rfl, rfl, rfl, rfl, sl, sh, ?_⟩
  rw [low_line fo ho sh sl, eqv_line fo ho sl sh]
  simp only [decide_eq_true_eq]
  rfl
/-- what two pieces along one step have in common -/
theorem line_pm {a b c d o lo hi : Int} {p q r s ml mh : Pt} (fo : FrOk sx sy sw ux uy vx vy) (ho : 0 < o) (t1 : SpP sx sy sw ux uy vx vy a 0 o p) (t2 : SpP sx sy sw ux uy vx vy b 0 o q) (t3 : SpP sx sy sw ux uy vx vy c 0 o r) (t4 : SpP sx sy sw ux uy vx vy d 0 o s)
    (tl : SpP sx sy sw ux uy vx vy lo 0 o ml) (th : SpP sx sy sw ux uy vx vy hi 0 o mh) (hlo : lo = max (min a b) (min c d)) (hhi : hi = min (max a b) (max c d)) :
    pmt p q r s = if lo ≤ hi then (if lo = hi then .tuple [dpt ml] else pairT ml mh) else .tuple [] := by
  have hu := u_pos fo.det
  have bl : ∀ {x y z : Int} {P Q R : Pt}, SpP sx sy sw ux uy vx vy x 0 o P → SpP sx sy sw ux uy vx vy y 0 o Q → SpP sx sy sw ux uy vx vy z 0 o R → btw P.1 P.2.1 P.2.2 Q.1 Q.2.1 Q.2.2 R.1 R.2.1 R.2.2 = decide (min y z ≤ x ∧ x ≤ max y z) := by
    intro x y z P Q R h1 h2 h3
    rw [btw_math fo.w fo.det ho h1.lo h2.lo h3.lo, Bool.eq_iff_iff, Bool.and_eq_true, decide_eq_true_eq, decide_eq_true_eq, decide_eq_true_eq]
    have e : ((y - x) * ux + (0 - 0) * vx) * ((z - x) * ux + (0 - 0) * vx) + ((y - x) * uy + (0 - 0) * vy) * ((z - x) * uy + (0 - 0) * vy) = (y - x) * ux * ((z - x) * ux) + (y - x) * uy * ((z - x) * uy) := by grind
    rw [e, btw_line (a := y) (b := z) (c := x) hu]
    have e2 : (y - x) * (0 - 0) - (0 - 0) * (z - x) = 0 := by grind
    rw [e2]
    constructor
    · rintro ⟨_, h1, h2⟩
      revert h1 h2
      split <;> split <;> omega
    · intro h
      refine ⟨rfl, ?_, ?_⟩ <;> split <;> omega
  unfold pmt
  rw [eqv_line fo ho t1 t2, eqv_line fo ho t3 t4]
  simp only [decide_eq_true_eq]
  by_cases hab : a = b
  · rw [if_pos hab, bl t1 t3 t4]
    simp only [decide_eq_true_eq]
    by_cases h : min c d ≤ a ∧ a ≤ max c d
    · rw [if_pos h, if_pos (by omega), if_pos (by omega)]
      have e : a = lo := by omega
      rw [e] at t1
      rw [spt_eq fo ho t1 tl]
    · rw [if_neg h, if_neg (by omega)]
  · rw [if_neg hab]
    by_cases hcd : c = d
    · rw [if_pos hcd, bl t3 t1 t2]
      simp only [decide_eq_true_eq]
      by_cases h : min a b ≤ c ∧ c ≤ max a b
      · rw [if_pos h, if_pos (by omega), if_pos (by omega)]
        have e : c = lo := by omega
        rw [e] at t3
        rw [spt_eq fo ho t3 tl]
      · rw [if_neg h, if_neg (by omega)]
    · rw [if_neg hcd]
      have z1 := turn_math fo.w ho t1.lo t2.lo t3.lo
      have z2 := turn_math fo.w ho t1.lo t2.lo t4.lo
      have e1 : ∀ z : Int, (b - a) * (0 - 0) - (0 - 0) * (z - a) = 0 := fun z => by grind
      rw [e1, sgn_z0, Int.zero_mul] at z1 z2
      rw [if_pos ⟨z1, z2⟩]
      clear z1 z2 bl
      rcases eps_cases ux uy with he | he
      · obtain ⟨l, h, l', h', l0, h0, l1, h1, f1, f2, f3, f4, f5, f6, sl, sh, ec⟩ := com_line fo ho t1 t2 t3 t4 he.symm
        rw [ec]
        clear ec
        have g1 : l' = lo := by
          revert f1 f3 f5
          (repeat' split) <;> omega
        have g2 : h' = hi := by
          revert f2 f4 f6
          (repeat' split) <;> omega
        rw [g1] at sl
        rw [g2] at sh
        rw [g1, g2, spt_eq fo ho sl tl, spt_eq fo ho sh th]
        by_cases k : lo ≤ hi
        · rw [if_neg (by omega), if_pos k]
        · rw [if_pos (by omega), if_neg k]
      · obtain ⟨l, h, l', h', l0, h0, l1, h1, f1, f2, f3, f4, f5, f6, sl, sh, ec⟩ := com_line fo ho t1 t2 t3 t4 he.symm
        rw [ec]
        clear ec
        have g1 : l' = hi := by
          revert f1 f3 f5
          (repeat' split) <;> omega
        have g2 : h' = lo := by
          revert f2 f4 f6
          (repeat' split) <;> omega
        rw [g1] at sl
        rw [g2] at sh
        rw [g1, g2, spt_eq fo ho sl th, spt_eq fo ho sh tl]
        by_cases k : lo ≤ hi
        · rw [if_neg (by omega), if_pos k]
          by_cases k2 : lo = hi
          · rw [if_pos k2.symm, if_pos k2]
            rw [k2] at tl
            rw [spt_eq fo ho th tl]
          · rw [if_neg (fun z => k2 z.symm), if_neg k2]
            refine pairT_comm fun z => ?_
            have := spt_ne fo ho (fun w => k2 w.symm) th tl
            rw [z] at this
            rw [eqv_pt.mpr ⟨rfl, rfl, rfl⟩] at this
            cases this
        · rw [if_pos (by omega), if_neg k]
/-- pieces beside one another -/
theorem side_pm {a b c d e o : Int} {p q r s : Pt} (fo : FrOk sx sy sw ux uy vx vy) (ho : 0 < o) (he : e ≠ 0) (t1 : SpP sx sy sw ux uy vx vy a 0 o p) (t2 : SpP sx sy sw ux uy vx vy b 0 o q) (t3 : SpP sx sy sw ux uy vx vy c e o r) (t4 : SpP sx sy sw ux uy vx vy d e o s) : pmt p q r s = .tuple [] := by
  have hne : ∀ {x f : Int}, f ≠ 0 → ¬ ((x * ux + f * vx) * (x * ux + f * vx) + (x * uy + f * vy) * (x * uy + f * vy) ≤ 0) := by
    intro x f hf h
    obtain ⟨k1, k2⟩ := sq_zero h
    have k3 : f * (ux * vy - uy * vx) = 0 := by grind
    rcases Int.mul_eq_zero.mp k3 with k | k
    · exact hf k
    · exact fo.det (by omega)
  unfold pmt
  by_cases hab : PyData.eqv (dpt p) (dpt q) = true
  · rw [if_pos hab, if_neg]
    rw [btw_math fo.w fo.det ho t1.lo t3.lo t4.lo, Bool.and_eq_true, decide_eq_true_eq, decide_eq_true_eq]
    rintro ⟨h1, h2⟩
    have h3 : e * (c - d) = 0 := by grind
    have h4 : d = c := by
      rcases Int.mul_eq_zero.mp h3 with k | k
      · exact absurd k he
      · omega
    subst h4
    exact hne (x := d - a) (f := e - 0) (by omega) h2
  · rw [if_neg hab]
    have hab' : a ≠ b := fun z => by
      subst z
      obtain rfl := spt_eq fo ho t1 t2
      exact hab (eqv_pt.mpr ⟨rfl, rfl, rfl⟩)
    by_cases hcd : PyData.eqv (dpt r) (dpt s) = true
    · rw [if_pos hcd, if_neg]
      rw [btw_math fo.w fo.det ho t3.lo t1.lo t2.lo, Bool.and_eq_true, decide_eq_true_eq, decide_eq_true_eq]
      rintro ⟨h1, h2⟩
      have h3 : e * (b - a) = 0 := by grind
      rcases Int.mul_eq_zero.mp h3 with k | k
      · exact he k
      · omega
    · rw [if_neg hcd]
      have z1 := turn_math fo.w ho t1.lo t2.lo t3.lo
      have z2 := turn_math fo.w ho t1.lo t2.lo t4.lo
      have e1 : ∀ z : Int, (b - a) * (e - 0) - (0 - 0) * (z - a) = (b - a) * e := fun z => by grind
      rw [e1] at z1 z2
      have n1 : (b - a) * e ≠ 0 := Int.mul_ne_zero (by omega) he
      have s1 := sgn_sq n1
      have s2 := sgn_sq (s := ux * vy - uy * vx) (by have := fo.det; omega)
      rw [z1, z2]
      have pos : sgn ((b - a) * e) * sgn (ux * vy - uy * vx) * (sgn ((b - a) * e) * sgn (ux * vy - uy * vx)) = 1 := by grind
      rw [if_neg, if_pos (.inl (by rw [pos]; decide))]
      rintro ⟨k1, _⟩
      rw [k1] at pos
      simp at pos
end
end Wb

namespace Wb
open PySem PySem.Spec PyProof.Rows L2
open Evl (Ex Ex.refl Ex.trans Ex.new)
local macro_rules | `(tactic| wtm_at "dp") => `(tactic| first | with_reducible assumption | with_reducible exact Dp.int _ | with_reducible exact Dp.bl _ | with_reducible exact Dp.str _ | with_reducible exact Dp.non | ((with_reducible refine' dpMono ?dme (by with_reducible assumption)); (case dme => wtm_at "ex")) | ((with_reducible refine' Dp.tup (Evl.st_of ?dph) ?dpa); (case dph => wtm_at "hs"); (case dpa => wtm_at "dpa")) | ((with_reducible refine' Dp.lst (Evl.sq_of ?dph) ?dpa); (case dph => wtm_at "hs"); (case dpa => wtm_at "dpa")))
local macro_rules | `(tactic| wtm_at "dpa") => `(tactic| first | with_reducible exact DpAll.nil | ((with_reducible refine' DpAll.cons ?dp1 ?dp2); (case dp1 => wtm_at "dp"); (case dp2 => wtm_at "dpa")) | with_reducible assumption | ((with_reducible refine' dpMonoA ?dme (by with_reducible assumption)); (case dme => wtm_at "ex")))
local macro_rules | `(tactic| wtm_at "sz") => `(tactic| first | with_reducible assumption | ((with_reducible refine' sz_mul ?sz1 ?sz2); (case sz1 => wtm_at "sz"); (case sz2 => wtm_at "sz")) | ((with_reducible refine' sz_add ?sz1 ?sz2); (case sz1 => wtm_at "sz"); (case sz2 => wtm_at "sz")) | ((with_reducible refine' sz_sub ?sz1 ?sz2); (case sz1 => wtm_at "sz"); (case sz2 => wtm_at "sz")) | ((with_reducible refine' sz_neg ?sz1); (case sz1 => wtm_at "sz")) | ((with_reducible refine' sz_div ?sz1); (case sz1 => wtm_at "sz")) | ((with_reducible refine' sz_fdiv ?sz1); (case sz1 => wtm_at "sz")) | exact sz_lit (by decide) | wtm_at "sz2")
local macro_rules | `(tactic| wtm_at "szb") => `(tactic| first | with_reducible assumption | ((with_reducible refine' sz_mono ?szb1 ?szb2); (case szb1 => wtm_at "sz"); (case szb2 => decide)))
local macro_rules | `(tactic| wtm_at "nz") => `(tactic| first | assumption | decide | omega)
local macro_rules | `(tactic| wtm_at "shaped") => `(tactic| first | rfl | decide)
local macro_rules | `(tactic| wtm_at "sset") => `(tactic| ((dsimp only [L2.wipe, List.set, List.set_cons_zero, List.set_cons_succ]) <;> exact rfl))
local macro_rules | `(tactic| wtm_at "nrm") => `(tactic| dsimp only [L2.start, L2.wipe, List.set, List.append, List.map, List.map_cons, List.map_nil, List.length_cons, List.length_nil, Nat.reduceAdd, Nat.reduceSub, List.reduceReplicate, List.replicate, List.cons_append, List.nil_append, List.set_cons_zero, List.set_cons_succ])
local macro_rules | `(tactic| wtm_at "st") => `(tactic| first
  | ((with_reducible refine' i_var (v := ?u0) ?u1 ?uq); (case u1 => exact rfl))
  | ((with_reducible refine' i_nameN ?u0 ?uq); (case u0 => wtm_at "sset"))
  | (with_reducible refine' i_op ?uq)
  | (with_reducible refine' i_c ?uq)
  | (with_reducible refine' i_I0 ?uq)
  | ((with_reducible refine' i_ixTI (i := ?u0) ?u1 ?u2 ?u3 ?uq); (case u1 => wtm_at "dp"); (case u2 => wtm_at "ex"); (case u3 => exact rfl))
  | ((with_reducible refine' i_ixT (d := ?u0) ?u1 ?u2 ?u3 (fun xu hxu => ?uq)); (case u1 => wtm_at "dp"); (case u2 => wtm_at "ex"); (case u3 => exact rfl))
  | ((with_reducible refine' i_mul ?u0 ?u1 ?u2 ?uq); (case u0 => wtm_at "sz"); (case u1 => wtm_at "sz"); (case u2 => first | decide | omega))
  | (with_reducible refine' i_seq ?uq)
  | (with_reducible refine' i_asg ?uq)
  | (with_reducible refine' i_ret ?uq)
  | (with_reducible refine' i_ifs ?uq)
  | (with_reducible refine' i_drop ?uq)
  | (with_reducible refine' i_next ?uq)
  | (with_reducible refine' i_cons ?uq)
  | (with_reducible refine' i_nil ?uq)
  | (with_reducible refine' i_cl ?uq)
  | (with_reducible refine' i_cb ?uq)
  | (with_reducible refine' i_tup ?uq)
  | (with_reducible refine' i_lst ?uq)
  | ((with_reducible refine' i_mkT ?u0 (fun np nH nhe nhp => ?uq)); (case u0 => exact Nat.le_of_ble_eq_true rfl))
  | (with_reducible refine' i_test ?uq)
  | (with_reducible refine' i_B ?uq)
  | (with_reducible refine' i_k ?uq)
  | (with_reducible refine' i_and ?uq)
  | (with_reducible refine' i_or ?uq)
  | (with_reducible refine' i_not ?uq)
  | (with_reducible refine' i_andV ?uq)
  | (with_reducible refine' i_orV ?uq)
  | (with_reducible refine' i_notV ?uq)
  | (with_reducible refine' i_if ?uq)
  | (with_reducible refine' i_un ?uq)
  | (with_reducible refine' i_U ?uq)
  | (with_reducible refine' i_iteT ?uq)
  | (with_reducible refine' i_iteF ?uq)
  | ((with_reducible refine' i_iteTr ?u0 ?uq); (case u0 => first | with_reducible rfl | decide | (simp only [dIsInt, dIsBool, dIsTup, dIsStr, dIsLst, Bool.not_true, Bool.not_false]; done)))
  | ((with_reducible refine' i_iteFr ?u0 ?uq); (case u0 => first | with_reducible rfl | decide | (simp only [dIsInt, dIsBool, dIsTup, dIsStr, dIsLst, Bool.not_true, Bool.not_false]; done)))
  | (with_reducible refine' i_ite (fun hif => ?uqa) (fun hif => ?uqb))
  | (with_reducible refine' i_iteN (fun hif => ?uqa) (fun hif => ?uqb))
  | (with_reducible refine' i_iteBN (fun hif => ?uqa) (fun hif => ?uqb))
  | (with_reducible refine' i_iteB (fun hif => ?uqa) (fun hif => ?uqb))
  | ((with_reducible refine' i_modN ?u0 ?uq); (case u0 => wtm_at "nz"))
  | ((with_reducible refine' i_fdX ?u0 ?u1 ?u2 ?uq); (case u0 => wtm_at "nz"); (case u1 => wtm_at "sz"); (case u2 => first | decide | omega))
  | ((with_reducible refine' i_pow ?u0 ?uq); (case u0 => exact ⟨by decide, by decide +kernel⟩))
  | (with_reducible refine' i_eqI ?uq)
  | (with_reducible refine' i_neI ?uq)
  | (with_reducible refine' i_gcd ?uq)
  | (with_reducible refine' i_qabs ?uq)
  | (with_reducible refine' i_qint ?uq)
  | (with_reducible refine' i_qintB ?uq)
  | (with_reducible refine' i_qmax2 ?uq)
  | (with_reducible refine' i_qmin2 ?uq)
  | (with_reducible refine' i_isB ?uq)
  | (with_reducible refine' i_notB ?uq)
  | (with_reducible refine' i_chain ?uq)
  | (with_reducible refine' i_qisN ?uq)
  | (with_reducible refine' i_qnotN ?uq)
  | (with_reducible refine' i_yes ?uq)
  | (with_reducible refine' i_par ?uq)
  | (with_reducible refine' i_par3 ?uq)
  | ((with_reducible refine' i_par2 ?u0 ?uq); (case u0 => wtm_at "sset"))
  | ((with_reducible refine' i_par33 ?u0 ?uq); (case u0 => wtm_at "sset"))
  | ((with_reducible refine' i_ixLI (i := ?u0) ?u1 ?u2 ?u3 ?uq); (case u1 => wtm_at "dp"); (case u2 => wtm_at "ex"); (case u3 => exact rfl))
  | ((with_reducible refine' i_ixL (d := ?u0) ?u1 ?u2 ?u3 (fun xu hxu => ?uq)); (case u1 => wtm_at "dp"); (case u2 => wtm_at "ex"); (case u3 => exact rfl))
  | ((with_reducible refine' i_qlenT ?u0 ?uq); (case u0 => wtm_at "dp"))
  | ((with_reducible refine' i_qlenL ?u0 ?uq); (case u0 => wtm_at "dp"))
  | ((with_reducible refine' i_gtup ?u0 ?u1 ?u2 (fun gvs gdp => ?uq)); (case u0 => wtm_at "dp"); (case u1 => wtm_at "ex"); (case u2 => exact rfl))
  | ((with_reducible refine' i_glst ?u0 ?u1 ?u2 (fun gvs gdp => ?uq)); (case u0 => wtm_at "dp"); (case u1 => wtm_at "ex"); (case u2 => exact rfl))
  | ((with_reducible refine' i_gconsI ?u0 (fun gr gh => ?uq)); (case u0 => with_reducible assumption))
  | ((with_reducible refine' i_gconsA ?u0 (fun gv gr gh1 gh2 => ?uq)); (case u0 => with_reducible assumption))
  | ((with_reducible refine' i_gnilA ?u0 ?uq); (case u0 => with_reducible assumption))
  | ((with_reducible refine' i_isiI ?u0 ?uq); (case u0 => wtm_at "dp"))
  | ((with_reducible refine' i_isiB ?u0 ?uq); (case u0 => wtm_at "dp"))
  | ((with_reducible refine' i_isiT ?u0 ?uq); (case u0 => wtm_at "dp"))
  | ((with_reducible refine' i_isiS ?u0 ?uq); (case u0 => wtm_at "dp"))
  | ((with_reducible refine' i_isiL ?u0 ?uq); (case u0 => wtm_at "dp"))
  | ((with_reducible refine' i_eqD ?u0 ?u1 ?u2 ?u3 ?uq); (case u0 => wtm_at "dp"); (case u1 => wtm_at "dp"); (case u2 => wtm_at "shaped"); (case u3 => wtm_at "shaped"))
  | ((with_reducible refine' i_neD ?u0 ?u1 ?u2 ?u3 ?uq); (case u0 => wtm_at "dp"); (case u1 => wtm_at "dp"); (case u2 => wtm_at "shaped"); (case u3 => wtm_at "shaped"))
  | wtm_at "st2"
  | wtm_at "use")
local macro_rules | `(tactic| wtm_at "go") => `(tactic| repeat' (wtm_at "st"))
local macro_rules | `(tactic| wtm_at "go0") => `(tactic| ((try dsimp only [L2.cxOf, L2.Cx.nox, L2.Cx.wish, L2.Cx.tr, L2.Cx.blk]); (try wtm_at "nrm"); wtm_at "go"))
local macro_rules | `(tactic| wtm_at "fin") => `(tactic| ((try dsimp only); first | with_reducible assumption | assumption | ((with_reducible refine' Ret.use ?rur ?rue ?rud); (case rur => with_reducible assumption); (case rue => wtm_at "ex"); (case rud => wtm_at "dp"))))
local macro_rules | `(tactic| wtm_at "ex") => `(tactic| first | with_reducible assumption | with_reducible exact Ex.refl _ | with_reducible exact ex_hid | ((with_reducible refine' Ex.trans ?exe (by with_reducible assumption)); (case exe => wtm_at "ex")) | ((with_reducible refine' Ex.trans ?exe (hid_ex (by with_reducible assumption))); (case exe => wtm_at "ex")) | ((with_reducible refine' Ex.trans ?exe ex_hid); (case exe => wtm_at "ex")))
local macro_rules | `(tactic| wtm_at "bag") => `(tactic| first | with_reducible assumption | ((with_reducible refine' Bag.mono ?bgm (by with_reducible assumption)); (case bgm => wtm_at "bag")))
local macro_rules | `(tactic| wtm_at "hs") => `(tactic| first | with_reducible assumption | ((with_reducible refine' hid_tup ?hb ?hp); (case hp => with_reducible assumption); (case hb => wtm_at "bag")) | ((with_reducible refine' hid_new ?hb ?hn ?hp); (case hp => with_reducible assumption); (case hn => with_reducible assumption); (case hb => wtm_at "bag")) | ((with_reducible refine' ex_at ?exe (by with_reducible assumption)); (case exe => wtm_at "ex")))
local macro_rules | `(tactic| wtm_at "st2") => `(tactic| first
  | ((with_reducible refine' i_mulC ?u0 ?uq); (case u0 => first | exact cmul_l (by decide) | exact cmul_r (by decide)))
  | ((with_reducible refine' i_ixLr (v := ?u0) ?u1 ?u2 ?uq); (case u1 => with_reducible assumption); (case u2 => exact rfl))
  | (with_reducible refine' i_sub ?uq)
  | ((with_reducible refine' i_mkL ?u0 (fun np nH nfr nhe nhp => ?uq)); (case u0 => exact Nat.le_of_ble_eq_true rfl))
  | ((with_reducible refine' i_setL (n := ?u0) ?u1 ?u2 (fun sH sh se => ?uq)); (case u1 => with_reducible assumption); (case u2 => exact rfl))
  | (with_reducible refine' i_sl ?uq)
  | (with_reducible refine' i_nopart ?uq)
  | (with_reducible refine' i_part ?uq)
  | (with_reducible refine' i_part1 ?uq))
local macro_rules | `(tactic| wtm_at "sz2") => `(tactic| ((with_reducible refine' sz_fmod ?sz1 ?sz2); (case sz1 => wtm_at "nz"); (case sz2 => wtm_at "sz")))
local macro_rules | `(tactic| wtm_at "stb") => `(tactic| first
  | ((with_reducible refine' i_mkTB ?u0 ?u1 (fun np nH nhe nhb nhp => ?uq)); (case u0 => exact Nat.le_of_ble_eq_true rfl); (case u1 => wtm_at "bag"))
  | ((with_reducible refine' i_mkLB ?u0 ?u1 (fun np nH nfr nhe nhb nhp => ?uq)); (case u0 => exact Nat.le_of_ble_eq_true rfl); (case u1 => wtm_at "bag"))
  | wtm_at "st")
local macro_rules | `(tactic| wtm_at "gob") => `(tactic| repeat' (wtm_at "stb"))
local macro_rules | `(tactic| wtm_at "gob0") => `(tactic| ((try dsimp only [L2.cxOf, L2.Cx.nox, L2.Cx.wish, L2.Cx.tr, L2.Cx.blk]); (try wtm_at "nrm"); wtm_at "gob"))
local macro_rules | `(tactic| wtm_at "use") => `(tactic| ((with_reducible refine' use_turn_in ?u0 ?u1 ?u2 ?u3 ?u4 ?u5 ?u6 ?u7 ?u8 ?u9 ?u10 ?u11 ?uq); (case u0 => wtm_at "dp"); (case u1 => wtm_at "dp"); (case u2 => wtm_at "dp"); (case u3 => wtm_at "szb"); (case u4 => wtm_at "szb"); (case u5 => wtm_at "szb"); (case u6 => wtm_at "szb"); (case u7 => wtm_at "szb"); (case u8 => wtm_at "szb"); (case u9 => wtm_at "szb"); (case u10 => wtm_at "szb"); (case u11 => wtm_at "szb")))
local macro_rules | `(tactic| wtm_at "use") => `(tactic| ((with_reducible refine' use_step_from ?u0 ?u1 ?u2 ?u3 ?u4 ?u5 ?u6 ?u7 (fun ur uH ue ud => ?uq)); (case u0 => wtm_at "dp"); (case u1 => wtm_at "dp"); (case u2 => wtm_at "szb"); (case u3 => wtm_at "szb"); (case u4 => wtm_at "szb"); (case u5 => wtm_at "szb"); (case u6 => wtm_at "szb"); (case u7 => wtm_at "szb")))
local macro_rules | `(tactic| wtm_at "use") => `(tactic| (with_reducible refine' use_shared_of ?uq))
local macro_rules | `(tactic| wtm_at "use") => `(tactic| ((with_reducible refine' use_is_integer ?u0 ?uq); (case u0 => wtm_at "dp")))
local macro_rules | `(tactic| wtm_at "use") => `(tactic| ((with_reducible refine' use_is_between_in ?u0 ?u1 ?u2 ?u3 ?u4 ?u5 ?u6 ?u7 ?u8 ?u9 ?u10 ?u11 (fun uH ue => ?uq)); (case u0 => wtm_at "dp"); (case u1 => wtm_at "dp"); (case u2 => wtm_at "dp"); (case u3 => wtm_at "szb"); (case u4 => wtm_at "szb"); (case u5 => wtm_at "szb"); (case u6 => wtm_at "szb"); (case u7 => wtm_at "szb"); (case u8 => wtm_at "szb"); (case u9 => wtm_at "szb"); (case u10 => wtm_at "szb"); (case u11 => wtm_at "szb")))
local macro_rules | `(tactic| wtm_at "use") => `(tactic| ((with_reducible refine' use_line_through ?u0 ?u1 ?u2 ?u3 ?u4 ?u5 ?u6 ?u7 (fun ur uH ue ud => ?uq)); (case u0 => wtm_at "dp"); (case u1 => wtm_at "dp"); (case u2 => wtm_at "szb"); (case u3 => wtm_at "szb"); (case u4 => wtm_at "szb"); (case u5 => wtm_at "szb"); (case u6 => wtm_at "szb"); (case u7 => wtm_at "szb")))
local macro_rules | `(tactic| wtm_at "use") => `(tactic| ((with_reducible refine' use_reduced_point ?u0 ?u1 (fun ur uH ue ud => ?uq)); (case u0 => wtm_at "nz"); (case u1 => wtm_at "szb")))
local macro_rules | `(tactic| wtm_at "use") => `(tactic| ((with_reducible refine' use_is_point ?u0 (fun uH ue => ?uq)); (case u0 => wtm_at "dp")))
local macro_rules | `(tactic| wtm_at "use") => `(tactic| ((with_reducible refine' use_line_meet_in ?u0 ?u1 ?u2 ?u3 ?u4 ?u5 ?u6 ?u7 ?u8 ?u9 ?u10 ?u11 ?u12 ?u13 ?u14 ?u15 (fun ur uH ue ud => ?uq)); (case u0 => wtm_at "dp"); (case u1 => wtm_at "dp"); (case u2 => wtm_at "dp"); (case u3 => wtm_at "dp"); (case u4 => wtm_at "szb"); (case u5 => wtm_at "szb"); (case u6 => wtm_at "szb"); (case u7 => wtm_at "szb"); (case u8 => wtm_at "szb"); (case u9 => wtm_at "szb"); (case u10 => wtm_at "szb"); (case u11 => wtm_at "szb"); (case u12 => wtm_at "szb"); (case u13 => wtm_at "szb"); (case u14 => wtm_at "szb"); (case u15 => wtm_at "szb")))
local macro_rules | `(tactic| wtm_at "use") => `(tactic| ((with_reducible refine' use__law_draw ?u0 ?u1 ?u2 (fun dn dH dn0 dn1 de db => ?uq)); (case u0 => wtm_at "bag"); (case u1 => wtm_at "pos"); (case u2 => wtm_at "szb")))
local macro_rules | `(tactic| wtm_at "pos") => `(tactic| first | assumption | decide | omega)
local macro_rules | `(tactic| wtm_at "oneof") => `(tactic| ((with_reducible refine' use__law_one_of ?u0 ?u1 ?u2 ?u3 ?uq); (case u0 => wtm_at "bag"); (case u1 => wtm_at "dp"); (case u2 => exact Nat.le_of_ble_eq_true rfl); (case u3 => exact Nat.le_of_ble_eq_true rfl)))
local macro_rules | `(tactic| wtm_at "use") => `(tactic| ((with_reducible refine' use__law_point ?u0 ?u1 (fun ur uH ue ud => ?uq)); (case u0 => wtm_at "pos"); (case u1 => wtm_at "szb")))
local macro_rules | `(tactic| wtm_at "use") => `(tactic| (with_reducible refine' use__law_shared ?_))
section
variable {P : Program} {w : World} {K : PySem.W.Frag} {mg : Str → Option Value} {base : Heap} {H H' : Hp} {Q : VK} {E : XK} {v1 v2 v3 v4 : V} {x1 y1 w1 x2 y2 w2 x3 y3 w3 x4 y4 w4 : Int}
variable {v5 : V}
theorem i_rep3 {l : Addr} {x : V} (h : H l = some (.lst [x])) (q : ∀ p H2, H p = none → Ex H H2 → H2 p = some (.lst [x, x, x]) → Q (.ref p) H2) : rRep (.ref l) (.int 3) H Q :=
  ⟨l, 3, [x], rfl, rfl, h, by decide, by decide, Evl.sz_of (Nat.le_of_ble_eq_true rfl), fun p hp => q p _ hp (ex_upd hp) upd_same⟩
local macro_rules | `(tactic| wtm_at "st2") => `(tactic| ((with_reducible refine' i_rep3 ?u0 (fun np nH nfr nhe nhp => ?uq)); (case u0 => with_reducible assumption)))
theorem takes0 {X : Cx} : Takes X.nox (fun _ _ _ _ => False) := fun e s x => by
  obtain ⟨_, _, _, _, _, _, _, _, _, _, _, _, _, _, _, _, z⟩ := x
  exact z
local macro_rules | `(tactic| wtm_at "st2") => `(tactic| (with_reducible refine' i_cs ?uq))
def sp__law_span (K : PySem.W.Frag) : Sp := A2 fun v1 v2 H Q => ∃ (b : Addr) (r : Int), v1 = .ref b ∧ v2 = .int r ∧ Bag b H ∧ 0 ≤ r ∧ r ≤ 1000000000 ∧ ∀ x y v H2, Sz 31 x → Sz 31 y → Ex (hid b H) (hid b H2) → Bag b H2 → Dp K (hid b H2) v (.list [.int x, .int y]) → Q v H2
abbrev s__law_span : Stmt := top 40
theorem sc__law_span : FnScope ["_law_bag_here", "_law_reach", "_law_one"] ["_law_bag_here", "_law_reach"] (defScope s__law_span) := ⟨rfl, rfl, rfl, by decide +kernel, rfl, by decide +kernel, by decide +kernel⟩
theorem ok__law_span {f : Addr} {fd : FuncData} (F : FnP K "_law_span" s__law_span f fd) (g : G mg) {CP CO : Addr} (c__law_draw : Cl P w K mg base 1 "_law_draw" (sp__law_draw K)) : FnOk P w K mg base CX0 2 f fd ["_law_bag_here", "_law_reach"] (sp__law_span K) := by
  have nd := sc__law_span.nd
  refine F.ok sc__law_span (fun vs H Q E h => h.len) (fun cdv A outer s H vs Q E hr h => ?_)
  obtain ⟨v1, v2, rfl, h⟩ := h
  refine ⟨_, PSs.nox (pss_cons (ps_set (i := 2) nd rfl (Or.inl rfl) (pe_op op_sub (pc c__law_draw hr (by decide) (by rfl) (pa_cons (pv 0) (pa_cons (pe_op op_add (pe_op op_mul pe_int (pv 1)) pe_int) pa_nil))) (pv 1))) (pss_one (ps_ret (pe_lst (pa_cons (pv 2) (pa_cons (pe_ifExp (pt_cmpR op_eq (pc c__law_draw hr (by decide) (by rfl) (pa_cons (pv 0) (pa_cons pe_int pa_nil))) pe_int (nomark _)) (pv 2) (pe_op op_sub (pc c__law_draw hr (by decide) (by rfl) (pa_cons (pv 0) (pa_cons (pe_op op_add (pe_op op_mul pe_int (pv 1)) pe_int) pa_nil))) (pv 1))) pa_nil)))))), ?_⟩
  obtain ⟨b, r, rfl, rfl, hb, h0, h1, q⟩ := h
  have sr : Sz 60 (2 * r + 1) := by unfold Sz; omega
  wtm_at "gob0"
  all_goals (dsimp only; refine' q _ _ _ _ ?sa ?sb ?fex ?fbg ?fdp; (case fdp => wtm_at "dp"); (case fex => wtm_at "ex"); (case fbg => wtm_at "bag"); (case sa => unfold Sz; omega); (case sb => unfold Sz; omega))
theorem use__law_span {b : Addr} {r : Int} (hb : Bag b H) (h0 : 0 ≤ r) (h1 : r ≤ 1000000000) (q : ∀ x y v H2, Sz 31 x → Sz 31 y → Ex (hid b H) (hid b H2) → Bag b H2 → Dp K (hid b H2) v (.list [.int x, .int y]) → Q v H2) : sp__law_span K [.ref b, .int r] H Q E := ⟨_, _, rfl, _, _, rfl, rfl, hb, h0, h1, q⟩
theorem use_pieces_meet {C : Addr} {x1 y1 w1 x2 y2 w2 x3 y3 w3 x4 y4 w4 : Int} {dd : PyData} (e : pmt (x1, y1, w1) (x2, y2, w2) (x3, y3, w3) (x4, y4, w4) = dd) (h1 : Dp K H v1 (pt x1 y1 w1)) (h2 : Dp K H v2 (pt x2 y2 w2)) (h3 : Dp K H v3 (pt x3 y3 w3)) (h4 : Dp K H v4 (pt x4 y4 w4)) (s1 : SzP (x1, y1, w1)) (s2 : SzP (x2, y2, w2)) (s3 : SzP (x3, y3, w3)) (s4 : SzP (x4, y4, w4))
    (p1 : isPoint (pt x1 y1 w1) = true) (p2 : isPoint (pt x2 y2 w2) = true) (p3 : isPoint (pt x3 y3 w3) = true) (p4 : isPoint (pt x4 y4 w4) = true) (q : ∀ v H2, Ex H H2 → Dp K H2 v dd → Q v H2) : sp_pieces_meet K C [v1, v2, v3, v4] H Q E := by
  subst e
  exact ⟨_, _, _, _, rfl, _, _, _, _, h1, h2, h3, h4, s1, s2, s3, s4, ⟨p1, p2, p3, p4⟩, q⟩
local macro_rules | `(tactic| wtm_at "use") => `(tactic| (first | ((with_reducible refine' use_pieces_meet ?u12 ?u0 ?u1 ?u2 ?u3 ?u4 ?u5 ?u6 ?u7 ?u8 ?u9 ?u10 ?u11 (fun ur uH ue ud => ?uq)); (case u0 => wtm_at "dp"); (case u1 => wtm_at "dp"); (case u2 => wtm_at "dp"); (case u3 => wtm_at "dp"); (case u12 => with_reducible assumption); (case u4 => with_reducible assumption); (case u5 => with_reducible assumption); (case u6 => with_reducible assumption); (case u7 => with_reducible assumption); (case u8 => with_reducible assumption); (case u9 => with_reducible assumption); (case u10 => with_reducible assumption); (case u11 => with_reducible assumption)) | fail))
structure Four (a b c d : Pt) (dd : PyData) : Prop where
  e1 : pmt a b c d = dd
  e2 : pmt b a c d = dd
  e3 : pmt c d b a = dd
  e4 : pmt d c a b = dd
  s1 : SzP a
  s2 : SzP b
  s3 : SzP c
  s4 : SzP d
  p1 : isPoint (dpt a) = true
  p2 : isPoint (dpt b) = true
  p3 : isPoint (dpt c) = true
  p4 : isPoint (dpt d) = true
def sp__law_meets_right (K : PySem.W.Frag) : Sp := A5 fun v1 v2 v3 v4 v5 H Q => ∃ (a b c d : Pt) (es : List Pt), Dp K H v1 (dpt a) ∧ Dp K H v2 (dpt b) ∧ Dp K H v3 (dpt c) ∧ Dp K H v4 (dpt d) ∧ Dp K H v5 (.tuple (es.map dpt)) ∧ es.length ≤ 2 ∧ Four a b c d (.tuple (es.map dpt)) ∧ Ret K (.bool true) H Q
abbrev s__law_meets_right : Stmt := top 41
theorem sc__law_meets_right : FnScope ["_law_one", "_law_two", "_law_three", "_law_four", "_law_due", "_law_told"] ["_law_one", "_law_two", "_law_three", "_law_four", "_law_due"] (defScope s__law_meets_right) := ⟨rfl, rfl, rfl, by decide +kernel, rfl, by decide +kernel, by decide +kernel⟩
theorem ok__law_meets_right {f : Addr} {fd : FuncData} (F : FnP K "_law_meets_right" s__law_meets_right f fd) (g : G mg) {CP CO : Addr} (c_pieces_meet : ClX P w K mg base 6 "pieces_meet" (sp_pieces_meet K CP)) : FnOk P w K mg base CX0 7 f fd ["_law_one", "_law_two", "_law_three", "_law_four", "_law_due"] (sp__law_meets_right K) := by
  have nd := sc__law_meets_right.nd
  refine F.ok sc__law_meets_right (fun vs H Q E h => h.len) (fun cdv A outer s H vs Q E hr h => ?_)
  obtain ⟨v1, v2, v3, v4, v5, rfl, h⟩ := h
  refine ⟨_, PSs.nox (pss_cons (ps_set (i := 5) nd rfl (Or.inl rfl) (pe_lst (pa_cons (pcX c_pieces_meet takes0 hr (by decide) (by rfl) (pa_cons (pv 0) (pa_cons (pv 1) (pa_cons (pv 2) (pa_cons (pv 3) pa_nil))))) (pa_cons (pcX c_pieces_meet takes0 hr (by decide) (by rfl) (pa_cons (pv 1) (pa_cons (pv 0) (pa_cons (pv 2) (pa_cons (pv 3) pa_nil))))) (pa_cons (pcX c_pieces_meet takes0 hr (by decide) (by rfl) (pa_cons (pv 2) (pa_cons (pv 3) (pa_cons (pv 1) (pa_cons (pv 0) pa_nil))))) pa_nil))))) (pss_one (ps_ret (pe_and (pe_cmpR (op_eqD hr.units) (pv 5) (pe_op op_rep (pe_lst (pa_cons (pv 4) pa_nil)) pe_int) (nomark _)) (pe_one (pe_cmpR (op_eqD hr.units) (pcX c_pieces_meet takes0 hr (by decide) (by rfl) (pa_cons (pv 3) (pa_cons (pv 2) (pa_cons (pv 0) (pa_cons (pv 1) pa_nil))))) (pv 4) (nomark _))))))), ?_⟩
  obtain ⟨⟨x1, y1, w1⟩, ⟨x2, y2, w2⟩, ⟨x3, y3, w3⟩, ⟨x4, y4, w4⟩, es, h1, h2, h3, h4, h5, hl, fo, q⟩ := h
  obtain ⟨e1, e2, e3, e4, s1, s2, s3, s4, p1, p2, p3, p4⟩ := fo
  dsimp only [dpt] at h1 h2 h3 h4 p1 p2 p3 p4
  match es, hl with
  | [], _ =>
    dsimp only [List.map] at h5 e1 e2 e3 e4
    wtm_at "go0"
    all_goals first
      | (rename_i hz; exfalso; simp [PyData.eqv, PyData.eqvAll] at hz; done)
      | (dsimp only; refine Ret.bl' q (by wtm_at "ex") ?_; simp [PyData.eqv, PyData.eqvAll])
  | [⟨a1, b1, c1⟩], _ =>
    dsimp only [List.map, dpt] at h5 e1 e2 e3 e4
    wtm_at "go0"
    all_goals first
      | (rename_i hz; exfalso; simp [PyData.eqv, PyData.eqvAll] at hz; done)
      | (dsimp only; refine Ret.bl' q (by wtm_at "ex") ?_; simp [PyData.eqv, PyData.eqvAll])
  | [⟨a1, b1, c1⟩, ⟨a2, b2, c2⟩], _ =>
    dsimp only [List.map, dpt] at h5 e1 e2 e3 e4
    wtm_at "go0"
    all_goals first
      | (rename_i hz; exfalso; simp [PyData.eqv, PyData.eqvAll] at hz; done)
      | (dsimp only; refine Ret.bl' q (by wtm_at "ex") ?_; simp [PyData.eqv, PyData.eqvAll])
theorem use__law_meets_right {a b c d : Pt} {es : List Pt} (h1 : Dp K H v1 (dpt a)) (h2 : Dp K H v2 (dpt b)) (h3 : Dp K H v3 (dpt c)) (h4 : Dp K H v4 (dpt d)) (h5 : Dp K H v5 (.tuple (es.map dpt))) (hl : es.length ≤ 2) (fo : Four a b c d (.tuple (es.map dpt))) (q : ∀ H2, Ex H H2 → Q (.bl true) H2) : sp__law_meets_right K [v1, v2, v3, v4, v5] H Q E := ⟨_, _, _, _, _, rfl, _, _, _, _, _, h1, h2, h3, h4, h5, hl, fo, ret_bl q⟩
end
end Wb

namespace Wb
open PySem PySem.Spec PyProof.Rows L2
open Evl (Ex Ex.refl Ex.trans Ex.new)
local macro_rules | `(tactic| wtm_at "ex") => `(tactic| first | with_reducible assumption | with_reducible exact Ex.refl _ | ((with_reducible refine' Ex.trans ?exe (by with_reducible assumption)); (case exe => wtm_at "ex")))
local macro_rules | `(tactic| wtm_at "hs") => `(tactic| first | with_reducible assumption | ((with_reducible refine' ex_at ?exe (by with_reducible assumption)); (case exe => wtm_at "ex")))
local macro_rules | `(tactic| wtm_at "st2") => `(tactic| first
  | ((with_reducible refine' i_mulC ?u0 ?uq); (case u0 => first | exact cmul_l (by decide) | exact cmul_r (by decide)))
  | ((with_reducible refine' i_mkL ?u0 (fun np nH nfr nhe nhp => ?uq)); (case u0 => exact Nat.le_of_ble_eq_true rfl))
  | (with_reducible refine' i_sl ?uq)
  | (with_reducible refine' i_nopart ?uq)
  | (with_reducible refine' i_part ?uq)
  | (with_reducible refine' i_part1 ?uq))
local macro_rules | `(tactic| wtm_at "sz2") => `(tactic| ((with_reducible refine' sz_fmod ?sz1 ?sz2); (case sz1 => wtm_at "nz"); (case sz2 => wtm_at "sz")))
local macro_rules | `(tactic| wtm_at "dp") => `(tactic| first | with_reducible assumption | with_reducible exact Dp.int _ | with_reducible exact Dp.bl _ | with_reducible exact Dp.str _ | with_reducible exact Dp.non | ((with_reducible refine' dpMono ?dme (by with_reducible assumption)); (case dme => wtm_at "ex")) | ((with_reducible refine' Dp.tup (Evl.st_of ?dph) ?dpa); (case dph => wtm_at "hs"); (case dpa => wtm_at "dpa")) | ((with_reducible refine' Dp.lst (Evl.sq_of ?dph) ?dpa); (case dph => wtm_at "hs"); (case dpa => wtm_at "dpa")))
local macro_rules | `(tactic| wtm_at "dpa") => `(tactic| first | with_reducible exact DpAll.nil | ((with_reducible refine' DpAll.cons ?dp1 ?dp2); (case dp1 => wtm_at "dp"); (case dp2 => wtm_at "dpa")) | with_reducible assumption | ((with_reducible refine' dpMonoA ?dme (by with_reducible assumption)); (case dme => wtm_at "ex")))
local macro_rules | `(tactic| wtm_at "sz") => `(tactic| first | with_reducible assumption | ((with_reducible refine' sz_mul ?sz1 ?sz2); (case sz1 => wtm_at "sz"); (case sz2 => wtm_at "sz")) | ((with_reducible refine' sz_add ?sz1 ?sz2); (case sz1 => wtm_at "sz"); (case sz2 => wtm_at "sz")) | ((with_reducible refine' sz_sub ?sz1 ?sz2); (case sz1 => wtm_at "sz"); (case sz2 => wtm_at "sz")) | ((with_reducible refine' sz_neg ?sz1); (case sz1 => wtm_at "sz")) | ((with_reducible refine' sz_div ?sz1); (case sz1 => wtm_at "sz")) | ((with_reducible refine' sz_fdiv ?sz1); (case sz1 => wtm_at "sz")) | exact sz_lit (by decide) | wtm_at "sz2")
local macro_rules | `(tactic| wtm_at "szb") => `(tactic| first | with_reducible assumption | ((with_reducible refine' sz_mono ?szb1 ?szb2); (case szb1 => wtm_at "sz"); (case szb2 => decide)))
local macro_rules | `(tactic| wtm_at "nz") => `(tactic| first | assumption | decide | omega)
local macro_rules | `(tactic| wtm_at "shaped") => `(tactic| first | rfl | decide)
local macro_rules | `(tactic| wtm_at "sset") => `(tactic| ((dsimp only [L2.wipe, List.set, List.set_cons_zero, List.set_cons_succ]) <;> exact rfl))
local macro_rules | `(tactic| wtm_at "nrm") => `(tactic| dsimp only [L2.start, L2.wipe, List.set, List.append, List.map, List.map_cons, List.map_nil, List.length_cons, List.length_nil, Nat.reduceAdd, Nat.reduceSub, List.reduceReplicate, List.replicate, List.cons_append, List.nil_append, List.set_cons_zero, List.set_cons_succ])
local macro_rules | `(tactic| wtm_at "st") => `(tactic| first
  | ((with_reducible refine' i_var (v := ?u0) ?u1 ?uq); (case u1 => exact rfl))
  | ((with_reducible refine' i_nameN ?u0 ?uq); (case u0 => wtm_at "sset"))
  | (with_reducible refine' i_op ?uq)
  | (with_reducible refine' i_c ?uq)
  | (with_reducible refine' i_I0 ?uq)
  | ((with_reducible refine' i_ixTI (i := ?u0) ?u1 ?u2 ?u3 ?uq); (case u1 => wtm_at "dp"); (case u2 => wtm_at "ex"); (case u3 => exact rfl))
  | ((with_reducible refine' i_ixT (d := ?u0) ?u1 ?u2 ?u3 (fun xu hxu => ?uq)); (case u1 => wtm_at "dp"); (case u2 => wtm_at "ex"); (case u3 => exact rfl))
  | ((with_reducible refine' i_mul ?u0 ?u1 ?u2 ?uq); (case u0 => wtm_at "sz"); (case u1 => wtm_at "sz"); (case u2 => first | decide | omega))
  | (with_reducible refine' i_seq ?uq)
  | (with_reducible refine' i_asg ?uq)
  | (with_reducible refine' i_ret ?uq)
  | (with_reducible refine' i_ifs ?uq)
  | (with_reducible refine' i_drop ?uq)
  | (with_reducible refine' i_next ?uq)
  | (with_reducible refine' i_cons ?uq)
  | (with_reducible refine' i_nil ?uq)
  | (with_reducible refine' i_cl ?uq)
  | (with_reducible refine' i_cb ?uq)
  | (with_reducible refine' i_tup ?uq)
  | (with_reducible refine' i_lst ?uq)
  | ((with_reducible refine' i_mkT ?u0 (fun np nH nhe nhp => ?uq)); (case u0 => exact Nat.le_of_ble_eq_true rfl))
  | (with_reducible refine' i_test ?uq)
  | (with_reducible refine' i_B ?uq)
  | (with_reducible refine' i_k ?uq)
  | (with_reducible refine' i_and ?uq)
  | (with_reducible refine' i_or ?uq)
  | (with_reducible refine' i_not ?uq)
  | (with_reducible refine' i_andV ?uq)
  | (with_reducible refine' i_orV ?uq)
  | (with_reducible refine' i_notV ?uq)
  | (with_reducible refine' i_if ?uq)
  | (with_reducible refine' i_un ?uq)
  | (with_reducible refine' i_U ?uq)
  | (with_reducible refine' i_iteT ?uq)
  | (with_reducible refine' i_iteF ?uq)
  | ((with_reducible refine' i_iteTr ?u0 ?uq); (case u0 => first | with_reducible rfl | decide | (simp only [dIsInt, dIsBool, dIsTup, dIsStr, dIsLst, Bool.not_true, Bool.not_false]; done)))
  | ((with_reducible refine' i_iteFr ?u0 ?uq); (case u0 => first | with_reducible rfl | decide | (simp only [dIsInt, dIsBool, dIsTup, dIsStr, dIsLst, Bool.not_true, Bool.not_false]; done)))
  | (with_reducible refine' i_ite (fun hif => ?uqa) (fun hif => ?uqb))
  | (with_reducible refine' i_iteN (fun hif => ?uqa) (fun hif => ?uqb))
  | (with_reducible refine' i_iteBN (fun hif => ?uqa) (fun hif => ?uqb))
  | (with_reducible refine' i_iteB (fun hif => ?uqa) (fun hif => ?uqb))
  | ((with_reducible refine' i_modN ?u0 ?uq); (case u0 => wtm_at "nz"))
  | ((with_reducible refine' i_fdX ?u0 ?u1 ?u2 ?uq); (case u0 => wtm_at "nz"); (case u1 => wtm_at "sz"); (case u2 => first | decide | omega))
  | ((with_reducible refine' i_pow ?u0 ?uq); (case u0 => exact ⟨by decide, by decide +kernel⟩))
  | (with_reducible refine' i_eqI ?uq)
  | (with_reducible refine' i_neI ?uq)
  | (with_reducible refine' i_gcd ?uq)
  | (with_reducible refine' i_qabs ?uq)
  | (with_reducible refine' i_qint ?uq)
  | (with_reducible refine' i_qintB ?uq)
  | (with_reducible refine' i_qmax2 ?uq)
  | (with_reducible refine' i_qmin2 ?uq)
  | (with_reducible refine' i_isB ?uq)
  | (with_reducible refine' i_notB ?uq)
  | (with_reducible refine' i_chain ?uq)
  | (with_reducible refine' i_qisN ?uq)
  | (with_reducible refine' i_qnotN ?uq)
  | (with_reducible refine' i_yes ?uq)
  | (with_reducible refine' i_par ?uq)
  | (with_reducible refine' i_par3 ?uq)
  | ((with_reducible refine' i_par2 ?u0 ?uq); (case u0 => wtm_at "sset"))
  | ((with_reducible refine' i_par33 ?u0 ?uq); (case u0 => wtm_at "sset"))
  | ((with_reducible refine' i_ixLI (i := ?u0) ?u1 ?u2 ?u3 ?uq); (case u1 => wtm_at "dp"); (case u2 => wtm_at "ex"); (case u3 => exact rfl))
  | ((with_reducible refine' i_ixL (d := ?u0) ?u1 ?u2 ?u3 (fun xu hxu => ?uq)); (case u1 => wtm_at "dp"); (case u2 => wtm_at "ex"); (case u3 => exact rfl))
  | ((with_reducible refine' i_qlenT ?u0 ?uq); (case u0 => wtm_at "dp"))
  | ((with_reducible refine' i_qlenL ?u0 ?uq); (case u0 => wtm_at "dp"))
  | ((with_reducible refine' i_gtup ?u0 ?u1 ?u2 (fun gvs gdp => ?uq)); (case u0 => wtm_at "dp"); (case u1 => wtm_at "ex"); (case u2 => exact rfl))
  | ((with_reducible refine' i_glst ?u0 ?u1 ?u2 (fun gvs gdp => ?uq)); (case u0 => wtm_at "dp"); (case u1 => wtm_at "ex"); (case u2 => exact rfl))
  | ((with_reducible refine' i_gconsI ?u0 (fun gr gh => ?uq)); (case u0 => with_reducible assumption))
  | ((with_reducible refine' i_gconsA ?u0 (fun gv gr gh1 gh2 => ?uq)); (case u0 => with_reducible assumption))
  | ((with_reducible refine' i_gnilA ?u0 ?uq); (case u0 => with_reducible assumption))
  | ((with_reducible refine' i_isiI ?u0 ?uq); (case u0 => wtm_at "dp"))
  | ((with_reducible refine' i_isiB ?u0 ?uq); (case u0 => wtm_at "dp"))
  | ((with_reducible refine' i_isiT ?u0 ?uq); (case u0 => wtm_at "dp"))
  | ((with_reducible refine' i_isiS ?u0 ?uq); (case u0 => wtm_at "dp"))
  | ((with_reducible refine' i_isiL ?u0 ?uq); (case u0 => wtm_at "dp"))
  | ((with_reducible refine' i_eqD ?u0 ?u1 ?u2 ?u3 ?uq); (case u0 => wtm_at "dp"); (case u1 => wtm_at "dp"); (case u2 => wtm_at "shaped"); (case u3 => wtm_at "shaped"))
  | ((with_reducible refine' i_neD ?u0 ?u1 ?u2 ?u3 ?uq); (case u0 => wtm_at "dp"); (case u1 => wtm_at "dp"); (case u2 => wtm_at "shaped"); (case u3 => wtm_at "shaped"))
  | wtm_at "st2"
  | wtm_at "use")
local macro_rules | `(tactic| wtm_at "go") => `(tactic| repeat' (wtm_at "st"))
local macro_rules | `(tactic| wtm_at "go0") => `(tactic| ((try dsimp only [L2.cxOf, L2.Cx.nox, L2.Cx.wish, L2.Cx.tr, L2.Cx.blk]); (try wtm_at "nrm"); wtm_at "go"))
local macro_rules | `(tactic| wtm_at "fin") => `(tactic| ((try dsimp only); first | with_reducible assumption | assumption | ((with_reducible refine' Ret.use ?rur ?rue ?rud); (case rur => with_reducible assumption); (case rue => wtm_at "ex"); (case rud => wtm_at "dp"))))
local macro_rules | `(tactic| wtm_at "use") => `(tactic| ((with_reducible refine' use_turn_in ?u0 ?u1 ?u2 ?u3 ?u4 ?u5 ?u6 ?u7 ?u8 ?u9 ?u10 ?u11 ?uq); (case u0 => wtm_at "dp"); (case u1 => wtm_at "dp"); (case u2 => wtm_at "dp"); (case u3 => wtm_at "szb"); (case u4 => wtm_at "szb"); (case u5 => wtm_at "szb"); (case u6 => wtm_at "szb"); (case u7 => wtm_at "szb"); (case u8 => wtm_at "szb"); (case u9 => wtm_at "szb"); (case u10 => wtm_at "szb"); (case u11 => wtm_at "szb")))
local macro_rules | `(tactic| wtm_at "use") => `(tactic| ((with_reducible refine' use_step_from ?u0 ?u1 ?u2 ?u3 ?u4 ?u5 ?u6 ?u7 (fun ur uH ue ud => ?uq)); (case u0 => wtm_at "dp"); (case u1 => wtm_at "dp"); (case u2 => wtm_at "szb"); (case u3 => wtm_at "szb"); (case u4 => wtm_at "szb"); (case u5 => wtm_at "szb"); (case u6 => wtm_at "szb"); (case u7 => wtm_at "szb")))
local macro_rules | `(tactic| wtm_at "use") => `(tactic| (with_reducible refine' use_shared_of ?uq))
local macro_rules | `(tactic| wtm_at "use") => `(tactic| ((with_reducible refine' use_is_integer ?u0 ?uq); (case u0 => wtm_at "dp")))
local macro_rules | `(tactic| wtm_at "use") => `(tactic| ((with_reducible refine' use_is_between_in ?u0 ?u1 ?u2 ?u3 ?u4 ?u5 ?u6 ?u7 ?u8 ?u9 ?u10 ?u11 (fun uH ue => ?uq)); (case u0 => wtm_at "dp"); (case u1 => wtm_at "dp"); (case u2 => wtm_at "dp"); (case u3 => wtm_at "szb"); (case u4 => wtm_at "szb"); (case u5 => wtm_at "szb"); (case u6 => wtm_at "szb"); (case u7 => wtm_at "szb"); (case u8 => wtm_at "szb"); (case u9 => wtm_at "szb"); (case u10 => wtm_at "szb"); (case u11 => wtm_at "szb")))
local macro_rules | `(tactic| wtm_at "use") => `(tactic| ((with_reducible refine' use_line_through ?u0 ?u1 ?u2 ?u3 ?u4 ?u5 ?u6 ?u7 (fun ur uH ue ud => ?uq)); (case u0 => wtm_at "dp"); (case u1 => wtm_at "dp"); (case u2 => wtm_at "szb"); (case u3 => wtm_at "szb"); (case u4 => wtm_at "szb"); (case u5 => wtm_at "szb"); (case u6 => wtm_at "szb"); (case u7 => wtm_at "szb")))
local macro_rules | `(tactic| wtm_at "use") => `(tactic| ((with_reducible refine' use_reduced_point ?u0 ?u1 (fun ur uH ue ud => ?uq)); (case u0 => wtm_at "nz"); (case u1 => wtm_at "szb")))
local macro_rules | `(tactic| wtm_at "use") => `(tactic| ((with_reducible refine' use_is_point ?u0 (fun uH ue => ?uq)); (case u0 => wtm_at "dp")))
local macro_rules | `(tactic| wtm_at "use") => `(tactic| ((with_reducible refine' use_line_meet_in ?u0 ?u1 ?u2 ?u3 ?u4 ?u5 ?u6 ?u7 ?u8 ?u9 ?u10 ?u11 ?u12 ?u13 ?u14 ?u15 (fun ur uH ue ud => ?uq)); (case u0 => wtm_at "dp"); (case u1 => wtm_at "dp"); (case u2 => wtm_at "dp"); (case u3 => wtm_at "dp"); (case u4 => wtm_at "szb"); (case u5 => wtm_at "szb"); (case u6 => wtm_at "szb"); (case u7 => wtm_at "szb"); (case u8 => wtm_at "szb"); (case u9 => wtm_at "szb"); (case u10 => wtm_at "szb"); (case u11 => wtm_at "szb"); (case u12 => wtm_at "szb"); (case u13 => wtm_at "szb"); (case u14 => wtm_at "szb"); (case u15 => wtm_at "szb")))
section
variable {P : Program} {w : World} {K : PySem.W.Frag} {mg : Str → Option Value} {base : Heap} {H H' : Hp} {Q : VK} {E : XK} {v1 v2 v3 v4 : V} {x1 y1 w1 x2 y2 w2 x3 y3 w3 x4 y4 w4 : Int}
variable {v5 : V} {sx sy sw ux uy vx vy : Int}
local macro_rules | `(tactic| wtm_at "use") => `(tactic| ((with_reducible refine' use__law_spotD ?u0 ?u1 ?u2 ?u3 ?u4 ?u5 (fun pv pH pe pd => ?uq)); (case u0 => wtm_at "dp"); (case u1 => with_reducible assumption); (case u2 => wtm_at "pos"); (case u3 => wtm_at "szb"); (case u4 => wtm_at "szb"); (case u5 => wtm_at "szb")))
local macro_rules | `(tactic| wtm_at "pos") => `(tactic| first | assumption | decide | omega)
theorem i_minD {v : V} {a b : Int} (h : Dp K H v (.list [.int a, .int b])) (q : Q (.int (min a b)) H) : rMin K [v] H Q := by
  obtain ⟨l, vs, rfl, hs, hd⟩ := dpLst h
  rw [dpInts (ns := [a, b]) hd] at hs
  refine ⟨l, [a, b], rfl, hs, by simp, fun m hm hle => ?_⟩
  have h1 := hle a (by simp)
  have h2 := hle b (by simp)
  simp only [List.mem_cons, List.not_mem_nil, or_false] at hm
  have e : m = min a b := by omega
  rw [e]
  exact q
theorem i_maxD {v : V} {a b : Int} (h : Dp K H v (.list [.int a, .int b])) (q : Q (.int (max a b)) H) : rMax K [v] H Q := by
  obtain ⟨l, vs, rfl, hs, hd⟩ := dpLst h
  rw [dpInts (ns := [a, b]) hd] at hs
  refine ⟨l, [a, b], rfl, hs, by simp, fun m hm hle => ?_⟩
  have h1 := hle a (by simp)
  have h2 := hle b (by simp)
  simp only [List.mem_cons, List.not_mem_nil, or_false] at hm
  have e : m = max a b := by omega
  rw [e]
  exact q
local macro_rules | `(tactic| wtm_at "st2") => `(tactic| (first | ((with_reducible refine' i_minD ?u0 ?uq); (case u0 => wtm_at "dp")) | fail))
local macro_rules | `(tactic| wtm_at "st2") => `(tactic| (first | ((with_reducible refine' i_maxD ?u0 ?uq); (case u0 => wtm_at "dp")) | fail))
theorem mul_np (a b : Int) : a * b ≤ 0 ↔ min a b ≤ 0 ∧ 0 ≤ max a b := by
  rcases Int.lt_trichotomy a 0 with h | h | h <;> rcases Int.lt_trichotomy b 0 with k | k | k
  · have := Int.mul_pos_of_neg_of_neg h k; omega
  · subst k; simp; omega
  · have := Int.mul_neg_of_neg_of_pos h k; omega
  · subst h; simp; omega
  · subst h; simp; omega
  · subst h; simp; omega
  · have := Int.mul_neg_of_pos_of_neg h k; omega
  · subst k; simp; omega
  · have := Int.mul_pos h k; omega
theorem Spt.sz {a b o : Int} {p : Pt} (t : SpP sx sy sw ux uy vx vy a b o p) : SzP p := ⟨t.s1, t.s2, t.s3⟩
theorem four_cross {a b c d o : Int} {p q r s m : Pt} (fo : FrOk sx sy sw ux uy vx vy) (ho : 0 < o) (t1 : SpP sx sy sw ux uy vx vy a 0 o p) (t2 : SpP sx sy sw ux uy vx vy b 0 o q) (t3 : SpP sx sy sw ux uy vx vy 0 c o r) (t4 : SpP sx sy sw ux uy vx vy 0 d o s) (t5 : SpP sx sy sw ux uy vx vy 0 0 1 m) :
    Four p q r s (if a * b ≤ 0 ∧ c * d ≤ 0 then .tuple [dpt m] else .tuple []) := by
  refine ⟨cross_pm fo ho t1 t2 t3 t4 t5, ?_, ?_, ?_, t1.sz, t2.sz, t3.sz, t4.sz, t1.p, t2.p, t3.p, t4.p⟩
  · rw [cross_pm fo ho t2 t1 t3 t4 t5, Int.mul_comm b a]
  · rw [cross_pm fo.swap ho t3.swap t4.swap t2.swap t1.swap t5.swap, Int.mul_comm b a]
    simp only [and_comm]
  · rw [cross_pm fo.swap ho t4.swap t3.swap t1.swap t2.swap t5.swap, Int.mul_comm d c]
    simp only [and_comm]
def sp__law_cross_right (K : PySem.W.Frag) : Sp := A4 fun v1 v2 v3 v4 H Q => ∃ sx sy sw ux uy vx vy a b c d o : Int, v4 = .int o ∧ Dp K H v1 (fr sx sy sw ux uy vx vy) ∧ Dp K H v2 (.list [.int a, .int b]) ∧ Dp K H v3 (.list [.int c, .int d]) ∧ FrOk sx sy sw ux uy vx vy ∧ 0 < o ∧ (Sz 31 a ∧ Sz 31 b ∧ Sz 31 c ∧ Sz 31 d) ∧ Sz 4 o ∧ Ret K (.bool true) H Q
abbrev s__law_cross_right : Stmt := top 42
theorem sc__law_cross_right : FnScope ["_law_frame_here", "_law_along", "_law_aside", "_law_over", "_law_one", "_law_two", "_law_three", "_law_four", "_law_reaches", "_law_part"] ["_law_frame_here", "_law_along", "_law_aside", "_law_over"] (defScope s__law_cross_right) := ⟨rfl, rfl, rfl, by decide +kernel, rfl, by decide +kernel, by decide +kernel⟩
theorem ok__law_cross_right {f : Addr} {fd : FuncData} (F : FnP K "_law_cross_right" s__law_cross_right f fd) (g : G mg) (c__law_meets_right : Cl P w K mg base 7 "_law_meets_right" (sp__law_meets_right K)) (c__law_spot : Cl P w K mg base 3 "_law_spot" (sp__law_spot K))  : FnOk P w K mg base CX0 8 f fd ["_law_frame_here", "_law_along", "_law_aside", "_law_over"] (sp__law_cross_right K) := by
  have nd := sc__law_cross_right.nd
  refine F.ok sc__law_cross_right (fun vs H Q E h => h.len) (fun cdv A outer s H vs Q E hr h => ?_)
  obtain ⟨v1, v2, v3, v4, rfl, h⟩ := h
  refine ⟨_, PSs.nox (pss_cons (ps_asg (pe_lc (own := [("_law_part", 9)]) (g := gName 9) (by rfl) nd (pi_list (pv 1)) (blkOk_by (N := ["_law_frame_here", "_law_along", "_law_aside", "_law_over", "_law_one", "_law_two", "_law_three", "_law_four", "_law_reaches", "_law_part"]) (sc := defScope s__law_cross_right) (own := [("_law_part", 9)]) (by decide +kernel)) (fun _ _ _ _ _ => (pg_name (i := 9) nd rfl (Or.inl rfl))) (fun _ _ _ _ _ => pts_nil) (fun _ _ _ _ _ => (pc c__law_spot hr (by decide) (by rfl) (pa_cons (pv 0) (pa_cons (pv 9) (pa_cons pe_int (pa_cons (pv 3) pa_nil))))))) (pg_lst (n := 2) (by rfl) (pgs_cons (pg_name (i := 4) nd rfl (Or.inl rfl)) (pgs_cons (pg_name (i := 5) nd rfl (Or.inl rfl)) pgs_nil)))) (pss_cons (ps_asg (pe_lc (own := [("_law_part", 9)]) (g := gName 9) (by rfl) nd (pi_list (pv 2)) (blkOk_by (N := ["_law_frame_here", "_law_along", "_law_aside", "_law_over", "_law_one", "_law_two", "_law_three", "_law_four", "_law_reaches", "_law_part"]) (sc := defScope s__law_cross_right) (own := [("_law_part", 9)]) (by decide +kernel)) (fun _ _ _ _ _ => (pg_name (i := 9) nd rfl (Or.inl rfl))) (fun _ _ _ _ _ => pts_nil) (fun _ _ _ _ _ => (pc c__law_spot hr (by decide) (by rfl) (pa_cons (pv 0) (pa_cons pe_int (pa_cons (pv 9) (pa_cons (pv 3) pa_nil))))))) (pg_lst (n := 2) (by rfl) (pgs_cons (pg_name (i := 6) nd rfl (Or.inl rfl)) (pgs_cons (pg_name (i := 7) nd rfl (Or.inl rfl)) pgs_nil)))) (pss_cons (ps_set (i := 8) nd rfl (Or.inl rfl) (pe_and (pe_chain op_le op_le (pe_callB (cr_min rfl) (by rfl) g.f_min boot_min (pa_cons (pv 1) pa_nil)) pe_int (pe_callB (cr_max rfl) (by rfl) g.f_max boot_max (pa_cons (pv 1) pa_nil))) (pe_one (pe_chain op_le op_le (pe_callB (cr_min rfl) (by rfl) g.f_min boot_min (pa_cons (pv 2) pa_nil)) pe_int (pe_callB (cr_max rfl) (by rfl) g.f_max boot_max (pa_cons (pv 2) pa_nil)))))) (pss_one (ps_ret (pc c__law_meets_right hr (by decide) (by rfl) (pa_cons (pv 4) (pa_cons (pv 5) (pa_cons (pv 6) (pa_cons (pv 7) (pa_cons (pe_ifExp (pt_val (pv 8)) (pe_tup (pa_cons (pc c__law_spot hr (by decide) (by rfl) (pa_cons (pv 0) (pa_cons pe_int (pa_cons pe_int (pa_cons pe_int pa_nil))))) pa_nil)) (pe_tup pa_nil)) pa_nil))))))))))), ?_⟩
  obtain ⟨sx, sy, sw, ux, uy, vx, vy, a, b, c, d, o, rfl, hd, ha, hb, fo, ho, ⟨sa, sb, sc, sd⟩, so, q⟩ := h
  have sa4 : Sz 34 a := sz_mono sa (by decide)
  have sb4 : Sz 34 b := sz_mono sb (by decide)
  have sc4 : Sz 34 c := sz_mono sc (by decide)
  have sd4 : Sz 34 d := sz_mono sd (by decide)
  have sz0 : Sz 34 0 := by unfold Sz; decide
  have sz1 : Sz 4 1 := by unfold Sz; decide
  obtain ⟨x1, y1, w1, r1, t1⟩ := spt_of fo ho sa4 sz0 so
  obtain ⟨x2, y2, w2, r2, t2⟩ := spt_of fo ho sb4 sz0 so
  obtain ⟨x3, y3, w3, r3, t3⟩ := spt_of fo ho sz0 sc4 so
  obtain ⟨x4, y4, w4, r4, t4⟩ := spt_of fo ho sz0 sd4 so
  obtain ⟨x5, y5, w5, r5, t5⟩ := spt_of fo (show (0 : Int) < 1 by decide) sz0 sz0 sz1
  wtm_at "go0"
  refine i_lcM ?_
  wtm_at "go"
  refine i_lcL (fun _ => true) (fun d => match d with | .int a => rs sx sy sw ux uy vx vy a 0 o | _ => .none) ha (Nat.le_of_ble_eq_true rfl) ?_ (fun x => rfl) ?_ ?_ ?_
  · intro d hd
    simp only [List.mem_cons, List.not_mem_nil, or_false] at hd
    rcases hd with rfl | rfl <;> rfl
  · intro u d H2 R e2 hd hu r
    wtm_at "go"
    exact r _ (Ex.refl _)
  · intro u d H2 R e2 hd _ hu r
    simp only [List.mem_cons, List.not_mem_nil, or_false] at hd
    rcases hd with rfl | rfl
    all_goals
      cases dpInt hu
      wtm_at "nrm"
      wtm_at "go"
      exact r _ _ (by wtm_at "ex") (by assumption)
  intro p H2 hn e2 ⟨acc, hacc, hdp⟩
  have hdp2 : DpAll K H2 acc [pt x1 y1 w1, pt x2 y2 w2] := by rw [← r1, ← r2]; exact hdp
  have hl : Dp K H2 (.ref p) (.list [pt x1 y1 w1, pt x2 y2 w2]) := .lst (Evl.sq_of hacc) hdp2
  clear hdp hdp2
  wtm_at "go"
  rename_i _ _ g1 _ k1 _ g2 _ k2 _
  refine i_lcM ?_
  wtm_at "go"
  refine i_lcL (fun _ => true) (fun d => match d with | .int a => rs sx sy sw ux uy vx vy 0 a o | _ => .none) (dpMono e2 hb) (Nat.le_of_ble_eq_true rfl) ?_ (fun x => rfl) ?_ ?_ ?_
  · intro d hd
    simp only [List.mem_cons, List.not_mem_nil, or_false] at hd
    rcases hd with rfl | rfl <;> rfl
  · intro u d H2 R e2 hd hu r
    wtm_at "go"
    exact r _ (Ex.refl _)
  · intro u d H2 R e2 hd _ hu r
    simp only [List.mem_cons, List.not_mem_nil, or_false] at hd
    rcases hd with rfl | rfl
    all_goals
      cases dpInt hu
      wtm_at "nrm"
      wtm_at "go"
      exact r _ _ (by wtm_at "ex") (by assumption)
  intro p' H3 hn' e3 ⟨acc', hacc', hdp'⟩
  have hdp3 : DpAll K H3 acc' [pt x3 y3 w3, pt x4 y4 w4] := by rw [← r3, ← r4]; exact hdp'
  have hl' : Dp K H3 (.ref p') (.list [pt x3 y3 w3, pt x4 y4 w4]) := .lst (Evl.sq_of hacc') hdp3
  clear hdp' hdp3
  have f4 := four_cross (p := (x1, y1, w1)) (q := (x2, y2, w2)) (r := (x3, y3, w3)) (s := (x4, y4, w4)) (m := (x5, y5, w5)) fo ho t1 t2 t3 t4 t5
  simp only [mul_np] at f4
  wtm_at "go"
  · rename_i pv pH pe pd np nH nhe nhp
    rw [r5] at pd
    rw [if_pos (by omega)] at f4
    refine' use__law_meets_right (es := [(x5, y5, w5)]) ?g1 ?g2 ?g3 ?g4 ?g5 (Nat.le_of_ble_eq_true rfl) f4 (fun H4 e4 => ?g6)
    (case g1 => wtm_at "dp")
    (case g2 => wtm_at "dp")
    (case g3 => wtm_at "dp")
    (case g4 => wtm_at "dp")
    (case g5 => dsimp only [List.map]; wtm_at "dp")
    (case g6 => exact q _ _ (by wtm_at "ex") (Dp.bl _))
  all_goals
    rw [if_neg (by omega)] at f4
    refine' use__law_meets_right (es := []) ?g1 ?g2 ?g3 ?g4 ?g5 (by decide) f4 (fun H4 e4 => ?g6)
    (case g1 => wtm_at "dp")
    (case g2 => wtm_at "dp")
    (case g3 => wtm_at "dp")
    (case g4 => wtm_at "dp")
    (case g5 => dsimp only [List.map]; wtm_at "dp")
    (case g6 => exact q _ _ (by wtm_at "ex") (Dp.bl _))
theorem use__law_cross_right {a b c d o : Int} (hd : Dp K H v1 (fr sx sy sw ux uy vx vy)) (ha : Dp K H v2 (.list [.int a, .int b])) (hb : Dp K H v3 (.list [.int c, .int d])) (fo : FrOk sx sy sw ux uy vx vy) (ho : 0 < o) (sa : Sz 31 a) (sb : Sz 31 b) (sc : Sz 31 c) (sd : Sz 31 d) (so : Sz 4 o) (q : ∀ H2, Ex H H2 → Q (.bl true) H2) : sp__law_cross_right K [v1, v2, v3, .int o] H Q E :=
  ⟨_, _, _, _, rfl, _, _, _, _, _, _, _, _, _, _, _, _, rfl, hd, ha, hb, fo, ho, ⟨sa, sb, sc, sd⟩, so, ret_bl q⟩
end
end Wb

namespace Wb
open PySem PySem.Spec PyProof.Rows L2
open Evl (Ex Ex.refl Ex.trans Ex.new)
theorem dl_ints : ∀ ns ms : List Int, ns.length = ms.length → PyProof.Rows.lexLt PyProof.Rows.itemOrd (PySem.W.keyToksAll (ns.map .int)) (PySem.W.keyToksAll (ms.map .int)) = HT.lexLt ns ms
  | [], [], _ => by decide +kernel
  | n :: ns, m :: ms, h => by
    have hl : ns.length = ms.length := by simpa using h
    rw [List.map_cons, List.map_cons, HT.lexLt_cons]
    by_cases e : n = m
    · rw [if_pos e, PySem.W.dataLt_all_yes rfl (by subst e; simp [PyData.eqv])]
      exact dl_ints ns ms hl
    · rw [if_neg e, PySem.W.dataLt_all_no rfl (by simp [PyData.eqv, e]), PySem.W.dataLt_int]
theorem dl_pt (p q : Pt) : PySem.W.dataLt (dpt p) (dpt q) = HT.lexLt [p.1, p.2.1, p.2.2] [q.1, q.2.1, q.2.2] := by
  show PySem.W.dataLt (.tuple [.int p.1, .int p.2.1, .int p.2.2]) (.tuple [.int q.1, .int q.2.1, .int q.2.2]) = _
  rw [PySem.W.dataLt_tuple]
  exact dl_ints [p.1, p.2.1, p.2.2] [q.1, q.2.1, q.2.2] rfl
/-- the less and the greater of two points -/
theorem ends_pair {p q : Pt} (h : p ≠ q) : .tuple [PySem.W.minD (dpt p) [dpt q], PySem.W.maxD (dpt p) [dpt q]] = pairT p q := by
  show PyData.tuple [if PySem.W.dataLt (dpt q) (dpt p) then dpt q else dpt p, if PySem.W.dataLt (dpt p) (dpt q) then dpt q else dpt p] = _
  rw [dl_pt, dl_pt]
  unfold pairT
  obtain ⟨a, b, c⟩ := p
  obtain ⟨a', b', c'⟩ := q
  have hn : ¬ (a = a' ∧ b = b' ∧ c = c') := fun ⟨z1, z2, z3⟩ => h (by rw [z1, z2, z3])
  dsimp only
  rw [lexLt3, lexLt3]
  by_cases k : a < a' ∨ (a = a' ∧ (b < b' ∨ (b = b' ∧ c < c')))
  · rw [if_neg (by rw [decide_eq_true_eq]; omega), if_pos (decide_eq_true k), if_pos (decide_eq_true k)]
  · rw [if_pos (by rw [decide_eq_true_eq]; omega), if_neg (by rw [decide_eq_true_eq]; exact k), if_neg (by rw [decide_eq_true_eq]; exact k)]
section
variable {sx sy sw ux uy vx vy : Int}
/-- pieces beside one another -/
theorem side_pm2 {a b c d f g o : Int} {p q r s : Pt} (fo : FrOk sx sy sw ux uy vx vy) (ho : 0 < o) (he : g ≠ f) (t1 : SpP sx sy sw ux uy vx vy a f o p) (t2 : SpP sx sy sw ux uy vx vy b f o q) (t3 : SpP sx sy sw ux uy vx vy c g o r) (t4 : SpP sx sy sw ux uy vx vy d g o s) : pmt p q r s = .tuple [] := by
  have hne : ∀ {x k : Int}, k ≠ 0 → ¬ ((x * ux + k * vx) * (x * ux + k * vx) + (x * uy + k * vy) * (x * uy + k * vy) ≤ 0) := by
    intro x k hf h
    obtain ⟨k1, k2⟩ := sq_zero h
    have k3 : k * (ux * vy - uy * vx) = 0 := by grind
    rcases Int.mul_eq_zero.mp k3 with z | z
    · exact hf z
    · exact fo.det (by omega)
  unfold pmt
  by_cases hab : PyData.eqv (dpt p) (dpt q) = true
  · rw [if_pos hab, if_neg]
    rw [btw_math fo.w fo.det ho t1.lo t3.lo t4.lo, Bool.and_eq_true, decide_eq_true_eq, decide_eq_true_eq]
    rintro ⟨h1, h2⟩
    have h3 : (g - f) * (c - d) = 0 := by grind
    have h4 : d = c := by
      rcases Int.mul_eq_zero.mp h3 with k | k
      · omega
      · omega
    subst h4
    exact hne (x := d - a) (k := g - f) (by omega) h2
  · rw [if_neg hab]
    have hab' : a ≠ b := fun z => by
      subst z
      obtain rfl := spt_eq fo ho t1 t2
      exact hab (eqv_pt.mpr ⟨rfl, rfl, rfl⟩)
    by_cases hcd : PyData.eqv (dpt r) (dpt s) = true
    · rw [if_pos hcd, if_neg]
      rw [btw_math fo.w fo.det ho t3.lo t1.lo t2.lo, Bool.and_eq_true, decide_eq_true_eq, decide_eq_true_eq]
      rintro ⟨h1, h2⟩
      have h3 : (g - f) * (b - a) = 0 := by grind
      rcases Int.mul_eq_zero.mp h3 with k | k
      · omega
      · omega
    · rw [if_neg hcd]
      have z1 := turn_math fo.w ho t1.lo t2.lo t3.lo
      have z2 := turn_math fo.w ho t1.lo t2.lo t4.lo
      have e1 : ∀ z : Int, (b - a) * (g - f) - (f - f) * (z - a) = (b - a) * (g - f) := fun z => by grind
      rw [e1] at z1 z2
      have n1 : (b - a) * (g - f) ≠ 0 := Int.mul_ne_zero (by omega) (by omega)
      have s1 := sgn_sq n1
      have s2 := sgn_sq (s := ux * vy - uy * vx) (by have := fo.det; omega)
      rw [z1, z2]
      have pos : sgn ((b - a) * (g - f)) * sgn (ux * vy - uy * vx) * (sgn ((b - a) * (g - f)) * sgn (ux * vy - uy * vx)) = 1 := by grind
      rw [if_neg, if_pos (.inl (by rw [pos]; decide))]
      rintro ⟨k1, _⟩
      rw [k1] at pos
      simp at pos
/-- what is due of two pieces along one step -/
def lineDue (side lo hi : Int) (ml mh : Pt) : PyData := if side = 0 ∧ lo ≤ hi then (if lo = hi then .tuple [dpt ml] else pairT ml mh) else .tuple []
theorem four_line {a b c d e o lo hi : Int} {p q r s ml mh : Pt} (fo : FrOk sx sy sw ux uy vx vy) (ho : 0 < o) (t1 : SpP sx sy sw ux uy vx vy a 0 o p) (t2 : SpP sx sy sw ux uy vx vy b 0 o q) (t3 : SpP sx sy sw ux uy vx vy c e o r) (t4 : SpP sx sy sw ux uy vx vy d e o s)
    (tl : SpP sx sy sw ux uy vx vy lo 0 o ml) (th : SpP sx sy sw ux uy vx vy hi 0 o mh) (hlo : lo = max (min a b) (min c d)) (hhi : hi = min (max a b) (max c d)) : Four p q r s (lineDue e lo hi ml mh) := by
  unfold lineDue
  by_cases he : e = 0
  · subst he
    have red : (if (0 : Int) = 0 ∧ lo ≤ hi then (if lo = hi then PyData.tuple [dpt ml] else pairT ml mh) else .tuple []) = if lo ≤ hi then (if lo = hi then .tuple [dpt ml] else pairT ml mh) else .tuple [] := by
      by_cases k : lo ≤ hi
      · rw [if_pos ⟨rfl, k⟩, if_pos k]
      · rw [if_neg (fun z => k z.2), if_neg k]
    rw [red]
    exact ⟨line_pm fo ho t1 t2 t3 t4 tl th hlo hhi, line_pm fo ho t2 t1 t3 t4 tl th (by omega) (by omega), line_pm fo ho t3 t4 t2 t1 tl th (by omega) (by omega), line_pm fo ho t4 t3 t1 t2 tl th (by omega) (by omega), t1.sz, t2.sz, t3.sz, t4.sz, t1.p, t2.p, t3.p, t4.p⟩
  · rw [if_neg (fun z => he z.1)]
    exact ⟨side_pm fo ho he t1 t2 t3 t4, side_pm fo ho he t2 t1 t3 t4, side_pm2 fo ho (fun z => he z.symm) t3 t4 t2 t1, side_pm2 fo ho (fun z => he z.symm) t4 t3 t1 t2, t1.sz, t2.sz, t3.sz, t4.sz, t1.p, t2.p, t3.p, t4.p⟩
end
end Wb

namespace Wb
open PySem PySem.Spec PyProof.Rows L2
open Evl (Ex Ex.refl Ex.trans Ex.new)
local macro_rules | `(tactic| wtm_at "ex") => `(tactic| first | with_reducible assumption | with_reducible exact Ex.refl _ | ((with_reducible refine' Ex.trans ?exe (by with_reducible assumption)); (case exe => wtm_at "ex")))
local macro_rules | `(tactic| wtm_at "hs") => `(tactic| first | with_reducible assumption | ((with_reducible refine' ex_at ?exe (by with_reducible assumption)); (case exe => wtm_at "ex")))
local macro_rules | `(tactic| wtm_at "st2") => `(tactic| first
  | ((with_reducible refine' i_mulC ?u0 ?uq); (case u0 => first | exact cmul_l (by decide) | exact cmul_r (by decide)))
  | ((with_reducible refine' i_mkL ?u0 (fun np nH nfr nhe nhp => ?uq)); (case u0 => exact Nat.le_of_ble_eq_true rfl))
  | (with_reducible refine' i_sl ?uq)
  | (with_reducible refine' i_nopart ?uq)
  | (with_reducible refine' i_part ?uq)
  | (with_reducible refine' i_part1 ?uq))
local macro_rules | `(tactic| wtm_at "sz2") => `(tactic| ((with_reducible refine' sz_fmod ?sz1 ?sz2); (case sz1 => wtm_at "nz"); (case sz2 => wtm_at "sz")))
local macro_rules | `(tactic| wtm_at "dp") => `(tactic| first | with_reducible assumption | with_reducible exact Dp.int _ | with_reducible exact Dp.bl _ | with_reducible exact Dp.str _ | with_reducible exact Dp.non | ((with_reducible refine' dpMono ?dme (by with_reducible assumption)); (case dme => wtm_at "ex")) | ((with_reducible refine' Dp.tup (Evl.st_of ?dph) ?dpa); (case dph => wtm_at "hs"); (case dpa => wtm_at "dpa")) | ((with_reducible refine' Dp.lst (Evl.sq_of ?dph) ?dpa); (case dph => wtm_at "hs"); (case dpa => wtm_at "dpa")))
local macro_rules | `(tactic| wtm_at "dpa") => `(tactic| first | with_reducible exact DpAll.nil | ((with_reducible refine' DpAll.cons ?dp1 ?dp2); (case dp1 => wtm_at "dp"); (case dp2 => wtm_at "dpa")) | with_reducible assumption | ((with_reducible refine' dpMonoA ?dme (by with_reducible assumption)); (case dme => wtm_at "ex")))
local macro_rules | `(tactic| wtm_at "sz") => `(tactic| first | with_reducible assumption | ((with_reducible refine' sz_mul ?sz1 ?sz2); (case sz1 => wtm_at "sz"); (case sz2 => wtm_at "sz")) | ((with_reducible refine' sz_add ?sz1 ?sz2); (case sz1 => wtm_at "sz"); (case sz2 => wtm_at "sz")) | ((with_reducible refine' sz_sub ?sz1 ?sz2); (case sz1 => wtm_at "sz"); (case sz2 => wtm_at "sz")) | ((with_reducible refine' sz_neg ?sz1); (case sz1 => wtm_at "sz")) | ((with_reducible refine' sz_div ?sz1); (case sz1 => wtm_at "sz")) | ((with_reducible refine' sz_fdiv ?sz1); (case sz1 => wtm_at "sz")) | exact sz_lit (by decide) | wtm_at "sz2")
local macro_rules | `(tactic| wtm_at "szb") => `(tactic| first | with_reducible assumption | ((with_reducible refine' sz_mono ?szb1 ?szb2); (case szb1 => wtm_at "sz"); (case szb2 => decide)))
local macro_rules | `(tactic| wtm_at "nz") => `(tactic| first | assumption | decide | omega)
local macro_rules | `(tactic| wtm_at "shaped") => `(tactic| first | rfl | decide)
local macro_rules | `(tactic| wtm_at "sset") => `(tactic| ((dsimp only [L2.wipe, List.set, List.set_cons_zero, List.set_cons_succ]) <;> exact rfl))
local macro_rules | `(tactic| wtm_at "nrm") => `(tactic| dsimp only [L2.start, L2.wipe, List.set, List.append, List.map, List.map_cons, List.map_nil, List.length_cons, List.length_nil, Nat.reduceAdd, Nat.reduceSub, List.reduceReplicate, List.replicate, List.cons_append, List.nil_append, List.set_cons_zero, List.set_cons_succ])
local macro_rules | `(tactic| wtm_at "st") => `(tactic| first
  | ((with_reducible refine' i_var (v := ?u0) ?u1 ?uq); (case u1 => exact rfl))
  | ((with_reducible refine' i_nameN ?u0 ?uq); (case u0 => wtm_at "sset"))
  | (with_reducible refine' i_op ?uq)
  | (with_reducible refine' i_c ?uq)
  | (with_reducible refine' i_I0 ?uq)
  | ((with_reducible refine' i_ixTI (i := ?u0) ?u1 ?u2 ?u3 ?uq); (case u1 => wtm_at "dp"); (case u2 => wtm_at "ex"); (case u3 => exact rfl))
  | ((with_reducible refine' i_ixT (d := ?u0) ?u1 ?u2 ?u3 (fun xu hxu => ?uq)); (case u1 => wtm_at "dp"); (case u2 => wtm_at "ex"); (case u3 => exact rfl))
  | ((with_reducible refine' i_mul ?u0 ?u1 ?u2 ?uq); (case u0 => wtm_at "sz"); (case u1 => wtm_at "sz"); (case u2 => first | decide | omega))
  | (with_reducible refine' i_seq ?uq)
  | (with_reducible refine' i_asg ?uq)
  | (with_reducible refine' i_ret ?uq)
  | (with_reducible refine' i_ifs ?uq)
  | (with_reducible refine' i_drop ?uq)
  | (with_reducible refine' i_next ?uq)
  | (with_reducible refine' i_cons ?uq)
  | (with_reducible refine' i_nil ?uq)
  | (with_reducible refine' i_cl ?uq)
  | (with_reducible refine' i_cb ?uq)
  | (with_reducible refine' i_tup ?uq)
  | (with_reducible refine' i_lst ?uq)
  | ((with_reducible refine' i_mkT ?u0 (fun np nH nhe nhp => ?uq)); (case u0 => exact Nat.le_of_ble_eq_true rfl))
  | (with_reducible refine' i_test ?uq)
  | (with_reducible refine' i_B ?uq)
  | (with_reducible refine' i_k ?uq)
  | (with_reducible refine' i_and ?uq)
  | (with_reducible refine' i_or ?uq)
  | (with_reducible refine' i_not ?uq)
  | (with_reducible refine' i_andV ?uq)
  | (with_reducible refine' i_orV ?uq)
  | (with_reducible refine' i_notV ?uq)
  | (with_reducible refine' i_if ?uq)
  | (with_reducible refine' i_un ?uq)
  | (with_reducible refine' i_U ?uq)
  | (with_reducible refine' i_iteT ?uq)
  | (with_reducible refine' i_iteF ?uq)
  | ((with_reducible refine' i_iteTr ?u0 ?uq); (case u0 => first | with_reducible rfl | decide | (simp only [dIsInt, dIsBool, dIsTup, dIsStr, dIsLst, Bool.not_true, Bool.not_false]; done)))
  | ((with_reducible refine' i_iteFr ?u0 ?uq); (case u0 => first | with_reducible rfl | decide | (simp only [dIsInt, dIsBool, dIsTup, dIsStr, dIsLst, Bool.not_true, Bool.not_false]; done)))
  | (with_reducible refine' i_ite (fun hif => ?uqa) (fun hif => ?uqb))
  | (with_reducible refine' i_iteN (fun hif => ?uqa) (fun hif => ?uqb))
  | (with_reducible refine' i_iteBN (fun hif => ?uqa) (fun hif => ?uqb))
  | (with_reducible refine' i_iteB (fun hif => ?uqa) (fun hif => ?uqb))
  | ((with_reducible refine' i_modN ?u0 ?uq); (case u0 => wtm_at "nz"))
  | ((with_reducible refine' i_fdX ?u0 ?u1 ?u2 ?uq); (case u0 => wtm_at "nz"); (case u1 => wtm_at "sz"); (case u2 => first | decide | omega))
  | ((with_reducible refine' i_pow ?u0 ?uq); (case u0 => exact ⟨by decide, by decide +kernel⟩))
  | (with_reducible refine' i_eqI ?uq)
  | (with_reducible refine' i_neI ?uq)
  | (with_reducible refine' i_gcd ?uq)
  | (with_reducible refine' i_qabs ?uq)
  | (with_reducible refine' i_qint ?uq)
  | (with_reducible refine' i_qintB ?uq)
  | (with_reducible refine' i_qmax2 ?uq)
  | (with_reducible refine' i_qmin2 ?uq)
  | (with_reducible refine' i_isB ?uq)
  | (with_reducible refine' i_notB ?uq)
  | (with_reducible refine' i_chain ?uq)
  | (with_reducible refine' i_qisN ?uq)
  | (with_reducible refine' i_qnotN ?uq)
  | (with_reducible refine' i_yes ?uq)
  | (with_reducible refine' i_par ?uq)
  | (with_reducible refine' i_par3 ?uq)
  | ((with_reducible refine' i_par2 ?u0 ?uq); (case u0 => wtm_at "sset"))
  | ((with_reducible refine' i_par33 ?u0 ?uq); (case u0 => wtm_at "sset"))
  | ((with_reducible refine' i_ixLI (i := ?u0) ?u1 ?u2 ?u3 ?uq); (case u1 => wtm_at "dp"); (case u2 => wtm_at "ex"); (case u3 => exact rfl))
  | ((with_reducible refine' i_ixL (d := ?u0) ?u1 ?u2 ?u3 (fun xu hxu => ?uq)); (case u1 => wtm_at "dp"); (case u2 => wtm_at "ex"); (case u3 => exact rfl))
  | ((with_reducible refine' i_qlenT ?u0 ?uq); (case u0 => wtm_at "dp"))
  | ((with_reducible refine' i_qlenL ?u0 ?uq); (case u0 => wtm_at "dp"))
  | ((with_reducible refine' i_gtup ?u0 ?u1 ?u2 (fun gvs gdp => ?uq)); (case u0 => wtm_at "dp"); (case u1 => wtm_at "ex"); (case u2 => exact rfl))
  | ((with_reducible refine' i_glst ?u0 ?u1 ?u2 (fun gvs gdp => ?uq)); (case u0 => wtm_at "dp"); (case u1 => wtm_at "ex"); (case u2 => exact rfl))
  | ((with_reducible refine' i_gconsI ?u0 (fun gr gh => ?uq)); (case u0 => with_reducible assumption))
  | ((with_reducible refine' i_gconsA ?u0 (fun gv gr gh1 gh2 => ?uq)); (case u0 => with_reducible assumption))
  | ((with_reducible refine' i_gnilA ?u0 ?uq); (case u0 => with_reducible assumption))
  | ((with_reducible refine' i_isiI ?u0 ?uq); (case u0 => wtm_at "dp"))
  | ((with_reducible refine' i_isiB ?u0 ?uq); (case u0 => wtm_at "dp"))
  | ((with_reducible refine' i_isiT ?u0 ?uq); (case u0 => wtm_at "dp"))
  | ((with_reducible refine' i_isiS ?u0 ?uq); (case u0 => wtm_at "dp"))
  | ((with_reducible refine' i_isiL ?u0 ?uq); (case u0 => wtm_at "dp"))
  | ((with_reducible refine' i_eqD ?u0 ?u1 ?u2 ?u3 ?uq); (case u0 => wtm_at "dp"); (case u1 => wtm_at "dp"); (case u2 => wtm_at "shaped"); (case u3 => wtm_at "shaped"))
  | ((with_reducible refine' i_neD ?u0 ?u1 ?u2 ?u3 ?uq); (case u0 => wtm_at "dp"); (case u1 => wtm_at "dp"); (case u2 => wtm_at "shaped"); (case u3 => wtm_at "shaped"))
  | wtm_at "st2"
  | wtm_at "use")
local macro_rules | `(tactic| wtm_at "go") => `(tactic| repeat' (wtm_at "st"))
local macro_rules | `(tactic| wtm_at "go0") => `(tactic| ((try dsimp only [L2.cxOf, L2.Cx.nox, L2.Cx.wish, L2.Cx.tr, L2.Cx.blk]); (try wtm_at "nrm"); wtm_at "go"))
local macro_rules | `(tactic| wtm_at "fin") => `(tactic| ((try dsimp only); first | with_reducible assumption | assumption | ((with_reducible refine' Ret.use ?rur ?rue ?rud); (case rur => with_reducible assumption); (case rue => wtm_at "ex"); (case rud => wtm_at "dp"))))
local macro_rules | `(tactic| wtm_at "use") => `(tactic| ((with_reducible refine' use_turn_in ?u0 ?u1 ?u2 ?u3 ?u4 ?u5 ?u6 ?u7 ?u8 ?u9 ?u10 ?u11 ?uq); (case u0 => wtm_at "dp"); (case u1 => wtm_at "dp"); (case u2 => wtm_at "dp"); (case u3 => wtm_at "szb"); (case u4 => wtm_at "szb"); (case u5 => wtm_at "szb"); (case u6 => wtm_at "szb"); (case u7 => wtm_at "szb"); (case u8 => wtm_at "szb"); (case u9 => wtm_at "szb"); (case u10 => wtm_at "szb"); (case u11 => wtm_at "szb")))
local macro_rules | `(tactic| wtm_at "use") => `(tactic| ((with_reducible refine' use_step_from ?u0 ?u1 ?u2 ?u3 ?u4 ?u5 ?u6 ?u7 (fun ur uH ue ud => ?uq)); (case u0 => wtm_at "dp"); (case u1 => wtm_at "dp"); (case u2 => wtm_at "szb"); (case u3 => wtm_at "szb"); (case u4 => wtm_at "szb"); (case u5 => wtm_at "szb"); (case u6 => wtm_at "szb"); (case u7 => wtm_at "szb")))
local macro_rules | `(tactic| wtm_at "use") => `(tactic| (with_reducible refine' use_shared_of ?uq))
local macro_rules | `(tactic| wtm_at "use") => `(tactic| ((with_reducible refine' use_is_integer ?u0 ?uq); (case u0 => wtm_at "dp")))
local macro_rules | `(tactic| wtm_at "use") => `(tactic| ((with_reducible refine' use_is_between_in ?u0 ?u1 ?u2 ?u3 ?u4 ?u5 ?u6 ?u7 ?u8 ?u9 ?u10 ?u11 (fun uH ue => ?uq)); (case u0 => wtm_at "dp"); (case u1 => wtm_at "dp"); (case u2 => wtm_at "dp"); (case u3 => wtm_at "szb"); (case u4 => wtm_at "szb"); (case u5 => wtm_at "szb"); (case u6 => wtm_at "szb"); (case u7 => wtm_at "szb"); (case u8 => wtm_at "szb"); (case u9 => wtm_at "szb"); (case u10 => wtm_at "szb"); (case u11 => wtm_at "szb")))
local macro_rules | `(tactic| wtm_at "use") => `(tactic| ((with_reducible refine' use_line_through ?u0 ?u1 ?u2 ?u3 ?u4 ?u5 ?u6 ?u7 (fun ur uH ue ud => ?uq)); (case u0 => wtm_at "dp"); (case u1 => wtm_at "dp"); (case u2 => wtm_at "szb"); (case u3 => wtm_at "szb"); (case u4 => wtm_at "szb"); (case u5 => wtm_at "szb"); (case u6 => wtm_at "szb"); (case u7 => wtm_at "szb")))
local macro_rules | `(tactic| wtm_at "use") => `(tactic| ((with_reducible refine' use_reduced_point ?u0 ?u1 (fun ur uH ue ud => ?uq)); (case u0 => wtm_at "nz"); (case u1 => wtm_at "szb")))
local macro_rules | `(tactic| wtm_at "use") => `(tactic| ((with_reducible refine' use_is_point ?u0 (fun uH ue => ?uq)); (case u0 => wtm_at "dp")))
local macro_rules | `(tactic| wtm_at "use") => `(tactic| ((with_reducible refine' use_line_meet_in ?u0 ?u1 ?u2 ?u3 ?u4 ?u5 ?u6 ?u7 ?u8 ?u9 ?u10 ?u11 ?u12 ?u13 ?u14 ?u15 (fun ur uH ue ud => ?uq)); (case u0 => wtm_at "dp"); (case u1 => wtm_at "dp"); (case u2 => wtm_at "dp"); (case u3 => wtm_at "dp"); (case u4 => wtm_at "szb"); (case u5 => wtm_at "szb"); (case u6 => wtm_at "szb"); (case u7 => wtm_at "szb"); (case u8 => wtm_at "szb"); (case u9 => wtm_at "szb"); (case u10 => wtm_at "szb"); (case u11 => wtm_at "szb"); (case u12 => wtm_at "szb"); (case u13 => wtm_at "szb"); (case u14 => wtm_at "szb"); (case u15 => wtm_at "szb")))
section
variable {P : Program} {w : World} {K : PySem.W.Frag} {mg : Str → Option Value} {base : Heap} {H H' : Hp} {Q : VK} {E : XK} {v1 v2 v3 v4 : V} {x1 y1 w1 x2 y2 w2 x3 y3 w3 x4 y4 w4 : Int}
variable {v5 : V} {sx sy sw ux uy vx vy : Int}
local macro_rules | `(tactic| wtm_at "use") => `(tactic| ((with_reducible refine' use__law_spotD ?u0 ?u1 ?u2 ?u3 ?u4 ?u5 (fun pv pH pe pd => ?uq)); (case u0 => wtm_at "dp"); (case u1 => with_reducible assumption); (case u2 => wtm_at "pos"); (case u3 => wtm_at "szb"); (case u4 => wtm_at "szb"); (case u5 => wtm_at "szb")))
local macro_rules | `(tactic| wtm_at "pos") => `(tactic| first | assumption | decide | omega)
local macro_rules | `(tactic| wtm_at "st2") => `(tactic| (first | ((with_reducible refine' i_minD ?u0 ?uq); (case u0 => wtm_at "dp")) | fail))
local macro_rules | `(tactic| wtm_at "st2") => `(tactic| (first | ((with_reducible refine' i_maxD ?u0 ?uq); (case u0 => wtm_at "dp")) | fail))
def sp__law_line_right (K : PySem.W.Frag) : Sp := A5 fun v1 v2 v3 v4 v5 H Q => ∃ sx sy sw ux uy vx vy a b c d e o : Int, v4 = .int e ∧ v5 = .int o ∧ Dp K H v1 (fr sx sy sw ux uy vx vy) ∧ Dp K H v2 (.list [.int a, .int b]) ∧ Dp K H v3 (.list [.int c, .int d]) ∧ FrOk sx sy sw ux uy vx vy ∧ 0 < o ∧ (Sz 31 a ∧ Sz 31 b ∧ Sz 31 c ∧ Sz 31 d ∧ Sz 31 e) ∧ Sz 4 o ∧ Ret K (.bool true) H Q
abbrev s__law_line_right : Stmt := top 43
theorem sc__law_line_right : FnScope ["_law_frame_here", "_law_one_span", "_law_other_span", "_law_side", "_law_over", "_law_low", "_law_high", "_law_due", "_law_ends", "_law_one", "_law_two", "_law_three", "_law_four", "_law_part"] ["_law_frame_here", "_law_one_span", "_law_other_span", "_law_side", "_law_over"] (defScope s__law_line_right) := ⟨rfl, rfl, rfl, by decide +kernel, rfl, by decide +kernel, by decide +kernel⟩
theorem ok__law_line_right {f : Addr} {fd : FuncData} (F : FnP K "_law_line_right" s__law_line_right f fd) (g : G mg) (c__law_meets_right : Cl P w K mg base 7 "_law_meets_right" (sp__law_meets_right K)) (c__law_spot : Cl P w K mg base 3 "_law_spot" (sp__law_spot K))  : FnOk P w K mg base CX0 8 f fd ["_law_frame_here", "_law_one_span", "_law_other_span", "_law_side", "_law_over"] (sp__law_line_right K) := by
  have nd := sc__law_line_right.nd
  refine F.ok sc__law_line_right (fun vs H Q E h => h.len) (fun cdv A outer s H vs Q E hr h => ?_)
  obtain ⟨v1, v2, v3, v4, v5, rfl, h⟩ := h
  refine ⟨_, PSs.nox (pss_cons (ps_par (i := 5) (j := 6) (by rfl) nd rfl rfl (by decide) rfl rfl (pa_cons (pe_callB (call_qmax2 rfl) (by rfl) g.f_max boot_max (pa_cons (pe_callB (cr_min rfl) (by rfl) g.f_min boot_min (pa_cons (pv 1) pa_nil)) (pa_cons (pe_callB (cr_min rfl) (by rfl) g.f_min boot_min (pa_cons (pv 2) pa_nil)) pa_nil))) (pa_cons (pe_callB (call_qmin2 rfl) (by rfl) g.f_min boot_min (pa_cons (pe_callB (cr_max rfl) (by rfl) g.f_max boot_max (pa_cons (pv 1) pa_nil)) (pa_cons (pe_callB (cr_max rfl) (by rfl) g.f_max boot_max (pa_cons (pv 2) pa_nil)) pa_nil))) pa_nil)) (by rfl)) (pss_cons (ps_set (i := 7) nd rfl (Or.inl rfl) (pe_tup pa_nil)) (pss_cons (ps_if (PW.pt (pw_and (pt_cmpR op_eq (pv 3) pe_int (nomark _)) (pw_and1 (pt_cmpR op_le (pv 5) (pv 6) (nomark _))))) (pss_cons (ps_set (i := 8) nd rfl (Or.inl rfl) (pe_lst (pa_cons (pc c__law_spot hr (by decide) (by rfl) (pa_cons (pv 0) (pa_cons (pv 5) (pa_cons pe_int (pa_cons (pv 4) pa_nil))))) (pa_cons (pc c__law_spot hr (by decide) (by rfl) (pa_cons (pv 0) (pa_cons (pv 6) (pa_cons pe_int (pa_cons (pv 4) pa_nil))))) pa_nil)))) (pss_one (ps_set (i := 7) nd rfl (Or.inl rfl) (pe_ifExp (pt_cmpR op_eq (pv 5) (pv 6) (nomark _)) (pe_tup (pa_cons (pe_ix ix_list (pv 8) pe_int (fun _ _ => rfl)) pa_nil)) (pe_tup (pa_cons (pe_callB (cr_minLD rfl hr.units) (by rfl) g.f_min boot_min (pa_cons (pv 8) pa_nil)) (pa_cons (pe_callB (cr_maxLD rfl hr.units) (by rfl) g.f_max boot_max (pa_cons (pv 8) pa_nil)) pa_nil))))))) pss_nil) (pss_cons (ps_asg (pe_lc (own := [("_law_part", 13)]) (g := gName 13) (by rfl) nd (pi_list (pv 1)) (blkOk_by (N := ["_law_frame_here", "_law_one_span", "_law_other_span", "_law_side", "_law_over", "_law_low", "_law_high", "_law_due", "_law_ends", "_law_one", "_law_two", "_law_three", "_law_four", "_law_part"]) (sc := defScope s__law_line_right) (own := [("_law_part", 13)]) (by decide +kernel)) (fun _ _ _ _ _ => (pg_name (i := 13) nd rfl (Or.inl rfl))) (fun _ _ _ _ _ => pts_nil) (fun _ _ _ _ _ => (pc c__law_spot hr (by decide) (by rfl) (pa_cons (pv 0) (pa_cons (pv 13) (pa_cons pe_int (pa_cons (pv 4) pa_nil))))))) (pg_lst (n := 2) (by rfl) (pgs_cons (pg_name (i := 9) nd rfl (Or.inl rfl)) (pgs_cons (pg_name (i := 10) nd rfl (Or.inl rfl)) pgs_nil)))) (pss_cons (ps_asg (pe_lc (own := [("_law_part", 13)]) (g := gName 13) (by rfl) nd (pi_list (pv 2)) (blkOk_by (N := ["_law_frame_here", "_law_one_span", "_law_other_span", "_law_side", "_law_over", "_law_low", "_law_high", "_law_due", "_law_ends", "_law_one", "_law_two", "_law_three", "_law_four", "_law_part"]) (sc := defScope s__law_line_right) (own := [("_law_part", 13)]) (by decide +kernel)) (fun _ _ _ _ _ => (pg_name (i := 13) nd rfl (Or.inl rfl))) (fun _ _ _ _ _ => pts_nil) (fun _ _ _ _ _ => (pc c__law_spot hr (by decide) (by rfl) (pa_cons (pv 0) (pa_cons (pv 13) (pa_cons (pv 3) (pa_cons (pv 4) pa_nil))))))) (pg_lst (n := 2) (by rfl) (pgs_cons (pg_name (i := 11) nd rfl (Or.inl rfl)) (pgs_cons (pg_name (i := 12) nd rfl (Or.inl rfl)) pgs_nil)))) (pss_one (ps_ret (pc c__law_meets_right hr (by decide) (by rfl) (pa_cons (pv 9) (pa_cons (pv 10) (pa_cons (pv 11) (pa_cons (pv 12) (pa_cons (pv 7) pa_nil))))))))))))), ?_⟩
  obtain ⟨sx, sy, sw, ux, uy, vx, vy, a, b, c, d, e, o, rfl, rfl, hd, ha, hb, fo, ho, ⟨sa, sb, sc, sd, se⟩, so, q⟩ := h
  have sa4 : Sz 34 a := sz_mono sa (by decide)
  have sb4 : Sz 34 b := sz_mono sb (by decide)
  have sc4 : Sz 34 c := sz_mono sc (by decide)
  have sd4 : Sz 34 d := sz_mono sd (by decide)
  have se4 : Sz 34 e := sz_mono se (by decide)
  have sz0 : Sz 34 0 := by unfold Sz; decide
  have slo : Sz 34 (if min c d > min a b then min c d else min a b) := by
    unfold Sz at *
    split <;> omega
  have shi : Sz 34 (if max c d < max a b then max c d else max a b) := by
    unfold Sz at *
    split <;> omega
  obtain ⟨x1, y1, w1, r1, t1⟩ := spt_of fo ho sa4 sz0 so
  obtain ⟨x2, y2, w2, r2, t2⟩ := spt_of fo ho sb4 sz0 so
  obtain ⟨x3, y3, w3, r3, t3⟩ := spt_of fo ho sc4 se4 so
  obtain ⟨x4, y4, w4, r4, t4⟩ := spt_of fo ho sd4 se4 so
  obtain ⟨x5, y5, w5, r5, t5⟩ := spt_of fo ho slo sz0 so
  obtain ⟨x6, y6, w6, r6, t6⟩ := spt_of fo ho shi sz0 so
  have f4 := four_line (p := (x1, y1, w1)) (q := (x2, y2, w2)) (r := (x3, y3, w3)) (s := (x4, y4, w4)) (ml := (x5, y5, w5)) (mh := (x6, y6, w6)) fo ho t1 t2 t3 t4 t5 t6 (by split <;> omega) (by split <;> omega)
  wtm_at "go0"
  · rename_i np0 nH0 nhe0 nhp0 hz1 hz2 pv1 pH1 pe1 pd1 pv2 pH2 pe2 pd2 np1 nH1 nfr1 nhe1 nhp1 hz3 xu hxu np2 nH2 nhe2 nhp2
    rw [r5] at hxu
    have eX : Ex H nH2 := by wtm_at "ex"
    obtain ⟨es, hl2, hdue, f5⟩ : ∃ es : List Pt, es.length ≤ 2 ∧ Dp K nH2 (.ref np2) (.tuple (es.map dpt)) ∧ Four (x1, y1, w1) (x2, y2, w2) (x3, y3, w3) (x4, y4, w4) (.tuple (es.map dpt)) := by
      unfold lineDue at f4
      rw [if_pos ⟨hz1, hz2⟩, if_pos hz3] at f4
      exact ⟨[(x5, y5, w5)], Nat.le_of_ble_eq_true rfl, .tup (Evl.st_of nhp2) (.cons (dpMono nhe2 hxu) .nil), f4⟩
    clear hxu pd1 pd2 nhp0 nhp1 nhp2 nhe0 nhe1 nhe2 pe1 pe2
    refine i_lcM ?_
    wtm_at "go"
    refine i_lcL (fun _ => true) (fun d => match d with | .int a => rs sx sy sw ux uy vx vy a 0 o | _ => .none) (dpMono eX ha) (Nat.le_of_ble_eq_true rfl) ?_ (fun x => rfl) ?_ ?_ ?_
    · intro d hd
      simp only [List.mem_cons, List.not_mem_nil, or_false] at hd
      rcases hd with rfl | rfl <;> rfl
    · intro u d H2 R e2 hd hu r
      wtm_at "go"
      exact r _ (Ex.refl _)
    · intro u d H2 R e2 hd _ hu r
      simp only [List.mem_cons, List.not_mem_nil, or_false] at hd
      rcases hd with rfl | rfl
      all_goals
        cases dpInt hu
        wtm_at "nrm"
        wtm_at "go"
        exact r _ _ (by wtm_at "ex") (by assumption)
    intro p H2 hn e2 ⟨acc, hacc, hdp⟩
    have hdp2 : DpAll K H2 acc [pt x1 y1 w1, pt x2 y2 w2] := by rw [← r1, ← r2]; exact hdp
    have hl : Dp K H2 (.ref p) (.list [pt x1 y1 w1, pt x2 y2 w2]) := .lst (Evl.sq_of hacc) hdp2
    clear hdp hdp2
    wtm_at "go"
    rename_i _ _ g1 _ k1 _ g2 _ k2 _
    refine i_lcM ?_
    wtm_at "go"
    refine i_lcL (fun _ => true) (fun d => match d with | .int a => rs sx sy sw ux uy vx vy a e o | _ => .none) (dpMono (eX.trans e2) hb) (Nat.le_of_ble_eq_true rfl) ?_ (fun x => rfl) ?_ ?_ ?_
    · intro d hd
      simp only [List.mem_cons, List.not_mem_nil, or_false] at hd
      rcases hd with rfl | rfl <;> rfl
    · intro u d H2 R e2 hd hu r
      wtm_at "go"
      exact r _ (Ex.refl _)
    · intro u d H2 R e2 hd _ hu r
      simp only [List.mem_cons, List.not_mem_nil, or_false] at hd
      rcases hd with rfl | rfl
      all_goals
        cases dpInt hu
        wtm_at "nrm"
        wtm_at "go"
        exact r _ _ (by wtm_at "ex") (by assumption)
    intro p' H3 hn' e3 ⟨acc', hacc', hdp'⟩
    have hdp3 : DpAll K H3 acc' [pt x3 y3 w3, pt x4 y4 w4] := by rw [← r3, ← r4]; exact hdp'
    have hl' : Dp K H3 (.ref p') (.list [pt x3 y3 w3, pt x4 y4 w4]) := .lst (Evl.sq_of hacc') hdp3
    clear hdp' hdp3
    wtm_at "go"
    refine' use__law_meets_right (es := es) ?g1 ?g2 ?g3 ?g4 ?g5 hl2 f5 (fun H4 e4 => ?g6)
    (case g1 => wtm_at "dp")
    (case g2 => wtm_at "dp")
    (case g3 => wtm_at "dp")
    (case g4 => wtm_at "dp")
    (case g5 => exact dpMono (e2.trans e3) hdue)
    (case g6 => exact q _ _ (((eX.trans e2).trans e3).trans e4) (Dp.bl _))
  · rename_i np0 nH0 nhe0 nhp0 hz1 hz2 pv1 pH1 pe1 pd1 pv2 pH2 pe2 pd2 np1 nH1 nfr1 nhe1 nhp1 hz3
    rw [r5] at pd1
    rw [r6] at pd2
    have hend : Dp K nH1 (.ref np1) (.list [pt x5 y5 w5, pt x6 y6 w6]) := .lst (Evl.sq_of nhp1) (.cons (dpMono (pe2.trans nhe1) pd1) (.cons (dpMono nhe1 pd2) .nil))
    have hal : PySem.W.AlikeAll [pt x5 y5 w5, pt x6 y6 w6] := by
      refine ⟨fun x hx y hy => ?_, fun x hx => ?_⟩
      · simp only [List.mem_cons, List.not_mem_nil, or_false] at hx hy
        rcases hx with rfl | rfl <;> rcases hy with rfl | rfl <;> rfl
      · simp only [List.mem_cons, List.not_mem_nil, or_false] at hx
        rcases hx with rfl | rfl <;> exact PyData.noConfusion
    have hdep : PyData.depthAll [pt x5 y5 w5, pt x6 y6 w6] ≤ 60 := Nat.le_of_ble_eq_true rfl
    refine ⟨_, _, _, rfl, hend, rfl, hal, hdep, fun vm hvm => ?_⟩
    wtm_at "go"
    refine ⟨_, _, _, rfl, hend, rfl, hal, hdep, fun vM hvM => ?_⟩
    wtm_at "go"
    rename_i np2 nH2 nhe2 nhp2
    have eX : Ex H nH2 := by wtm_at "ex"
    obtain ⟨es, hl2, hdue, f5⟩ : ∃ es : List Pt, es.length ≤ 2 ∧ Dp K nH2 (.ref np2) (.tuple (es.map dpt)) ∧ Four (x1, y1, w1) (x2, y2, w2) (x3, y3, w3) (x4, y4, w4) (.tuple (es.map dpt)) := by
      unfold lineDue at f4
      rw [if_pos ⟨hz1, hz2⟩, if_neg hz3] at f4
      have hne : ((x5, y5, w5) : Pt) ≠ (x6, y6, w6) := fun z => by
        have h7 := spt_ne fo ho hz3 t5 t6
        injection z with z1 z2
        injection z2 with z2 z3
        rw [eqv_pt.mpr ⟨z1, z2, z3⟩] at h7
        cases h7
      have hpr := ends_pair hne
      have hdp0 : Dp K nH2 (.ref np2) (.tuple [PySem.W.minD (dpt (x5, y5, w5)) [dpt (x6, y6, w6)], PySem.W.maxD (dpt (x5, y5, w5)) [dpt (x6, y6, w6)]]) := .tup (Evl.st_of nhp2) (.cons (dpMono nhe2 hvm) (.cons (dpMono nhe2 hvM) .nil))
      rw [hpr] at hdp0
      unfold pairT at f4 hdp0
      split at f4
      · rename_i hc
        rw [if_pos hc] at hdp0
        exact ⟨[(x5, y5, w5), (x6, y6, w6)], Nat.le_of_ble_eq_true rfl, hdp0, f4⟩
      · rename_i hc
        rw [if_neg hc] at hdp0
        exact ⟨[(x6, y6, w6), (x5, y5, w5)], Nat.le_of_ble_eq_true rfl, hdp0, f4⟩
    clear pd1 pd2 nhp0 nhp1 nhp2 nhe0 nhe1 nhe2 pe1 pe2 hend hvm hvM
    refine i_lcM ?_
    wtm_at "go"
    refine i_lcL (fun _ => true) (fun d => match d with | .int a => rs sx sy sw ux uy vx vy a 0 o | _ => .none) (dpMono eX ha) (Nat.le_of_ble_eq_true rfl) ?_ (fun x => rfl) ?_ ?_ ?_
    · intro d hd
      simp only [List.mem_cons, List.not_mem_nil, or_false] at hd
      rcases hd with rfl | rfl <;> rfl
    · intro u d H2 R e2 hd hu r
      wtm_at "go"
      exact r _ (Ex.refl _)
    · intro u d H2 R e2 hd _ hu r
      simp only [List.mem_cons, List.not_mem_nil, or_false] at hd
      rcases hd with rfl | rfl
      all_goals
        cases dpInt hu
        wtm_at "nrm"
        wtm_at "go"
        exact r _ _ (by wtm_at "ex") (by assumption)
    intro p H2 hn e2 ⟨acc, hacc, hdp⟩
    have hdp2 : DpAll K H2 acc [pt x1 y1 w1, pt x2 y2 w2] := by rw [← r1, ← r2]; exact hdp
    have hl : Dp K H2 (.ref p) (.list [pt x1 y1 w1, pt x2 y2 w2]) := .lst (Evl.sq_of hacc) hdp2
    clear hdp hdp2
    wtm_at "go"
    rename_i _ _ g1 _ k1 _ g2 _ k2 _
    refine i_lcM ?_
    wtm_at "go"
    refine i_lcL (fun _ => true) (fun d => match d with | .int a => rs sx sy sw ux uy vx vy a e o | _ => .none) (dpMono (eX.trans e2) hb) (Nat.le_of_ble_eq_true rfl) ?_ (fun x => rfl) ?_ ?_ ?_
    · intro d hd
      simp only [List.mem_cons, List.not_mem_nil, or_false] at hd
      rcases hd with rfl | rfl <;> rfl
    · intro u d H2 R e2 hd hu r
      wtm_at "go"
      exact r _ (Ex.refl _)
    · intro u d H2 R e2 hd _ hu r
      simp only [List.mem_cons, List.not_mem_nil, or_false] at hd
      rcases hd with rfl | rfl
      all_goals
        cases dpInt hu
        wtm_at "nrm"
        wtm_at "go"
        exact r _ _ (by wtm_at "ex") (by assumption)
    intro p' H3 hn' e3 ⟨acc', hacc', hdp'⟩
    have hdp3 : DpAll K H3 acc' [pt x3 y3 w3, pt x4 y4 w4] := by rw [← r3, ← r4]; exact hdp'
    have hl' : Dp K H3 (.ref p') (.list [pt x3 y3 w3, pt x4 y4 w4]) := .lst (Evl.sq_of hacc') hdp3
    clear hdp' hdp3
    wtm_at "go"
    refine' use__law_meets_right (es := es) ?g1 ?g2 ?g3 ?g4 ?g5 hl2 f5 (fun H4 e4 => ?g6)
    (case g1 => wtm_at "dp")
    (case g2 => wtm_at "dp")
    (case g3 => wtm_at "dp")
    (case g4 => wtm_at "dp")
    (case g5 => exact dpMono (e2.trans e3) hdue)
    (case g6 => exact q _ _ (((eX.trans e2).trans e3).trans e4) (Dp.bl _))
  · rename_i np0 nH0 nhe0 nhp0 hz1 hz2
    have eX : Ex H nH0 := nhe0
    obtain ⟨es, hl2, hdue, f5⟩ : ∃ es : List Pt, es.length ≤ 2 ∧ Dp K nH0 (.ref np0) (.tuple (es.map dpt)) ∧ Four (x1, y1, w1) (x2, y2, w2) (x3, y3, w3) (x4, y4, w4) (.tuple (es.map dpt)) := by
      unfold lineDue at f4
      rw [if_neg (fun z => hz2 z.2)] at f4
      exact ⟨[], Nat.le_of_ble_eq_true rfl, .tup (Evl.st_of nhp0) .nil, f4⟩
    clear nhp0
    refine i_lcM ?_
    wtm_at "go"
    refine i_lcL (fun _ => true) (fun d => match d with | .int a => rs sx sy sw ux uy vx vy a 0 o | _ => .none) (dpMono eX ha) (Nat.le_of_ble_eq_true rfl) ?_ (fun x => rfl) ?_ ?_ ?_
    · intro d hd
      simp only [List.mem_cons, List.not_mem_nil, or_false] at hd
      rcases hd with rfl | rfl <;> rfl
    · intro u d H2 R e2 hd hu r
      wtm_at "go"
      exact r _ (Ex.refl _)
    · intro u d H2 R e2 hd _ hu r
      simp only [List.mem_cons, List.not_mem_nil, or_false] at hd
      rcases hd with rfl | rfl
      all_goals
        cases dpInt hu
        wtm_at "nrm"
        wtm_at "go"
        exact r _ _ (by wtm_at "ex") (by assumption)
    intro p H2 hn e2 ⟨acc, hacc, hdp⟩
    have hdp2 : DpAll K H2 acc [pt x1 y1 w1, pt x2 y2 w2] := by rw [← r1, ← r2]; exact hdp
    have hl : Dp K H2 (.ref p) (.list [pt x1 y1 w1, pt x2 y2 w2]) := .lst (Evl.sq_of hacc) hdp2
    clear hdp hdp2
    wtm_at "go"
    rename_i _ _ g1 _ k1 _ g2 _ k2 _
    refine i_lcM ?_
    wtm_at "go"
    refine i_lcL (fun _ => true) (fun d => match d with | .int a => rs sx sy sw ux uy vx vy a e o | _ => .none) (dpMono (eX.trans e2) hb) (Nat.le_of_ble_eq_true rfl) ?_ (fun x => rfl) ?_ ?_ ?_
    · intro d hd
      simp only [List.mem_cons, List.not_mem_nil, or_false] at hd
      rcases hd with rfl | rfl <;> rfl
    · intro u d H2 R e2 hd hu r
      wtm_at "go"
      exact r _ (Ex.refl _)
    · intro u d H2 R e2 hd _ hu r
      simp only [List.mem_cons, List.not_mem_nil, or_false] at hd
      rcases hd with rfl | rfl
      all_goals
        cases dpInt hu
        wtm_at "nrm"
        wtm_at "go"
        exact r _ _ (by wtm_at "ex") (by assumption)
    intro p' H3 hn' e3 ⟨acc', hacc', hdp'⟩
    have hdp3 : DpAll K H3 acc' [pt x3 y3 w3, pt x4 y4 w4] := by rw [← r3, ← r4]; exact hdp'
    have hl' : Dp K H3 (.ref p') (.list [pt x3 y3 w3, pt x4 y4 w4]) := .lst (Evl.sq_of hacc') hdp3
    clear hdp' hdp3
    wtm_at "go"
    refine' use__law_meets_right (es := es) ?g1 ?g2 ?g3 ?g4 ?g5 hl2 f5 (fun H4 e4 => ?g6)
    (case g1 => wtm_at "dp")
    (case g2 => wtm_at "dp")
    (case g3 => wtm_at "dp")
    (case g4 => wtm_at "dp")
    (case g5 => exact dpMono (e2.trans e3) hdue)
    (case g6 => exact q _ _ (((eX.trans e2).trans e3).trans e4) (Dp.bl _))
  · rename_i np0 nH0 nhe0 nhp0 hz1
    have eX : Ex H nH0 := nhe0
    obtain ⟨es, hl2, hdue, f5⟩ : ∃ es : List Pt, es.length ≤ 2 ∧ Dp K nH0 (.ref np0) (.tuple (es.map dpt)) ∧ Four (x1, y1, w1) (x2, y2, w2) (x3, y3, w3) (x4, y4, w4) (.tuple (es.map dpt)) := by
      unfold lineDue at f4
      rw [if_neg (fun z => hz1 z.1)] at f4
      exact ⟨[], Nat.le_of_ble_eq_true rfl, .tup (Evl.st_of nhp0) .nil, f4⟩
    clear nhp0
    refine i_lcM ?_
    wtm_at "go"
    refine i_lcL (fun _ => true) (fun d => match d with | .int a => rs sx sy sw ux uy vx vy a 0 o | _ => .none) (dpMono eX ha) (Nat.le_of_ble_eq_true rfl) ?_ (fun x => rfl) ?_ ?_ ?_
    · intro d hd
      simp only [List.mem_cons, List.not_mem_nil, or_false] at hd
      rcases hd with rfl | rfl <;> rfl
    · intro u d H2 R e2 hd hu r
      wtm_at "go"
      exact r _ (Ex.refl _)
    · intro u d H2 R e2 hd _ hu r
      simp only [List.mem_cons, List.not_mem_nil, or_false] at hd
      rcases hd with rfl | rfl
      all_goals
        cases dpInt hu
        wtm_at "nrm"
        wtm_at "go"
        exact r _ _ (by wtm_at "ex") (by assumption)
    intro p H2 hn e2 ⟨acc, hacc, hdp⟩
    have hdp2 : DpAll K H2 acc [pt x1 y1 w1, pt x2 y2 w2] := by rw [← r1, ← r2]; exact hdp
    have hl : Dp K H2 (.ref p) (.list [pt x1 y1 w1, pt x2 y2 w2]) := .lst (Evl.sq_of hacc) hdp2
    clear hdp hdp2
    wtm_at "go"
    rename_i _ _ g1 _ k1 _ g2 _ k2 _
    refine i_lcM ?_
    wtm_at "go"
    refine i_lcL (fun _ => true) (fun d => match d with | .int a => rs sx sy sw ux uy vx vy a e o | _ => .none) (dpMono (eX.trans e2) hb) (Nat.le_of_ble_eq_true rfl) ?_ (fun x => rfl) ?_ ?_ ?_
    · intro d hd
      simp only [List.mem_cons, List.not_mem_nil, or_false] at hd
      rcases hd with rfl | rfl <;> rfl
    · intro u d H2 R e2 hd hu r
      wtm_at "go"
      exact r _ (Ex.refl _)
    · intro u d H2 R e2 hd _ hu r
      simp only [List.mem_cons, List.not_mem_nil, or_false] at hd
      rcases hd with rfl | rfl
      all_goals
        cases dpInt hu
        wtm_at "nrm"
        wtm_at "go"
        exact r _ _ (by wtm_at "ex") (by assumption)
    intro p' H3 hn' e3 ⟨acc', hacc', hdp'⟩
    have hdp3 : DpAll K H3 acc' [pt x3 y3 w3, pt x4 y4 w4] := by rw [← r3, ← r4]; exact hdp'
    have hl' : Dp K H3 (.ref p') (.list [pt x3 y3 w3, pt x4 y4 w4]) := .lst (Evl.sq_of hacc') hdp3
    clear hdp' hdp3
    wtm_at "go"
    refine' use__law_meets_right (es := es) ?g1 ?g2 ?g3 ?g4 ?g5 hl2 f5 (fun H4 e4 => ?g6)
    (case g1 => wtm_at "dp")
    (case g2 => wtm_at "dp")
    (case g3 => wtm_at "dp")
    (case g4 => wtm_at "dp")
    (case g5 => exact dpMono (e2.trans e3) hdue)
    (case g6 => exact q _ _ (((eX.trans e2).trans e3).trans e4) (Dp.bl _))
theorem use__law_line_right {a b c d e o : Int} (hd : Dp K H v1 (fr sx sy sw ux uy vx vy)) (ha : Dp K H v2 (.list [.int a, .int b])) (hb : Dp K H v3 (.list [.int c, .int d])) (fo : FrOk sx sy sw ux uy vx vy) (ho : 0 < o) (sa : Sz 31 a) (sb : Sz 31 b) (sc : Sz 31 c) (sd : Sz 31 d) (se : Sz 31 e) (so : Sz 4 o) (q : ∀ H2, Ex H H2 → Q (.bl true) H2) : sp__law_line_right K [v1, v2, v3, .int e, .int o] H Q E :=
  ⟨_, _, _, _, _, rfl, _, _, _, _, _, _, _, _, _, _, _, _, _, rfl, rfl, hd, ha, hb, fo, ho, ⟨sa, sb, sc, sd, se⟩, so, ret_bl q⟩
end
end Wb

namespace Wb
open PySem PySem.Spec PyProof.Rows L2
/-- the upper half -/
def up (a b : Int) : Prop := 0 < b ∨ (b = 0 ∧ 0 < a)
theorem up_trans {a b c d e f : Int} (u1 : up a b) (u2 : up c d) (u3 : up e f) (h1 : 0 < a * d - b * c) (h2 : 0 < c * f - d * e) : 0 < a * f - b * e := by
  unfold up at *
  have hb : 0 ≤ b := by omega
  have hf0 : 0 ≤ f := by omega
  have hd : 0 < d := by
    rcases u2 with k | ⟨k1, k2⟩
    · exact k
    · subst k1
      have := Int.mul_nonneg hb (Int.le_of_lt k2)
      omega
  have id : d * (a * f - b * e) = b * (c * f - d * e) + f * (a * d - b * c) := by grind
  have p1 : 0 ≤ b * (c * f - d * e) := Int.mul_nonneg hb (by omega)
  have p2 : 0 ≤ f * (a * d - b * c) := Int.mul_nonneg hf0 (by omega)
  have pos : 0 < d * (a * f - b * e) := by
    rw [id]
    rcases Int.lt_or_eq_of_le hb with k | k
    · have := Int.mul_pos k h2
      omega
    · rcases Int.lt_or_eq_of_le hf0 with k' | k'
      · have := Int.mul_pos k' h1
        omega
      · exfalso
        subst k'
        have he : 0 < e := by omega
        have := Int.mul_pos hd he
        omega
  rcases Int.lt_or_le 0 (a * f - b * e) with k | k
  · exact k
  · have := Int.mul_nonpos_of_nonneg_of_nonpos (Int.le_of_lt hd) k
    omega
/-- a direction -/
def nz (a b : Int) : Prop := ¬ (a = 0 ∧ b = 0)
theorem hf_cases (a b : Int) : (hf a b = 0 ∧ up a b) ∨ (hf a b = 1 ∧ ¬ up a b) := by
  unfold hf up
  split
  · exact .inl ⟨rfl, by assumption⟩
  · exact .inr ⟨rfl, by assumption⟩
theorem up_neg {a b : Int} (h : ¬ up a b) (n : nz a b) : up (-a) (-b) := by
  unfold up nz at *
  omega
theorem ahd_iff {a b c d : Int} : ahd a b c d = true ↔ hf a b < hf c d ∨ (hf a b = hf c d ∧ 0 < a * d - b * c) := by
  unfold ahd
  split
  · rename_i h
    rw [decide_eq_true_eq]
    omega
  · rename_i h
    rw [decide_eq_true_eq]
    omega
theorem ahd_trans {a b c d e f : Int} (n1 : nz a b) (n2 : nz c d) (n3 : nz e f) (h1 : ahd a b c d = true) (h2 : ahd c d e f = true) : ahd a b e f = true := by
  rw [ahd_iff] at *
  rcases hf_cases a b with ⟨k1, u1⟩ | ⟨k1, u1⟩ <;> rcases hf_cases c d with ⟨k2, u2⟩ | ⟨k2, u2⟩ <;> rcases hf_cases e f with ⟨k3, u3⟩ | ⟨k3, u3⟩ <;> rw [k1, k2] at h1 <;> rw [k2, k3] at h2 <;> rw [k1, k3]
  · exact .inr ⟨rfl, up_trans u1 u2 u3 (by omega) (by omega)⟩
  · omega
  · omega
  · omega
  · omega
  · omega
  · omega
  · have g1 : (-a) * (-d) - (-b) * (-c) = a * d - b * c := by grind
    have g2 : (-c) * (-f) - (-d) * (-e) = c * f - d * e := by grind
    have z := up_trans (up_neg u1 n1) (up_neg u2 n2) (up_neg u3 n3) (by rw [g1]; omega) (by rw [g2]; omega)
    refine .inr ⟨rfl, ?_⟩
    have e2 : (-a) * (-f) - (-b) * (-e) = a * f - b * e := by grind
    omega
theorem ahd_asym {a b c d : Int} (h : ahd a b c d = true) : ahd c d a b = false := by
  rw [← Bool.not_eq_true, ahd_iff]
  rw [ahd_iff] at h
  have e : c * b - d * a = -(a * d - b * c) := by grind
  omega
theorem ahd_self (a b : Int) : ahd a b a b = false := by
  rw [← Bool.not_eq_true, ahd_iff]
  have e : a * b - b * a = 0 := by grind
  omega
/-- positive multiples -/
theorem hf_mul {a b k : Int} (hk : 0 < k) : hf (k * a) (k * b) = hf a b := by
  have h1 : ∀ z : Int, 0 < k * z ↔ 0 < z := fun z => by
    constructor
    · intro h
      rcases Int.lt_or_le 0 z with c | c
      · exact c
      · have := Int.mul_nonpos_of_nonneg_of_nonpos (Int.le_of_lt hk) c
        omega
    · exact Int.mul_pos hk
  have h2 : k * b = 0 ↔ b = 0 := by
    constructor
    · intro h
      rcases Int.mul_eq_zero.mp h with c | c
      · omega
      · exact c
    · intro h
      rw [h, Int.mul_zero]
  unfold hf
  simp only [h1, h2]
theorem ahd_mul {a b c d k l : Int} (hk : 0 < k) (hl : 0 < l) : ahd (k * a) (k * b) (l * c) (l * d) = ahd a b c d := by
  rw [Bool.eq_iff_iff, ahd_iff, ahd_iff, hf_mul hk, hf_mul hl]
  have e : k * a * (l * d) - k * b * (l * c) = (k * l) * (a * d - b * c) := by grind
  rw [e]
  have kl := Int.mul_pos hk hl
  have h1 : 0 < (k * l) * (a * d - b * c) ↔ 0 < a * d - b * c := by
    constructor
    · intro h
      rcases Int.lt_or_le 0 (a * d - b * c) with z | z
      · exact z
      · have := Int.mul_nonpos_of_nonneg_of_nonpos (Int.le_of_lt kl) z
        omega
    · exact Int.mul_pos kl
  rw [h1]
/-- the mediant of two directions stands between them -/
theorem ahd_med {a b c d : Int} (h : ahd a b c d = true) (hc : 0 < a * d - b * c) : ahd a b (a + c) (b + d) = true ∧ ahd (a + c) (b + d) c d = true := by
  rw [ahd_iff] at *
  rw [ahd_iff]
  have e1 : a * (b + d) - b * (a + c) = a * d - b * c := by grind
  have e2 : (a + c) * d - (b + d) * c = a * d - b * c := by grind
  rw [e1, e2]
  rcases hf_cases a b with ⟨k1, u1⟩ | ⟨k1, u1⟩ <;> rcases hf_cases c d with ⟨k2, u2⟩ | ⟨k2, u2⟩ <;> rcases hf_cases (a + c) (b + d) with ⟨k3, u3⟩ | ⟨k3, u3⟩ <;> rw [k1, k2] at h <;> rw [k1, k2, k3]
  · exact ⟨.inr ⟨rfl, hc⟩, .inr ⟨rfl, hc⟩⟩
  · exfalso
    unfold up at *
    omega
  · exact ⟨.inr ⟨rfl, hc⟩, .inl (by decide)⟩
  · exact ⟨.inl (by decide), .inr ⟨rfl, hc⟩⟩
  · omega
  · omega
  · exfalso
    unfold up at *
    have hb : b = 0 ∨ b < 0 := by omega
    have hd : d = 0 ∨ d < 0 := by omega
    have hb0 : b = 0 := by omega
    have hd0 : d = 0 := by omega
    subst hb0 hd0
    simp at hc
  · exact ⟨.inr ⟨rfl, hc⟩, .inr ⟨rfl, hc⟩⟩
end Wb

namespace Wb
open PySem PySem.Spec PyProof.Rows L2
abbrev D2 : Type := Int × Int
abbrev cr (u v : D2) : Int := u.1 * v.2 - u.2 * v.1
abbrev ahp (u v : D2) : Prop := ahd u.1 u.2 v.1 v.2 = true
/-- directions in their order, neighbours less than half a turn apart -/
structure Dirs (ds : List D2) : Prop where
  pw : ds.Pairwise ahp
  nz : ∀ u ∈ ds, nz u.1 u.2
  hd : ds[0]? = some (1, 0)
  nb : ∀ i u v, ds[i]? = some u → ds[i + 1]? = some v → 0 < cr u v
  ls : ∀ u, ds[ds.length - 1]? = some u → u.2 < 0
theorem dirs0 : Dirs [(1, 0), (0, 1), (-1, 0), (0, -1)] := by
  refine ⟨by simp [ahp, ahd, hf], ?_, rfl, ?_, ?_⟩
  · intro u hu
    simp only [List.mem_cons, List.not_mem_nil, or_false] at hu
    rcases hu with rfl | rfl | rfl | rfl <;> (unfold nz; decide)
  · intro i u v h1 h2
    match i with
    | 0 => cases h1; cases h2; decide
    | 1 => cases h1; cases h2; decide
    | 2 => cases h1; cases h2; decide
    | 3 => cases h2
    | n + 4 => cases h1
  · intro u h
    cases h
    decide
theorem pw_at {ds : List D2} (h : ds.Pairwise ahp) {i j : Nat} {u v : D2} (hij : i < j) (hu : ds[i]? = some u) (hv : ds[j]? = some v) : ahp u v := by
  obtain ⟨h1, rfl⟩ := List.getElem?_eq_some_iff.mp hu
  obtain ⟨h2, rfl⟩ := List.getElem?_eq_some_iff.mp hv
  exact List.pairwise_iff_getElem.mp h i j h1 h2 hij
theorem ins_at {ds : List D2} {k : Nat} (hk : k ≤ ds.length) (m : D2) (j : Nat) : (ds.take k ++ [m] ++ ds.drop k)[j]? = if j < k then ds[j]? else if j = k then some m else ds[j - 1]? := by
  have hl : (ds.take k).length = k := by rw [List.length_take]; omega
  rw [List.append_assoc]
  by_cases h1 : j < k
  · rw [if_pos h1, List.getElem?_append_left (by omega), List.getElem?_take_of_lt h1]
  · rw [if_neg h1, List.getElem?_append_right (by omega), hl]
    by_cases h2 : j = k
    · subst h2
      rw [if_pos rfl, Nat.sub_self]
      rfl
    · rw [if_neg h2]
      obtain ⟨n, rfl⟩ : ∃ n, j = k + (n + 1) := ⟨j - k - 1, by omega⟩
      rw [show k + (n + 1) - k = n + 1 by omega, List.singleton_append, List.getElem?_cons_succ, List.getElem?_drop]
      congr 1
/-- a mediant put in -/
theorem Dirs.ins {ds : List D2} {i : Nat} {u v : D2} (h : Dirs ds) (hu : ds[i]? = some u) (hv : ds[(i + 1) % ds.length]? = some v) : Dirs (ds.take (i + 1) ++ [(u.1 + v.1, u.2 + v.2)] ++ ds.drop (i + 1)) := by
  have hi := (List.getElem?_eq_some_iff.mp hu).1
  have nu := h.nz u (List.mem_of_getElem? hu)
  have nv := h.nz v (List.mem_of_getElem? hv)
  have hcr : 0 < cr u v := by
    rcases Nat.lt_or_ge (i + 1) ds.length with c | c
    · rw [Nat.mod_eq_of_lt c] at hv
      exact h.nb i u v hu hv
    · have e : i + 1 = ds.length := by omega
      rw [e, Nat.mod_self, h.hd] at hv
      cases hv
      have := h.ls u (by rw [← e]; exact hu)
      show 0 < u.1 * 0 - u.2 * 1
      omega
  have am : ahp u (u.1 + v.1, u.2 + v.2) ∧ (i + 1 < ds.length → ahp (u.1 + v.1, u.2 + v.2) v) := by
    rcases Nat.lt_or_ge (i + 1) ds.length with c | c
    · rw [Nat.mod_eq_of_lt c] at hv
      have z := ahd_med (pw_at h.pw (Nat.lt_succ_self i) hu hv) hcr
      exact ⟨z.1, fun _ => z.2⟩
    · have e : i + 1 = ds.length := by omega
      rw [e, Nat.mod_self, h.hd] at hv
      cases hv
      have hl := h.ls u (by rw [← e]; exact hu)
      refine ⟨?_, fun z => by omega⟩
      show ahd u.1 u.2 (u.1 + 1) (u.2 + 0) = true
      rw [ahd_iff]
      refine .inr ⟨?_, ?_⟩
      · unfold hf
        rw [if_neg (by omega), if_neg (by omega)]
      · have e2 : u.1 * (u.2 + 0) - u.2 * (u.1 + 1) = -u.2 := by grind
        omega
  have nm : Wb.nz (u.1 + v.1) (u.2 + v.2) := by
    rintro ⟨z1, z2⟩
    have e1 : cr u v = 0 := by
      have a1 : v.1 = -u.1 := by omega
      have a2 : v.2 = -u.2 := by omega
      show u.1 * v.2 - u.2 * v.1 = 0
      rw [a1, a2]
      grind
    omega
  have c1 : 0 < cr u (u.1 + v.1, u.2 + v.2) := by
    have e : u.1 * (u.2 + v.2) - u.2 * (u.1 + v.1) = u.1 * v.2 - u.2 * v.1 := by grind
    show 0 < u.1 * (u.2 + v.2) - u.2 * (u.1 + v.1)
    rw [e]
    exact hcr
  have c2 : 0 < cr (u.1 + v.1, u.2 + v.2) v := by
    have e : (u.1 + v.1) * v.2 - (u.2 + v.2) * v.1 = u.1 * v.2 - u.2 * v.1 := by grind
    show 0 < (u.1 + v.1) * v.2 - (u.2 + v.2) * v.1
    rw [e]
    exact hcr
  have lm : i + 1 = ds.length → u.2 + v.2 < 0 := fun e => by
    rw [e, Nat.mod_self, h.hd] at hv
    cases hv
    have := h.ls u (by rw [← e]; exact hu)
    omega
  have lv : i + 1 < ds.length → ds[i + 1]? = some v := fun c => by
    rw [Nat.mod_eq_of_lt c] at hv
    exact hv
  have toM : ∀ x ∈ ds.take (i + 1), ahp x (u.1 + v.1, u.2 + v.2) := fun x hx => by
    obtain ⟨k, hk, rfl⟩ := List.mem_iff_getElem.mp hx
    have hk2 : k < i + 1 := by
      rw [List.length_take] at hk
      omega
    have hx2 : ds[k]? = some ((ds.take (i + 1))[k]) := by rw [← List.getElem?_take_of_lt hk2, List.getElem?_eq_getElem hk]
    rcases Nat.lt_or_eq_of_le (Nat.le_of_lt_succ hk2) with c | c
    · exact ahd_trans (h.nz _ (List.mem_of_getElem? hx2)) nu nm (pw_at h.pw c hx2 hu) am.1
    · subst c
      rw [hu] at hx2
      rw [← Option.some.inj hx2]
      exact am.1
  have frM : ∀ y ∈ ds.drop (i + 1), ahp (u.1 + v.1, u.2 + v.2) y := fun y hy => by
    obtain ⟨k, hk, rfl⟩ := List.mem_iff_getElem.mp hy
    have hk2 : i + 1 + k < ds.length := by
      rw [List.length_drop] at hk
      omega
    have hy2 : ds[i + 1 + k]? = some ((ds.drop (i + 1))[k]) := by rw [← List.getElem?_drop, List.getElem?_eq_getElem hk]
    have a2 := am.2 (by omega)
    rcases Nat.eq_zero_or_pos k with c | c
    · subst c
      have hv2 : ds[i + 1 + 0]? = some v := lv (by omega)
      rw [hv2] at hy2
      rw [← Option.some.inj hy2]
      exact a2
    · exact ahd_trans nm nv (h.nz _ (List.mem_of_getElem? hy2)) a2 (pw_at h.pw (show i + 1 < i + 1 + k by omega) (lv (by omega)) hy2)
  have at_ := ins_at (k := i + 1) (show i + 1 ≤ ds.length by omega) (u.1 + v.1, u.2 + v.2)
  refine ⟨?_, ?_, ?_, ?_, ?_⟩
  · have pd := h.pw
    rw [← List.take_append_drop (i + 1) ds, List.pairwise_append] at pd
    obtain ⟨q1, q2, q3⟩ := pd
    rw [List.append_assoc, List.pairwise_append]
    refine ⟨q1, ?_, fun x hx y hy => ?_⟩
    · rw [List.singleton_append, List.pairwise_cons]
      exact ⟨frM, q2⟩
    · rcases List.mem_append.mp hy with hy | hy
      · rw [List.mem_singleton.mp hy]
        exact toM x hx
      · exact q3 x hx y hy
  · intro x hx
    rcases List.mem_append.mp hx with hx | hx
    · rcases List.mem_append.mp hx with hx | hx
      · exact h.nz x (List.mem_of_mem_take hx)
      · rw [List.mem_singleton.mp hx]
        exact nm
    · exact h.nz x (List.mem_of_mem_drop hx)
  · rw [at_, if_pos (by omega)]
    exact h.hd
  · intro j x y hx hy
    rw [at_] at hx hy
    rcases Nat.lt_trichotomy j (i + 1) with c | c | c
    · rw [if_pos c] at hx
      rcases Nat.lt_or_ge (j + 1) (i + 1) with c' | c'
      · rw [if_pos c'] at hy
        exact h.nb j x y hx hy
      · have e : j = i := by omega
        subst e
        rw [if_neg (by omega), if_pos rfl] at hy
        cases hy
        rw [hu] at hx
        cases hx
        exact c1
    · subst c
      rw [if_neg (by omega), if_pos rfl] at hx
      rw [if_neg (by omega), if_neg (by omega)] at hy
      cases hx
      have hy2 : ds[i + 1]? = some y := hy
      have hl := (List.getElem?_eq_some_iff.mp hy2).1
      rw [lv hl] at hy2
      cases hy2
      exact c2
    · rw [if_neg (by omega), if_neg (by omega)] at hx hy
      refine h.nb (j - 1) x y hx ?_
      rw [show j - 1 + 1 = j + 1 - 1 by omega]
      exact hy
  · intro x hx
    have hlen : (ds.take (i + 1) ++ [(u.1 + v.1, u.2 + v.2)] ++ ds.drop (i + 1)).length - 1 = ds.length := by
      simp only [List.length_append, List.length_take, List.length_drop, List.length_singleton]
      omega
    rw [hlen, at_, if_neg (by omega)] at hx
    by_cases c : ds.length = i + 1
    · rw [if_pos c] at hx
      cases hx
      exact lm c.symm
    · rw [if_neg c] at hx
      exact h.ls x hx
end Wb

namespace Wb
open PySem PySem.Spec PyProof.Rows L2
open Evl (Ex Ex.refl Ex.trans Ex.new)
section
variable {P : Program} {w : World} {K : PySem.W.Frag} {mg : Str → Option Value} {base : Heap} {H H' : Hp} {Q : VK} {E : XK} {v1 v2 v3 v4 : V} {x1 y1 w1 x2 y2 w2 x3 y3 w3 x4 y4 w4 : Int}
def sp__law_refusal (K : PySem.W.Frag) : Sp := A2 fun v1 v2 H Q => ∃ d1 d2, Dp K H v1 d1 ∧ Dp K H v2 d2 ∧
  (((isPoint d1 = false ∨ (isPoint d1 = true ∧ dIsTup d2 = false) ∨ (isPoint d1 = true ∧ ∃ ds, d2 = .tuple ds ∧ ds.length ≤ 100000 ∧ ¬ ∀ d ∈ ds, isPoint d = true)) ∧ ∀ H2, Ex H H2 → Q (.str "point") H2) ∨
   ((∃ (c : Pt) (ps : List Pt), d1 = dpt c ∧ d2 = .tuple (ps.map dpt) ∧ isPoint (dpt c) = true ∧ (∀ p ∈ ps, isPoint (dpt p) = true) ∧ ps.length ≤ 60 ∧ c ∈ ps) ∧ ∀ H2, Ex H H2 → Q (.str "operation") H2))
abbrev s__law_refusal : Stmt := top 46
theorem sc__law_refusal : FnScope ["_law_centre", "_law_points"] ["_law_centre", "_law_points"] (defScope s__law_refusal) := ⟨rfl, rfl, rfl, by decide +kernel, rfl, by decide +kernel, by decide +kernel⟩
theorem ok__law_refusal {f : Addr} {fd : FuncData} {CP CO : Addr} (F : FnP K "_law_refusal" s__law_refusal f fd) (eP : Exc1 K mg "InvalidPoint" CP) (eO : Exc1 K mg "InvalidOperation" CO) (ne : PySem.W.exmOne K (.ref CP) (.ref CO) = some false) (cx : ClX P w K mg base 6 "sorted_round" (sp_sorted_round K CP CO)) : FnOk P w K mg base CX0 7 f fd ["_law_centre", "_law_points"] (sp__law_refusal K) := by
  have nd := sc__law_refusal.nd
  obtain ⟨fx, fdx, psx, FX, mX, kX, bX⟩ := cx.ex
  refine F.ok sc__law_refusal (fun vs H Q E h => h.len) (fun cdv A outer s H vs Q E hr h => ?_)
  obtain ⟨v1, v2, rfl, h⟩ := h
  have hr1 : Room 6 _ := hr.mono (by decide)
  refine ⟨_, pss_one (ps_try_many (tb := fun W => tSeq (tDrop (tCallS (sp_sorted_round K CP CO) (WE W) (tCons (tVar 0) (tCons (tVar 1) tNil)))) (tRet (tC .non))) (l := [(.ref CO, fun _ _ _ => tRet (tC (.str "operation"))), (.ref CP, fun _ _ _ => tRet (tC (.str "point")))]) (Wout := fun _ _ _ _ => False) rfl rfl L2.takes0
          (fun W pn xe tk _ => pss_cons (ps_expr (by exact (pe_callS FX hr1 rfl mX kX bX (fun σ => passAt tk σ) (by exact (pa_cons (pv 0) (pa_cons (pv 1) pa_nil)))))) (pss_one (ps_ret pe_non)))
          (.cons ⟨rfl, by decide, Or.inl eO.g⟩ (fun _ _ _ _ _ _ _ => pss_one (ps_ret pe_str)) (.cons ⟨rfl, by decide, Or.inl eP.g⟩ (fun _ _ _ _ _ _ _ => pss_one (ps_ret pe_str)) .nil))), ?_⟩
  obtain ⟨d1, d2, h1, h2, h⟩ := h
  refine i_seq (i_drop (i_cs (i_cons (i_var rfl (i_cons (i_var rfl (i_nil ?_)))))))
  rcases h with ⟨hk, q⟩ | ⟨⟨c, ps, rfl, rfl, p1, p2, hl, hm⟩, q⟩
  · have xp : XL CP H (WE (wMany K (fun _ _ _ _ => False) { nx := fun _ H' => Q .non H', rt := Q } [(.ref CO, fun _ _ _ => tRet (tC (.str "operation"))), (.ref CP, fun _ _ _ => tRet (tC (.str "point")))]) (start ["_law_centre", "_law_points"] [v1, v2])) :=
      fun H2 e2 => ⟨false, ne, (fun z => by cases z), fun _ => ⟨true, eP.m, fun _ a ha => q H2 e2, fun z => by cases z⟩⟩
    refine ⟨v1, v2, rfl, d1, d2, h1, h2, fun _ => xp, fun _ _ => xp, fun hp ds hds => ?_⟩
    rcases hk with k | ⟨_, k⟩ | ⟨_, ds', k1, k2, k3⟩
    · rw [hp] at k
      cases k
    · subst hds
      cases k
    · subst hds
      cases k1
      exact ⟨k2, fun _ => xp, fun z => absurd z k3⟩
  · have xo : XL CO H (WE (wMany K (fun _ _ _ _ => False) { nx := fun _ H' => Q .non H', rt := Q } [(.ref CO, fun _ _ _ => tRet (tC (.str "operation"))), (.ref CP, fun _ _ _ => tRet (tC (.str "point")))]) (start ["_law_centre", "_law_points"] [v1, v2])) :=
      fun H2 e2 => ⟨true, eO.m, fun _ a ha => q H2 e2, fun z => by cases z⟩
    refine ⟨v1, v2, rfl, _, _, h1, h2, (fun z => by rw [p1] at z; cases z), (fun _ z => by cases z), fun hp ds hds => ?_⟩
    cases hds
    have hall : ∀ d ∈ ps.map dpt, isPoint d = true := fun d hd => by
      obtain ⟨p, hp, rfl⟩ := List.mem_map.mp hd
      exact p2 p hp
    refine ⟨by rw [List.length_map]; omega, fun z => absurd hall z, fun _ => ⟨c, ps, rfl, rfl, hl, fun _ => xo, fun z => absurd hm z⟩⟩
end
end Wb

namespace Wb
open PySem PySem.Spec PyProof.Rows L2
open Evl (Ex Ex.refl Ex.trans Ex.new)
local macro_rules | `(tactic| wtm_at "dp") => `(tactic| first | with_reducible assumption | with_reducible exact Dp.int _ | with_reducible exact Dp.bl _ | with_reducible exact Dp.str _ | with_reducible exact Dp.non | ((with_reducible refine' dpMono ?dme (by with_reducible assumption)); (case dme => wtm_at "ex")) | ((with_reducible refine' Dp.tup (Evl.st_of ?dph) ?dpa); (case dph => wtm_at "hs"); (case dpa => wtm_at "dpa")) | ((with_reducible refine' Dp.lst (Evl.sq_of ?dph) ?dpa); (case dph => wtm_at "hs"); (case dpa => wtm_at "dpa")))
local macro_rules | `(tactic| wtm_at "dpa") => `(tactic| first | with_reducible exact DpAll.nil | ((with_reducible refine' DpAll.cons ?dp1 ?dp2); (case dp1 => wtm_at "dp"); (case dp2 => wtm_at "dpa")) | with_reducible assumption | ((with_reducible refine' dpMonoA ?dme (by with_reducible assumption)); (case dme => wtm_at "ex")))
local macro_rules | `(tactic| wtm_at "sz") => `(tactic| first | with_reducible assumption | ((with_reducible refine' sz_mul ?sz1 ?sz2); (case sz1 => wtm_at "sz"); (case sz2 => wtm_at "sz")) | ((with_reducible refine' sz_add ?sz1 ?sz2); (case sz1 => wtm_at "sz"); (case sz2 => wtm_at "sz")) | ((with_reducible refine' sz_sub ?sz1 ?sz2); (case sz1 => wtm_at "sz"); (case sz2 => wtm_at "sz")) | ((with_reducible refine' sz_neg ?sz1); (case sz1 => wtm_at "sz")) | ((with_reducible refine' sz_div ?sz1); (case sz1 => wtm_at "sz")) | ((with_reducible refine' sz_fdiv ?sz1); (case sz1 => wtm_at "sz")) | exact sz_lit (by decide) | wtm_at "sz2")
local macro_rules | `(tactic| wtm_at "szb") => `(tactic| first | with_reducible assumption | ((with_reducible refine' sz_mono ?szb1 ?szb2); (case szb1 => wtm_at "sz"); (case szb2 => decide)))
local macro_rules | `(tactic| wtm_at "nz") => `(tactic| first | assumption | decide | omega)
local macro_rules | `(tactic| wtm_at "shaped") => `(tactic| first | rfl | decide)
local macro_rules | `(tactic| wtm_at "sset") => `(tactic| ((dsimp only [L2.wipe, List.set, List.set_cons_zero, List.set_cons_succ]) <;> exact rfl))
local macro_rules | `(tactic| wtm_at "nrm") => `(tactic| dsimp only [L2.start, L2.wipe, List.set, List.append, List.map, List.map_cons, List.map_nil, List.length_cons, List.length_nil, Nat.reduceAdd, Nat.reduceSub, List.reduceReplicate, List.replicate, List.cons_append, List.nil_append, List.set_cons_zero, List.set_cons_succ])
local macro_rules | `(tactic| wtm_at "st") => `(tactic| first
  | ((with_reducible refine' i_var (v := ?u0) ?u1 ?uq); (case u1 => exact rfl))
  | ((with_reducible refine' i_nameN ?u0 ?uq); (case u0 => wtm_at "sset"))
  | (with_reducible refine' i_op ?uq)
  | (with_reducible refine' i_c ?uq)
  | (with_reducible refine' i_I0 ?uq)
  | ((with_reducible refine' i_ixTI (i := ?u0) ?u1 ?u2 ?u3 ?uq); (case u1 => wtm_at "dp"); (case u2 => wtm_at "ex"); (case u3 => exact rfl))
  | ((with_reducible refine' i_ixT (d := ?u0) ?u1 ?u2 ?u3 (fun xu hxu => ?uq)); (case u1 => wtm_at "dp"); (case u2 => wtm_at "ex"); (case u3 => exact rfl))
  | ((with_reducible refine' i_mul ?u0 ?u1 ?u2 ?uq); (case u0 => wtm_at "sz"); (case u1 => wtm_at "sz"); (case u2 => first | decide | omega))
  | (with_reducible refine' i_seq ?uq)
  | (with_reducible refine' i_asg ?uq)
  | (with_reducible refine' i_ret ?uq)
  | (with_reducible refine' i_ifs ?uq)
  | (with_reducible refine' i_drop ?uq)
  | (with_reducible refine' i_next ?uq)
  | (with_reducible refine' i_cons ?uq)
  | (with_reducible refine' i_nil ?uq)
  | (with_reducible refine' i_cl ?uq)
  | (with_reducible refine' i_cb ?uq)
  | (with_reducible refine' i_tup ?uq)
  | (with_reducible refine' i_lst ?uq)
  | ((with_reducible refine' i_mkT ?u0 (fun np nH nhe nhp => ?uq)); (case u0 => exact Nat.le_of_ble_eq_true rfl))
  | (with_reducible refine' i_test ?uq)
  | (with_reducible refine' i_B ?uq)
  | (with_reducible refine' i_k ?uq)
  | (with_reducible refine' i_and ?uq)
  | (with_reducible refine' i_or ?uq)
  | (with_reducible refine' i_not ?uq)
  | (with_reducible refine' i_andV ?uq)
  | (with_reducible refine' i_orV ?uq)
  | (with_reducible refine' i_notV ?uq)
  | (with_reducible refine' i_if ?uq)
  | (with_reducible refine' i_un ?uq)
  | (with_reducible refine' i_U ?uq)
  | (with_reducible refine' i_iteT ?uq)
  | (with_reducible refine' i_iteF ?uq)
  | ((with_reducible refine' i_iteTr ?u0 ?uq); (case u0 => first | with_reducible rfl | decide | (simp only [dIsInt, dIsBool, dIsTup, dIsStr, dIsLst, Bool.not_true, Bool.not_false]; done)))
  | ((with_reducible refine' i_iteFr ?u0 ?uq); (case u0 => first | with_reducible rfl | decide | (simp only [dIsInt, dIsBool, dIsTup, dIsStr, dIsLst, Bool.not_true, Bool.not_false]; done)))
  | (with_reducible refine' i_ite (fun hif => ?uqa) (fun hif => ?uqb))
  | (with_reducible refine' i_iteN (fun hif => ?uqa) (fun hif => ?uqb))
  | (with_reducible refine' i_iteBN (fun hif => ?uqa) (fun hif => ?uqb))
  | (with_reducible refine' i_iteB (fun hif => ?uqa) (fun hif => ?uqb))
  | ((with_reducible refine' i_modN ?u0 ?uq); (case u0 => wtm_at "nz"))
  | ((with_reducible refine' i_fdX ?u0 ?u1 ?u2 ?uq); (case u0 => wtm_at "nz"); (case u1 => wtm_at "sz"); (case u2 => first | decide | omega))
  | ((with_reducible refine' i_pow ?u0 ?uq); (case u0 => exact ⟨by decide, by decide +kernel⟩))
  | (with_reducible refine' i_eqI ?uq)
  | (with_reducible refine' i_neI ?uq)
  | (with_reducible refine' i_gcd ?uq)
  | (with_reducible refine' i_qabs ?uq)
  | (with_reducible refine' i_qint ?uq)
  | (with_reducible refine' i_qintB ?uq)
  | (with_reducible refine' i_qmax2 ?uq)
  | (with_reducible refine' i_qmin2 ?uq)
  | (with_reducible refine' i_isB ?uq)
  | (with_reducible refine' i_notB ?uq)
  | (with_reducible refine' i_chain ?uq)
  | (with_reducible refine' i_qisN ?uq)
  | (with_reducible refine' i_qnotN ?uq)
  | (with_reducible refine' i_yes ?uq)
  | (with_reducible refine' i_par ?uq)
  | (with_reducible refine' i_par3 ?uq)
  | ((with_reducible refine' i_par2 ?u0 ?uq); (case u0 => wtm_at "sset"))
  | ((with_reducible refine' i_par33 ?u0 ?uq); (case u0 => wtm_at "sset"))
  | ((with_reducible refine' i_ixLI (i := ?u0) ?u1 ?u2 ?u3 ?uq); (case u1 => wtm_at "dp"); (case u2 => wtm_at "ex"); (case u3 => exact rfl))
  | ((with_reducible refine' i_ixL (d := ?u0) ?u1 ?u2 ?u3 (fun xu hxu => ?uq)); (case u1 => wtm_at "dp"); (case u2 => wtm_at "ex"); (case u3 => exact rfl))
  | ((with_reducible refine' i_qlenT ?u0 ?uq); (case u0 => wtm_at "dp"))
  | ((with_reducible refine' i_qlenL ?u0 ?uq); (case u0 => wtm_at "dp"))
  | ((with_reducible refine' i_gtup ?u0 ?u1 ?u2 (fun gvs gdp => ?uq)); (case u0 => wtm_at "dp"); (case u1 => wtm_at "ex"); (case u2 => exact rfl))
  | ((with_reducible refine' i_glst ?u0 ?u1 ?u2 (fun gvs gdp => ?uq)); (case u0 => wtm_at "dp"); (case u1 => wtm_at "ex"); (case u2 => exact rfl))
  | ((with_reducible refine' i_gconsI ?u0 (fun gr gh => ?uq)); (case u0 => with_reducible assumption))
  | ((with_reducible refine' i_gconsA ?u0 (fun gv gr gh1 gh2 => ?uq)); (case u0 => with_reducible assumption))
  | ((with_reducible refine' i_gnilA ?u0 ?uq); (case u0 => with_reducible assumption))
  | ((with_reducible refine' i_isiI ?u0 ?uq); (case u0 => wtm_at "dp"))
  | ((with_reducible refine' i_isiB ?u0 ?uq); (case u0 => wtm_at "dp"))
  | ((with_reducible refine' i_isiT ?u0 ?uq); (case u0 => wtm_at "dp"))
  | ((with_reducible refine' i_isiS ?u0 ?uq); (case u0 => wtm_at "dp"))
  | ((with_reducible refine' i_isiL ?u0 ?uq); (case u0 => wtm_at "dp"))
  | ((with_reducible refine' i_eqD ?u0 ?u1 ?u2 ?u3 ?uq); (case u0 => wtm_at "dp"); (case u1 => wtm_at "dp"); (case u2 => wtm_at "shaped"); (case u3 => wtm_at "shaped"))
  | ((with_reducible refine' i_neD ?u0 ?u1 ?u2 ?u3 ?uq); (case u0 => wtm_at "dp"); (case u1 => wtm_at "dp"); (case u2 => wtm_at "shaped"); (case u3 => wtm_at "shaped"))
  | wtm_at "st2"
  | wtm_at "use")
local macro_rules | `(tactic| wtm_at "go") => `(tactic| repeat' (wtm_at "st"))
local macro_rules | `(tactic| wtm_at "go0") => `(tactic| ((try dsimp only [L2.cxOf, L2.Cx.nox, L2.Cx.wish, L2.Cx.tr, L2.Cx.blk]); (try wtm_at "nrm"); wtm_at "go"))
local macro_rules | `(tactic| wtm_at "fin") => `(tactic| ((try dsimp only); first | with_reducible assumption | assumption | ((with_reducible refine' Ret.use ?rur ?rue ?rud); (case rur => with_reducible assumption); (case rue => wtm_at "ex"); (case rud => wtm_at "dp"))))
local macro_rules | `(tactic| wtm_at "exh") => `(tactic| first | with_reducible assumption | with_reducible exact Ex.refl _ | with_reducible exact ex_hid | ((with_reducible refine' Ex.trans ?exe (by with_reducible assumption)); (case exe => wtm_at "exh")) | ((with_reducible refine' Ex.trans ?exe (hid_ex (by with_reducible assumption))); (case exe => wtm_at "exh")))
local macro_rules | `(tactic| wtm_at "ex") => `(tactic| first | with_reducible assumption | with_reducible exact Ex.refl _ | with_reducible exact ex_hid | ((with_reducible refine' Ex.trans ?exe (by with_reducible assumption)); (case exe => wtm_at "ex")) | ((with_reducible refine' Ex.trans ?exe (hid_ex (by with_reducible assumption))); (case exe => wtm_at "ex")) | ((with_reducible refine' Ex.trans ?exe ex_hid); (case exe => wtm_at "exh")))
local macro_rules | `(tactic| wtm_at "bag") => `(tactic| first | with_reducible assumption | ((with_reducible refine' Bag.mono ?bgm (by with_reducible assumption)); (case bgm => wtm_at "bag")))
local macro_rules | `(tactic| wtm_at "hs") => `(tactic| first | with_reducible assumption | ((with_reducible refine' hid_tup ?hb ?hp); (case hp => with_reducible assumption); (case hb => wtm_at "bag")) | ((with_reducible refine' hid_new ?hb ?hn ?hp); (case hp => with_reducible assumption); (case hn => with_reducible assumption); (case hb => wtm_at "bag")) | ((with_reducible refine' ex_at ?exe (by with_reducible assumption)); (case exe => wtm_at "ex")))
local macro_rules | `(tactic| wtm_at "st2") => `(tactic| first
  | ((with_reducible refine' i_mulC ?u0 ?uq); (case u0 => first | exact cmul_l (by decide) | exact cmul_r (by decide)))
  | ((with_reducible refine' i_ixLr (v := ?u0) ?u1 ?u2 ?uq); (case u1 => with_reducible assumption); (case u2 => exact rfl))
  | (with_reducible refine' i_sub ?uq)
  | ((with_reducible refine' i_mkL ?u0 (fun np nH nfr nhe nhp => ?uq)); (case u0 => exact Nat.le_of_ble_eq_true rfl))
  | ((with_reducible refine' i_setL (n := ?u0) ?u1 ?u2 (fun sH sh se => ?uq)); (case u1 => with_reducible assumption); (case u2 => exact rfl))
  | (with_reducible refine' i_sl ?uq)
  | (with_reducible refine' i_nopart ?uq)
  | (with_reducible refine' i_part ?uq)
  | (with_reducible refine' i_part1 ?uq))
local macro_rules | `(tactic| wtm_at "sz2") => `(tactic| ((with_reducible refine' sz_fmod ?sz1 ?sz2); (case sz1 => wtm_at "nz"); (case sz2 => wtm_at "sz")))
local macro_rules | `(tactic| wtm_at "stb") => `(tactic| first
  | ((with_reducible refine' i_mkTB ?u0 ?u1 (fun np nH nhe nhb nhp => ?uq)); (case u0 => exact Nat.le_of_ble_eq_true rfl); (case u1 => wtm_at "bag"))
  | ((with_reducible refine' i_mkLB ?u0 ?u1 (fun np nH nfr nhe nhb nhp => ?uq)); (case u0 => exact Nat.le_of_ble_eq_true rfl); (case u1 => wtm_at "bag"))
  | wtm_at "st")
local macro_rules | `(tactic| wtm_at "gob") => `(tactic| repeat' (wtm_at "stb"))
local macro_rules | `(tactic| wtm_at "gob0") => `(tactic| ((try dsimp only [L2.cxOf, L2.Cx.nox, L2.Cx.wish, L2.Cx.tr, L2.Cx.blk]); (try wtm_at "nrm"); wtm_at "gob"))
local macro_rules | `(tactic| wtm_at "use") => `(tactic| ((with_reducible refine' use__law_draw ?u0 ?u1 ?u2 (fun dn dH dn0 dn1 de db => ?uq)); (case u0 => wtm_at "bag"); (case u1 => wtm_at "pos"); (case u2 => wtm_at "szb")))
local macro_rules | `(tactic| wtm_at "pos") => `(tactic| first | assumption | decide | omega)
local macro_rules | `(tactic| wtm_at "oneof") => `(tactic| ((with_reducible refine' use__law_one_of ?u0 ?u1 ?u2 ?u3 ?uq); (case u0 => wtm_at "bag"); (case u1 => wtm_at "dp"); (case u2 => exact Nat.le_of_ble_eq_true rfl); (case u3 => exact Nat.le_of_ble_eq_true rfl)))
section
variable {P : Program} {w : World} {K : PySem.W.Frag} {mg : Str → Option Value} {base : Heap} {H H' : Hp} {Q : VK} {E : XK} {v1 v2 v3 v4 : V} {x1 y1 w1 x2 y2 w2 x3 y3 w3 x4 y4 w4 : Int}
def kA (vs : List V) : TA := fun _ H R => R vs H
section
variable {σ : L2.St} {tu : TS} {D : Ends} {j : Nat} {vs : List Nat} {te : TE} {tt : TT}
theorem i_forRU {ta : TA} (q : ta σ H fun vs H1 => tFor (iRng1 (kA vs)) (gName j) tu D σ H1) : tFor (iRng1 ta) (gName j) tu D σ H := q
theorem i_lcRU {ta : TA} (q : ta σ H fun us H1 => tLc (iRng1 (kA us)) (gName j) tt te vs σ H1 Q) : tLc (iRng1 ta) (gName j) tt te vs σ H Q := q
theorem i_forRK {n : Int} (hn : 0 ≤ n ∧ n ≤ 100000) (Pv : Nat → L2.St → Hp → Prop) (h0 : Pv 0 σ H)
    (hs : ∀ (i : Nat) σ' H', (i : Int) < n → Pv i σ' H' → tu { D with nx := Pv (i + 1), ct := Pv (i + 1), bk := D.nx } (σ'.set j (some (.int (i : Int)))) H') (hd : ∀ σ' H', Pv n.toNat σ' H' → D.nx σ' H') : tFor (iRng1 (kA [.int n])) (gName j) tu D σ H :=
  ⟨n, rfl, by omega, by omega, for_range (lo := 0) (n := n.toNat) Pv h0 (fun i σ' H' hi p => by
    have e0 : (0 : Int) + (i : Int) = (i : Int) := Int.zero_add _
    show tu { D with nx := Pv (i + 1), ct := Pv (i + 1), bk := D.nx } (σ'.set j (some (.int ((0 : Int) + (i : Int))))) H'
    rw [e0]
    exact hs i σ' H' (by omega) p) hd⟩
theorem ex_hidD {b D0 : Addr} {H H' : Hp} {o : HO} (hD : H D0 = none) (e : Ex (hid b H) (hid b H')) : Ex (hid b H) (hid b (upd H' D0 o)) := fun a u h => by
  have h1 := of_hid h
  have hne : a ≠ D0 := ne_of_none h1.2 hD
  have h2 := of_hid (e a u h)
  exact hid_of (by rw [upd_ne hne]; exact h2.2) h2.1
theorem bag_upd {b D0 : Addr} {H : Hp} {o : HO} (hne : D0 ≠ b) (h : Bag b H) : Bag b (upd H D0 o) := by
  obtain ⟨x, y, z, h1, h2, h3⟩ := h.ex
  exact ⟨x, y, z, by rw [upd_ne (Ne.symm hne)]; exact h1, h2, h3⟩
theorem i_lcRB {b : Addr} {P : Int → Prop} {n : Nat} (hb : Bag b H) (hn : n ≤ 1000) (hw : ∀ x, wipe ((wipe σ vs).set j (some x)) vs = wipe σ vs)
    (he : ∀ (i : Nat) (H2 : Hp) (R : VK), Ex (hid b H) (hid b H2) → Bag b H2 → (∀ m H3, P m → Ex (hid b H2) (hid b H3) → Bag b H3 → R (.int m) H3) → te ((wipe σ vs).set j (some (.int (i : Int)))) H2 R)
    (q : ∀ p (ms : List Int) H2, ms.length = n → (∀ m ∈ ms, P m) → Ex (hid b H) (hid b H2) → Bag b H2 → hid b H2 p = some (.lst (ms.map V.int)) → Q (.ref p) H2) : tLc (iRng1 (kA [.int (n : Int)])) (gName j) tYes te vs σ H Q := by
  refine ⟨(n : Int), rfl, by omega, by omega, fun D0 hD => ?_⟩
  have hne : D0 ≠ b := hb.ne hD
  refine lc_range (lo := 0) (n := ((n : Int)).toNat) (fun i H' => Ex (hid b H) (hid b H') ∧ Bag b H' ∧ ∃ ms : List Int, ms.length = i ∧ (∀ m ∈ ms, P m) ∧ H' D0 = some (.lst (ms.map V.int))) ⟨ex_hidD hD (Ex.refl _), bag_upd hne hb, [], rfl, by simp, upd_same⟩ (fun i H' hi p => ?_) (fun H' p => ?_)
  · obtain ⟨p1, p2, ms, p3, p4, p5⟩ := p
    have e0 : (0 : Int) + (i : Int) = (i : Int) := Int.zero_add _
    show wipe ((wipe σ vs).set j (some (.int ((0 : Int) + (i : Int))))) vs = wipe σ vs ∧ tYes ((wipe σ vs).set j (some (.int ((0 : Int) + (i : Int))))) H' fun b' H3 => _
    rw [e0]
    refine ⟨hw _, he i H' _ p1 p2 fun m H3 hm e3 b3 => ?_⟩
    have hD3 : H3 D0 = some (.lst (ms.map V.int)) := (of_hid (e3 _ _ (hid_of p5 hne))).2
    refine ⟨_, hD3, Evl.sz_lt (by rw [List.length_map]; omega), ex_hidD hD (p1.trans e3), bag_upd hne b3, ms ++ [m], by simp [p3], ?_, by rw [upd_same, List.map_append]; rfl⟩
    intro m' hm'
    rcases List.mem_append.mp hm' with h | h
    · exact p4 m' h
    · rcases List.mem_singleton.mp h with rfl
      exact hm
  · obtain ⟨p1, p2, ms, p3, p4, p5⟩ := p
    exact q D0 ms H' (by omega) p4 p1 p2 (hid_of p5 hne)
end
theorem len6 {ms : List Int} (h : ms.length = 6) : ∃ a b c d e f, ms = [a, b, c, d, e, f] := by
  match ms, h with
  | [a, b, c, d, e, f], _ => exact ⟨a, b, c, d, e, f, rfl⟩
local macro_rules | `(tactic| wtm_at "st2") => `(tactic| (first | ((with_reducible refine' i_qlenS ?u0 ?uq); (case u0 => with_reducible assumption)) | fail))
local macro_rules | `(tactic| wtm_at "st2") => `(tactic| (with_reducible refine' i_bm ?uq))
local macro_rules | `(tactic| wtm_at "st2") => `(tactic| (first | ((with_reducible refine' i_tyL ?u0 ?uq); (case u0 => with_reducible assumption)) | fail))
abbrev d2 (u : D2) : PyData := .tuple [.int u.1, .int u.2]
def sp__law_directions (K : PySem.W.Frag) : Sp := A2 fun v1 v2 H Q => ∃ (b : Addr) (n : Int), v1 = .ref b ∧ v2 = .int n ∧ Bag b H ∧ 0 ≤ n ∧ n ≤ 8 ∧ ∀ (ds : List D2) v H2, Dirs ds → ds.length ≤ 12 → (∀ u ∈ ds, Sz 10 u.1 ∧ Sz 10 u.2) → Ex (hid b H) (hid b H2) → Bag b H2 → Dp K (hid b H2) v (.list (ds.map d2)) → Q v H2
theorem dpHid2 {b fa : Addr} {H H2 : Hp} {v : V} {d : PyData} (hn : H fa = none) (e : Ex H H2) (hd : Dp K (hid b H) v d) : Dp K (hid fa (hid b H2)) v d :=
  dpMono (fun a o h => hid_of (hid_ex e a o h) (ne_of_none (of_hid h).2 hn)) hd
def drW (K : PySem.W.Frag) (b fa : Addr) (n : Int) (H : Hp) : Nat → L2.St → Hp → Prop := fun i σ H' => ∃ (ds : List D2) (us : List V) (o3 o4 o5 o6 : Option V), σ = [some (.ref b), some (.int n), some (.ref fa), o3, o4, o5, o6] ∧ Ex (hid b H) (hid b H') ∧ Bag b H' ∧ H' fa = some (.lst us) ∧ DpAll K (hid fa (hid b H')) us (ds.map d2) ∧ Dirs ds ∧ ds.length = 4 + i ∧ ∀ u ∈ ds, u.1.natAbs ≤ 2 ^ i ∧ u.2.natAbs ≤ 2 ^ i
abbrev s__law_directions : Stmt := top 44
theorem sc__law_directions : FnScope ["_law_bag_here", "_law_size", "_law_found", "_law_turn", "_law_at", "_law_one", "_law_two"] ["_law_bag_here", "_law_size"] (defScope s__law_directions) := ⟨rfl, rfl, rfl, by decide +kernel, rfl, by decide +kernel, by decide +kernel⟩
theorem ok__law_directions {f : Addr} {fd : FuncData} (F : FnP K "_law_directions" s__law_directions f fd) (g : G mg) (c__law_draw : Cl P w K mg base 1 "_law_draw" (sp__law_draw K))  : FnOk P w K mg base CX0 2 f fd ["_law_bag_here", "_law_size"] (sp__law_directions K) := by
  have nd := sc__law_directions.nd
  refine F.ok sc__law_directions (fun vs H Q E h => h.len) (fun cdv A outer s H vs Q E hr h => ?_)
  obtain ⟨v1, v2, rfl, h⟩ := h
  refine ⟨_, PSs.nox (pss_cons (ps_set (i := 2) nd rfl (Or.inl rfl) (pe_lst (pa_cons (pe_tup (pa_cons pe_int (pa_cons pe_int pa_nil))) (pa_cons (pe_tup (pa_cons pe_int (pa_cons pe_int pa_nil))) (pa_cons (pe_tup (pa_cons (pe_un un_neg pe_int) (pa_cons pe_int pa_nil))) (pa_cons (pe_tup (pa_cons pe_int (pa_cons (pe_un un_neg pe_int) pa_nil))) pa_nil)))))) (pss_cons (ps_for PassesOwn.never rfl (pi_range1 (by rfl) g.f_range (pa_cons (pv 1) pa_nil)) (pg_name (i := 3) nd rfl (Or.inl rfl)) (pss_cons (ps_set (i := 4) nd rfl (Or.inl rfl) (pc c__law_draw hr (by decide) (by rfl) (pa_cons (pv 0) (pa_cons (pe_callB call_qlen (by rfl) g.f_len boot_len (pa_cons (pv 2) pa_nil)) pa_nil)))) (pss_cons (ps_par (i := 5) (j := 6) (by rfl) nd rfl rfl (by decide) rfl rfl (pa_cons (pe_ix ix_list (pv 2) (pv 4) (fun _ _ => rfl)) (pa_cons (pe_ix ix_list (pv 2) (pe_op op_modN (pe_callTy call_qint1 (by rfl) g.f_int boot_int (pa_cons (pe_op op_add (pv 4) pe_int) pa_nil)) (pe_callB call_qlen (by rfl) g.f_len boot_len (pa_cons (pv 2) pa_nil))) (fun _ _ => rfl)) pa_nil)) (by rfl)) (pss_one (ps_expr (pe_bm PySem.F.plainAttrs_list PySem.F.slot_list_insert PySem.F.type_list_insert mt_ins (pv 2) (pa_cons (pe_op op_add (pv 4) pe_int) (pa_cons (pe_tup (pa_cons (pe_op op_add (pe_ix ix_tup (pv 5) pe_int (fun _ _ => rfl)) (pe_ix ix_tup (pv 6) pe_int (fun _ _ => rfl))) (pa_cons (pe_op op_add (pe_ix ix_tup (pv 5) pe_int (fun _ _ => rfl)) (pe_ix ix_tup (pv 6) pe_int (fun _ _ => rfl))) pa_nil))) pa_nil)))))))) (pss_one (ps_ret (pv 2))))), ?_⟩
  obtain ⟨b, n, rfl, rfl, hb, h0, h8, q⟩ := h
  wtm_at "gob0"
  rename_i p1 G1 e1 b1 q1 p2 G2 e2 b2 q2 p3 G3 e3 b3 q3 p4 G4 e4 b4 q4 fa G5 fn e5 b5 q5
  have hfb : fa ≠ b := b4.ne fn
  have hn0 : H fa = none := Evl.fresh_back (((e1.trans e2).trans e3).trans e4) fn
  have hfa5 : G5 fa = some (.lst [.ref p1, .ref p2, .ref p3, .ref p4]) := (of_hid q5).2
  refine i_forRU ?_
  wtm_at "gob"
  refine i_forRK ⟨h0, by omega⟩ (drW K b fa n H) ?_ ?_ ?_
  · refine ⟨[(1, 0), (0, 1), (-1, 0), (0, -1)], _, _, _, _, _, rfl, ?_, b5, hfa5, ?_, dirs0, rfl, ?_⟩
    · exact hid_ex ((((e1.trans e2).trans e3).trans e4).trans e5)
    · have z1 : Dp K (hid b G4) (.ref p1) (d2 (1, 0)) := .tup (Evl.st_of (hid_ex ((e2.trans e3).trans e4) _ _ q1)) (.cons (.int _) (.cons (.int _) .nil))
      have z2 : Dp K (hid b G4) (.ref p2) (d2 (0, 1)) := .tup (Evl.st_of (hid_ex (e3.trans e4) _ _ q2)) (.cons (.int _) (.cons (.int _) .nil))
      have z3 : Dp K (hid b G4) (.ref p3) (d2 (-1, 0)) := .tup (Evl.st_of (hid_ex e4 _ _ q3)) (.cons (.int _) (.cons (.int _) .nil))
      have z4 : Dp K (hid b G4) (.ref p4) (d2 (0, -1)) := .tup (Evl.st_of q4) (.cons (.int _) (.cons (.int _) .nil))
      exact .cons (dpHid2 fn e5 z1) (.cons (dpHid2 fn e5 z2) (.cons (dpHid2 fn e5 z3) (.cons (dpHid2 fn e5 z4) .nil)))
    · intro u hu
      simp only [List.mem_cons, List.not_mem_nil, or_false] at hu
      rcases hu with rfl | rfl | rfl | rfl <;> decide
  · rintro i σ' H' hi ⟨ds, us, o3, o4, o5, o6, rfl, ex, bg, hf, hd, hD, hl, hs⟩
    have hlu : us.length = ds.length := by rw [dpLen hd, List.length_map]
    have hsq : SqL K H' fa us := Evl.sq_of hf
    have hlm : (List.map d2 ds).length = ds.length := List.length_map _
    have hpos : 0 < ((List.map d2 ds).length : Int) := by omega
    have hsz : Sz 9000 ((List.map d2 ds).length : Int) := sz_mono (sz_lit (by omega)) (by decide)
    wtm_at "nrm"
    wtm_at "gob"
    rename_i dn G dn0 dn1 de db
    obtain ⟨k, rfl⟩ : ∃ k : Nat, dn = k := ⟨dn.toNat, by omega⟩
    have hk : k < ds.length := by omega
    have hf2 : G fa = some (.lst us) := (of_hid (de _ _ (hid_of hf hfb))).2
    have hsq2 : SqL K G fa us := Evl.sq_of hf2
    have hd2 : DpAll K (hid fa (hid b G)) us (ds.map d2) := dpMonoA (hid_ex de) hd
    have ex2 : Ex (hid b H) (hid b G) := ex.trans de
    have hk2 : (k + 1) % us.length < ds.length := by rw [hlu]; exact Nat.mod_lt _ (by omega)
    have hu : ds[k]? = some ds[k] := List.getElem?_eq_getElem hk
    have hv : ds[(k + 1) % us.length]? = some ds[(k + 1) % us.length] := List.getElem?_eq_getElem hk2
    generalize ds[k] = u at hu
    generalize ds[(k + 1) % us.length] = v at hv
    obtain ⟨wu, hwu, hwud⟩ := dpGet hd2 (i := k) (d := d2 u) (by rw [List.getElem?_map, hu]; rfl)
    obtain ⟨wv, hwv, hwvd⟩ := dpGet hd2 (i := (k + 1) % us.length) (d := d2 v) (by rw [List.getElem?_map, hv]; rfl)
    have hwu2 : Dp K G wu (d2 u) := dpMono (ex_hid.trans ex_hid) hwud
    have hwv2 : Dp K G wv (d2 v) := dpMono (ex_hid.trans ex_hid) hwvd
    clear ex de
    refine ⟨fa, us, k, wu, rfl, rfl, hsq2, atI_nat hwu, ?_⟩
    wtm_at "gob"
    have emod : ((k : Int) + 1).fmod (us.length : Int) = (((k + 1) % us.length : Nat) : Int) := by
      rw [Int.fmod_eq_emod_of_nonneg _ (by omega), Int.natCast_emod]
      rfl
    rw [show ((List.map d2 ds).length : Int) = (us.length : Int) by rw [List.length_map, hlu], emod]
    refine ⟨fa, us, _, wv, rfl, rfl, hsq2, atI_nat hwv, ?_⟩
    wtm_at "gob"
    rename_i np G6 nhe nhb nhp
    have e1 : ((k : Int) + 1) = ((k + 1 : Nat) : Int) := by omega
    rw [e1]
    have hf6 : G6 fa = some (.lst us) := nhe _ _ hf2
    refine i_ins hf6 (by omega) (by omega) ?_
    have hD2 := hD.ins hu (by rw [← hlu]; exact hv)
    refine ⟨_, _, _, _, _, _, rfl, ex_hidD hn0 (ex2.trans (hid_ex nhe)), bag_upd hfb nhb, upd_same, ?_, hD2, ?_, ?_⟩
    · have eh : hid fa (hid b (upd G6 fa (.lst (us.take (k + 1) ++ [.ref np] ++ us.drop (k + 1))))) = hid fa (hid b G6) := by
        funext a
        unfold hid
        by_cases h : a = fa
        · rw [if_pos h, if_pos h]
        · rw [if_neg h, if_neg h, upd_ne h]
      rw [eh, List.map_append, List.map_append, List.map_take, List.map_drop]
      have hd6 := dpMonoA (hid_ex (hid_ex nhe)) hd2
      have hnp := of_hid nhp
      refine dpAppN (dpAppN (dpTakeN hd6) (.cons (.tup (Evl.st_of (hid_of nhp (ne_of hnp.2 hf6 (by intro z; cases z)))) (.cons (.int _) (.cons (.int _) .nil))) .nil)) (dpDropN hd6)
    · simp only [List.length_append, List.length_take, List.length_drop, List.length_singleton]
      omega
    · have h2 : (2 : Nat) ^ (i + 1) = 2 ^ i + 2 ^ i := by rw [Nat.pow_succ]; omega
      intro x hx
      have hmem : x ∈ ds ∨ x = (u.1 + v.1, u.2 + v.2) := by
        rcases List.mem_append.mp hx with hx | hx
        · rcases List.mem_append.mp hx with hx | hx
          · exact .inl (List.mem_of_mem_take hx)
          · exact .inr (List.mem_singleton.mp hx)
        · exact .inl (List.mem_of_mem_drop hx)
      rcases hmem with hx | rfl
      · have := hs x hx
        omega
      · have a1 := hs u (List.mem_of_getElem? hu)
        have a2 := hs v (List.mem_of_getElem? hv)
        have t1 := Int.natAbs_add_le u.1 v.1
        have t2 := Int.natAbs_add_le u.2 v.2
        show (u.1 + v.1).natAbs ≤ _ ∧ (u.2 + v.2).natAbs ≤ _
        omega
  · rintro σ' H' ⟨ds, us, o3, o4, o5, o6, rfl, ex, bg, hf, hd, hD, hl, hs⟩
    wtm_at "gob"
    dsimp only
    refine q ds _ _ hD (by omega) (fun u hu => ?_) ex bg (.lst (Evl.sq_of (hid_of hf hfb)) (dpMonoA ex_hid hd))
    have h2 : (2 : Nat) ^ n.toNat ≤ 2 ^ 8 := Nat.pow_le_pow_right (by decide) (by omega)
    have := hs u hu
    unfold Sz
    omega
theorem use__law_directions {b : Addr} {n : Int} (hb : Bag b H) (h0 : 0 ≤ n) (h8 : n ≤ 8) (q : ∀ (ds : List D2) v H2, Dirs ds → ds.length ≤ 12 → (∀ u ∈ ds, Sz 10 u.1 ∧ Sz 10 u.2) → Ex (hid b H) (hid b H2) → Bag b H2 → Dp K (hid b H2) v (.list (ds.map d2)) → Q v H2) : sp__law_directions K [.ref b, .int n] H Q E := ⟨_, _, rfl, _, _, rfl, rfl, hb, h0, h8, q⟩
end
end Wb

namespace Wb
open PySem PySem.Spec PyProof.Rows L2
open Evl (Ex Ex.refl Ex.trans Ex.new)
local macro_rules | `(tactic| wtm_at "dp") => `(tactic| first | with_reducible assumption | with_reducible exact Dp.int _ | with_reducible exact Dp.bl _ | with_reducible exact Dp.str _ | with_reducible exact Dp.non | ((with_reducible refine' dpMono ?dme (by with_reducible assumption)); (case dme => wtm_at "ex")) | ((with_reducible refine' Dp.tup (Evl.st_of ?dph) ?dpa); (case dph => wtm_at "hs"); (case dpa => wtm_at "dpa")) | ((with_reducible refine' Dp.lst (Evl.sq_of ?dph) ?dpa); (case dph => wtm_at "hs"); (case dpa => wtm_at "dpa")))
local macro_rules | `(tactic| wtm_at "dpa") => `(tactic| first | with_reducible exact DpAll.nil | ((with_reducible refine' DpAll.cons ?dp1 ?dp2); (case dp1 => wtm_at "dp"); (case dp2 => wtm_at "dpa")) | with_reducible assumption | ((with_reducible refine' dpMonoA ?dme (by with_reducible assumption)); (case dme => wtm_at "ex")))
local macro_rules | `(tactic| wtm_at "sz") => `(tactic| first | with_reducible assumption | ((with_reducible refine' sz_mul ?sz1 ?sz2); (case sz1 => wtm_at "sz"); (case sz2 => wtm_at "sz")) | ((with_reducible refine' sz_add ?sz1 ?sz2); (case sz1 => wtm_at "sz"); (case sz2 => wtm_at "sz")) | ((with_reducible refine' sz_sub ?sz1 ?sz2); (case sz1 => wtm_at "sz"); (case sz2 => wtm_at "sz")) | ((with_reducible refine' sz_neg ?sz1); (case sz1 => wtm_at "sz")) | ((with_reducible refine' sz_div ?sz1); (case sz1 => wtm_at "sz")) | ((with_reducible refine' sz_fdiv ?sz1); (case sz1 => wtm_at "sz")) | exact sz_lit (by decide) | wtm_at "sz2")
local macro_rules | `(tactic| wtm_at "szb") => `(tactic| first | with_reducible assumption | ((with_reducible refine' sz_mono ?szb1 ?szb2); (case szb1 => wtm_at "sz"); (case szb2 => decide)))
local macro_rules | `(tactic| wtm_at "nz") => `(tactic| first | assumption | decide | omega)
local macro_rules | `(tactic| wtm_at "shaped") => `(tactic| first | rfl | decide)
local macro_rules | `(tactic| wtm_at "sset") => `(tactic| ((dsimp only [L2.wipe, List.set, List.set_cons_zero, List.set_cons_succ]) <;> exact rfl))
local macro_rules | `(tactic| wtm_at "nrm") => `(tactic| dsimp only [L2.start, L2.wipe, List.set, List.append, List.map, List.map_cons, List.map_nil, List.length_cons, List.length_nil, Nat.reduceAdd, Nat.reduceSub, List.reduceReplicate, List.replicate, List.cons_append, List.nil_append, List.set_cons_zero, List.set_cons_succ])
local macro_rules | `(tactic| wtm_at "st") => `(tactic| first
  | ((with_reducible refine' i_var (v := ?u0) ?u1 ?uq); (case u1 => exact rfl))
  | ((with_reducible refine' i_nameN ?u0 ?uq); (case u0 => wtm_at "sset"))
  | (with_reducible refine' i_op ?uq)
  | (with_reducible refine' i_c ?uq)
  | (with_reducible refine' i_I0 ?uq)
  | ((with_reducible refine' i_ixTI (i := ?u0) ?u1 ?u2 ?u3 ?uq); (case u1 => wtm_at "dp"); (case u2 => wtm_at "ex"); (case u3 => exact rfl))
  | ((with_reducible refine' i_ixT (d := ?u0) ?u1 ?u2 ?u3 (fun xu hxu => ?uq)); (case u1 => wtm_at "dp"); (case u2 => wtm_at "ex"); (case u3 => exact rfl))
  | ((with_reducible refine' i_mul ?u0 ?u1 ?u2 ?uq); (case u0 => wtm_at "sz"); (case u1 => wtm_at "sz"); (case u2 => first | decide | omega))
  | (with_reducible refine' i_seq ?uq)
  | (with_reducible refine' i_asg ?uq)
  | (with_reducible refine' i_ret ?uq)
  | (with_reducible refine' i_ifs ?uq)
  | (with_reducible refine' i_drop ?uq)
  | (with_reducible refine' i_next ?uq)
  | (with_reducible refine' i_cons ?uq)
  | (with_reducible refine' i_nil ?uq)
  | (with_reducible refine' i_cl ?uq)
  | (with_reducible refine' i_cb ?uq)
  | (with_reducible refine' i_tup ?uq)
  | (with_reducible refine' i_lst ?uq)
  | ((with_reducible refine' i_mkT ?u0 (fun np nH nhe nhp => ?uq)); (case u0 => exact Nat.le_of_ble_eq_true rfl))
  | (with_reducible refine' i_test ?uq)
  | (with_reducible refine' i_B ?uq)
  | (with_reducible refine' i_k ?uq)
  | (with_reducible refine' i_and ?uq)
  | (with_reducible refine' i_or ?uq)
  | (with_reducible refine' i_not ?uq)
  | (with_reducible refine' i_andV ?uq)
  | (with_reducible refine' i_orV ?uq)
  | (with_reducible refine' i_notV ?uq)
  | (with_reducible refine' i_if ?uq)
  | (with_reducible refine' i_un ?uq)
  | (with_reducible refine' i_U ?uq)
  | (with_reducible refine' i_iteT ?uq)
  | (with_reducible refine' i_iteF ?uq)
  | ((with_reducible refine' i_iteTr ?u0 ?uq); (case u0 => first | with_reducible rfl | decide | (simp only [dIsInt, dIsBool, dIsTup, dIsStr, dIsLst, Bool.not_true, Bool.not_false]; done)))
  | ((with_reducible refine' i_iteFr ?u0 ?uq); (case u0 => first | with_reducible rfl | decide | (simp only [dIsInt, dIsBool, dIsTup, dIsStr, dIsLst, Bool.not_true, Bool.not_false]; done)))
  | (with_reducible refine' i_ite (fun hif => ?uqa) (fun hif => ?uqb))
  | (with_reducible refine' i_iteN (fun hif => ?uqa) (fun hif => ?uqb))
  | (with_reducible refine' i_iteBN (fun hif => ?uqa) (fun hif => ?uqb))
  | (with_reducible refine' i_iteB (fun hif => ?uqa) (fun hif => ?uqb))
  | ((with_reducible refine' i_modN ?u0 ?uq); (case u0 => wtm_at "nz"))
  | ((with_reducible refine' i_fdX ?u0 ?u1 ?u2 ?uq); (case u0 => wtm_at "nz"); (case u1 => wtm_at "sz"); (case u2 => first | decide | omega))
  | ((with_reducible refine' i_pow ?u0 ?uq); (case u0 => exact ⟨by decide, by decide +kernel⟩))
  | (with_reducible refine' i_eqI ?uq)
  | (with_reducible refine' i_neI ?uq)
  | (with_reducible refine' i_gcd ?uq)
  | (with_reducible refine' i_qabs ?uq)
  | (with_reducible refine' i_qint ?uq)
  | (with_reducible refine' i_qintB ?uq)
  | (with_reducible refine' i_qmax2 ?uq)
  | (with_reducible refine' i_qmin2 ?uq)
  | (with_reducible refine' i_isB ?uq)
  | (with_reducible refine' i_notB ?uq)
  | (with_reducible refine' i_chain ?uq)
  | (with_reducible refine' i_qisN ?uq)
  | (with_reducible refine' i_qnotN ?uq)
  | (with_reducible refine' i_yes ?uq)
  | (with_reducible refine' i_par ?uq)
  | (with_reducible refine' i_par3 ?uq)
  | ((with_reducible refine' i_par2 ?u0 ?uq); (case u0 => wtm_at "sset"))
  | ((with_reducible refine' i_par33 ?u0 ?uq); (case u0 => wtm_at "sset"))
  | ((with_reducible refine' i_ixLI (i := ?u0) ?u1 ?u2 ?u3 ?uq); (case u1 => wtm_at "dp"); (case u2 => wtm_at "ex"); (case u3 => exact rfl))
  | ((with_reducible refine' i_ixL (d := ?u0) ?u1 ?u2 ?u3 (fun xu hxu => ?uq)); (case u1 => wtm_at "dp"); (case u2 => wtm_at "ex"); (case u3 => exact rfl))
  | ((with_reducible refine' i_qlenT ?u0 ?uq); (case u0 => wtm_at "dp"))
  | ((with_reducible refine' i_qlenL ?u0 ?uq); (case u0 => wtm_at "dp"))
  | ((with_reducible refine' i_gtup ?u0 ?u1 ?u2 (fun gvs gdp => ?uq)); (case u0 => wtm_at "dp"); (case u1 => wtm_at "ex"); (case u2 => exact rfl))
  | ((with_reducible refine' i_glst ?u0 ?u1 ?u2 (fun gvs gdp => ?uq)); (case u0 => wtm_at "dp"); (case u1 => wtm_at "ex"); (case u2 => exact rfl))
  | ((with_reducible refine' i_gconsI ?u0 (fun gr gh => ?uq)); (case u0 => with_reducible assumption))
  | ((with_reducible refine' i_gconsA ?u0 (fun gv gr gh1 gh2 => ?uq)); (case u0 => with_reducible assumption))
  | ((with_reducible refine' i_gnilA ?u0 ?uq); (case u0 => with_reducible assumption))
  | ((with_reducible refine' i_isiI ?u0 ?uq); (case u0 => wtm_at "dp"))
  | ((with_reducible refine' i_isiB ?u0 ?uq); (case u0 => wtm_at "dp"))
  | ((with_reducible refine' i_isiT ?u0 ?uq); (case u0 => wtm_at "dp"))
  | ((with_reducible refine' i_isiS ?u0 ?uq); (case u0 => wtm_at "dp"))
  | ((with_reducible refine' i_isiL ?u0 ?uq); (case u0 => wtm_at "dp"))
  | ((with_reducible refine' i_eqD ?u0 ?u1 ?u2 ?u3 ?uq); (case u0 => wtm_at "dp"); (case u1 => wtm_at "dp"); (case u2 => wtm_at "shaped"); (case u3 => wtm_at "shaped"))
  | ((with_reducible refine' i_neD ?u0 ?u1 ?u2 ?u3 ?uq); (case u0 => wtm_at "dp"); (case u1 => wtm_at "dp"); (case u2 => wtm_at "shaped"); (case u3 => wtm_at "shaped"))
  | wtm_at "st2"
  | wtm_at "use")
local macro_rules | `(tactic| wtm_at "go") => `(tactic| repeat' (wtm_at "st"))
local macro_rules | `(tactic| wtm_at "go0") => `(tactic| ((try dsimp only [L2.cxOf, L2.Cx.nox, L2.Cx.wish, L2.Cx.tr, L2.Cx.blk]); (try wtm_at "nrm"); wtm_at "go"))
local macro_rules | `(tactic| wtm_at "fin") => `(tactic| ((try dsimp only); first | with_reducible assumption | assumption | ((with_reducible refine' Ret.use ?rur ?rue ?rud); (case rur => with_reducible assumption); (case rue => wtm_at "ex"); (case rud => wtm_at "dp"))))
local macro_rules | `(tactic| wtm_at "exh") => `(tactic| first | with_reducible assumption | with_reducible exact Ex.refl _ | with_reducible exact ex_hid | ((with_reducible refine' Ex.trans ?exe (by with_reducible assumption)); (case exe => wtm_at "exh")) | ((with_reducible refine' Ex.trans ?exe (hid_ex (by with_reducible assumption))); (case exe => wtm_at "exh")))
local macro_rules | `(tactic| wtm_at "ex") => `(tactic| first | with_reducible assumption | with_reducible exact Ex.refl _ | with_reducible exact ex_hid | ((with_reducible refine' Ex.trans ?exe (by with_reducible assumption)); (case exe => wtm_at "ex")) | ((with_reducible refine' Ex.trans ?exe (hid_ex (by with_reducible assumption))); (case exe => wtm_at "ex")) | ((with_reducible refine' Ex.trans ?exe ex_hid); (case exe => wtm_at "exh")))
local macro_rules | `(tactic| wtm_at "bag") => `(tactic| first | with_reducible assumption | ((with_reducible refine' Bag.mono ?bgm (by with_reducible assumption)); (case bgm => wtm_at "bag")))
local macro_rules | `(tactic| wtm_at "hs") => `(tactic| first | with_reducible assumption | ((with_reducible refine' hid_tup ?hb ?hp); (case hp => with_reducible assumption); (case hb => wtm_at "bag")) | ((with_reducible refine' hid_new ?hb ?hn ?hp); (case hp => with_reducible assumption); (case hn => with_reducible assumption); (case hb => wtm_at "bag")) | ((with_reducible refine' ex_at ?exe (by with_reducible assumption)); (case exe => wtm_at "ex")))
local macro_rules | `(tactic| wtm_at "st2") => `(tactic| first
  | ((with_reducible refine' i_mulC ?u0 ?uq); (case u0 => first | exact cmul_l (by decide) | exact cmul_r (by decide)))
  | ((with_reducible refine' i_ixLr (v := ?u0) ?u1 ?u2 ?uq); (case u1 => with_reducible assumption); (case u2 => exact rfl))
  | (with_reducible refine' i_sub ?uq)
  | ((with_reducible refine' i_mkL ?u0 (fun np nH nfr nhe nhp => ?uq)); (case u0 => exact Nat.le_of_ble_eq_true rfl))
  | ((with_reducible refine' i_setL (n := ?u0) ?u1 ?u2 (fun sH sh se => ?uq)); (case u1 => with_reducible assumption); (case u2 => exact rfl))
  | (with_reducible refine' i_sl ?uq)
  | (with_reducible refine' i_nopart ?uq)
  | (with_reducible refine' i_part ?uq)
  | (with_reducible refine' i_part1 ?uq))
local macro_rules | `(tactic| wtm_at "sz2") => `(tactic| ((with_reducible refine' sz_fmod ?sz1 ?sz2); (case sz1 => wtm_at "nz"); (case sz2 => wtm_at "sz")))
local macro_rules | `(tactic| wtm_at "stb") => `(tactic| first
  | ((with_reducible refine' i_mkTB ?u0 ?u1 (fun np nH nhe nhb nhp => ?uq)); (case u0 => exact Nat.le_of_ble_eq_true rfl); (case u1 => wtm_at "bag"))
  | ((with_reducible refine' i_mkLB ?u0 ?u1 (fun np nH nfr nhe nhb nhp => ?uq)); (case u0 => exact Nat.le_of_ble_eq_true rfl); (case u1 => wtm_at "bag"))
  | wtm_at "st")
local macro_rules | `(tactic| wtm_at "gob") => `(tactic| repeat' (wtm_at "stb"))
local macro_rules | `(tactic| wtm_at "gob0") => `(tactic| ((try dsimp only [L2.cxOf, L2.Cx.nox, L2.Cx.wish, L2.Cx.tr, L2.Cx.blk]); (try wtm_at "nrm"); wtm_at "gob"))
local macro_rules | `(tactic| wtm_at "use") => `(tactic| ((with_reducible refine' use__law_draw ?u0 ?u1 ?u2 (fun dn dH dn0 dn1 de db => ?uq)); (case u0 => wtm_at "bag"); (case u1 => wtm_at "pos"); (case u2 => wtm_at "szb")))
local macro_rules | `(tactic| wtm_at "pos") => `(tactic| first | assumption | decide | omega)
local macro_rules | `(tactic| wtm_at "oneof") => `(tactic| ((with_reducible refine' use__law_one_of ?u0 ?u1 ?u2 ?u3 ?uq); (case u0 => wtm_at "bag"); (case u1 => wtm_at "dp"); (case u2 => exact Nat.le_of_ble_eq_true rfl); (case u3 => exact Nat.le_of_ble_eq_true rfl)))
section
variable {P : Program} {w : World} {K : PySem.W.Frag} {mg : Str → Option Value} {base : Heap} {H H' : Hp} {Q : VK} {E : XK} {v1 v2 v3 v4 : V} {x1 y1 w1 x2 y2 w2 x3 y3 w3 x4 y4 w4 : Int}
def rPopA : V → List V → Hp → VK → Prop := fun x vs H Q => ∃ (l : Addr) (xs : List V) (i : Int) (k : Nat) (y : V), x = .ref l ∧ vs = [.int i] ∧ H l = some (.lst xs) ∧ -(2 ^ 63) ≤ i ∧ i < 2 ^ 63 ∧ seqIndex? i xs.length = some k ∧ xs[k]? = some y ∧ Q y (upd H l (.lst (xs.eraseIdx k)))
theorem mt_popA {X : Cx} : MtM X "list.pop" rPopA := mt_popAt
theorem pe_bmK {X : Cx} {K : PySem.W.Frag} {T : String} {name : Str} {id : String} {r : V → List V → Hp → VK → Prop} {o : Expr} {to : TE} {e : Expr} {es : List Expr} {t : TA} {apos cpos : Pos} (pa : PlainAttrs T) (slot : Slot T name id) (hty : typeOf (.builtin id) = pure (.type "method_descriptor")) (hm : MtM X id r) (ho : PE X o to) (ha : PA X (e :: es) t)
    (hbase : attributeBase o name X.env (eval o X.env) = eval o X.env := by rfl)
    (hfew : ((backTo cpos (starEach (e :: es) X.env)).all (fun x => !x.1) && (backToKw cpos (keywordEach [] X.env)).all (fun x => x.1.isSome)
      && decide ((e :: es).length + ([] : List Keyword).length + (if ([] : List Keyword).isEmpty then 0 else 1) < 30)) = true := by rfl)
    (hline : (apos.endLine == cpos.line) = true := by rfl) (hs : starEach (e :: es) X.env = (false, eval e X.env) :: starEach es X.env := by rfl) (hplain : (backTo cpos (starEach es X.env)).any (·.1) = false := by rfl) (hK : X.K = K := by rfl) :
    PE X (.Call (.Attribute o name apos) (e :: es) [] cpos) (tBM K T r to t) := by
  subst hK
  exact pe_bm pa slot hty hm ho ha hbase hfew hline hs hplain
local macro_rules | `(tactic| wtm_at "st2") => `(tactic| (first | ((with_reducible refine' i_qlenS ?u0 ?uq); (case u0 => with_reducible assumption)) | fail))
local macro_rules | `(tactic| wtm_at "st2") => `(tactic| (with_reducible refine' i_bm ?uq))
local macro_rules | `(tactic| wtm_at "st2") => `(tactic| (first | ((with_reducible refine' i_tyL ?u0 ?uq); (case u0 => with_reducible assumption)) | fail))
def sp__law_shuffled (K : PySem.W.Frag) : Sp := A2 fun v1 v2 H Q => ∃ (b : Addr) (ds : List PyData), v1 = .ref b ∧ Bag b H ∧ Dp K (hid b H) v2 (.list ds) ∧ ds.length ≤ 60 ∧ ∀ (es : List PyData) (a : Addr) (us : List V) H2, es.Perm ds → Ex (hid b H) (hid b H2) → Bag b H2 → hid b H2 a = some (.lst us) → DpAll K (hid b H2) us es → Q (.ref a) H2
theorem seqNat {k n : Nat} (h : k < n) : seqIndex? (k : Int) n = some k := by
  unfold seqIndex?
  have h1 : ¬ ((k : Int) < 0) := by omega
  simp only [h1, if_false]
  have h2 : (decide (0 ≤ (k : Int)) && decide ((k : Int) < (n : Int))) = true := by
    rw [decide_eq_true (by omega), decide_eq_true (by omega)]
    rfl
  rw [h2]
  rfl
theorem dpErase {G : Hp} {us : List V} {ds : List PyData} (k : Nat) (h : DpAll K G us ds) : DpAll K G (us.eraseIdx k) (ds.eraseIdx k) := by
  rw [List.eraseIdx_eq_take_drop_succ, List.eraseIdx_eq_take_drop_succ]
  exact dpAppN (dpTakeN h) (dpDropN h)
theorem perm_erase {l : List PyData} {k : Nat} (h : k < l.length) : ([l[k]] ++ l.eraseIdx k).Perm l := by
  rw [List.eraseIdx_eq_take_drop_succ]
  have e : l = l.take k ++ l[k] :: l.drop (k + 1) := by
    rw [List.getElem_cons_drop, List.take_append_drop]
  have h2 := (List.perm_middle (a := l[k]) (l₁ := l.take k) (l₂ := l.drop (k + 1))).symm
  rw [← e] at h2
  exact h2
def shW (K : PySem.W.Frag) (b wa D : Addr) (ds : List PyData) (H : Hp) : Nat → Hp → Prop := fun i H' => ∃ (ws acc : List V) (rest es : List PyData), H' wa = some (.lst ws) ∧ H' D = some (.lst acc) ∧ DpAll K (hid b H) ws rest ∧ DpAll K (hid b H) acc es ∧ (es ++ rest).Perm ds ∧ es.length = i ∧ Ex (hid b H) (hid b H') ∧ Bag b H'
abbrev s__law_shuffled : Stmt := top 34
theorem sc__law_shuffled : FnScope ["_law_bag_here", "_law_items", "_law_waits", "_law_turn"] ["_law_bag_here", "_law_items"] (defScope s__law_shuffled) := ⟨rfl, rfl, rfl, by decide +kernel, rfl, by decide +kernel, by decide +kernel⟩
theorem ok__law_shuffled {f : Addr} {fd : FuncData} (F : FnP K "_law_shuffled" s__law_shuffled f fd) (g : G mg) (c__law_draw : Cl P w K mg base 1 "_law_draw" (sp__law_draw K))  : FnOk P w K mg base CX0 2 f fd ["_law_bag_here", "_law_items"] (sp__law_shuffled K) := by
  have nd := sc__law_shuffled.nd
  refine F.ok sc__law_shuffled (fun vs H Q E h => h.len) (fun cdv A outer s H vs Q E hr h => ?_)
  obtain ⟨v1, v2, rfl, h⟩ := h
  refine ⟨_, PSs.nox (pss_cons (ps_set (i := 2) nd rfl (Or.inr rfl) (pe_callTy call_qlist (by rfl) g.f_list boot_list (pa_cons (pv 1) pa_nil))) (pss_one (ps_ret (pe_lc (own := [("_law_turn", 3)]) (g := gName 3) (by rfl) nd (pi_range1 (by rfl) g.f_range (pa_cons (pe_callB call_qlen (by rfl) g.f_len boot_len (pa_cons (pv 1) pa_nil)) pa_nil)) (blkOk_by (N := ["_law_bag_here", "_law_items", "_law_waits", "_law_turn"]) (sc := defScope s__law_shuffled) (own := [("_law_turn", 3)]) (by decide +kernel)) (fun _ _ _ _ _ => (pg_name (i := 3) nd rfl (Or.inl rfl))) (fun _ _ _ _ _ => pts_nil) (fun _ _ _ _ _ => (pe_bmK (K := K) PySem.F.plainAttrs_list PySem.F.slot_list_pop PySem.F.type_list_pop mt_popA (pv 2) (pa_cons (pc c__law_draw hr (by decide) (by rfl) (pa_cons (pv 0) (pa_cons (pe_callB (show CallR _ _ (qLen K) from call_qlen) (by rfl) g.f_len boot_len (pa_cons (pv 2) pa_nil)) pa_nil))) pa_nil))))))), ?_⟩
  obtain ⟨b, ds, rfl, hb, hd, hl, q⟩ := h
  obtain ⟨a, us, rfl, hs, ha⟩ := dpLst hd
  wtm_at "gob0"
  refine ⟨a, us, rfl, .inl (Evl.ex_l ex_hid hs), fun wa wn => ?_⟩
  have e1 : Ex H (upd H wa (.lst us)) := Ex.new wn
  have e1' := e1
  have hd1 : Dp K (upd H wa (.lst us)) (.ref a) (.list ds) := dpMono (ex_hid.trans e1) hd
  have hwb : wa ≠ b := hb.ne wn
  have b1 : Bag b (upd H wa (.lst us)) := hb.mono e1
  have hw1 : upd H wa (.lst us) wa = some (.lst us) := upd_same
  have ex1 : Ex (hid b H) (hid b (upd H wa (.lst us))) := hid_ex e1
  generalize upd H wa (.lst us) = H1 at *
  wtm_at "gob"
  refine i_lcRU ?_
  wtm_at "gob"
  refine ⟨_, rfl, by omega, by omega, fun D hD => lc_range (lo := 0) (n := ((ds.length : Int)).toNat) (shW K b wa D ds H) ?_ (fun i H' hi p => ?_) (fun H' p => ?_)⟩
  · have hDb : D ≠ b := b1.ne hD
    have hDw : D ≠ wa := fun z => by rw [z, hw1] at hD; cases hD
    exact ⟨us, [], ds, [], by rw [upd_ne (Ne.symm hDw)]; exact hw1, upd_same, ha, .nil, List.Perm.refl _, rfl, ex_hidD (Evl.fresh_back e1 hD) ex1, bag_upd hDb b1⟩
  · obtain ⟨ws, acc, rest, es, p1, p2, p3, p4, p5, p6, p7, p8⟩ := p
    have hDb : D ≠ b := b1.ne hD
    have hDw : D ≠ wa := fun z => by rw [z, hw1] at hD; cases hD
    have hlw : ws.length = rest.length := dpLen p3
    have hla : acc.length = es.length := dpLen p4
    have hlt : es.length + rest.length = ds.length := by rw [← p5.length_eq, List.length_append]
    have hsq : SqL K H' wa ws := Evl.sq_of p1
    have hpos : 0 < (rest.length : Int) := by omega
    have hsz : Sz 9000 (rest.length : Int) := sz_mono (sz_lit (by omega)) (by decide)
    refine ⟨rfl, i_yes (i_iteT ?_)⟩
    wtm_at "nrm"
    clear hd1 e1 ex1 b1
    wtm_at "gob"
    rename_i dn G dn0 dn1 de db
    obtain ⟨k, rfl⟩ : ∃ k : Nat, dn = k := ⟨dn.toNat, by omega⟩
    have hk : k < ws.length := by omega
    have hkr : k < rest.length := by omega
    have g1 : G wa = some (.lst ws) := (of_hid (de _ _ (hid_of p1 hwb))).2
    have g2 : G D = some (.lst acc) := (of_hid (de _ _ (hid_of p2 hDb))).2
    obtain ⟨y, hy, hyd⟩ := dpGet p3 (i := k) (List.getElem?_eq_getElem hkr)
    refine ⟨wa, ws, k, k, y, rfl, rfl, g1, by omega, by omega, seqNat hk, hy, acc, by rw [upd_ne hDw]; exact g2, Evl.sz_lt (by omega), ws.eraseIdx k, acc ++ [y], rest.eraseIdx k, es ++ [rest[k]], ?_, upd_same, dpErase k p3, dpAppN p4 (.cons hyd .nil), ?_, by simp [p6], ?_, bag_upd hDb (bag_upd hwb db)⟩
    · rw [upd_ne (Ne.symm hDw)]
      exact upd_same
    · rw [List.append_assoc]
      exact ((perm_erase hkr).append_left es).trans p5
    · exact ex_hidD (Evl.fresh_back e1' hD) (ex_hidD wn (p7.trans de))
  · obtain ⟨ws, acc, rest, es, p1, p2, p3, p4, p5, p6, p7, p8⟩ := p
    have hDb : D ≠ b := b1.ne hD
    have hlt : es.length + rest.length = ds.length := by rw [← p5.length_eq, List.length_append]
    have hr0 : rest = [] := List.eq_nil_of_length_eq_zero (by omega)
    subst hr0
    rw [List.append_nil] at p5
    dsimp only
    exact q es D acc _ p5 p7 p8 (hid_of p2 hDb) (dpMonoA p7 p4)
theorem use__law_shuffled {b : Addr} {ds : List PyData} {v2 : V} (hb : Bag b H) (hd : Dp K (hid b H) v2 (.list ds)) (hl : ds.length ≤ 60) (q : ∀ (es : List PyData) (a : Addr) (us : List V) H2, es.Perm ds → Ex (hid b H) (hid b H2) → Bag b H2 → hid b H2 a = some (.lst us) → DpAll K (hid b H2) us es → Q (.ref a) H2) : sp__law_shuffled K [.ref b, v2] H Q E := ⟨_, _, rfl, _, _, rfl, hb, hd, hl, q⟩
end
end Wb

namespace Wb
open PySem PySem.Spec PyProof.Rows L2
abbrev stx (c p : Pt) : Int := p.1 * c.2.2 - c.1 * p.2.2
abbrev sty (c p : Pt) : Int := p.2.1 * c.2.2 - c.2.1 * p.2.2
/-- the point p lies from the centre c along u, at f / s -/
structure On (c p : Pt) (u : D2) (f s : Int) : Prop where
  cw : 1 ≤ c.2.2
  pw : 1 ≤ p.2.2
  hf : 0 < f
  hs : 0 < s
  ex : s * stx c p = (f * p.2.2 * c.2.2) * u.1
  ey : s * sty c p = (f * p.2.2 * c.2.2) * u.2
theorem on_of {x y w sx sy sw cx cy cw f s : Int} {u : D2} (hw : 1 ≤ sw) (hf : 0 < f) (hs : 0 < s) (lc : Lo cx cy cw sx sy sw) (lp : Lo x y w (sx * s + f * u.1 * sw) (sy * s + f * u.2 * sw) (sw * s)) : On (cx, cy, cw) (x, y, w) u f s := by
  refine ⟨lc.hw, lp.hw, hf, hs, ?_, ?_⟩
  · have e1 := lc.ex
    have e2 := lp.ex
    show s * (x * cw - cx * w) = (f * w * cw) * u.1
    have h : sw * (s * (x * cw - cx * w)) = sw * ((f * w * cw) * u.1) := by
      have q1 : sw * (s * (x * cw - cx * w)) = (x * (sw * s)) * cw - (cx * sw) * (s * w) := by grind
      rw [q1, e2, e1]
      grind
    exact Int.eq_of_mul_eq_mul_left (by omega) h
  · have e1 := lc.ey
    have e2 := lp.ey
    show s * (y * cw - cy * w) = (f * w * cw) * u.2
    have h : sw * (s * (y * cw - cy * w)) = sw * ((f * w * cw) * u.2) := by
      have q1 : sw * (s * (y * cw - cy * w)) = (y * (sw * s)) * cw - (cy * sw) * (s * w) := by grind
      rw [q1, e2, e1]
      grind
    exact Int.eq_of_mul_eq_mul_left (by omega) h
abbrev ahrP (c p q : Pt) : Bool := ahr c.1 c.2.1 c.2.2 p.1 p.2.1 p.2.2 q.1 q.2.1 q.2.2
abbrev neaP (c p q : Pt) : Bool := nea c.1 c.2.1 c.2.2 p.1 p.2.1 p.2.2 q.1 q.2.1 q.2.2
theorem fst_eq (c p q : Pt) : fstP c p q = (ahrP c p q || (!ahrP c q p && neaP c p q)) := rfl
theorem ahr_on {c p q : Pt} {u v : D2} {f s g t : Int} (a : On c p u f s) (b : On c q v g t) : ahrP c p q = ahd u.1 u.2 v.1 v.2 := by
  have m1 : 0 < f * p.2.2 * c.2.2 := Int.mul_pos (Int.mul_pos a.hf (by have := a.pw; omega)) (by have := a.cw; omega)
  have m2 : 0 < g * q.2.2 * c.2.2 := Int.mul_pos (Int.mul_pos b.hf (by have := b.pw; omega)) (by have := b.cw; omega)
  show ahd (stx c p) (sty c p) (stx c q) (sty c q) = _
  rw [← ahd_mul a.hs b.hs, a.ex, a.ey, b.ex, b.ey, ahd_mul m1 m2]
theorem fst_lt {c p q : Pt} {u v : D2} {f s g t : Int} (a : On c p u f s) (b : On c q v g t) (h : ahp u v) : fstP c p q = true ∧ fstP c q p = false := by
  have h1 : ahd u.1 u.2 v.1 v.2 = true := h
  have h2 := ahd_asym h1
  rw [fst_eq, fst_eq, ahr_on a b, ahr_on b a, h1, h2]
  exact ⟨rfl, rfl⟩
theorem sq_lt {a b : Int} (ha : 0 < a) (h : a < b) : a * a < b * b := by
  have h1 := Int.mul_lt_mul_of_pos_left h ha
  have h2 := Int.mul_lt_mul_of_pos_right h (show 0 < b by omega)
  omega
theorem fst_row {c p q : Pt} {u : D2} {f s g : Int} (nu : nz u.1 u.2) (a : On c p u f s) (b : On c q u g s) (h : f < g) : fstP c p q = true ∧ fstP c q p = false := by
  have z : ahd u.1 u.2 u.1 u.2 = false := ahd_self _ _
  rw [fst_eq, fst_eq, ahr_on a b, ahr_on b a, z]
  have N : 0 < u.1 * u.1 + u.2 * u.2 := by
    have h1 : 0 ≤ u.1 * u.1 := by rw [← Int.natAbs_mul_self]; omega
    have h2 : 0 ≤ u.2 * u.2 := by rw [← Int.natAbs_mul_self]; omega
    rcases Int.lt_or_eq_of_le h1 with k | k
    · omega
    · rcases Int.lt_or_eq_of_le h2 with k' | k'
      · omega
      · exfalso
        exact nu ⟨by rcases Int.mul_eq_zero.mp k.symm with e | e <;> exact e, by rcases Int.mul_eq_zero.mp k'.symm with e | e <;> exact e⟩
  have pp : 0 < p.2.2 := by have := a.pw; omega
  have pq : 0 < q.2.2 := by have := b.pw; omega
  have pc : 0 < c.2.2 := by have := a.cw; omega
  have ps := a.hs
  have M : 0 < (p.2.2 * q.2.2 * c.2.2) * (p.2.2 * q.2.2 * c.2.2) * (u.1 * u.1 + u.2 * u.2) := Int.mul_pos (Int.mul_pos (Int.mul_pos (Int.mul_pos pp pq) pc) (Int.mul_pos (Int.mul_pos pp pq) pc)) N
  have key : ∀ {k l : Int} {p q : Pt}, s * stx c p = (k * p.2.2 * c.2.2) * u.1 → s * sty c p = (k * p.2.2 * c.2.2) * u.2 →
      (s * s) * (((stx c p) * (stx c p) + (sty c p) * (sty c p)) * q.2.2 * q.2.2) = (k * k) * ((p.2.2 * q.2.2 * c.2.2) * (p.2.2 * q.2.2 * c.2.2) * (u.1 * u.1 + u.2 * u.2)) := by
    intro k l p q h1 h2
    have e1 : (s * s) * (((stx c p) * (stx c p) + (sty c p) * (sty c p)) * q.2.2 * q.2.2) = ((s * stx c p) * (s * stx c p) + (s * sty c p) * (s * sty c p)) * q.2.2 * q.2.2 := by grind
    rw [e1, h1, h2]
    grind
  have kp := key (l := 0) (q := q) a.ex a.ey
  have kq := key (l := 0) (q := p) b.ex b.ey
  have em : (q.2.2 * p.2.2 * c.2.2) = (p.2.2 * q.2.2 * c.2.2) := by grind
  rw [em] at kq
  have hss : 0 < s * s := Int.mul_pos ps ps
  have hfg := sq_lt a.hf h
  have lt1 : (((stx c p) * (stx c p) + (sty c p) * (sty c p)) * q.2.2 * q.2.2) < (((stx c q) * (stx c q) + (sty c q) * (sty c q)) * p.2.2 * p.2.2) := by
    refine Int.lt_of_mul_lt_mul_left (a := s * s) ?_ (Int.le_of_lt hss)
    rw [kp, kq]
    exact Int.mul_lt_mul_of_pos_right hfg M
  have n1 : neaP c p q = true := decide_eq_true lt1
  have n2 : neaP c q p = false := decide_eq_false (by
    show ¬ ((((stx c q) * (stx c q) + (sty c q) * (sty c q)) * p.2.2 * p.2.2) < (((stx c p) * (stx c p) + (sty c p) * (sty c p)) * q.2.2 * q.2.2))
    omega)
  rw [n1, n2]
  exact ⟨rfl, rfl⟩
theorem fst_self (c p : Pt) : fstP c p p = false := by
  rw [fst_eq]
  have h1 : ahrP c p p = false := ahd_self _ _
  have h2 : neaP c p p = false := decide_eq_false (by omega)
  rw [h1, h2]
  rfl
theorem on_ne {c p : Pt} {u : D2} {f s : Int} (nu : nz u.1 u.2) (a : On c p u f s) : p ≠ c := by
  rintro rfl
  have m : f * p.2.2 * p.2.2 ≠ 0 := by
    have := Int.mul_pos (Int.mul_pos a.hf (show 0 < p.2.2 by have := a.pw; omega)) (show 0 < p.2.2 by have := a.pw; omega)
    omega
  have ex := a.ex
  have ey := a.ey
  have z1 : stx p p = 0 := by show p.1 * p.2.2 - p.1 * p.2.2 = 0; omega
  have z2 : sty p p = 0 := by show p.2.1 * p.2.2 - p.2.1 * p.2.2 = 0; omega
  rw [z1, Int.mul_zero] at ex
  rw [z2, Int.mul_zero] at ey
  exact nu ⟨by rcases Int.mul_eq_zero.mp ex.symm with e | e <;> first | exact absurd e m | exact e, by rcases Int.mul_eq_zero.mp ey.symm with e | e <;> first | exact absurd e m | exact e⟩
/-! ### the rank -/
abbrev rdR (c p q : Pt) : Prop := fstP c p q = true ∧ fstP c q p = false
theorem rd_nodup {c : Pt} {es : List Pt} (h : es.Pairwise (rdR c)) : es.Nodup := by
  refine h.imp ?_
  rintro a b ⟨h1, _⟩ rfl
  rw [fst_self] at h1
  cases h1
def rkI (es : List Pt) (p : Pt) : Int := (es.idxOf p : Nat)
theorem rk_fst {c : Pt} {es : List Pt} (h : es.Pairwise (rdR c)) {p q : Pt} (hp : p ∈ es) (hq : q ∈ es) : fstP c p q = decide (rkI es p < rkI es q) := by
  have ip := List.idxOf_lt_length_of_mem hp
  have iq := List.idxOf_lt_length_of_mem hq
  have gp : es[es.idxOf p] = p := List.getElem_idxOf ip
  have gq : es[es.idxOf q] = q := List.getElem_idxOf iq
  rw [List.pairwise_iff_getElem] at h
  unfold rkI
  rcases Nat.lt_trichotomy (es.idxOf p) (es.idxOf q) with k | k | k
  · have := h _ _ ip iq k
    rw [gp, gq] at this
    rw [this.1]
    exact (decide_eq_true (by omega)).symm
  · have e : p = q := by
      rw [← gp, ← gq]
      congr 1
    subst e
    rw [fst_self]
    exact (decide_eq_false (by omega)).symm
  · have := h _ _ iq ip k
    rw [gp, gq] at this
    rw [this.2]
    exact (decide_eq_false (by omega)).symm
theorem rk_pw {es : List Pt} (h : es.Nodup) : es.Pairwise (fun p q => rkI es p < rkI es q) := by
  rw [List.pairwise_iff_getElem]
  intro i j hi hj hij
  unfold rkI
  rw [h.idxOf_getElem i hi, h.idxOf_getElem j hj]
  omega
theorem eq_of_rank {rk : Pt → Int} : ∀ (qs es : List Pt), qs.Pairwise (fun p q => rk p < rk q) → es.Pairwise (fun p q => rk p < rk q) → (∀ x, x ∈ qs ↔ x ∈ es) → qs = es
  | [], [], _, _, _ => rfl
  | [], e :: es, _, _, h => absurd ((h e).mpr List.mem_cons_self) List.not_mem_nil
  | q :: qs, [], _, _, h => absurd ((h q).mp List.mem_cons_self) List.not_mem_nil
  | q :: qs, e :: es, h1, h2, h => by
    rw [List.pairwise_cons] at h1 h2
    have eqh : q = e := by
      rcases List.mem_cons.mp ((h q).mp List.mem_cons_self) with k | k
      · exact k
      · rcases List.mem_cons.mp ((h e).mpr List.mem_cons_self) with k' | k'
        · exact k'.symm
        · have a := h2.1 q k
          have b := h1.1 e k'
          omega
    subst eqh
    congr 1
    refine eq_of_rank qs es h1.2 h2.2 fun x => ⟨fun hx => ?_, fun hx => ?_⟩
    · rcases List.mem_cons.mp ((h x).mp (List.mem_cons_of_mem _ hx)) with k | k
      · subst k
        have := h1.1 x hx
        omega
      · exact k
    · rcases List.mem_cons.mp ((h x).mpr (List.mem_cons_of_mem _ hx)) with k | k
      · subst k
        have := h2.1 x hx
        omega
      · exact k
theorem sorted_due {es qs : List Pt} (h : es.Nodup) (hm : ∀ x, x ∈ qs ↔ x ∈ es) (hn : qs.Nodup) (hp : qs.Pairwise (fun p q => rkI es p ≤ rkI es q)) : qs = es := by
  refine eq_of_rank (rk := rkI es) qs es ?_ (rk_pw h) hm
  have h2 := hp.and hn
  refine (List.Pairwise.imp_of_mem ?_ h2)
  intro a b ha hb ⟨k1, k2⟩
  rcases Int.lt_or_eq_of_le k1 with k | k
  · exact k
  · exfalso
    apply k2
    have ia := List.idxOf_lt_length_of_mem ((hm a).mp ha)
    have ib := List.idxOf_lt_length_of_mem ((hm b).mp hb)
    have e : es.idxOf a = es.idxOf b := by
      unfold rkI at k
      omega
    rw [← List.getElem_idxOf ia, ← List.getElem_idxOf ib]
    congr 1
end Wb

namespace Wb
open PySem PySem.Spec PyProof.Rows L2
open Evl (Ex Ex.refl Ex.trans Ex.new)
section
variable {P : Program} {w : World} {K : PySem.W.Frag} {mg : Str → Option Value} {base : Heap} {H H' : Hp} {Q : VK} {E : XK} {v1 v2 v3 v4 : V} {x1 y1 w1 x2 y2 w2 x3 y3 w3 x4 y4 w4 : Int}
/-! ### a list hidden, that is to grow -/
theorem sqt_hidL {D a : Addr} {xs zs : List V} (hD : H D = some (.lst xs)) (h : SqT K H a zs) : SqT K (hid D H) a zs := by
  rcases h with (h | ⟨o, h⟩) | h
  · exact .inl (.inl (hid_of h (ne_of h hD (by intro z; cases z))))
  · exact .inl (.inr ⟨o, hid_of h (ne_of h hD (by intro z; cases z))⟩)
  · exact .inr h
mutual
theorem dpHidL {D : Addr} {xs : List V} (hD : H D = some (.lst xs)) : ∀ {d : PyData} {v : V}, noL d = true → Dp K H v d → Dp K (hid D H) v d
  | .none, _, _, h => by cases h; exact .non
  | .bool _, _, _, h => by cases h; exact .bl _
  | .int _, _, _, h => by cases h; exact .int _
  | .str _, _, _, h => by cases h; exact .str _
  | .list ds, _, n, h => by cases n
  | .tuple ds, _, n, h => by
    cases h with
    | tup hs ha => exact .tup (sqt_hidL hD hs) (dpHidLA hD n ha)
  | .dict _, _, _, h => by cases h
theorem dpHidLA {D : Addr} {xs : List V} (hD : H D = some (.lst xs)) : ∀ {ds : List PyData} {vs : List V}, noLs ds = true → DpAll K H vs ds → DpAll K (hid D H) vs ds
  | [], _, _, h => by cases h; exact .nil
  | d :: ds, _, n, h => by
    cases h with
    | cons h1 h2 =>
      have n2 := Bool.and_eq_true_iff.mp (show (noL d && noLs ds) = true from n)
      exact .cons (dpHidL hD n2.1 h1) (dpHidLA hD n2.2 h2)
end
theorem sql_hidL {D a : Addr} {xs zs : List V} (hD : H D = some (.lst xs)) (hne : zs ≠ xs) (h : SqL K H a zs) : SqL K (hid D H) a zs := by
  rcases h with (h | ⟨o, h⟩) | h
  · refine .inl (.inl (hid_of h ?_))
    rintro rfl
    rw [h] at hD
    cases hD
    exact hne rfl
  · exact .inl (.inr ⟨o, hid_of h (ne_of h hD (by intro z; cases z))⟩)
  · exact .inr h
theorem hid_set {b l : Addr} {G : Hp} {o : HO} : hid l (hid b (upd G l o)) = hid l (hid b G) := by
  funext a
  unfold hid
  by_cases h : a = l
  · rw [if_pos h, if_pos h]
  · rw [if_neg h, if_neg h, upd_ne h]
theorem hid_set1 {l : Addr} {G : Hp} {o : HO} : hid l (upd G l o) = hid l G := by
  funext a
  unfold hid
  by_cases h : a = l
  · rw [if_pos h, if_pos h]
  · rw [if_neg h, if_neg h, upd_ne h]
theorem i_forVg {σ : L2.St} {D : Ends} {g : TG} {tb : TS} {tl : TE} (q : tl σ H fun x H1 => tFor (iList K (tC x)) g tb D σ H1) : tFor (iList K tl) g tb D σ H := q
theorem i_forLVg {σ : L2.St} {g : TG} {tb : TS} {D : Ends} {vs : List V} {a : Addr} (h : SqL K H a vs) (Pv : Nat → L2.St → Hp → Prop) (h0 : Pv 0 σ H) (hl : ∀ i σ' H', Pv i σ' H' → SqL K H' a vs)
    (hs : ∀ (i : Nat) (x : V) σ' H', vs[i]? = some x → Pv i σ' H' → g x σ' H' fun σ2 H2 => tb { D with nx := Pv (i + 1), ct := Pv (i + 1), bk := D.nx } σ2 H2) (hd : ∀ σ' H', Pv vs.length σ' H' → D.nx σ' H') : tFor (iList K (tC (.ref a))) g tb D σ H :=
  ⟨a, rfl, ⟨_, h⟩, for_list (xs := vs) Pv h0 (fun i σ' H' _ p => hl i σ' H' p) hs hd⟩
/-! ### points of a row -/
abbrev pX (sx sw s a f : Int) : Int := sx * s + f * a * sw
abbrev ptOf (sx sy sw s : Int) (u : D2) (f : Int) : Pt :=
  ((pX sx sw s u.1 f).fdiv (sg (gd (pX sx sw s u.1 f) (pX sy sw s u.2 f)) (sw * s)), (pX sy sw s u.2 f).fdiv (sg (gd (pX sx sw s u.1 f) (pX sy sw s u.2 f)) (sw * s)), (sw * s).fdiv (sg (gd (pX sx sw s u.1 f) (pX sy sw s u.2 f)) (sw * s)))
abbrev cOf (sx sy sw : Int) : Pt := (sx.fdiv (sg (gd sx sy) sw), sy.fdiv (sg (gd sx sy) sw), sw.fdiv (sg (gd sx sy) sw))
theorem cOf_lo {sx sy sw : Int} (h : 1 ≤ sw) : Lo (cOf sx sy sw).1 (cOf sx sy sw).2.1 (cOf sx sy sw).2.2 sx sy sw := rp_lo (by omega)
theorem ptOf_lo {sx sy sw s : Int} {u : D2} {f : Int} (h : 1 ≤ sw) (hs : 0 < s) : Lo (ptOf sx sy sw s u f).1 (ptOf sx sy sw s u f).2.1 (ptOf sx sy sw s u f).2.2 (pX sx sw s u.1 f) (pX sy sw s u.2 f) (sw * s) :=
  rp_lo (by have := Int.mul_pos (show 0 < sw by omega) hs; omega)
theorem ptOf_on {sx sy sw s : Int} {u : D2} {f : Int} (h : 1 ≤ sw) (hs : 0 < s) (hf : 0 < f) : On (cOf sx sy sw) (ptOf sx sy sw s u f) u f s := on_of h hf hs (cOf_lo h) (ptOf_lo h hs)
theorem sz_sgm {sw s g : Int} {n : Nat} (h : Sz n (sw * s)) : Sz n ((sw * s).fdiv g) := sz_fdiv h
theorem szP_of {sx sy sw s : Int} {u : D2} {f : Int} (s1 : Sz 80 sx) (s2 : Sz 80 sy) (s3 : Sz 80 sw) (s4 : Sz 4 s) (s5 : Sz 4 f) (u1 : Sz 10 u.1) (u2 : Sz 10 u.2) : SzP (ptOf sx sy sw s u f) :=
  ⟨sz_fdiv (sz_mono (sz_add (sz_mul s1 s4) (sz_mul (sz_mul s5 u1) s3)) (by decide)), sz_fdiv (sz_mono (sz_add (sz_mul s2 s4) (sz_mul (sz_mul s5 u2) s3)) (by decide)), sz_fdiv (sz_mono (sz_mul s3 s4) (by decide))⟩
theorem szC_of {sx sy sw : Int} (s1 : Sz 80 sx) (s2 : Sz 80 sy) (s3 : Sz 80 sw) : SzP (cOf sx sy sw) := ⟨sz_fdiv (sz_mono s1 (by decide)), sz_fdiv (sz_mono s2 (by decide)), sz_fdiv (sz_mono s3 (by decide))⟩
/-- the due points so far -/
structure Due (c : Pt) (ds : List D2) (i : Nat) (es : List Pt) : Prop where
  pw : es.Pairwise (rdR c)
  on : ∀ p ∈ es, ∃ u ∈ ds.take i, ∃ f s, On c p u f s
  sz : ∀ p ∈ es, SzP p
  pt : ∀ p ∈ es, isPoint (dpt p) = true
  ln : es.length ≤ 2 * i
theorem Due.row {sx sy sw s : Int} {ds : List D2} {i : Nat} {es : List Pt} {u : D2} {fs : List Int} (h : Due (cOf sx sy sw) ds i es) (hd : Dirs ds) (hz : ∀ u ∈ ds, Sz 10 u.1 ∧ Sz 10 u.2) (hu : ds[i]? = some u) (hsw : 1 ≤ sw) (hs : 0 < s) (s1 : Sz 80 sx) (s2 : Sz 80 sy) (s3 : Sz 80 sw) (s4 : Sz 4 s)
    (hl : fs.length ≤ 2) (hp : fs.Pairwise (· < ·)) (hf : ∀ f ∈ fs, 1 ≤ f ∧ f ≤ 13) : Due (cOf sx sy sw) ds (i + 1) (es ++ fs.map (ptOf sx sy sw s u)) := by
  have um := List.mem_of_getElem? hu
  have nu := hd.nz u um
  have ht : ds.take (i + 1) = ds.take i ++ [u] := by rw [List.take_add_one, hu]; rfl
  refine ⟨?_, ?_, ?_, ?_, ?_⟩
  · rw [List.pairwise_append]
    refine ⟨h.pw, ?_, ?_⟩
    · rw [List.pairwise_map]
      refine List.Pairwise.imp_of_mem ?_ hp
      intro f g k1 k2 k3
      exact fst_row nu (ptOf_on hsw hs (by have := hf f k1; omega)) (ptOf_on hsw hs (by have := hf g k2; omega)) k3
    · intro p k1 q k2
      obtain ⟨u', m', f, t, o⟩ := h.on p k1
      obtain ⟨g, k3, rfl⟩ := List.mem_map.mp k2
      refine fst_lt o (ptOf_on hsw hs (by have := hf g k3; omega)) ?_
      obtain ⟨j, hj, rfl⟩ := List.mem_iff_getElem.mp m'
      have hj2 : j < i := by rw [List.length_take] at hj; omega
      refine pw_at hd.pw hj2 ?_ hu
      rw [← List.getElem?_take_of_lt hj2, List.getElem?_eq_getElem hj]
  · intro p k
    rw [ht]
    rcases List.mem_append.mp k with k | k
    · obtain ⟨u', m', f, t, o⟩ := h.on p k
      exact ⟨u', List.mem_append_left _ m', f, t, o⟩
    · obtain ⟨g, k3, rfl⟩ := List.mem_map.mp k
      exact ⟨u, List.mem_append_right _ (List.mem_singleton.mpr rfl), g, s, ptOf_on hsw hs (by have := hf g k3; omega)⟩
  · intro p k
    rcases List.mem_append.mp k with k | k
    · exact h.sz p k
    · obtain ⟨g, k3, rfl⟩ := List.mem_map.mp k
      have := hf g k3
      exact szP_of s1 s2 s3 s4 (by unfold Sz; omega) (hz u um).1 (hz u um).2
  · intro p k
    rcases List.mem_append.mp k with k | k
    · exact h.pt p k
    · obtain ⟨g, k3, rfl⟩ := List.mem_map.mp k
      exact lo_point (ptOf_lo hsw hs)
  · rw [List.length_append, List.length_map]
    have := h.ln
    omega
theorem shp_dpt (es : List Pt) : SeqAt.shaped (.tuple (es.map dpt)) = true := by
  have h1 : PyData.canLay0 (.tuple (es.map dpt)) = true := lay_dpt es
  have h2 : PyData.depth (.tuple (es.map dpt)) ≤ 64 := by
    show PyData.depthAll (es.map dpt) + 1 ≤ 64
    have : ∀ es : List Pt, PyData.depthAll (es.map dpt) ≤ 1 := by
      intro es
      induction es with
      | nil => decide
      | cons p es ih =>
        show max (PyData.depth (dpt p)) (PyData.depthAll (es.map dpt)) ≤ 1
        have h : PyData.depth (dpt p) = 1 := rfl
        omega
    have := this es
    omega
  unfold SeqAt.shaped
  rw [h1, decide_eq_true h2]
  rfl
theorem eqv_dpts (es : List Pt) : PyData.eqv (.tuple (es.map dpt)) (.tuple (es.map dpt)) = true := SeqAt.eqv_refl _ (lay_dpt es)
def unD : PyData → Pt
  | .tuple [.int x, .int y, .int z] => (x, y, z)
  | _ => (0, 0, 0)
theorem perm_dpt {ps : List PyData} {es : List Pt} (h : ps.Perm (es.map dpt)) : ∃ ts : List Pt, ps = ts.map dpt ∧ ts.Perm es := by
  refine ⟨ps.map unD, ?_, ?_⟩
  · rw [List.map_map]
    have : ∀ d ∈ ps, d = (dpt ∘ unD) d := by
      intro d hd
      obtain ⟨p, _, rfl⟩ := List.mem_map.mp (h.mem_iff.mp hd)
      rfl
    exact (List.map_id ps).symm.trans (List.map_congr_left fun d hd => this d hd)
  · have h2 := h.map unD
    rw [List.map_map] at h2
    have e : es.map (unD ∘ dpt) = es := (List.map_congr_left fun d _ => rfl).trans (List.map_id es)
    rw [e] at h2
    exact h2
theorem cut_dpt {G : Hp} {xs : List V} {es : List Pt} (lo hi : Option Int) (h : DpAll K G xs (es.map dpt)) : ∃ es2 : List Pt, DpAll K G (cutV xs lo hi) (es2.map dpt) ∧ es2.length ≤ es.length ∧ ∀ p ∈ es2, p ∈ es := by
  have hl : xs.length = es.length := by rw [dpLen h, List.length_map]
  unfold cutV
  refine ⟨(es.drop (HT.sIx xs.length 0 lo)).take (HT.sIx xs.length xs.length hi - HT.sIx xs.length 0 lo), ?_, ?_, fun p hp => List.mem_of_mem_drop (List.mem_of_mem_take hp)⟩
  · rw [List.map_take, List.map_drop]
    exact dpTakeN (dpDropN h)
  · rw [List.length_take, List.length_drop]
    omega
end
end Wb

namespace Wb
open PySem PySem.Spec PyProof.Rows L2
open Evl (Ex Ex.refl Ex.trans Ex.new)
local macro_rules | `(tactic| wtm_at "dp") => `(tactic| first | with_reducible assumption | with_reducible exact Dp.int _ | with_reducible exact Dp.bl _ | with_reducible exact Dp.str _ | with_reducible exact Dp.non | ((with_reducible refine' dpMono ?dme (by with_reducible assumption)); (case dme => wtm_at "ex")) | ((with_reducible refine' Dp.tup (Evl.st_of ?dph) ?dpa); (case dph => wtm_at "hs"); (case dpa => wtm_at "dpa")) | ((with_reducible refine' Dp.lst (Evl.sq_of ?dph) ?dpa); (case dph => wtm_at "hs"); (case dpa => wtm_at "dpa")))
local macro_rules | `(tactic| wtm_at "dpa") => `(tactic| first | with_reducible exact DpAll.nil | ((with_reducible refine' DpAll.cons ?dp1 ?dp2); (case dp1 => wtm_at "dp"); (case dp2 => wtm_at "dpa")) | with_reducible assumption | ((with_reducible refine' dpMonoA ?dme (by with_reducible assumption)); (case dme => wtm_at "ex")))
local macro_rules | `(tactic| wtm_at "sz") => `(tactic| first | with_reducible assumption | ((with_reducible refine' sz_mul ?sz1 ?sz2); (case sz1 => wtm_at "sz"); (case sz2 => wtm_at "sz")) | ((with_reducible refine' sz_add ?sz1 ?sz2); (case sz1 => wtm_at "sz"); (case sz2 => wtm_at "sz")) | ((with_reducible refine' sz_sub ?sz1 ?sz2); (case sz1 => wtm_at "sz"); (case sz2 => wtm_at "sz")) | ((with_reducible refine' sz_neg ?sz1); (case sz1 => wtm_at "sz")) | ((with_reducible refine' sz_div ?sz1); (case sz1 => wtm_at "sz")) | ((with_reducible refine' sz_fdiv ?sz1); (case sz1 => wtm_at "sz")) | exact sz_lit (by decide) | wtm_at "sz2")
local macro_rules | `(tactic| wtm_at "szb") => `(tactic| first | with_reducible assumption | ((with_reducible refine' sz_mono ?szb1 ?szb2); (case szb1 => wtm_at "sz"); (case szb2 => decide)))
local macro_rules | `(tactic| wtm_at "nz") => `(tactic| first | assumption | decide | omega)
local macro_rules | `(tactic| wtm_at "shaped") => `(tactic| first | rfl | decide)
local macro_rules | `(tactic| wtm_at "sset") => `(tactic| ((dsimp only [L2.wipe, List.set, List.set_cons_zero, List.set_cons_succ]) <;> exact rfl))
local macro_rules | `(tactic| wtm_at "nrm") => `(tactic| dsimp only [L2.start, L2.wipe, List.set, List.append, List.map, List.map_cons, List.map_nil, List.length_cons, List.length_nil, Nat.reduceAdd, Nat.reduceSub, List.reduceReplicate, List.replicate, List.cons_append, List.nil_append, List.set_cons_zero, List.set_cons_succ])
local macro_rules | `(tactic| wtm_at "st") => `(tactic| first
  | ((with_reducible refine' i_var (v := ?u0) ?u1 ?uq); (case u1 => exact rfl))
  | ((with_reducible refine' i_nameN ?u0 ?uq); (case u0 => wtm_at "sset"))
  | (with_reducible refine' i_op ?uq)
  | (with_reducible refine' i_c ?uq)
  | (with_reducible refine' i_I0 ?uq)
  | ((with_reducible refine' i_ixTI (i := ?u0) ?u1 ?u2 ?u3 ?uq); (case u1 => wtm_at "dp"); (case u2 => wtm_at "ex"); (case u3 => exact rfl))
  | ((with_reducible refine' i_ixT (d := ?u0) ?u1 ?u2 ?u3 (fun xu hxu => ?uq)); (case u1 => wtm_at "dp"); (case u2 => wtm_at "ex"); (case u3 => exact rfl))
  | ((with_reducible refine' i_mul ?u0 ?u1 ?u2 ?uq); (case u0 => wtm_at "sz"); (case u1 => wtm_at "sz"); (case u2 => first | decide | omega))
  | (with_reducible refine' i_seq ?uq)
  | (with_reducible refine' i_asg ?uq)
  | (with_reducible refine' i_ret ?uq)
  | (with_reducible refine' i_ifs ?uq)
  | (with_reducible refine' i_drop ?uq)
  | (with_reducible refine' i_next ?uq)
  | (with_reducible refine' i_cons ?uq)
  | (with_reducible refine' i_nil ?uq)
  | (with_reducible refine' i_cl ?uq)
  | (with_reducible refine' i_cb ?uq)
  | (with_reducible refine' i_tup ?uq)
  | (with_reducible refine' i_lst ?uq)
  | ((with_reducible refine' i_mkT ?u0 (fun np nH nhe nhp => ?uq)); (case u0 => exact Nat.le_of_ble_eq_true rfl))
  | (with_reducible refine' i_test ?uq)
  | (with_reducible refine' i_B ?uq)
  | (with_reducible refine' i_k ?uq)
  | (with_reducible refine' i_and ?uq)
  | (with_reducible refine' i_or ?uq)
  | (with_reducible refine' i_not ?uq)
  | (with_reducible refine' i_andV ?uq)
  | (with_reducible refine' i_orV ?uq)
  | (with_reducible refine' i_notV ?uq)
  | (with_reducible refine' i_if ?uq)
  | (with_reducible refine' i_un ?uq)
  | (with_reducible refine' i_U ?uq)
  | (with_reducible refine' i_iteT ?uq)
  | (with_reducible refine' i_iteF ?uq)
  | ((with_reducible refine' i_iteTr ?u0 ?uq); (case u0 => first | with_reducible rfl | decide | (simp only [dIsInt, dIsBool, dIsTup, dIsStr, dIsLst, Bool.not_true, Bool.not_false]; done)))
  | ((with_reducible refine' i_iteFr ?u0 ?uq); (case u0 => first | with_reducible rfl | decide | (simp only [dIsInt, dIsBool, dIsTup, dIsStr, dIsLst, Bool.not_true, Bool.not_false]; done)))
  | (with_reducible refine' i_ite (fun hif => ?uqa) (fun hif => ?uqb))
  | (with_reducible refine' i_iteN (fun hif => ?uqa) (fun hif => ?uqb))
  | (with_reducible refine' i_iteBN (fun hif => ?uqa) (fun hif => ?uqb))
  | (with_reducible refine' i_iteB (fun hif => ?uqa) (fun hif => ?uqb))
  | ((with_reducible refine' i_modN ?u0 ?uq); (case u0 => wtm_at "nz"))
  | ((with_reducible refine' i_fdX ?u0 ?u1 ?u2 ?uq); (case u0 => wtm_at "nz"); (case u1 => wtm_at "sz"); (case u2 => first | decide | omega))
  | ((with_reducible refine' i_pow ?u0 ?uq); (case u0 => exact ⟨by decide, by decide +kernel⟩))
  | (with_reducible refine' i_eqI ?uq)
  | (with_reducible refine' i_neI ?uq)
  | (with_reducible refine' i_gcd ?uq)
  | (with_reducible refine' i_qabs ?uq)
  | (with_reducible refine' i_qint ?uq)
  | (with_reducible refine' i_qintB ?uq)
  | (with_reducible refine' i_qmax2 ?uq)
  | (with_reducible refine' i_qmin2 ?uq)
  | (with_reducible refine' i_isB ?uq)
  | (with_reducible refine' i_notB ?uq)
  | (with_reducible refine' i_chain ?uq)
  | (with_reducible refine' i_qisN ?uq)
  | (with_reducible refine' i_qnotN ?uq)
  | (with_reducible refine' i_yes ?uq)
  | (with_reducible refine' i_par ?uq)
  | (with_reducible refine' i_par3 ?uq)
  | ((with_reducible refine' i_par2 ?u0 ?uq); (case u0 => wtm_at "sset"))
  | ((with_reducible refine' i_par33 ?u0 ?uq); (case u0 => wtm_at "sset"))
  | ((with_reducible refine' i_ixLI (i := ?u0) ?u1 ?u2 ?u3 ?uq); (case u1 => wtm_at "dp"); (case u2 => wtm_at "ex"); (case u3 => exact rfl))
  | ((with_reducible refine' i_ixL (d := ?u0) ?u1 ?u2 ?u3 (fun xu hxu => ?uq)); (case u1 => wtm_at "dp"); (case u2 => wtm_at "ex"); (case u3 => exact rfl))
  | ((with_reducible refine' i_qlenT ?u0 ?uq); (case u0 => wtm_at "dp"))
  | ((with_reducible refine' i_qlenL ?u0 ?uq); (case u0 => wtm_at "dp"))
  | ((with_reducible refine' i_gtup ?u0 ?u1 ?u2 (fun gvs gdp => ?uq)); (case u0 => wtm_at "dp"); (case u1 => wtm_at "ex"); (case u2 => exact rfl))
  | ((with_reducible refine' i_glst ?u0 ?u1 ?u2 (fun gvs gdp => ?uq)); (case u0 => wtm_at "dp"); (case u1 => wtm_at "ex"); (case u2 => exact rfl))
  | ((with_reducible refine' i_gconsI ?u0 (fun gr gh => ?uq)); (case u0 => with_reducible assumption))
  | ((with_reducible refine' i_gconsA ?u0 (fun gv gr gh1 gh2 => ?uq)); (case u0 => with_reducible assumption))
  | ((with_reducible refine' i_gnilA ?u0 ?uq); (case u0 => with_reducible assumption))
  | ((with_reducible refine' i_isiI ?u0 ?uq); (case u0 => wtm_at "dp"))
  | ((with_reducible refine' i_isiB ?u0 ?uq); (case u0 => wtm_at "dp"))
  | ((with_reducible refine' i_isiT ?u0 ?uq); (case u0 => wtm_at "dp"))
  | ((with_reducible refine' i_isiS ?u0 ?uq); (case u0 => wtm_at "dp"))
  | ((with_reducible refine' i_isiL ?u0 ?uq); (case u0 => wtm_at "dp"))
  | ((with_reducible refine' i_eqD ?u0 ?u1 ?u2 ?u3 ?uq); (case u0 => wtm_at "dp"); (case u1 => wtm_at "dp"); (case u2 => wtm_at "shaped"); (case u3 => wtm_at "shaped"))
  | ((with_reducible refine' i_neD ?u0 ?u1 ?u2 ?u3 ?uq); (case u0 => wtm_at "dp"); (case u1 => wtm_at "dp"); (case u2 => wtm_at "shaped"); (case u3 => wtm_at "shaped"))
  | wtm_at "st2"
  | wtm_at "use")
local macro_rules | `(tactic| wtm_at "go") => `(tactic| repeat' (wtm_at "st"))
local macro_rules | `(tactic| wtm_at "go0") => `(tactic| ((try dsimp only [L2.cxOf, L2.Cx.nox, L2.Cx.wish, L2.Cx.tr, L2.Cx.blk]); (try wtm_at "nrm"); wtm_at "go"))
local macro_rules | `(tactic| wtm_at "fin") => `(tactic| ((try dsimp only); first | with_reducible assumption | assumption | ((with_reducible refine' Ret.use ?rur ?rue ?rud); (case rur => with_reducible assumption); (case rue => wtm_at "ex"); (case rud => wtm_at "dp"))))
local macro_rules | `(tactic| wtm_at "exh") => `(tactic| first | with_reducible assumption | with_reducible exact Ex.refl _ | with_reducible exact ex_hid | ((with_reducible refine' Ex.trans ?exe (by with_reducible assumption)); (case exe => wtm_at "exh")) | ((with_reducible refine' Ex.trans ?exe (hid_ex (by with_reducible assumption))); (case exe => wtm_at "exh")))
local macro_rules | `(tactic| wtm_at "ex") => `(tactic| first | with_reducible assumption | with_reducible exact Ex.refl _ | with_reducible exact ex_hid | ((with_reducible refine' Ex.trans ?exe (by with_reducible assumption)); (case exe => wtm_at "ex")) | ((with_reducible refine' Ex.trans ?exe (hid_ex (by with_reducible assumption))); (case exe => wtm_at "ex")) | ((with_reducible refine' Ex.trans ?exe ex_hid); (case exe => wtm_at "exh")))
local macro_rules | `(tactic| wtm_at "bag") => `(tactic| first | with_reducible assumption | ((with_reducible refine' Bag.mono ?bgm (by with_reducible assumption)); (case bgm => wtm_at "bag")))
local macro_rules | `(tactic| wtm_at "hs") => `(tactic| first | with_reducible assumption | ((with_reducible refine' hid_tup ?hb ?hp); (case hp => with_reducible assumption); (case hb => wtm_at "bag")) | ((with_reducible refine' hid_new ?hb ?hn ?hp); (case hp => with_reducible assumption); (case hn => with_reducible assumption); (case hb => wtm_at "bag")) | ((with_reducible refine' ex_at ?exe (by with_reducible assumption)); (case exe => wtm_at "ex")))
local macro_rules | `(tactic| wtm_at "st2") => `(tactic| first
  | ((with_reducible refine' i_mulC ?u0 ?uq); (case u0 => first | exact cmul_l (by decide) | exact cmul_r (by decide)))
  | ((with_reducible refine' i_ixLr (v := ?u0) ?u1 ?u2 ?uq); (case u1 => with_reducible assumption); (case u2 => exact rfl))
  | (with_reducible refine' i_sub ?uq)
  | ((with_reducible refine' i_mkL ?u0 (fun np nH nfr nhe nhp => ?uq)); (case u0 => exact Nat.le_of_ble_eq_true rfl))
  | ((with_reducible refine' i_setL (n := ?u0) ?u1 ?u2 (fun sH sh se => ?uq)); (case u1 => with_reducible assumption); (case u2 => exact rfl))
  | (with_reducible refine' i_sl ?uq)
  | (with_reducible refine' i_nopart ?uq)
  | (with_reducible refine' i_part ?uq)
  | (with_reducible refine' i_part1 ?uq))
local macro_rules | `(tactic| wtm_at "sz2") => `(tactic| ((with_reducible refine' sz_fmod ?sz1 ?sz2); (case sz1 => wtm_at "nz"); (case sz2 => wtm_at "sz")))
local macro_rules | `(tactic| wtm_at "stb") => `(tactic| first
  | ((with_reducible refine' i_mkTB ?u0 ?u1 (fun np nH nhe nhb nhp => ?uq)); (case u0 => exact Nat.le_of_ble_eq_true rfl); (case u1 => wtm_at "bag"))
  | ((with_reducible refine' i_mkLB ?u0 ?u1 (fun np nH nfr nhe nhb nhp => ?uq)); (case u0 => exact Nat.le_of_ble_eq_true rfl); (case u1 => wtm_at "bag"))
  | wtm_at "st")
local macro_rules | `(tactic| wtm_at "gob") => `(tactic| repeat' (wtm_at "stb"))
local macro_rules | `(tactic| wtm_at "gob0") => `(tactic| ((try dsimp only [L2.cxOf, L2.Cx.nox, L2.Cx.wish, L2.Cx.tr, L2.Cx.blk]); (try wtm_at "nrm"); wtm_at "gob"))
local macro_rules | `(tactic| wtm_at "use") => `(tactic| ((with_reducible refine' use__law_draw ?u0 ?u1 ?u2 (fun dn dH dn0 dn1 de db => ?uq)); (case u0 => wtm_at "bag"); (case u1 => wtm_at "pos"); (case u2 => wtm_at "szb")))
local macro_rules | `(tactic| wtm_at "pos") => `(tactic| first | assumption | decide | omega)
local macro_rules | `(tactic| wtm_at "oneof") => `(tactic| ((with_reducible refine' use__law_one_of ?u0 ?u1 ?u2 ?u3 ?uq); (case u0 => wtm_at "bag"); (case u1 => wtm_at "dp"); (case u2 => exact Nat.le_of_ble_eq_true rfl); (case u3 => exact Nat.le_of_ble_eq_true rfl)))
local macro_rules | `(tactic| wtm_at "use") => `(tactic| ((with_reducible refine' use__law_point ?u0 ?u1 (fun ur uH ue ud => ?uq)); (case u0 => wtm_at "pos"); (case u1 => wtm_at "szb")))
local macro_rules | `(tactic| wtm_at "use") => `(tactic| (with_reducible refine' use__law_shared ?_))
section
variable {P : Program} {w : World} {K : PySem.W.Frag} {mg : Str → Option Value} {base : Heap} {H H' : Hp} {Q : VK} {E : XK} {v1 v2 v3 v4 : V} {x1 y1 w1 x2 y2 w2 x3 y3 w3 x4 y4 w4 : Int}
def rExt : V → List V → Hp → VK → Prop := fun x vs H Q => ∃ (l b : Addr) (xs zs : List V), x = .ref l ∧ vs = [.ref b] ∧ H l = some (.lst xs) ∧ H b = some (.lst zs) ∧ xs.length + zs.length ≤ sizeLine ∧ Q .non (upd H l (.lst (xs ++ zs)))
theorem mt_ext {X : Cx} : MtM X "list.extend" rExt := mt_extend
local macro_rules | `(tactic| wtm_at "st2") => `(tactic| (first | ((with_reducible refine' i_qlenS ?u0 ?uq); (case u0 => with_reducible assumption)) | fail))
local macro_rules | `(tactic| wtm_at "st2") => `(tactic| (with_reducible refine' i_bm ?uq))
local macro_rules | `(tactic| wtm_at "st2") => `(tactic| (with_reducible refine' i_cs ?uq))
local macro_rules | `(tactic| wtm_at "st2") => `(tactic| (first | ((with_reducible refine' i_tyL ?u0 ?uq); (case u0 => with_reducible assumption)) | fail))
theorem i_cat {l b : Addr} {xs zs ys : List V} (h1 : H l = some (.lst xs)) (h2 : H b = some (.lst zs)) (hl : xs.length + zs.length ≤ 100000) (e : xs ++ zs = ys) (q : ∀ p H2, H p = none → Ex H H2 → H2 p = some (.lst ys) → Q (.ref p) H2) : rCat (.ref l) (.ref b) H Q := by
  subst e
  exact ⟨l, b, xs, zs, rfl, rfl, h1, h2, Evl.sz_of hl, fun p hp => q p _ hp (ex_upd hp) upd_same⟩
def rrW (K : PySem.W.Frag) (b l : Addr) (v2 vc : V) (sx sy sw : Int) (ds : List D2) (H G0 : Hp) : Nat → L2.St → Hp → Prop := fun i σ H' => ∃ (es : List Pt) (xs : List V) (o4 o5 o6 o7 o8 o9 o10 : Option V), σ = [some (.ref b), some v2, some vc, some (.ref l), o4, o5, o6, o7, o8, o9, o10] ∧ Ex (hid b H) (hid b H') ∧ Ex G0 (hid l (hid b H')) ∧ Bag b H' ∧ H' l = some (.lst xs) ∧ DpAll K (hid l (hid b H')) xs (es.map dpt) ∧ Due (cOf sx sy sw) ds i es
def rwW (K : PySem.W.Frag) (b D : Addr) (s : Int) (H : Hp) : Nat → Hp → Prop := fun i H' => ∃ (acc : List V) (fs : List Int), H' D = some (.lst acc) ∧ Ex (hid b H) (hid b H') ∧ Bag b H' ∧ DpAll K (hid D (hid b H')) acc (fs.map fun f => .tuple [.int f, .int s]) ∧ fs.length = i ∧ fs.Pairwise (· < ·) ∧ ∀ f ∈ fs, 1 ≤ f ∧ f + 1 ≤ 7 * (i : Int)
theorem Bag.noL {b : Addr} {d : PyData} {v : V} (hb : Bag b H) (n : Wb.noL d = true) (h : Dp K H v d) : Dp K (hid b H) v d := by
  obtain ⟨x, y, z, h1, _⟩ := hb.ex
  exact dpHidL h1 n h
def rowPt (sx sy sw : Int) (u : D2) : PyData → PyData
  | .tuple [.int f, .int s] => dpt (ptOf sx sy sw s u f)
  | _ => .none
def sp__law_round_right (K : PySem.W.Frag) : Sp := A2 fun v1 v2 H Q => ∃ (b : Addr) (sx sy sw : Int), v1 = .ref b ∧ Bag b H ∧ Dp K (hid b H) v2 (.list [.int sx, .int sy, .int sw]) ∧ 1 ≤ sw ∧ Sz 80 sx ∧ Sz 80 sy ∧ Sz 80 sw ∧ ∀ H2, Ex (hid b H) (hid b H2) → Bag b H2 → Q (.bl true) H2
abbrev s__law_round_right : Stmt := top 45
theorem sc__law_round_right : FnScope ["_law_bag_here", "_law_spot_here", "_law_centre", "_law_due", "_law_x", "_law_y", "_law_size", "_law_row", "_law_told", "_law_turn", "_law_far"] ["_law_bag_here", "_law_spot_here"] (defScope s__law_round_right) := ⟨rfl, rfl, rfl, by decide +kernel, rfl, by decide +kernel, by decide +kernel⟩
theorem ok__law_round_right {f : Addr} {fd : FuncData} (F : FnP K "_law_round_right" s__law_round_right f fd) (g : G mg) (c__law_directions : Cl P w K mg base 2 "_law_directions" (sp__law_directions K)) (c__law_shuffled : Cl P w K mg base 2 "_law_shuffled" (sp__law_shuffled K)) (c__law_point : Cl P w K mg base 2 "_law_point" (sp__law_point K)) (c__law_draw : Cl P w K mg base 1 "_law_draw" (sp__law_draw K)) (c__law_refusal : Cl P w K mg base 7 "_law_refusal" (sp__law_refusal K)) {CP CO : Addr} (c_sorted_round : ClX P w K mg base 6 "sorted_round" (sp_sorted_round K CP CO)) : FnOk P w K mg base CX0 8 f fd ["_law_bag_here", "_law_spot_here"] (sp__law_round_right K) := by
  have nd := sc__law_round_right.nd
  refine F.ok sc__law_round_right (fun vs H Q E h => h.len) (fun cdv A outer s H vs Q E hr h => ?_)
  obtain ⟨v1, v2, rfl, h⟩ := h
  refine ⟨_, PSs.nox (pss_cons (ps_par (i := 2) (j := 3) (by rfl) nd rfl rfl (by decide) rfl rfl (pa_cons (pc c__law_point hr (by decide) (by rfl) (pa_cons (pe_ix ix_list (pv 1) pe_int (fun _ _ => rfl)) (pa_cons (pe_ix ix_list (pv 1) pe_int (fun _ _ => rfl)) (pa_cons (pe_ix ix_list (pv 1) pe_int (fun _ _ => rfl)) pa_nil)))) (pa_cons (pe_lst pa_nil) pa_nil)) (by rfl)) (pss_cons (ps_for PassesOwn.never rfl (pi_list (pc c__law_directions hr (by decide) (by rfl) (pa_cons (pv 0) (pa_cons (pc c__law_draw hr (by decide) (by rfl) (pa_cons (pv 0) (pa_cons pe_int pa_nil))) pa_nil)))) (pg_tup (n := 2) (by rfl) (pgs_cons (pg_name (i := 4) nd rfl (Or.inr rfl)) (pgs_cons (pg_name (i := 5) nd rfl (Or.inr rfl)) pgs_nil))) (pss_cons (ps_set (i := 6) nd rfl (Or.inr rfl) (pe_op op_add pe_int (pc c__law_draw hr (by decide) (by rfl) (pa_cons (pv 0) (pa_cons pe_int pa_nil))))) (pss_cons (ps_setLc (i := 7) (own := [("_law_turn", 9)]) (g := gName 9) (by rfl) nd rfl rfl (sw_true rfl rfl rfl (by decide +kernel)) (pi_range1 (by rfl) g.f_range (pa_cons (pc c__law_draw hr (by decide) (by rfl) (pa_cons (pv 0) (pa_cons pe_int pa_nil))) pa_nil)) (blkOk_by (N := ["_law_bag_here", "_law_spot_here", "_law_centre", "_law_due", "_law_x", "_law_y", "_law_size", "_law_row", "_law_told", "_law_turn", "_law_far"]) (sc := defScope s__law_round_right) (own := [("_law_turn", 9)]) (by decide +kernel)) (fun _ _ _ _ _ => (pg_name (i := 9) nd rfl (Or.inl rfl))) (fun _ _ _ _ _ => pts_nil) (fun _ _ _ _ _ => (pe_tup (pa_cons (pe_op op_add (pe_op op_add pe_int (pc c__law_draw hr (by decide) (by rfl) (pa_cons (pv 0) (pa_cons pe_int pa_nil)))) (pe_op op_mul pe_int (pv 9))) (pa_cons (pv 6) pa_nil))))) (pss_one (ps_expr (pe_bm PySem.F.plainAttrs_list PySem.F.slot_list_extend PySem.F.type_list_extend mt_ext (pv 3) (pa_cons (pe_lc (own := [("_law_far", 10)]) (g := gName 10) (by rfl) nd (pi_list (pv 7)) (blkOk_by (N := ["_law_bag_here", "_law_spot_here", "_law_centre", "_law_due", "_law_x", "_law_y", "_law_size", "_law_row", "_law_told", "_law_turn", "_law_far"]) (sc := defScope s__law_round_right) (own := [("_law_far", 10)]) (by decide +kernel)) (fun _ _ _ _ _ => (pg_name (i := 10) nd rfl (Or.inl rfl))) (fun _ _ _ _ _ => pts_nil) (fun _ _ _ _ _ => (pc c__law_point hr (by decide) (by rfl) (pa_cons (pe_op op_add (pe_op op_mulX (pe_ix (show IxR _ (rIxL K) from ix_list) (pv 1) pe_int (fun _ _ => rfl)) (pe_ix (show IxR _ (rIxT K) from ix_tup) (pv 10) pe_int (fun _ _ => rfl))) (pe_op op_mulX (pe_op op_mulX (pe_ix (show IxR _ (rIxT K) from ix_tup) (pv 10) pe_int (fun _ _ => rfl)) (pv 4)) (pe_ix (show IxR _ (rIxL K) from ix_list) (pv 1) pe_int (fun _ _ => rfl)))) (pa_cons (pe_op op_add (pe_op op_mulX (pe_ix (show IxR _ (rIxL K) from ix_list) (pv 1) pe_int (fun _ _ => rfl)) (pe_ix (show IxR _ (rIxT K) from ix_tup) (pv 10) pe_int (fun _ _ => rfl))) (pe_op op_mulX (pe_op op_mulX (pe_ix (show IxR _ (rIxT K) from ix_tup) (pv 10) pe_int (fun _ _ => rfl)) (pv 5)) (pe_ix (show IxR _ (rIxL K) from ix_list) (pv 1) pe_int (fun _ _ => rfl)))) (pa_cons (pe_op op_mulX (pe_ix (show IxR _ (rIxL K) from ix_list) (pv 1) pe_int (fun _ _ => rfl)) (pe_ix (show IxR _ (rIxT K) from ix_tup) (pv 10) pe_int (fun _ _ => rfl))) pa_nil)))))) pa_nil))))))) (pss_cons (ps_set (i := 8) nd rfl (Or.inl rfl) (pc c__law_shuffled hr (by decide) (by rfl) (pa_cons (pv 0) (pa_cons (pe_op op_cat (pv 3) (pe_slice sl_list (pv 3) po_none (po_some (pc c__law_draw hr (by decide) (by rfl) (pa_cons (pv 0) (pa_cons pe_int pa_nil)))))) pa_nil)))) (pss_cons (ps_if (pt_cmpR (op_neD hr.units) (pcX c_sorted_round L2.takes0 hr (by decide) (by rfl) (pa_cons (pv 2) (pa_cons (pe_callTy call_qtuple (by rfl) g.f_tuple boot_tuple (pa_cons (pv 8) pa_nil)) pa_nil))) (pe_callTy call_qtuple (by rfl) g.f_tuple boot_tuple (pa_cons (pv 3) pa_nil)) (nomark _)) (pss_one (ps_ret pe_bl)) pss_nil) (pss_one (ps_ret (pe_and (pe_cmpR op_eq (pc c__law_refusal hr (by decide) (by rfl) (pa_cons (pv 2) (pa_cons (pe_callTy call_qtuple (by rfl) g.f_tuple boot_tuple (pa_cons (pe_op op_cat (pv 8) (pe_lst (pa_cons (pv 2) pa_nil))) pa_nil)) pa_nil))) pe_str (nomark _)) (pe_one (pe_cmpR op_eq (pc c__law_refusal hr (by decide) (by rfl) (pa_cons (pv 2) (pa_cons (pv 8) pa_nil))) pe_str (nomark _)))))))))), ?_⟩
  obtain ⟨b, sx, sy, sw, rfl, hb, hd, hsw, s1, s2, s3, q⟩ := h
  wtm_at "gob0"
  rename_i vc H1 e1 hc l H2 fn e2 b2 q2
  have b1 : Bag b H1 := hb.mono e1
  have hlb : l ≠ b := b1.ne fn
  have hl0 : H l = none := Evl.fresh_back e1 fn
  have hfl2 : H2 l = some (.lst []) := (of_hid q2).2
  have c1 : Dp K (hid b H1) vc (dpt (cOf sx sy sw)) := b1.noL rfl hc
  have cl2 : Dp K (hid l (hid b H2)) vc (dpt (cOf sx sy sw)) := dpHid2 fn e2 c1
  have dl2 : Dp K (hid l (hid b H2)) v2 (.list [.int sx, .int sy, .int sw]) := dpHid2 fn e2 (dpMono (hid_ex e1) hd)
  have ex2 : Ex (hid b H) (hid b H2) := hid_ex (e1.trans e2)
  clear hc c1 e1 e2 b1
  refine i_forVg ?_
  wtm_at "gob"
  rename_i dn G dn0 dn1 de1 db1
  refine use__law_directions db1 dn0 (by omega) ?_
  intro ds vd Hd hD0 hdl hdz de2 bd hvd
  obtain ⟨a, vs, rfl, hs, ha⟩ := dpLst hvd
  have hld : (hid b Hd) l = some (.lst []) := (de1.trans de2) _ _ q2
  have hlen : vs.length = ds.length := by rw [dpLen ha, List.length_map]
  have hne : vs ≠ [] := fun z => by
    have h0 := hD0.hd
    rw [z] at hlen
    rw [List.eq_nil_of_length_eq_zero hlen.symm] at h0
    cases h0
  have hs0 : SqL K (hid l (hid b Hd)) a vs := sql_hidL hld hne hs
  have ha0 : DpAll K (hid l (hid b Hd)) vs (ds.map d2) := dpHidLA hld (noLs_all fun d hd => by
    obtain ⟨u, _, rfl⟩ := List.mem_map.mp hd
    rfl) ha
  have cl3 : Dp K (hid l (hid b Hd)) vc (dpt (cOf sx sy sw)) := dpMono (hid_ex (de1.trans de2)) cl2
  have dl3 : Dp K (hid l (hid b Hd)) v2 (.list [.int sx, .int sy, .int sw]) := dpMono (hid_ex (de1.trans de2)) dl2
  have ex3 : Ex (hid b H) (hid b Hd) := ex2.trans (de1.trans de2)
  clear cl2 dl2 de1 de2 q2 ex2 hfl2 b2 db1 hvd hs ha hb hd
  refine i_forLVg (Evl.ex_l (ex_hid.trans ex_hid) hs0) (rrW K b l v2 vc sx sy sw ds H (hid l (hid b Hd))) ?_ ?_ ?_ ?_
  · exact ⟨[], [], _, _, _, _, _, _, _, rfl, ex3, Ex.refl _, bd, (of_hid hld).2, .nil, ⟨.nil, by simp, by simp, by simp, by simp⟩⟩
  · rintro i σ' H' ⟨es, xs, o4, o5, o6, o7, o8, o9, o10, rfl, p1, p2, p3, p4, p5, p6⟩
    exact Evl.ex_l (p2.trans (ex_hid.trans ex_hid)) hs0
  · rintro i x σ' H' hx ⟨es, xs, o4, o5, o6, o7, o8, o9, o10, rfl, p1, p2, p3, p4, p5, pDue⟩
    have hi : i < ds.length := by rw [← hlen]; exact (List.getElem?_eq_some_iff.mp hx).1
    have hu : ds[i]? = some ds[i] := List.getElem?_eq_getElem hi
    generalize ds[i] = u at hu
    obtain ⟨x', hx', hxd⟩ := dpGet ha0 (i := i) (d := d2 u) (by rw [List.getElem?_map, hu]; rfl)
    rw [hx] at hx'
    cases hx'
    have hxd1 : Dp K (hid b H') x (d2 u) := dpMono (p2.trans ex_hid) hxd
    have hd1 : Dp K (hid b H') v2 (.list [.int sx, .int sy, .int sw]) := dpMono (p2.trans ex_hid) dl3
    have hl1 : hid b H' l = some (.lst xs) := hid_of p4 hlb
    have uz := hdz u (List.mem_of_getElem? hu)
    have uz1 := uz.1
    have uz2 := uz.2
    clear hxd cl3 dl3 ex3 bd ha0 hs0 hld
    wtm_at "gob"
    rename_i r1 r2 dm J dm0 dm1 de3 db3
    have hs' : 0 < 1 + dm := by omega
    have ss' : Sz 4 (1 + dm) := by unfold Sz; omega
    generalize 1 + dm = s' at *
    have hd2 : Dp K (hid b J) v2 (.list [.int sx, .int sy, .int sw]) := dpMono de3 hd1
    have hl2 : hid b J l = some (.lst xs) := de3 _ _ hl1
    have ex2 : Ex (hid l (hid b Hd)) (hid l (hid b J)) := p2.trans (hid_ex de3)
    have ex1 : Ex (hid b H) (hid b J) := p1.trans de3
    have p5' := dpMonoA (hid_ex de3) p5
    clear hd1 hl1 p1 p2 p3 p4 p5 hxd1 de3
    refine i_lcRU ?_
    wtm_at "gob"
    rename_i dk J2 dk0 dk1 de4 db4
    refine ⟨dk, rfl, by omega, by omega, fun D hD => lc_range (lo := 0) (n := dk.toNat) (rwW K b D s' J2) ?_ (fun i2 H2 hi2 p => ?_) (fun H2 p => ?_)⟩
    · have hDb : D ≠ b := db4.ne hD
      exact ⟨[], [], upd_same, ex_hidD hD (Ex.refl _), bag_upd hDb db4, .nil, rfl, .nil, by simp⟩
    · obtain ⟨acc, fs, p1, p2, p3, p4, p5, p6, p7⟩ := p
      have hDb : D ≠ b := db4.ne hD
      refine ⟨rfl, i_yes (i_iteT ?_)⟩
      wtm_at "nrm"
      have pD : hid b H2 D = some (.lst acc) := hid_of p1 hDb
      wtm_at "gob"
      rename_i df J3 df0 df1 de5 db5 np J4 nhe nhb nhp
      have hla : acc.length = fs.length := by rw [dpLen p4, List.length_map]
      have g1 : J4 D = some (.lst acc) := nhe _ _ (of_hid (de5 _ _ pD)).2
      refine ⟨acc, g1, Evl.sz_lt (by omega), acc ++ [.ref np], fs ++ [1 + df + 7 * (0 + (i2 : Int))], upd_same, ex_hidD hD (p2.trans (de5.trans (hid_ex nhe))), bag_upd hDb nhb, ?_, by simp [p5], ?_, ?_⟩
      · rw [hid_set, List.map_append]
        have hnp := of_hid nhp
        refine dpAppN (dpMonoA (hid_ex (de5.trans (hid_ex nhe))) p4) (.cons (.tup (Evl.st_of (hid_of nhp (ne_of hnp.2 g1 (by intro z; cases z)))) (.cons (.int _) (.cons (.int _) .nil))) .nil)
      · rw [List.pairwise_append]
        refine ⟨p6, by simp, fun f hf g hg => ?_⟩
        rcases List.mem_singleton.mp hg with rfl
        have := p7 f hf
        omega
      · intro f hf
        rcases List.mem_append.mp hf with h | h
        · have := p7 f h
          omega
        · rcases List.mem_singleton.mp h with rfl
          omega
    · obtain ⟨acc, fs, p1, p2, p3, p4, p5, p6, p7⟩ := p
      have hDb : D ≠ b := db4.ne hD
      have hD1 : Dp K (hid b H2) (.ref D) (.list (fs.map fun f => .tuple [.int f, .int s'])) := .lst (Evl.sq_of (hid_of p1 hDb)) (dpMonoA ex_hid p4)
      have hd3 : Dp K (hid b H2) v2 (.list [.int sx, .int sy, .int sw]) := dpMono (de4.trans p2) hd2
      have hl3 : hid b H2 l = some (.lst xs) := (de4.trans p2) _ _ hl2
      have ex3 : Ex (hid l (hid b Hd)) (hid l (hid b H2)) := ex2.trans (hid_ex (de4.trans p2))
      have ex4 : Ex (hid b H) (hid b H2) := ex1.trans (de4.trans p2)
      have p5'' := dpMonoA (hid_ex (de4.trans p2)) p5'
      have hl3' : SqL K H2 l xs := Evl.sq_of (of_hid hl3).2
      clear hd2 hl2 ex2 ex1 p5' de4 p2 p4 p1 db3 db4 hD
      wtm_at "nrm"
      wtm_at "gob"
      refine i_lcM ?_
      wtm_at "gob"
      refine i_lcL (fun _ => true) (rowPt sx sy sw u) (dpMono ex_hid hD1) (by rw [List.length_map]; omega) ?_ (fun x => rfl) ?_ ?_ ?_
      · intro d hd
        obtain ⟨f, hf, rfl⟩ := List.mem_map.mp hd
        rfl
      · intro u' d H3 R e2 hd hu r
        wtm_at "go"
        exact r _ (Ex.refl _)
      · intro u' d H3 R e2 hd _ hu' r
        obtain ⟨f, hf, rfl⟩ := List.mem_map.mp hd
        have hf7 := p7 f hf
        have sf : Sz 4 f := by unfold Sz; omega
        have hd4 : Dp K H3 v2 (.list [.int sx, .int sy, .int sw]) := dpMono (ex_hid.trans e2) hd3
        have hsw' : 0 < sw * s' := Int.mul_pos (by omega) hs'
        clear hl3 hl3' ex3 ex4 p5'' hD1 p3 hd3 e2
        wtm_at "nrm"
        wtm_at "gob"
        exact r _ _ (by assumption) (by assumption)
      intro p Hn hn e ⟨acc2, hacc, hdp⟩
      wtm_at "gob"
      have hn1 : Hn l = some (.lst xs) := e _ _ (of_hid hl3).2
      have hb2 : Bag b Hn := p3.mono e
      have hxl : xs.length = es.length := by rw [dpLen p5'', List.length_map]
      have hfl : (((fs.map fun f => PyData.tuple [.int f, .int s']).filter fun _ => true).map (rowPt sx sy sw u)) = (fs.map (ptOf sx sy sw s' u)).map dpt := by
        rw [List.filter_eq_self.mpr (fun _ _ => rfl), List.map_map, List.map_map]
        rfl
      rw [hfl] at hdp
      have hal : acc2.length = fs.length := by rw [dpLen hdp, List.length_map, List.length_map]
      have hln := pDue.ln
      have hnl : noLs ((fs.map (ptOf sx sy sw s' u)).map dpt) = true := noLs_all fun d hd => by
        obtain ⟨q, _, rfl⟩ := List.mem_map.mp hd
        rfl
      have hdp1 : DpAll K (hid b Hn) acc2 ((fs.map (ptOf sx sy sw s' u)).map dpt) := by
        obtain ⟨x, y, z, hbb, _⟩ := hb2.ex
        exact dpHidLA hbb hnl hdp
      refine ⟨l, p, xs, acc2, rfl, rfl, hn1, hacc, Evl.sz_of (by omega), ?_⟩
      refine ⟨es ++ fs.map (ptOf sx sy sw s' u), xs ++ acc2, _, _, _, _, _, _, _, rfl, ex_hidD hl0 (ex4.trans (hid_ex e)), ?_, bag_upd hlb hb2, upd_same, ?_, pDue.row hD0 hdz hu hsw hs' s1 s2 s3 ss' (by omega) p6 (fun f hf => by have := p7 f hf; omega)⟩
      · rw [hid_set]
        exact ex3.trans (hid_ex (hid_ex e))
      · rw [hid_set, List.map_append]
        exact dpAppN (dpMonoA (hid_ex (hid_ex e)) p5'') (dpHidLA (hid_of hn1 hlb) hnl hdp1)
  · rintro σ' H' ⟨es, xs, o4, o5, o6, o7, o8, o9, o10, rfl, p1, p2, p3, p4, p5, pDue⟩
    have hd1 : Dp K (hid b H') v2 (.list [.int sx, .int sy, .int sw]) := dpMono (p2.trans ex_hid) dl3
    have hc1 : Dp K (hid b H') vc (dpt (cOf sx sy sw)) := dpMono (p2.trans ex_hid) cl3
    have hl1 : hid b H' l = some (.lst xs) := hid_of p4 hlb
    have hx1 : DpAll K (hid b H') xs (es.map dpt) := dpMonoA ex_hid p5
    have hln := pDue.ln
    have hes : es.length ≤ 24 := by omega
    have hxl : xs.length = es.length := by rw [dpLen p5, List.length_map]
    clear cl3 dl3 ex3 bd ha0 hs0 hld p2 p5 p4
    wtm_at "nrm"
    wtm_at "gob"
    rename_i dm J dm0 dm1 de3 db3
    have hl2 : J l = some (.lst xs) := (of_hid (de3 _ _ hl1)).2
    refine i_slL (Evl.sq_of hl2) (fun p2 J2 hp2 e2 h2 => ?_)
    obtain ⟨es2, hx2, hln2, hm2⟩ := cut_dpt (none) (some dm) (dpMonoA de3 hx1)
    have hcl : (cutV xs none (some dm)).length = es2.length := by rw [dpLen hx2, List.length_map]
    refine i_cat (e2 _ _ hl2) h2 (by omega) rfl (fun p3' J3 hp3 e3 h3 => ?_)
    have b2' : Bag b J2 := db3.mono e2
    have b3' : Bag b J3 := b2'.mono e3
    have hx3 : DpAll K (hid b J3) (xs ++ cutV xs none (some dm)) ((es ++ es2).map dpt) := by
      rw [List.map_append]
      exact dpAppN (dpMonoA (de3.trans (hid_ex (e2.trans e3))) hx1) (dpMonoA (hid_ex (e2.trans e3)) hx2)
    wtm_at "gob"
    refine use__law_shuffled b3' (.lst (Evl.sq_of (hid_of h3 (b2'.ne hp3))) hx3) (by rw [List.length_map, List.length_append]; omega) ?_
    intro ps a3 us3 J4 hperm e4 b4 ha3 hu3
    obtain ⟨ts, rfl, htp⟩ := perm_dpt hperm
    have hx4 : DpAll K (hid b J4) xs (es.map dpt) := dpMonoA (de3.trans ((hid_ex (e2.trans e3)).trans e4)) hx1
    have hl4 : hid b J4 l = some (.lst xs) := e4 _ _ (hid_of (e3 _ _ (e2 _ _ hl2)) hlb)
    have hc4 : Dp K (hid b J4) vc (dpt (cOf sx sy sw)) := dpMono (de3.trans ((hid_ex (e2.trans e3)).trans e4)) hc1
    have ex4 : Ex (hid b H) (hid b J4) := p1.trans (de3.trans ((hid_ex (e2.trans e3)).trans e4))
    have htl : ts.length ≤ 48 := by rw [htp.length_eq, List.length_append]; omega
    have htm : ∀ p, p ∈ ts ↔ p ∈ es := fun p => by
      rw [htp.mem_iff, List.mem_append]
      exact ⟨fun h => h.elim id (hm2 p), .inl⟩
    have pc : isPoint (dpt (cOf sx sy sw)) = true := lo_point (cOf_lo hsw)
    have nd := rd_nodup pDue.pw
    have hne : cOf sx sy sw ∉ ts := fun hm => by
      obtain ⟨u, hu, f, t, o⟩ := pDue.on _ ((htm _).mp hm)
      exact on_ne (hD0.nz u (List.mem_of_mem_take hu)) o rfl
    clear e4 hperm hx3 h3 e3 e2 h2 hx2 de3 hx1 hc1 hl1 hd1 hl2 hp3 hp2 hcl
    wtm_at "gob"
    refine i_qtupleL (.lst (Evl.sq_of (ex_hid _ _ ha3)) (dpMonoA ex_hid hu3)) (fun p5 J5 e5 hh => ?_)
    obtain ⟨vs5, hv5, hd5⟩ := hh
    wtm_at "gob"
    have hpt : ∀ p ∈ ts, isPoint (dpt p) = true := fun p hp => pDue.pt p ((htm p).mp hp)
    have b5 : Bag b J5 := b4.mono e5
    have hc5 : Dp K J5 vc (dpt (cOf sx sy sw)) := dpMono (ex_hid.trans e5) hc4
    refine ⟨vc, .ref p5, rfl, dpt (cOf sx sy sw), .tuple (ts.map dpt), hc5, .tup (Evl.st_of hv5) hd5, (fun z => by rw [pc] at z; cases z), (fun _ z => by cases z), fun _ dd hdd => ?_⟩
    cases hdd
    refine ⟨by rw [List.length_map]; omega, (fun z => absurd (fun d hd => by
      obtain ⟨p, hp, rfl⟩ := List.mem_map.mp hd
      exact hpt p hp) z), fun _ => ⟨cOf sx sy sw, ts, rfl, rfl, by omega, (fun z => absurd z hne), fun _ => ⟨rkI es, szC_of s1 s2 s3, (fun p hp => pDue.sz p ((htm p).mp hp)), (fun p hp q hq => rk_fst pDue.pw ((htm p).mp hp) ((htm q).mp hq)), fun qs hq1 hq2 hq3 => ?_⟩⟩⟩
    have hqs : qs = es := sorted_due nd (fun x => (hq1 x).trans (htm x)) hq2 hq3
    subst hqs
    intro v6 J6 e6 hv6
    wtm_at "gob"
    refine i_qtupleL (.lst (Evl.sq_of ((ex_hid.trans (e5.trans e6)) _ _ hl4)) (dpMonoA (ex_hid.trans (e5.trans e6)) hx4)) (fun p7 J7 e7 hh => ?_)
    obtain ⟨vs7, hv7, hd7⟩ := hh
    wtm_at "gob"
    refine i_neD (dpMono e7 hv6) (.tup (Evl.st_of hv7) hd7) (shp_dpt qs) (shp_dpt qs) ?_
    rw [eqv_dpts]
    have b7 : Bag b J7 := (b5.mono e6).mono e7
    have hc7 : Dp K J7 vc (dpt (cOf sx sy sw)) := dpMono (e6.trans e7) hc5
    have ha7 : J7 a3 = some (.lst us3) := (ex_hid.trans ((e5.trans e6).trans e7)) _ _ ha3
    have hu7 : DpAll K J7 us3 (ts.map dpt) := dpMonoA (ex_hid.trans ((e5.trans e6).trans e7)) hu3
    have ex7 : Ex (hid b H) (hid b J7) := ex4.trans (hid_ex ((e5.trans e6).trans e7))
    have hlu : us3.length = ts.length := by rw [dpLen hu7, List.length_map]
    clear e5 e6 e7 hv6 hd7 hv7 hd5 hv5 hl4 hx4 hc4 hc5 ex4 ha3 hu3 b4 b5
    wtm_at "gob"
    rename_i np J8 nfr nhe nhb nhp
    refine i_cat (nhe _ _ ha7) (of_hid nhp).2 (by simp; omega) rfl (fun p9 J9 hn9 e9 h9 => ?_)
    have hd9 : DpAll K J9 (us3 ++ [vc]) ((ts ++ [cOf sx sy sw]).map dpt) := by
      rw [List.map_append]
      exact dpAppN (dpMonoA (nhe.trans e9) hu7) (.cons (dpMono (nhe.trans e9) hc7) .nil)
    wtm_at "gob"
    refine i_qtupleL (.lst (Evl.sq_of h9) hd9) (fun p10 J10 e10 hh => ?_)
    obtain ⟨vs10, hv10, hd10⟩ := hh
    wtm_at "gob"
    refine ⟨vc, .ref p10, rfl, dpt (cOf sx sy sw), .tuple ((ts ++ [cOf sx sy sw]).map dpt), dpMono ((nhe.trans e9).trans e10) hc7, .tup (Evl.st_of hv10) hd10, .inr ⟨⟨cOf sx sy sw, ts ++ [cOf sx sy sw], rfl, rfl, pc, ?_, by simp; omega, by simp⟩, fun J11 e11 => ?_⟩⟩
    · intro p hp
      rcases List.mem_append.mp hp with hp | hp
      · exact hpt p hp
      · rw [List.mem_singleton.mp hp]
        exact pc
    wtm_at "gob"
    refine i_eq rfl ?_
    rw [decide_eq_true rfl]
    refine i_k (i_iteT ?_)
    have e11' : Ex J7 J11 := ((nhe.trans e9).trans e10).trans e11
    have hc11 := dpMono e11' hc7
    have hu11 := dpMonoA e11' hu7
    have ha11 := e11' _ _ ha7
    have b11 := b7.mono e11'
    have ex11 := ex7.trans (hid_ex e11')
    clear hd10 hv10 hd9 h9 nhp nhb nhe e9 e10 e11 e11' hc7 hu7 ha7 ex7 b7
    wtm_at "gob"
    refine ⟨vc, .ref a3, rfl, dpt (cOf sx sy sw), .list (ts.map dpt), hc11, .lst (Evl.sq_of ha11) hu11, .inl ⟨.inr (.inl ⟨pc, rfl⟩), fun J12 e12 => ?_⟩⟩
    wtm_at "gob"
    refine i_eq rfl ?_
    rw [decide_eq_true rfl]
    exact q _ (ex11.trans (hid_ex e12)) (b11.mono e12)
theorem use__law_round_right {b : Addr} {sx sy sw : Int} (hb : Bag b H) (hd : Dp K (hid b H) v2 (.list [.int sx, .int sy, .int sw])) (hw : 1 ≤ sw) (s1 : Sz 80 sx) (s2 : Sz 80 sy) (s3 : Sz 80 sw) (q : ∀ H2, Ex (hid b H) (hid b H2) → Bag b H2 → Q (.bl true) H2) : sp__law_round_right K [.ref b, v2] H Q E := ⟨_, _, rfl, _, _, _, _, rfl, hb, hd, hw, s1, s2, s3, q⟩
end
end Wb

namespace Wb
open PySem PySem.Spec PyProof.Rows L2
open Evl (Ex Ex.refl Ex.trans Ex.new)
local macro_rules | `(tactic| wtm_at "dp") => `(tactic| first | with_reducible assumption | with_reducible exact Dp.int _ | with_reducible exact Dp.bl _ | with_reducible exact Dp.str _ | with_reducible exact Dp.non | ((with_reducible refine' dpMono ?dme (by with_reducible assumption)); (case dme => wtm_at "ex")) | ((with_reducible refine' Dp.tup (Evl.st_of ?dph) ?dpa); (case dph => wtm_at "hs"); (case dpa => wtm_at "dpa")) | ((with_reducible refine' Dp.lst (Evl.sq_of ?dph) ?dpa); (case dph => wtm_at "hs"); (case dpa => wtm_at "dpa")))
local macro_rules | `(tactic| wtm_at "dpa") => `(tactic| first | with_reducible exact DpAll.nil | ((with_reducible refine' DpAll.cons ?dp1 ?dp2); (case dp1 => wtm_at "dp"); (case dp2 => wtm_at "dpa")) | with_reducible assumption | ((with_reducible refine' dpMonoA ?dme (by with_reducible assumption)); (case dme => wtm_at "ex")))
local macro_rules | `(tactic| wtm_at "sz") => `(tactic| first | with_reducible assumption | ((with_reducible refine' sz_mul ?sz1 ?sz2); (case sz1 => wtm_at "sz"); (case sz2 => wtm_at "sz")) | ((with_reducible refine' sz_add ?sz1 ?sz2); (case sz1 => wtm_at "sz"); (case sz2 => wtm_at "sz")) | ((with_reducible refine' sz_sub ?sz1 ?sz2); (case sz1 => wtm_at "sz"); (case sz2 => wtm_at "sz")) | ((with_reducible refine' sz_neg ?sz1); (case sz1 => wtm_at "sz")) | ((with_reducible refine' sz_div ?sz1); (case sz1 => wtm_at "sz")) | ((with_reducible refine' sz_fdiv ?sz1); (case sz1 => wtm_at "sz")) | exact sz_lit (by decide) | wtm_at "sz2")
local macro_rules | `(tactic| wtm_at "szb") => `(tactic| first | with_reducible assumption | ((with_reducible refine' sz_mono ?szb1 ?szb2); (case szb1 => wtm_at "sz"); (case szb2 => decide)))
local macro_rules | `(tactic| wtm_at "nz") => `(tactic| first | assumption | decide | omega)
local macro_rules | `(tactic| wtm_at "shaped") => `(tactic| first | rfl | decide)
local macro_rules | `(tactic| wtm_at "sset") => `(tactic| ((dsimp only [L2.wipe, List.set, List.set_cons_zero, List.set_cons_succ]) <;> exact rfl))
local macro_rules | `(tactic| wtm_at "nrm") => `(tactic| dsimp only [L2.start, L2.wipe, List.set, List.append, List.map, List.map_cons, List.map_nil, List.length_cons, List.length_nil, Nat.reduceAdd, Nat.reduceSub, List.reduceReplicate, List.replicate, List.cons_append, List.nil_append, List.set_cons_zero, List.set_cons_succ])
local macro_rules | `(tactic| wtm_at "st") => `(tactic| first
  | ((with_reducible refine' i_var (v := ?u0) ?u1 ?uq); (case u1 => exact rfl))
  | ((with_reducible refine' i_nameN ?u0 ?uq); (case u0 => wtm_at "sset"))
  | (with_reducible refine' i_op ?uq)
  | (with_reducible refine' i_c ?uq)
  | (with_reducible refine' i_I0 ?uq)
  | ((with_reducible refine' i_ixTI (i := ?u0) ?u1 ?u2 ?u3 ?uq); (case u1 => wtm_at "dp"); (case u2 => wtm_at "ex"); (case u3 => exact rfl))
  | ((with_reducible refine' i_ixT (d := ?u0) ?u1 ?u2 ?u3 (fun xu hxu => ?uq)); (case u1 => wtm_at "dp"); (case u2 => wtm_at "ex"); (case u3 => exact rfl))
  | ((with_reducible refine' i_mul ?u0 ?u1 ?u2 ?uq); (case u0 => wtm_at "sz"); (case u1 => wtm_at "sz"); (case u2 => first | decide | omega))
  | (with_reducible refine' i_seq ?uq)
  | (with_reducible refine' i_asg ?uq)
  | (with_reducible refine' i_ret ?uq)
  | (with_reducible refine' i_ifs ?uq)
  | (with_reducible refine' i_drop ?uq)
  | (with_reducible refine' i_next ?uq)
  | (with_reducible refine' i_cons ?uq)
  | (with_reducible refine' i_nil ?uq)
  | (with_reducible refine' i_cl ?uq)
  | (with_reducible refine' i_cb ?uq)
  | (with_reducible refine' i_tup ?uq)
  | (with_reducible refine' i_lst ?uq)
  | ((with_reducible refine' i_mkT ?u0 (fun np nH nhe nhp => ?uq)); (case u0 => exact Nat.le_of_ble_eq_true rfl))
  | (with_reducible refine' i_test ?uq)
  | (with_reducible refine' i_B ?uq)
  | (with_reducible refine' i_k ?uq)
  | (with_reducible refine' i_and ?uq)
  | (with_reducible refine' i_or ?uq)
  | (with_reducible refine' i_not ?uq)
  | (with_reducible refine' i_andV ?uq)
  | (with_reducible refine' i_orV ?uq)
  | (with_reducible refine' i_notV ?uq)
  | (with_reducible refine' i_if ?uq)
  | (with_reducible refine' i_un ?uq)
  | (with_reducible refine' i_U ?uq)
  | (with_reducible refine' i_iteT ?uq)
  | (with_reducible refine' i_iteF ?uq)
  | ((with_reducible refine' i_iteTr ?u0 ?uq); (case u0 => first | with_reducible rfl | decide | (simp only [dIsInt, dIsBool, dIsTup, dIsStr, dIsLst, Bool.not_true, Bool.not_false]; done)))
  | ((with_reducible refine' i_iteFr ?u0 ?uq); (case u0 => first | with_reducible rfl | decide | (simp only [dIsInt, dIsBool, dIsTup, dIsStr, dIsLst, Bool.not_true, Bool.not_false]; done)))
  | (with_reducible refine' i_ite (fun hif => ?uqa) (fun hif => ?uqb))
  | (with_reducible refine' i_iteN (fun hif => ?uqa) (fun hif => ?uqb))
  | (with_reducible refine' i_iteBN (fun hif => ?uqa) (fun hif => ?uqb))
  | (with_reducible refine' i_iteB (fun hif => ?uqa) (fun hif => ?uqb))
  | ((with_reducible refine' i_modN ?u0 ?uq); (case u0 => wtm_at "nz"))
  | ((with_reducible refine' i_fdX ?u0 ?u1 ?u2 ?uq); (case u0 => wtm_at "nz"); (case u1 => wtm_at "sz"); (case u2 => first | decide | omega))
  | ((with_reducible refine' i_pow ?u0 ?uq); (case u0 => exact ⟨by decide, by decide +kernel⟩))
  | (with_reducible refine' i_eqI ?uq)
  | (with_reducible refine' i_neI ?uq)
  | (with_reducible refine' i_gcd ?uq)
  | (with_reducible refine' i_qabs ?uq)
  | (with_reducible refine' i_qint ?uq)
  | (with_reducible refine' i_qintB ?uq)
  | (with_reducible refine' i_qmax2 ?uq)
  | (with_reducible refine' i_qmin2 ?uq)
  | (with_reducible refine' i_isB ?uq)
  | (with_reducible refine' i_notB ?uq)
  | (with_reducible refine' i_chain ?uq)
  | (with_reducible refine' i_qisN ?uq)
  | (with_reducible refine' i_qnotN ?uq)
  | (with_reducible refine' i_yes ?uq)
  | (with_reducible refine' i_par ?uq)
  | (with_reducible refine' i_par3 ?uq)
  | ((with_reducible refine' i_par2 ?u0 ?uq); (case u0 => wtm_at "sset"))
  | ((with_reducible refine' i_par33 ?u0 ?uq); (case u0 => wtm_at "sset"))
  | ((with_reducible refine' i_ixLI (i := ?u0) ?u1 ?u2 ?u3 ?uq); (case u1 => wtm_at "dp"); (case u2 => wtm_at "ex"); (case u3 => exact rfl))
  | ((with_reducible refine' i_ixL (d := ?u0) ?u1 ?u2 ?u3 (fun xu hxu => ?uq)); (case u1 => wtm_at "dp"); (case u2 => wtm_at "ex"); (case u3 => exact rfl))
  | ((with_reducible refine' i_qlenT ?u0 ?uq); (case u0 => wtm_at "dp"))
  | ((with_reducible refine' i_qlenL ?u0 ?uq); (case u0 => wtm_at "dp"))
  | ((with_reducible refine' i_gtup ?u0 ?u1 ?u2 (fun gvs gdp => ?uq)); (case u0 => wtm_at "dp"); (case u1 => wtm_at "ex"); (case u2 => exact rfl))
  | ((with_reducible refine' i_glst ?u0 ?u1 ?u2 (fun gvs gdp => ?uq)); (case u0 => wtm_at "dp"); (case u1 => wtm_at "ex"); (case u2 => exact rfl))
  | ((with_reducible refine' i_gconsI ?u0 (fun gr gh => ?uq)); (case u0 => with_reducible assumption))
  | ((with_reducible refine' i_gconsA ?u0 (fun gv gr gh1 gh2 => ?uq)); (case u0 => with_reducible assumption))
  | ((with_reducible refine' i_gnilA ?u0 ?uq); (case u0 => with_reducible assumption))
  | ((with_reducible refine' i_isiI ?u0 ?uq); (case u0 => wtm_at "dp"))
  | ((with_reducible refine' i_isiB ?u0 ?uq); (case u0 => wtm_at "dp"))
  | ((with_reducible refine' i_isiT ?u0 ?uq); (case u0 => wtm_at "dp"))
  | ((with_reducible refine' i_isiS ?u0 ?uq); (case u0 => wtm_at "dp"))
  | ((with_reducible refine' i_isiL ?u0 ?uq); (case u0 => wtm_at "dp"))
  | ((with_reducible refine' i_eqD ?u0 ?u1 ?u2 ?u3 ?uq); (case u0 => wtm_at "dp"); (case u1 => wtm_at "dp"); (case u2 => wtm_at "shaped"); (case u3 => wtm_at "shaped"))
  | ((with_reducible refine' i_neD ?u0 ?u1 ?u2 ?u3 ?uq); (case u0 => wtm_at "dp"); (case u1 => wtm_at "dp"); (case u2 => wtm_at "shaped"); (case u3 => wtm_at "shaped"))
  | wtm_at "st2"
  | wtm_at "use")
local macro_rules | `(tactic| wtm_at "go") => `(tactic| repeat' (wtm_at "st"))
local macro_rules | `(tactic| wtm_at "go0") => `(tactic| ((try dsimp only [L2.cxOf, L2.Cx.nox, L2.Cx.wish, L2.Cx.tr, L2.Cx.blk]); (try wtm_at "nrm"); wtm_at "go"))
local macro_rules | `(tactic| wtm_at "fin") => `(tactic| ((try dsimp only); first | with_reducible assumption | assumption | ((with_reducible refine' Ret.use ?rur ?rue ?rud); (case rur => with_reducible assumption); (case rue => wtm_at "ex"); (case rud => wtm_at "dp"))))
local macro_rules | `(tactic| wtm_at "exh") => `(tactic| first | with_reducible assumption | with_reducible exact Ex.refl _ | with_reducible exact ex_hid | ((with_reducible refine' Ex.trans ?exe (by with_reducible assumption)); (case exe => wtm_at "exh")) | ((with_reducible refine' Ex.trans ?exe (hid_ex (by with_reducible assumption))); (case exe => wtm_at "exh")))
local macro_rules | `(tactic| wtm_at "ex") => `(tactic| first | with_reducible assumption | with_reducible exact Ex.refl _ | with_reducible exact ex_hid | ((with_reducible refine' Ex.trans ?exe (by with_reducible assumption)); (case exe => wtm_at "ex")) | ((with_reducible refine' Ex.trans ?exe (hid_ex (by with_reducible assumption))); (case exe => wtm_at "ex")) | ((with_reducible refine' Ex.trans ?exe ex_hid); (case exe => wtm_at "exh")))
local macro_rules | `(tactic| wtm_at "bag") => `(tactic| first | with_reducible assumption | ((with_reducible refine' Bag.mono ?bgm (by with_reducible assumption)); (case bgm => wtm_at "bag")))
local macro_rules | `(tactic| wtm_at "hs") => `(tactic| first | with_reducible assumption | ((with_reducible refine' hid_tup ?hb ?hp); (case hp => with_reducible assumption); (case hb => wtm_at "bag")) | ((with_reducible refine' hid_new ?hb ?hn ?hp); (case hp => with_reducible assumption); (case hn => with_reducible assumption); (case hb => wtm_at "bag")) | ((with_reducible refine' ex_at ?exe (by with_reducible assumption)); (case exe => wtm_at "ex")))
local macro_rules | `(tactic| wtm_at "st2") => `(tactic| first
  | ((with_reducible refine' i_mulC ?u0 ?uq); (case u0 => first | exact cmul_l (by decide) | exact cmul_r (by decide)))
  | ((with_reducible refine' i_ixLr (v := ?u0) ?u1 ?u2 ?uq); (case u1 => with_reducible assumption); (case u2 => exact rfl))
  | (with_reducible refine' i_sub ?uq)
  | ((with_reducible refine' i_mkL ?u0 (fun np nH nfr nhe nhp => ?uq)); (case u0 => exact Nat.le_of_ble_eq_true rfl))
  | ((with_reducible refine' i_setL (n := ?u0) ?u1 ?u2 (fun sH sh se => ?uq)); (case u1 => with_reducible assumption); (case u2 => exact rfl))
  | (with_reducible refine' i_sl ?uq)
  | (with_reducible refine' i_nopart ?uq)
  | (with_reducible refine' i_part ?uq)
  | (with_reducible refine' i_part1 ?uq))
local macro_rules | `(tactic| wtm_at "sz2") => `(tactic| ((with_reducible refine' sz_fmod ?sz1 ?sz2); (case sz1 => wtm_at "nz"); (case sz2 => wtm_at "sz")))
local macro_rules | `(tactic| wtm_at "stb") => `(tactic| first
  | ((with_reducible refine' i_mkTB ?u0 ?u1 (fun np nH nhe nhb nhp => ?uq)); (case u0 => exact Nat.le_of_ble_eq_true rfl); (case u1 => wtm_at "bag"))
  | ((with_reducible refine' i_mkLB ?u0 ?u1 (fun np nH nfr nhe nhb nhp => ?uq)); (case u0 => exact Nat.le_of_ble_eq_true rfl); (case u1 => wtm_at "bag"))
  | wtm_at "st")
local macro_rules | `(tactic| wtm_at "gob") => `(tactic| repeat' (wtm_at "stb"))
local macro_rules | `(tactic| wtm_at "gob0") => `(tactic| ((try dsimp only [L2.cxOf, L2.Cx.nox, L2.Cx.wish, L2.Cx.tr, L2.Cx.blk]); (try wtm_at "nrm"); wtm_at "gob"))
local macro_rules | `(tactic| wtm_at "use") => `(tactic| ((with_reducible refine' use__law_draw ?u0 ?u1 ?u2 (fun dn dH dn0 dn1 de db => ?uq)); (case u0 => wtm_at "bag"); (case u1 => wtm_at "pos"); (case u2 => wtm_at "szb")))
local macro_rules | `(tactic| wtm_at "pos") => `(tactic| first | assumption | decide | omega)
local macro_rules | `(tactic| wtm_at "oneof") => `(tactic| ((with_reducible refine' use__law_one_of ?u0 ?u1 ?u2 ?u3 ?uq); (case u0 => wtm_at "bag"); (case u1 => wtm_at "dp"); (case u2 => exact Nat.le_of_ble_eq_true rfl); (case u3 => exact Nat.le_of_ble_eq_true rfl)))
section
variable {P : Program} {w : World} {K : PySem.W.Frag} {mg : Str → Option Value} {base : Heap} {H H' : Hp} {Q : VK} {E : XK} {v1 v2 v3 v4 : V} {x1 y1 w1 x2 y2 w2 x3 y3 w3 x4 y4 w4 : Int}
local macro_rules | `(tactic| wtm_at "use") => `(tactic| (first | ((with_reducible refine' use__law_bag ?u0 ?u1 ?u2 (fun bb bH bn be bg => ?uq)); (case u0 => with_reducible assumption); (case u1 => first | assumption | omega); (case u2 => first | assumption | omega)) | fail))
local macro_rules | `(tactic| wtm_at "use") => `(tactic| (first | ((with_reducible refine' use__law_frame ?u0 (fun f1 f2 f3 f4 f5 f6 f7 fv fH fo fe fb fd => ?uq)); (case u0 => wtm_at "bag")) | fail))
local macro_rules | `(tactic| wtm_at "use") => `(tactic| (first | ((with_reducible refine' use__law_span ?u0 ?u1 ?u2 (fun px py pv pH psx psy pe pb pd => ?uq)); (case u0 => wtm_at "bag"); (case u1 => omega); (case u2 => omega)) | fail))
local macro_rules | `(tactic| wtm_at "use") => `(tactic| (first | ((with_reducible refine' use__law_cross_right ?u0 ?u1 ?u2 ?u3 ?u4 ?u5 ?u6 ?u7 ?u8 ?u9 (fun tH te => ?uq)); (case u0 => wtm_at "dp"); (case u1 => wtm_at "dp"); (case u2 => wtm_at "dp"); (case u3 => with_reducible assumption); (case u4 => wtm_at "pos"); (case u5 => with_reducible assumption); (case u6 => with_reducible assumption); (case u7 => with_reducible assumption); (case u8 => with_reducible assumption); (case u9 => with_reducible assumption)) | fail))
local macro_rules | `(tactic| wtm_at "use") => `(tactic| (first | ((with_reducible refine' use__law_line_right ?u0 ?u1 ?u2 ?u3 ?u4 ?u5 ?u6 ?u7 ?u8 ?u9 ?u10 (fun tH te => ?uq)); (case u0 => wtm_at "dp"); (case u1 => wtm_at "dp"); (case u2 => wtm_at "dp"); (case u3 => with_reducible assumption); (case u4 => wtm_at "pos"); (case u5 => with_reducible assumption); (case u6 => with_reducible assumption); (case u7 => with_reducible assumption); (case u8 => with_reducible assumption); (case u9 => with_reducible assumption); (case u10 => with_reducible assumption)) | fail))
local macro_rules | `(tactic| wtm_at "st2") => `(tactic| ((with_reducible refine' i_qlenS ?u0 ?uq); (case u0 => with_reducible assumption)))
local macro_rules | `(tactic| wtm_at "use") => `(tactic| (first | ((with_reducible refine' use__law_round_right ?u0 ?u1 ?u2 ?u3 ?u4 ?u5 (fun tH te tb => ?uq)); (case u0 => wtm_at "bag"); (case u1 => wtm_at "dp"); (case u2 => with_reducible assumption); (case u3 => with_reducible assumption); (case u4 => with_reducible assumption); (case u5 => with_reducible assumption)) | fail))
def sp_law (K : PySem.W.Frag) : Sp := A1 fun v1 H Q => ∃ (a : Addr) (ns : List Int), v1 = .ref a ∧ SqL K H a (ns.map V.int) ∧ ∀ H2, Q (.bl true) H2
abbrev s_law : Stmt := top 47
theorem sc_law : FnScope ["_law_script", "_law_at", "_law_bag_here", "_law_frame_here", "_law_over", "_law_reach", "_law_side"] ["_law_script"] (defScope s_law) := ⟨rfl, rfl, rfl, by decide +kernel, rfl, by decide +kernel, by decide +kernel⟩
theorem ok_law {f : Addr} {fd : FuncData} (F : FnP K "law" s_law f fd) (g : G mg) (c__law_bag : Cl P w K mg base 1 "_law_bag" (sp__law_bag K)) (c__law_one_of : Cl P w K mg base 2 "_law_one_of" (sp__law_one_of K)) (c__law_frame : Cl P w K mg base 3 "_law_frame" (sp__law_frame K)) (c__law_cross_right : Cl P w K mg base 8 "_law_cross_right" (sp__law_cross_right K)) (c__law_line_right : Cl P w K mg base 8 "_law_line_right" (sp__law_line_right K)) (c__law_round_right : Cl P w K mg base 8 "_law_round_right" (sp__law_round_right K)) (c__law_draw : Cl P w K mg base 1 "_law_draw" (sp__law_draw K)) (c__law_span : Cl P w K mg base 2 "_law_span" (sp__law_span K)) (c__law_refusal : Cl P w K mg base 7 "_law_refusal" (sp__law_refusal K))  : FnOk P w K mg base CX0 9 f fd ["_law_script"] (sp_law K) := by
  have nd := sc_law.nd
  refine F.ok sc_law (fun vs H Q E h => h.len) (fun cdv A outer s H vs Q E hr h => ?_)
  obtain ⟨v1, rfl, h⟩ := h
  refine ⟨_, PSs.nox (pss_cons (ps_for PassesOwn.never rfl (pi_range1 (by rfl) g.f_range (pa_cons (pe_callB (call_qmax2 rfl) (by rfl) g.f_max boot_max (pa_cons pe_int (pa_cons (pe_callB (call_qmin2 rfl) (by rfl) g.f_min boot_min (pa_cons pe_int (pa_cons (pe_callB call_qlen (by rfl) g.f_len boot_len (pa_cons (pv 0) pa_nil)) pa_nil))) pa_nil))) pa_nil)) (pg_name (i := 1) nd rfl (Or.inl rfl)) (pss_cons (ps_set (i := 2) nd rfl (Or.inl rfl) (pc c__law_bag hr (by decide) (by rfl) (pa_cons (pv 0) (pa_cons (pv 1) pa_nil)))) (pss_cons (ps_par3 (i := 3) (j := 4) (l := 5) (by rfl) nd rfl rfl rfl (by decide) (by decide) (by decide) rfl rfl rfl (pa_cons (pc c__law_frame hr (by decide) (by rfl) (pa_cons (pv 2) pa_nil)) (pa_cons (pe_op op_add pe_int (pc c__law_draw hr (by decide) (by rfl) (pa_cons (pv 2) (pa_cons pe_int pa_nil)))) (pa_cons (pc c__law_one_of hr (by decide) (by rfl) (pa_cons (pv 2) (pa_cons (pe_lst (pa_cons pe_int (pa_cons pe_int (pa_cons pe_int (pa_cons pe_int (pa_cons (pe_op op_powX pe_int pe_int) pa_nil)))))) pa_nil))) pa_nil))) (by rfl)) (pss_cons (ps_if (pt_not (pt_val (pc c__law_cross_right hr (by decide) (by rfl) (pa_cons (pv 3) (pa_cons (pc c__law_span hr (by decide) (by rfl) (pa_cons (pv 2) (pa_cons (pv 5) pa_nil))) (pa_cons (pc c__law_span hr (by decide) (by rfl) (pa_cons (pv 2) (pa_cons (pv 5) pa_nil))) (pa_cons (pv 4) pa_nil))))))) (pss_one (ps_ret pe_bl)) pss_nil) (pss_cons (ps_set (i := 6) nd rfl (Or.inl rfl) (pc c__law_one_of hr (by decide) (by rfl) (pa_cons (pv 2) (pa_cons (pe_lst (pa_cons pe_int (pa_cons pe_int (pa_cons pe_int (pa_cons (pe_un un_neg pe_int) pa_nil))))) pa_nil)))) (pss_cons (ps_if (pt_not (pt_val (pc c__law_line_right hr (by decide) (by rfl) (pa_cons (pv 3) (pa_cons (pc c__law_span hr (by decide) (by rfl) (pa_cons (pv 2) (pa_cons (pv 5) pa_nil))) (pa_cons (pc c__law_span hr (by decide) (by rfl) (pa_cons (pv 2) (pa_cons (pv 5) pa_nil))) (pa_cons (pv 6) (pa_cons (pv 4) pa_nil)))))))) (pss_one (ps_ret pe_bl)) pss_nil) (pss_cons (ps_if (pt_not (pt_val (pc c__law_round_right hr (by decide) (by rfl) (pa_cons (pv 2) (pa_cons (pe_ix ix_tup (pv 3) pe_int (fun _ _ => rfl)) pa_nil))))) (pss_one (ps_ret pe_bl)) pss_nil) (pss_one (ps_if (PW.pt (pw_or (pt_cmpR op_ne (pc c__law_refusal hr (by decide) (by rfl) (pa_cons (pe_tup (pa_cons pe_int (pa_cons pe_int (pa_cons pe_int pa_nil)))) (pa_cons (pe_tup (pa_cons (pe_tup (pa_cons pe_int (pa_cons pe_int (pa_cons pe_int pa_nil)))) pa_nil)) pa_nil))) pe_str (nomark _)) (pw_or1 (pt_cmpR op_ne (pc c__law_refusal hr (by decide) (by rfl) (pa_cons (pe_tup (pa_cons pe_int (pa_cons pe_int (pa_cons pe_int pa_nil)))) (pa_cons (pe_tup (pa_cons (pe_tup (pa_cons pe_int (pa_cons pe_int (pa_cons pe_int pa_nil)))) (pa_cons (pe_tup (pa_cons pe_int (pa_cons pe_int (pa_cons pe_int pa_nil)))) pa_nil))) pa_nil))) pe_str (nomark _))))) (pss_one (ps_ret pe_bl)) pss_nil))))))))) (pss_one (ps_ret pe_bl))), ?_⟩
  obtain ⟨a, ns, rfl, hS, q⟩ := h
  wtm_at "go0"
  refine i_forRU ?_
  wtm_at "go"
  refine i_forRK ⟨by (repeat' split) <;> omega, by (repeat' split) <;> omega⟩ (fun i σ' H' => (i : Int) ≤ 4 ∧ ∃ o1 o2 o3 o4 o5 o6 : Option V, σ' = [some (.ref a), o1, o2, o3, o4, o5, o6] ∧ SqL K H' a (ns.map V.int)) ⟨by decide, _, _, _, _, _, _, rfl, hS⟩ ?_ ?_
  rotate_left
  · intro σ' H' hp
    obtain ⟨hi, o1, o2, o3, o4, o5, o6, rfl, hS'⟩ := hp
    dsimp only
    wtm_at "go"
    exact q _
  intro i σ' H' hlt hp
  obtain ⟨hi, o1, o2, o3, o4, o5, o6, rfl, hS'⟩ := hp
  have hlt4 : (i : Int) < 4 := by
    revert hlt
    (repeat' split) <;> omega
  clear hlt hS
  wtm_at "nrm"
  wtm_at "gob"
  rename_i bb bH bn be bg f1 f2 f3 f4 f5 f6 f7 fv fH fo fe fb fd n1 nH n10 n11 en1 bn1 _ _ _ _ _ _
  wtm_at "oneof"
  intro d0 v H2 hd0 e2 b2 hv
  obtain ⟨m, rfl, hm1, hm2⟩ : ∃ m : Int, v = .int m ∧ 1 ≤ m ∧ m ≤ 1000000000 := by
    simp only [List.mem_cons, List.not_mem_nil, or_false] at hd0
    rcases hd0 with rfl | rfl | rfl | rfl | rfl <;> exact ⟨_, dpInt hv, by decide, by decide⟩
  have so4 : Sz 4 (1 + n1) := by unfold Sz; omega
  have so0 : 0 < 1 + n1 := by omega
  have w1 := fo.w
  have z1 := fo.s1
  have z2 := fo.s2
  have z3 := fo.s3
  wtm_at "gob"
  wtm_at "oneof"
  intro d1 v H3 hd1 e3 b3 hv1
  obtain ⟨sd, rfl, hsd⟩ : ∃ m : Int, v = .int m ∧ Sz 31 m := by
    simp only [List.mem_cons, List.not_mem_nil, or_false] at hd1
    rcases hd1 with rfl | rfl | rfl | rfl <;> exact ⟨_, dpInt hv1, by unfold Sz; decide⟩
  wtm_at "gob"
  rename_i J1 t1 tb1 p1 G1 y1 k1 r1 p2 G2 y2 k2 r2 p3 G3 y3 k3 r3
  have ex1 : Ex (hid bb bH) (hid bb G3) := by wtm_at "ex"
  have dA : Dp K G3 (.ref p1) (pt 0 0 2) := .tup (Evl.st_of ((y2.trans y3) _ _ (of_hid r1).2)) (.cons (.int _) (.cons (.int _) (.cons (.int _) .nil)))
  have dB : Dp K G3 (.ref p3) (.tuple [pt 0 0 2]) := .tup (Evl.st_of (of_hid r3).2) (.cons (.tup (Evl.st_of (y3 _ _ (of_hid r2).2)) (.cons (.int _) (.cons (.int _) (.cons (.int _) .nil)))) .nil)
  refine ⟨_, _, rfl, pt 0 0 2, .tuple [pt 0 0 2], dA, dB, .inl ⟨.inl (by decide +kernel), fun J e => ?_⟩⟩
  have ex2 : Ex (hid bb bH) (hid bb J) := ex1.trans (hid_ex e)
  have bJ : Bag bb J := k3.mono e
  refine i_c ⟨rfl, ?_⟩
  rw [decide_eq_true rfl]
  refine i_k ?_
  clear e ex1 dA dB r3 k3 y3 r2 k2 y2 r1 k1 y1 t1 tb1
  wtm_at "gob"
  rename_i p1 G1 y1 k1 r1 p2 G2 y2 k2 r2 p3 G3 y3 k3 r3 p4 G4 y4 k4 r4
  have dA : Dp K G4 (.ref p1) (pt 0 0 1) := .tup (Evl.st_of ((y2.trans (y3.trans y4)) _ _ (of_hid r1).2)) (.cons (.int _) (.cons (.int _) (.cons (.int _) .nil)))
  have dB : Dp K G4 (.ref p4) (.tuple [pt 0 0 1, pt 2 2 2]) := .tup (Evl.st_of (of_hid r4).2) (.cons (.tup (Evl.st_of ((y3.trans y4) _ _ (of_hid r2).2)) (.cons (.int _) (.cons (.int _) (.cons (.int _) .nil)))) (.cons (.tup (Evl.st_of (y4 _ _ (of_hid r3).2)) (.cons (.int _) (.cons (.int _) (.cons (.int _) .nil)))) .nil))
  refine ⟨_, _, rfl, pt 0 0 1, .tuple [pt 0 0 1, pt 2 2 2], dA, dB, .inl ⟨.inr (.inr ⟨by decide +kernel, [pt 0 0 1, pt 2 2 2], rfl, Nat.le_of_ble_eq_true rfl, fun z => ?_⟩), fun J5 e => ?_⟩⟩
  · have z2 := z (pt 2 2 2) (by simp)
    have z3 : isPoint (pt 2 2 2) = false := by decide +kernel
    rw [z3] at z2
    cases z2
  refine i_c ⟨rfl, ?_⟩
  rw [decide_eq_true rfl]
  refine i_k ?_
  have ex5 : Ex (hid bb bH) (hid bb J5) := ex2.trans (hid_ex ((((y1.trans y2).trans y3).trans y4).trans e))
  wtm_at "gob"
  exact ⟨by omega, _, _, _, _, _, _, rfl, Evl.ex_l (ex_unhid bn be ex5) hS'⟩
end
end Wb

namespace Wb
open PySem PySem.Spec PyProof.Rows L2
theorem cl_up {P : Program} {w : World} {K : PySem.W.Frag} {mg : Str → Option Value} {base : Heap} {j k : Nat} {x : Str} {sp : Sp} (c : Cl P w K mg base j x sp) (h : j ≤ k) : Cl P w K mg base k x sp := by
  obtain ⟨f, fd, ps, F, a, b, d⟩ := c.ex
  exact ⟨⟨f, fd, ps, F.mono h, a, b, d⟩⟩
theorem clx_up {P : Program} {w : World} {K : PySem.W.Frag} {mg : Str → Option Value} {base : Heap} {j k : Nat} {x : Str} {sp : Sp} (c : ClX P w K mg base j x sp) (h : j ≤ k) : ClX P w K mg base k x sp := by
  obtain ⟨f, fd, ps, F, a, b, d⟩ := c.ex
  exact ⟨⟨f, fd, ps, F.mono h, a, b, d⟩⟩
theorem facts {P : Program} {w : World} {K : PySem.W.Frag} {h : Heap} {mg : Str → Option Value} {f : Addr} (X : K.In h) (G0 : h.Ns mainGlobals mg) (hfa : mg ("law" : Str) = some (.ref f)) (cx : He.SaysX fa fn [] [] exB w h K) :
    ∃ fd : FuncData, (∀ (s : Shared) (v : Value), BindsTo s fd ⟨[v], []⟩ [("_law_script", v)]) ∧ ∀ base : Heap, K.In base → base.Ns mainGlobals mg → FnOk P w K mg base CX0 9 f fd ["_law_script"] (sp_law K) := by
  have c : He.SaysD fa fn K := cx.t.d
  obtain ⟨d__law_bag, F__law_bag⟩ := c.def_ 0 (d := mkD "_law_bag" 31 []) rfl
  obtain ⟨d__law_draw, F__law_draw⟩ := c.def_ 1 (d := mkD "_law_draw" 32 []) rfl
  obtain ⟨d__law_one_of, F__law_one_of⟩ := c.def_ 2 (d := mkD "_law_one_of" 33 []) rfl
  obtain ⟨d__law_frame, F__law_frame⟩ := c.def_ 3 (d := mkD "_law_frame" 37 []) rfl
  obtain ⟨d_shared_of, F_shared_of⟩ := c.def_ 4 (d := mkD "shared_of" 7 []) rfl
  obtain ⟨d_is_integer, F_is_integer⟩ := c.def_ 5 (d := mkD "is_integer" 6 []) rfl
  obtain ⟨d_is_point, F_is_point⟩ := c.def_ 6 (d := mkD "is_point" 9 []) rfl
  obtain ⟨d_require_point, F_require_point⟩ := c.def_ 7 (d := mkD "require_point" 10 []) rfl
  obtain ⟨d_require_points, F_require_points⟩ := c.def_ 8 (d := mkD "require_points" 11 []) rfl
  obtain ⟨d_turn_in, F_turn_in⟩ := c.def_ 9 (d := mkD "turn_in" 13 []) rfl
  obtain ⟨d_x_less, F_x_less⟩ := c.def_ 10 (d := mkD "x_less" 18 []) rfl
  obtain ⟨d_y_less, F_y_less⟩ := c.def_ 11 (d := mkD "y_less" 19 []) rfl
  obtain ⟨d_is_lower, F_is_lower⟩ := c.def_ 12 (d := mkD "is_lower" 20 []) rfl
  obtain ⟨d_common_on_line, F_common_on_line⟩ := c.def_ 13 (d := mkD "common_on_line" 21 []) rfl
  obtain ⟨d_line_through, F_line_through⟩ := c.def_ 14 (d := mkD "line_through" 16 []) rfl
  obtain ⟨d_reduced_point, F_reduced_point⟩ := c.def_ 15 (d := mkD "reduced_point" 12 []) rfl
  obtain ⟨d_line_meet_in, F_line_meet_in⟩ := c.def_ 16 (d := mkD "line_meet_in" 17 []) rfl
  obtain ⟨d_step_from, F_step_from⟩ := c.def_ 17 (d := mkD "step_from" 14 []) rfl
  obtain ⟨d_is_between_in, F_is_between_in⟩ := c.def_ 18 (d := mkD "is_between_in" 15 []) rfl
  obtain ⟨d_pieces_meet_in, F_pieces_meet_in⟩ := c.def_ 19 (d := mkD "pieces_meet_in" 22 []) rfl
  obtain ⟨d_pieces_meet, F_pieces_meet⟩ := c.def_ 20 (d := mkD "pieces_meet" 28 []) rfl
  obtain ⟨d__law_meets_right, F__law_meets_right⟩ := c.def_ 21 (d := mkD "_law_meets_right" 41 []) rfl
  obtain ⟨d__law_shared, F__law_shared⟩ := c.def_ 22 (d := mkD "_law_shared" 35 []) rfl
  obtain ⟨d__law_point, F__law_point⟩ := c.def_ 23 (d := mkD "_law_point" 36 []) rfl
  obtain ⟨d__law_spot, F__law_spot⟩ := c.def_ 24 (d := mkD "_law_spot" 38 []) rfl
  obtain ⟨d__law_cross_right, F__law_cross_right⟩ := c.def_ 25 (d := mkD "_law_cross_right" 42 []) rfl
  obtain ⟨d__law_line_right, F__law_line_right⟩ := c.def_ 26 (d := mkD "_law_line_right" 43 []) rfl
  obtain ⟨d__law_directions, F__law_directions⟩ := c.def_ 27 (d := mkD "_law_directions" 44 []) rfl
  obtain ⟨d__law_shuffled, F__law_shuffled⟩ := c.def_ 28 (d := mkD "_law_shuffled" 34 []) rfl
  obtain ⟨d_half_of, F_half_of⟩ := c.def_ 29 (d := mkD "half_of" 23 []) rfl
  obtain ⟨d_is_ahead_round, F_is_ahead_round⟩ := c.def_ 30 (d := mkD "is_ahead_round" 24 []) rfl
  obtain ⟨d_is_nearer, F_is_nearer⟩ := c.def_ 31 (d := mkD "is_nearer" 25 []) rfl
  obtain ⟨d_is_first_round, F_is_first_round⟩ := c.def_ 32 (d := mkD "is_first_round" 26 []) rfl
  obtain ⟨d_round_list, F_round_list⟩ := c.def_ 33 (d := mkD "round_list" 27 []) rfl
  obtain ⟨d_sorted_round, F_sorted_round⟩ := c.def_ 34 (d := mkD "sorted_round" 29 []) rfl
  obtain ⟨d__law_refusal, F__law_refusal⟩ := c.def_ 35 (d := mkD "_law_refusal" 46 []) rfl
  obtain ⟨d__law_round_right, F__law_round_right⟩ := c.def_ 36 (d := mkD "_law_round_right" 45 []) rfl
  obtain ⟨d__law_span, F__law_span⟩ := c.def_ 37 (d := mkD "_law_span" 40 []) rfl
  obtain ⟨d_law, F_law⟩ := c.def_ 38 (d := mkD "law" 47 []) rfl
  have m__law_bag := He.glo_ok X G0 (c.fact 0 (f := .glo "_law_bag") rfl)
  have m__law_draw := He.glo_ok X G0 (c.fact 1 (f := .glo "_law_draw") rfl)
  have m__law_one_of := He.glo_ok X G0 (c.fact 2 (f := .glo "_law_one_of") rfl)
  have m__law_frame := He.glo_ok X G0 (c.fact 3 (f := .glo "_law_frame") rfl)
  have m_shared_of := He.glo_ok X G0 (c.fact 4 (f := .glo "shared_of") rfl)
  have m_is_integer := He.glo_ok X G0 (c.fact 5 (f := .glo "is_integer") rfl)
  have m_is_point := He.glo_ok X G0 (c.fact 6 (f := .glo "is_point") rfl)
  have m_require_point := He.glo_ok X G0 (c.fact 7 (f := .glo "require_point") rfl)
  have m_require_points := He.glo_ok X G0 (c.fact 8 (f := .glo "require_points") rfl)
  have m_turn_in := He.glo_ok X G0 (c.fact 9 (f := .glo "turn_in") rfl)
  have m_x_less := He.glo_ok X G0 (c.fact 10 (f := .glo "x_less") rfl)
  have m_y_less := He.glo_ok X G0 (c.fact 11 (f := .glo "y_less") rfl)
  have m_is_lower := He.glo_ok X G0 (c.fact 12 (f := .glo "is_lower") rfl)
  have m_common_on_line := He.glo_ok X G0 (c.fact 13 (f := .glo "common_on_line") rfl)
  have m_line_through := He.glo_ok X G0 (c.fact 14 (f := .glo "line_through") rfl)
  have m_reduced_point := He.glo_ok X G0 (c.fact 15 (f := .glo "reduced_point") rfl)
  have m_line_meet_in := He.glo_ok X G0 (c.fact 16 (f := .glo "line_meet_in") rfl)
  have m_step_from := He.glo_ok X G0 (c.fact 17 (f := .glo "step_from") rfl)
  have m_is_between_in := He.glo_ok X G0 (c.fact 18 (f := .glo "is_between_in") rfl)
  have m_pieces_meet_in := He.glo_ok X G0 (c.fact 19 (f := .glo "pieces_meet_in") rfl)
  have m_pieces_meet := He.glo_ok X G0 (c.fact 20 (f := .glo "pieces_meet") rfl)
  have m__law_meets_right := He.glo_ok X G0 (c.fact 21 (f := .glo "_law_meets_right") rfl)
  have m__law_shared := He.glo_ok X G0 (c.fact 22 (f := .glo "_law_shared") rfl)
  have m__law_point := He.glo_ok X G0 (c.fact 23 (f := .glo "_law_point") rfl)
  have m__law_spot := He.glo_ok X G0 (c.fact 24 (f := .glo "_law_spot") rfl)
  have m__law_cross_right := He.glo_ok X G0 (c.fact 25 (f := .glo "_law_cross_right") rfl)
  have m__law_line_right := He.glo_ok X G0 (c.fact 26 (f := .glo "_law_line_right") rfl)
  have m__law_directions := He.glo_ok X G0 (c.fact 27 (f := .glo "_law_directions") rfl)
  have m__law_shuffled := He.glo_ok X G0 (c.fact 28 (f := .glo "_law_shuffled") rfl)
  have m_half_of := He.glo_ok X G0 (c.fact 29 (f := .glo "half_of") rfl)
  have m_is_ahead_round := He.glo_ok X G0 (c.fact 30 (f := .glo "is_ahead_round") rfl)
  have m_is_nearer := He.glo_ok X G0 (c.fact 31 (f := .glo "is_nearer") rfl)
  have m_is_first_round := He.glo_ok X G0 (c.fact 32 (f := .glo "is_first_round") rfl)
  have m_round_list := He.glo_ok X G0 (c.fact 33 (f := .glo "round_list") rfl)
  have m_sorted_round := He.glo_ok X G0 (c.fact 34 (f := .glo "sorted_round") rfl)
  have m__law_refusal := He.glo_ok X G0 (c.fact 35 (f := .glo "_law_refusal") rfl)
  have m__law_round_right := He.glo_ok X G0 (c.fact 36 (f := .glo "_law_round_right") rfl)
  have m__law_span := He.glo_ok X G0 (c.fact 37 (f := .glo "_law_span") rfl)
  have m_law := He.glo_ok X G0 (c.fact 38 (f := .glo "law") rfl)
  have m_InvalidPoint := He.glo_ok X G0 (c.fact 39 (f := .glo "InvalidPoint") rfl)
  have m_InvalidOperation := He.glo_ok X G0 (c.fact 40 (f := .glo "InvalidOperation") rfl)
  have g : G mg := ⟨He.free_ok X G0 (c.fact 41 (f := .free "len") rfl), He.free_ok X G0 (c.fact 42 (f := .free "abs") rfl), He.free_ok X G0 (c.fact 43 (f := .free "int") rfl), He.free_ok X G0 (c.fact 44 (f := .free "bool") rfl), He.free_ok X G0 (c.fact 45 (f := .free "tuple") rfl), He.free_ok X G0 (c.fact 46 (f := .free "list") rfl), He.free_ok X G0 (c.fact 47 (f := .free "isinstance") rfl), He.free_ok X G0 (c.fact 48 (f := .free "all") rfl), He.free_ok X G0 (c.fact 49 (f := .free "max") rfl), He.free_ok X G0 (c.fact 50 (f := .free "min") rfl), He.free_ok X G0 (c.fact 51 (f := .free "sum") rfl), He.free_ok X G0 (c.fact 52 (f := .free "range") rfl), He.free_ok X G0 (c.fact 53 (f := .free "set") rfl), He.free_ok X G0 (c.fact 54 (f := .free "sorted") rfl), PySem.W.mg_of X G0 (He.eqO_ok cx.more)⟩
  obtain ⟨x1, x2, x3, x4⟩ := He.exc_ok (c.fact 55 (f := .exc "InvalidPoint") rfl)
  have e_InvalidPoint : Exc1 K mg "InvalidPoint" _ := ⟨m_InvalidPoint, x1, x2, x3, x4, He.exm_ok (c.fact 57 (f := .exm "InvalidPoint" "InvalidPoint" true) rfl)⟩
  obtain ⟨x1, x2, x3, x4⟩ := He.exc_ok (c.fact 56 (f := .exc "InvalidOperation") rfl)
  have e_InvalidOperation : Exc1 K mg "InvalidOperation" _ := ⟨m_InvalidOperation, x1, x2, x3, x4, He.exm_ok (c.fact 58 (f := .exm "InvalidOperation" "InvalidOperation" true) rfl)⟩
  have n_InvalidPoint_InvalidOperation := He.exm_ok (c.fact 59 (f := .exm "InvalidPoint" "InvalidOperation" false) rfl)
  cases hfa.symm.trans m_law
  have b := FunD.bindsA (ps := ["_law_script"]) F_law fun _ _ _ _ _ _ us hl => match us, hl with | [_], _ => rfl
  refine ⟨d_law, fun s v => b s [v] rfl, fun base _ _ => ?_⟩
  have c__law_bag : Cl P w K mg base 1 "_law_bag" _ := ⟨⟨_, _, _, ok__law_bag F__law_bag g, m__law_bag, F__law_bag.kp, F__law_bag.bindsN fun _ _ _ _ _ _ us hl => match us, hl with | [_, _], _ => rfl⟩⟩
  have c__law_draw : Cl P w K mg base 1 "_law_draw" _ := ⟨⟨_, _, _, ok__law_draw F__law_draw g, m__law_draw, F__law_draw.kp, F__law_draw.bindsN fun _ _ _ _ _ _ us hl => match us, hl with | [_, _], _ => rfl⟩⟩
  have c__law_one_of : Cl P w K mg base 2 "_law_one_of" _ := ⟨⟨_, _, _, ok__law_one_of F__law_one_of g c__law_draw, m__law_one_of, F__law_one_of.kp, F__law_one_of.bindsN fun _ _ _ _ _ _ us hl => match us, hl with | [_, _], _ => rfl⟩⟩
  have c__law_frame : Cl P w K mg base 3 "_law_frame" _ := ⟨⟨_, _, _, ok__law_frame F__law_frame g c__law_one_of c__law_draw, m__law_frame, F__law_frame.kp, F__law_frame.bindsN fun _ _ _ _ _ _ us hl => match us, hl with | [_], _ => rfl⟩⟩
  have c_shared_of : Cl P w K mg base 1 "shared_of" _ := ⟨⟨_, _, _, ok_shared_of F_shared_of g, m_shared_of, F_shared_of.kp, F_shared_of.bindsN fun _ _ _ _ _ _ us hl => match us, hl with | [_, _], _ => rfl⟩⟩
  have c_is_integer : Cl P w K mg base 1 "is_integer" _ := ⟨⟨_, _, _, ok_is_integer F_is_integer g, m_is_integer, F_is_integer.kp, F_is_integer.bindsN fun _ _ _ _ _ _ us hl => match us, hl with | [_], _ => rfl⟩⟩
  have c_is_point : Cl P w K mg base 2 "is_point" _ := ⟨⟨_, _, _, ok_is_point F_is_point g c_shared_of c_is_integer, m_is_point, F_is_point.kp, F_is_point.bindsN fun _ _ _ _ _ _ us hl => match us, hl with | [_], _ => rfl⟩⟩
  have c_require_point : ClX P w K mg base 3 "require_point" _ := ⟨⟨_, _, _, ok_require_point F_require_point g e_InvalidPoint e_InvalidOperation c_is_point, m_require_point, F_require_point.kp, F_require_point.bindsN fun _ _ _ _ _ _ us hl => match us, hl with | [_], _ => rfl⟩⟩
  have c_require_points : ClXR P w K mg base 5 "require_points" _ := ⟨⟨_, ok_require_points F_require_points g (clx_up c_require_point (by decide)), m_require_points, F_require_points.kp⟩⟩
  have c_turn_in : Cl P w K mg base 1 "turn_in" _ := ⟨⟨_, _, _, ok_turn_in F_turn_in g, m_turn_in, F_turn_in.kp, F_turn_in.bindsN fun _ _ _ _ _ _ us hl => match us, hl with | [_, _, _], _ => rfl⟩⟩
  have c_x_less : Cl P w K mg base 1 "x_less" _ := ⟨⟨_, _, _, ok_x_less F_x_less g, m_x_less, F_x_less.kp, F_x_less.bindsN fun _ _ _ _ _ _ us hl => match us, hl with | [_, _], _ => rfl⟩⟩
  have c_y_less : Cl P w K mg base 1 "y_less" _ := ⟨⟨_, _, _, ok_y_less F_y_less g, m_y_less, F_y_less.kp, F_y_less.bindsN fun _ _ _ _ _ _ us hl => match us, hl with | [_, _], _ => rfl⟩⟩
  have c_is_lower : Cl P w K mg base 2 "is_lower" _ := ⟨⟨_, _, _, ok_is_lower F_is_lower g c_x_less c_y_less, m_is_lower, F_is_lower.kp, F_is_lower.bindsN fun _ _ _ _ _ _ us hl => match us, hl with | [_, _], _ => rfl⟩⟩
  have c_common_on_line : Cl P w K mg base 3 "common_on_line" _ := ⟨⟨_, _, _, ok_common_on_line F_common_on_line g c_is_lower, m_common_on_line, F_common_on_line.kp, F_common_on_line.bindsN fun _ _ _ _ _ _ us hl => match us, hl with | [_, _, _, _], _ => rfl⟩⟩
  have c_line_through : Cl P w K mg base 1 "line_through" _ := ⟨⟨_, _, _, ok_line_through F_line_through g, m_line_through, F_line_through.kp, F_line_through.bindsN fun _ _ _ _ _ _ us hl => match us, hl with | [_, _], _ => rfl⟩⟩
  have c_reduced_point : Cl P w K mg base 1 "reduced_point" _ := ⟨⟨_, _, _, ok_reduced_point F_reduced_point g, m_reduced_point, F_reduced_point.kp, F_reduced_point.bindsN fun _ _ _ _ _ _ us hl => match us, hl with | [_, _, _], _ => rfl⟩⟩
  have c_line_meet_in : Cl P w K mg base 2 "line_meet_in" _ := ⟨⟨_, _, _, ok_line_meet_in F_line_meet_in g c_line_through c_reduced_point, m_line_meet_in, F_line_meet_in.kp, F_line_meet_in.bindsN fun _ _ _ _ _ _ us hl => match us, hl with | [_, _, _, _], _ => rfl⟩⟩
  have c_step_from : Cl P w K mg base 1 "step_from" _ := ⟨⟨_, _, _, ok_step_from F_step_from g, m_step_from, F_step_from.kp, F_step_from.bindsN fun _ _ _ _ _ _ us hl => match us, hl with | [_, _], _ => rfl⟩⟩
  have c_is_between_in : Cl P w K mg base 2 "is_between_in" _ := ⟨⟨_, _, _, ok_is_between_in F_is_between_in g c_step_from c_turn_in, m_is_between_in, F_is_between_in.kp, F_is_between_in.bindsN fun _ _ _ _ _ _ us hl => match us, hl with | [_, _, _], _ => rfl⟩⟩
  have c_pieces_meet_in : Cl P w K mg base 4 "pieces_meet_in" _ := ⟨⟨_, _, _, ok_pieces_meet_in F_pieces_meet_in g c_turn_in c_common_on_line c_line_meet_in c_is_between_in, m_pieces_meet_in, F_pieces_meet_in.kp, F_pieces_meet_in.bindsN fun _ _ _ _ _ _ us hl => match us, hl with | [_, _, _, _], _ => rfl⟩⟩
  have c_pieces_meet : ClX P w K mg base 6 "pieces_meet" _ := ⟨⟨_, _, _, ok_pieces_meet F_pieces_meet g e_InvalidPoint e_InvalidOperation c_require_points c_pieces_meet_in, m_pieces_meet, F_pieces_meet.kp, F_pieces_meet.bindsN fun _ _ _ _ _ _ us hl => match us, hl with | [_, _, _, _], _ => rfl⟩⟩
  have c__law_meets_right : Cl P w K mg base 7 "_law_meets_right" _ := ⟨⟨_, _, _, ok__law_meets_right F__law_meets_right g c_pieces_meet (CO := 0), m__law_meets_right, F__law_meets_right.kp, F__law_meets_right.bindsN fun _ _ _ _ _ _ us hl => match us, hl with | [_, _, _, _, _], _ => rfl⟩⟩
  have c__law_shared : Cl P w K mg base 1 "_law_shared" _ := ⟨⟨_, _, _, ok__law_shared F__law_shared g, m__law_shared, F__law_shared.kp, F__law_shared.bindsN fun _ _ _ _ _ _ us hl => match us, hl with | [_, _], _ => rfl⟩⟩
  have c__law_point : Cl P w K mg base 2 "_law_point" _ := ⟨⟨_, _, _, ok__law_point F__law_point g c__law_shared, m__law_point, F__law_point.kp, F__law_point.bindsN fun _ _ _ _ _ _ us hl => match us, hl with | [_, _, _], _ => rfl⟩⟩
  have c__law_spot : Cl P w K mg base 3 "_law_spot" _ := ⟨⟨_, _, _, ok__law_spot F__law_spot g c__law_point, m__law_spot, F__law_spot.kp, F__law_spot.bindsN fun _ _ _ _ _ _ us hl => match us, hl with | [_, _, _, _], _ => rfl⟩⟩
  have c__law_cross_right : Cl P w K mg base 8 "_law_cross_right" _ := ⟨⟨_, _, _, ok__law_cross_right F__law_cross_right g c__law_meets_right c__law_spot, m__law_cross_right, F__law_cross_right.kp, F__law_cross_right.bindsN fun _ _ _ _ _ _ us hl => match us, hl with | [_, _, _, _], _ => rfl⟩⟩
  have c__law_line_right : Cl P w K mg base 8 "_law_line_right" _ := ⟨⟨_, _, _, ok__law_line_right F__law_line_right g c__law_meets_right c__law_spot, m__law_line_right, F__law_line_right.kp, F__law_line_right.bindsN fun _ _ _ _ _ _ us hl => match us, hl with | [_, _, _, _, _], _ => rfl⟩⟩
  have c__law_directions : Cl P w K mg base 2 "_law_directions" _ := ⟨⟨_, _, _, ok__law_directions F__law_directions g c__law_draw, m__law_directions, F__law_directions.kp, F__law_directions.bindsN fun _ _ _ _ _ _ us hl => match us, hl with | [_, _], _ => rfl⟩⟩
  have c__law_shuffled : Cl P w K mg base 2 "_law_shuffled" _ := ⟨⟨_, _, _, ok__law_shuffled F__law_shuffled g c__law_draw, m__law_shuffled, F__law_shuffled.kp, F__law_shuffled.bindsN fun _ _ _ _ _ _ us hl => match us, hl with | [_, _], _ => rfl⟩⟩
  have c_half_of : Cl P w K mg base 1 "half_of" _ := ⟨⟨_, _, _, ok_half_of F_half_of g, m_half_of, F_half_of.kp, F_half_of.bindsN fun _ _ _ _ _ _ us hl => match us, hl with | [_], _ => rfl⟩⟩
  have c_is_ahead_round : Cl P w K mg base 2 "is_ahead_round" _ := ⟨⟨_, _, _, ok_is_ahead_round F_is_ahead_round g c_step_from c_half_of, m_is_ahead_round, F_is_ahead_round.kp, F_is_ahead_round.bindsN fun _ _ _ _ _ _ us hl => match us, hl with | [_, _, _], _ => rfl⟩⟩
  have c_is_nearer : Cl P w K mg base 2 "is_nearer" _ := ⟨⟨_, _, _, ok_is_nearer F_is_nearer g c_step_from, m_is_nearer, F_is_nearer.kp, F_is_nearer.bindsN fun _ _ _ _ _ _ us hl => match us, hl with | [_, _, _], _ => rfl⟩⟩
  have c_is_first_round : Cl P w K mg base 3 "is_first_round" _ := ⟨⟨_, _, _, ok_is_first_round F_is_first_round g c_is_ahead_round c_is_nearer, m_is_first_round, F_is_first_round.kp, F_is_first_round.bindsN fun _ _ _ _ _ _ us hl => match us, hl with | [_, _, _], _ => rfl⟩⟩
  have c_round_list : Cl P w K mg base 4 "round_list" _ := ⟨⟨_, _, _, ok_round_list F_round_list g c_is_first_round, m_round_list, F_round_list.kp, F_round_list.bindsN fun _ _ _ _ _ _ us hl => match us, hl with | [_, _], _ => rfl⟩⟩
  have c_sorted_round : ClX P w K mg base 6 "sorted_round" _ := ⟨⟨_, _, _, ok_sorted_round F_sorted_round g e_InvalidPoint e_InvalidOperation c_require_point c_require_points c_round_list, m_sorted_round, F_sorted_round.kp, F_sorted_round.bindsN fun _ _ _ _ _ _ us hl => match us, hl with | [_, _], _ => rfl⟩⟩
  have c__law_refusal : Cl P w K mg base 7 "_law_refusal" _ := ⟨⟨_, _, _, ok__law_refusal F__law_refusal e_InvalidPoint e_InvalidOperation n_InvalidPoint_InvalidOperation c_sorted_round, m__law_refusal, F__law_refusal.kp, F__law_refusal.bindsN fun _ _ _ _ _ _ us hl => match us, hl with | [_, _], _ => rfl⟩⟩
  have c__law_round_right : Cl P w K mg base 8 "_law_round_right" _ := ⟨⟨_, _, _, ok__law_round_right F__law_round_right g c__law_directions c__law_shuffled c__law_point c__law_draw c__law_refusal c_sorted_round, m__law_round_right, F__law_round_right.kp, F__law_round_right.bindsN fun _ _ _ _ _ _ us hl => match us, hl with | [_, _], _ => rfl⟩⟩
  have c__law_span : Cl P w K mg base 2 "_law_span" _ := ⟨⟨_, _, _, ok__law_span F__law_span g c__law_draw (CP := 0) (CO := 0), m__law_span, F__law_span.kp, F__law_span.bindsN fun _ _ _ _ _ _ us hl => match us, hl with | [_, _], _ => rfl⟩⟩
  exact ok_law F_law g c__law_bag c__law_one_of c__law_frame c__law_cross_right c__law_line_right c__law_round_right c__law_draw c__law_span c__law_refusal
end Wb
open PySem PySem.W PySem.Calls PyProof.Rows
theorem PySem.Challenge.cw_wherebase_k03_whole_pieces_and_rounds_holds : PySem.Challenge.rw_wherebase_k03_whole_pieces_and_rounds.Holds := by
  w_on; o_law
  refine HandSHeadRun.head_imp (r := OpenLaw.row PySem.Challenge.rw_wherebase_k03_whole_pieces_and_rounds) (q := view (OpenLaw.row PySem.Challenge.rw_wherebase_k03_whole_pieces_and_rounds).prog [0, 47]) (H := Wb.hk) (ob := Wb.ob) (M := 4000) (loose := Wb.loose) (d := HandSHeadRun.topDef (OpenLaw.row PySem.Challenge.rw_wherebase_k03_whole_pieces_and_rounds).prog 47) (kwd := []) Wb.ob_eq
    Wb.run (by kernel_rfl) (by kernel_rfl) (by kernel_rfl) (by rfl) (by first | assumption | decide +kernel) (by decide +kernel) ⟨rfl, rfl, rfl, rfl, rfl, by decide +kernel⟩ ?hw ?hc
  case hw => w_witness2
  case hc =>
    refine L2.walk_ofE (l := PySem.Challenge.rw_wherebase_k03_whole_pieces_and_rounds) (n := 63) (k := 9) (x := "_law_script") (CX := L2.CX0) rfl (by decide) (by kernel_rfl) ⟨rfl, by decide, by decide⟩ ?F (fun _ _ _ _ z => z)
    intro w mg fa h Y G hmg0
    obtain ⟨K, KX, c⟩ := Y
    have hmg : mg ("law" : PySem.Str) = some (.ref fa) := by
      have e : (HandSHeadRun.topDef (OpenLaw.row PySem.Challenge.rw_wherebase_k03_whole_pieces_and_rounds).prog 47).name = ("law" : PySem.Str) := by kernel_rfl
      rw [← e]
      exact hmg0
    obtain ⟨fd, hb, hF⟩ := Wb.facts (P := (PySem.Challenge.rw_wherebase_k03_whole_pieces_and_rounds).prog) (w := w) KX G hmg c
    exact ⟨K, fd, Wb.sp_law K, KX, hb, fun H a ns hl _ hS => ⟨.ref a, rfl, a, ns, rfl, hS, fun _ => rfl⟩, hF⟩

