import PyProof.Rows.All
import Wide.All
import OpenK.AllK
import Wide.FinOn
import Lean
import HandS.ForMost
import HandS.Defaults
import HandS.Head0
import HandS.Head1
import HandS.Head2
import HandS.Head3
import HandS.HeadEnd
import HandS.HeadHook1
import HandS.HeadHook2
import HandS.HeadHook3
import HandS.HeadHook4
import HandS.ExcField
import HandS.Words
import KE.KExcSuper
import KE.KTryMore
import KE.KExcInit
import PySem.Challenge.RW_wherebase_k01_whole_fractions_and_names
import KE.KStateDown
import HandS.Exc
import HandS.ExcOwn
import HandS.TryOnly
import HandS.WordsExc
import HandS.Star
import HandS.IsInst
import HandS.Gcd
import HandS.WideBits
import HandS.Wide
import HandS.Style
import HandS.TupLe
import HandS.TupAny
import HandS.Conv
import HandS.Flow
import HandS.Evl
import HandS.ExcInit
import HandS.Dict
import PyProof.ReprRoads
import HandS.Walk
import HandS.Text
import PyProof.ListStr
import PyProof.Rows.FactsT3
set_option Elab.async false
set_option linter.all false
set_option maxRecDepth 100000
set_option maxHeartbeats 4000000
namespace Wb
open PySem PySem.Spec PyProof.Rows L2
def top (i : Nat) : Stmt := PySem.Challenge.pw_wherebase_k01_whole_fractions_and_names.main.body.getD i (.Pass ⟨0, 0, 0, 0⟩)
def mkD (x : Str) (i : Nat) (dv : List He.Dv) : He.DefD := ⟨(x, none), x, x, defArgs (top i), defBody (top i), defScope (top i), dv, []⟩
def fn : List He.DefD := [mkD "is_integer" 5 [], mkD "shared_of" 7 [], mkD "is_fraction" 8 [], mkD "require_fraction" 10 [], mkD "reduced" 11 [], mkD "sum_of" 12 [], mkD "plus" 19 [], mkD "_law_is_whole" 32 [], mkD "_law_shared" 29 [], mkD "_law_is_just" 33 [], mkD "_law_bag" 26 [], mkD "require_integer" 9 [], mkD "lowest_of" 18 [], mkD "_law_draw" 27 [], mkD "_law_one_of" 28 [], mkD "_law_integer" 30 [], mkD "_law_bottom" 31 [], mkD "floor_of" 16 [], mkD "whole_below" 23 [], mkD "ceiling_of" 17 [], mkD "whole_above" 24 [], mkD "is_below" 15 [], mkD "is_less" 22 [], mkD "difference_of" 13 [], mkD "minus" 20 [], mkD "product_of" 14 [], mkD "times" 21 [], mkD "_law_are_right" 36 [], mkD "_law_odd_fraction" 34 [], mkD "_law_asked" 35 [], mkD "_law_are_refused" 37 [], mkD "is_name" 6 [], mkD "_law_are_names" 38 [], mkD "law" 39 []]
def fa0 : List He.Fa := [.glo "is_integer", .glo "shared_of", .glo "is_fraction", .glo "require_fraction", .glo "reduced", .glo "sum_of", .glo "plus", .glo "_law_is_whole", .glo "_law_shared", .glo "_law_is_just", .glo "_law_bag", .glo "require_integer", .glo "lowest_of", .glo "_law_draw", .glo "_law_one_of", .glo "_law_integer", .glo "_law_bottom", .glo "floor_of", .glo "whole_below", .glo "ceiling_of", .glo "whole_above", .glo "is_below", .glo "is_less", .glo "difference_of", .glo "minus"]
def fa1 : List He.Fa := [.glo "product_of", .glo "times", .glo "_law_are_right", .glo "_law_odd_fraction", .glo "_law_asked", .glo "_law_are_refused", .glo "is_name", .glo "_law_are_names", .glo "law", .glo "InvalidNumber", .free "len", .free "abs", .free "int", .free "bool", .free "tuple", .free "list", .free "isinstance", .free "all", .free "max", .free "min", .free "sum", .free "range", .free "repr", .free "str", .free "super"]
def fa : List He.Fa := fa0 ++ fa1
def lo0 : List PySem.Str := ["InvalidNumber", "is_integer", "is_name", "shared_of", "is_fraction", "require_integer", "require_fraction", "reduced", "sum_of", "difference_of", "product_of", "is_below", "floor_of", "ceiling_of", "lowest_of", "plus", "minus", "times", "is_less", "whole_below", "whole_above", "_law_bag", "_law_draw", "_law_one_of", "_law_shared"]
def lo1 : List PySem.Str := ["_law_integer", "_law_bottom", "_law_is_whole", "_law_is_just", "_law_odd_fraction", "_law_asked", "_law_are_right", "_law_are_refused", "_law_are_names", "MAX_NAME"]
def loose : List PySem.Str := lo0 ++ lo1
abbrev ieT : List Value := [.type "IndexError", .type "LookupError", .type "Exception", .type "BaseException", .type "object"]
def iniA (K : PySem.W.Frag) (C : Addr) : Addr := match PySem.W.findIn K (.ref C) "__init__" with
  | some (some (.ref a)) => a
  | _ => 0
structure InC (K : PySem.W.Frag) (C fI : Addr) : Prop where
  init : PySem.W.findIn K (.ref C) "__init__" = some (some (.ref fI))
  ini : PySem.W.excInitIn K C ieT "IndexError.__new__" = true
  over : PySem.W.excOver K C ieT = true
  hd : PySem.W.hasDictIn K C = true
  sa : PySem.W.findIn K (.ref C) "__setattr__" = some (some (.builtin "object.__setattr__"))
  subB : PySem.W.subIn K (.ref C) (.type "IndexError") = some true
  subE : PySem.W.subIn K (.ref C) (.type "BaseException") = some true
  ty : PySem.W.typeIn K (.ref C) = some (.type "type")
  tyI : PySem.W.typeIn K (.ref fI) = some (.type "function")
  kp : PySem.W.keepIn K (.ref C) = true
  sup : PySem.W.ks_superIn K C C "__init__" = some (some (.builtin "IndexError.__init__"))
  mro : PySem.W.mroIn K C (.ref C) = some true
  op : PySem.W.nsIn K cStatics "thirdparty.any" = some none
  tk : PySem.W.takerIn K C "value" = some none
  xf : xfB K C = true
  no : PySem.W.findIn K (.ref C) "value" = some none
  m : PySem.W.exmOne K (.ref C) (.ref C) = some true
def inB (K : PySem.W.Frag) (C fI : Addr) : Bool := He.eqO (PySem.W.findIn K (.ref C) "__init__") (some (some (.ref fI))) && (PySem.W.excInitIn K C ieT "IndexError.__new__" && (PySem.W.excOver K C ieT && (PySem.W.hasDictIn K C && (He.eqO (PySem.W.findIn K (.ref C) "__setattr__") (some (some (.builtin "object.__setattr__"))) && (decide (PySem.W.subIn K (.ref C) (.type "IndexError") = some true) && (decide (PySem.W.subIn K (.ref C) (.type "BaseException") = some true) && (decide (PySem.W.typeIn K (.ref C) = some (.type "type")) && (decide (PySem.W.typeIn K (.ref fI) = some (.type "function")) && (PySem.W.keepIn K (.ref C) && (He.eqO (PySem.W.ks_superIn K C C "__init__") (some (some (.builtin "IndexError.__init__"))) && (decide (PySem.W.mroIn K C (.ref C) = some true) && (He.eqO (PySem.W.nsIn K cStatics "thirdparty.any") (some none) && (He.eqO (PySem.W.takerIn K C "value") (some none) && (xfB K C && (He.eqO (PySem.W.findIn K (.ref C) "value") (some none) && (decide (PySem.W.exmOne K (.ref C) (.ref C) = some true)))))))))))))))))
theorem inB_ok {K : PySem.W.Frag} {C fI : Addr} (h : inB K C fI = true) : InC K C fI := by
  unfold inB at h
  obtain ⟨h0, h⟩ := Bool.and_eq_true_iff.mp h
  obtain ⟨h1, h⟩ := Bool.and_eq_true_iff.mp h
  obtain ⟨h2, h⟩ := Bool.and_eq_true_iff.mp h
  obtain ⟨h3, h⟩ := Bool.and_eq_true_iff.mp h
  obtain ⟨h4, h⟩ := Bool.and_eq_true_iff.mp h
  obtain ⟨h5, h⟩ := Bool.and_eq_true_iff.mp h
  obtain ⟨h6, h⟩ := Bool.and_eq_true_iff.mp h
  obtain ⟨h7, h⟩ := Bool.and_eq_true_iff.mp h
  obtain ⟨h8, h⟩ := Bool.and_eq_true_iff.mp h
  obtain ⟨h9, h⟩ := Bool.and_eq_true_iff.mp h
  obtain ⟨h10, h⟩ := Bool.and_eq_true_iff.mp h
  obtain ⟨h11, h⟩ := Bool.and_eq_true_iff.mp h
  obtain ⟨h12, h⟩ := Bool.and_eq_true_iff.mp h
  obtain ⟨h13, h⟩ := Bool.and_eq_true_iff.mp h
  obtain ⟨h14, h⟩ := Bool.and_eq_true_iff.mp h
  obtain ⟨h15, h⟩ := Bool.and_eq_true_iff.mp h
  exact ⟨He.eqO_ok h0, id h1, id h2, id h3, He.eqO_ok h4, of_decide_eq_true h5, of_decide_eq_true h6, of_decide_eq_true h7, of_decide_eq_true h8, id h9, He.eqO_ok h10, of_decide_eq_true h11, He.eqO_ok h12, He.eqO_ok h13, id h14, He.eqO_ok h15, of_decide_eq_true h⟩
def fnB (K : PySem.W.Frag) (C fI : Addr) : Bool := match K.lookup fI with
  | some ⟨_, _, .func fd, _⟩ => (match fd.closure, fd.code, fd.defaults, fd.kwdefaults with
    | [(_, cc)], .ref cda, .none, .none => PySem.W.codeIn K (.ref cda) "InvalidNumber.__init__" && ((match K.lookup cda with
      | some ⟨_, _, .fields vs, _⟩ => (match (vs[2]? : Option Value) with
        | some (.str file _) => ((PySem.Challenge.pw_wherebase_k01_whole_fractions_and_names.main.file : Str) == file)
        | _ => false)
      | _ => false) && (match K.lookup cc with
      | some ⟨_, _, .cell (some (.ref C')), _⟩ => C' == C
      | _ => false))
    | _, _, _, _ => false)
  | _ => false
abbrev stN : Stmt := inClass (top 2) 0
abbrev IniW : Type := Option (Str × Str × Arguments × FuncBody × Scope × Addr × List Str × Addr)
def iniW (K : PySem.W.Frag) (fI : Addr) : IniW := match K.lookup fI with
  | some ⟨_, _, .func fd, _⟩ => some (fd.name, fd.qualname, fd.params, fd.body, fd.scope, fd.globals, fd.closure.map (·.1), fd.builtins)
  | _ => none
def iniV : IniW := some ("__init__", "InvalidNumber.__init__", defArgs stN, .stmts (defBody stN), defScope stN, mainGlobals, ["__class__"], builtinsNs)
theorem ini_fn {K : PySem.W.Frag} {C fI : Addr} (e : iniW K fI = iniV) (c : fnB K C fI = true) : ∃ (oc : Value) (od : Option Addr) (osl : Array (Option Value)) (doc pm : Value) (an : Option Addr) (cda : Addr) (ct : Value) (cc : Addr),
    K.lookup fI = some ⟨oc, od, .func (PySem.W.fnX "__init__" "InvalidNumber.__init__" (L2.defArgs stN) (L2.defBody stN) (L2.defScope stN) [("__class__", cc)] .none .none doc pm an (.ref cda) ct), osl⟩ ∧ PySem.W.codeIn K (.ref cda) "InvalidNumber.__init__" = true ∧
    (∃ ccl cdd vs ccs file tf, K.lookup cda = some ⟨ccl, cdd, .fields vs, ccs⟩ ∧ vs[2]? = some (.str file tf) ∧ ((PySem.Challenge.pw_wherebase_k01_whole_fractions_and_names.main.file : Str) == file) = true) ∧ ∃ cl cld csl, K.lookup cc = some ⟨cl, cld, .cell (some (.ref C)), csl⟩ := by
  unfold iniW at e
  unfold fnB at c
  cases q : K.lookup fI with
  | none => rw [q] at c; cases c
  | some ob =>
    obtain ⟨oc, od, dt, osl⟩ := ob
    rw [q] at c e
    cases dt with
    | func fd =>
      obtain ⟨n1, n2, n3, n4, n5, n6, n7, n8, n9, n10, n11, n12, n13, n14, n15⟩ := fd
      have e2 : (some (n1, n2, n3, n4, n5, n6, n7.map (·.1), n15) : IniW) = (some ("__init__", "InvalidNumber.__init__", defArgs stN, .stmts (defBody stN), defScope stN, mainGlobals, ["__class__"], builtinsNs) : IniW) := e
      simp only [Option.some.injEq, Prod.mk.injEq] at e2
      obtain ⟨h1, h2, h3, h4, h5, h6, h7, h8⟩ := e2
      dsimp only at c
      split at c
      · rename_i cn cc cda
        have h7' : cn = "__class__" := by
          have := congrArg (fun l : List Str => l.headD "") h7
          exact this
        subst h1 h2 h3 h4 h5 h6 h7' h8
        obtain ⟨k1, k2⟩ := Bool.and_eq_true_iff.mp c
        obtain ⟨k2, k3⟩ := Bool.and_eq_true_iff.mp k2
        refine ⟨oc, od, osl, n10, n11, n12, cda, n14, cc, rfl, k1, ?_, ?_⟩
        · split at k2
          · rename_i q2
            split at k2
            · rename_i q3
              exact ⟨_, _, _, _, _, _, q2, q3, k2⟩
            · cases k2
          · cases k2
        · split at k3
          · rename_i q2
            have := beq_iff_eq.mp k3
            subst this
            exact ⟨_, _, _, q2⟩
          · cases k3
      · cases c
    | _ => cases c
def exB (K : PySem.W.Frag) : Bool := He.eqO (PySem.W.nsIn K mainGlobals "gcd") (some (some (.builtin "math.gcd"))) && ((match PySem.W.nsIn K mainGlobals "MAX_NAME" with
  | some (some (.int n _)) => decide (n = 20)
  | _ => false) && (inB K (He.ga K "InvalidNumber") (iniA K (He.ga K "InvalidNumber")) && fnB K (He.ga K "InvalidNumber") (iniA K (He.ga K "InvalidNumber"))))
abbrev R : PySem.W.OpenRow := PySem.W.OpenLaw.row PySem.Challenge.rw_wherebase_k01_whole_fractions_and_names
abbrev AlY : Type := He.AlD × Bool × IniW
structure SaysY (K : PySem.W.Frag) : Prop where
  d : He.SaysD fa fn K
  more : exB K = true
  ini : iniW K (iniA K (He.ga K "InvalidNumber")) = iniV
def obsK (K : PySem.W.Frag) : AlY := (He.obsD fa fn K, exB K, iniW K (iniA K (He.ga K "InvalidNumber")))
def obsY (g : Addr → Option Obj) : AlY := obsK (He.frG g (He.asD g 5 ++ [cStatics]))
def valY : AlY := (He.valD fn, true, iniV)
theorem saysY_of {K : PySem.W.Frag} (e : obsK K = valY) : SaysY K :=
  ⟨congrArg (fun z : AlY => z.1) e, congrArg (fun z : AlY => z.2.1) e, congrArg (fun z : AlY => z.2.2) e⟩
abbrev hk : PySem.W.Hook where
  α := AlY
  obs := fun s => obsY s.heap.get?
  val := fun _ => valY
  says := fun _ h => ∃ K : PySem.W.Frag, K.In h ∧ SaysY K
  of := fun _ _ e => ⟨_, He.frG_in, saysY_of e⟩
  keeps := fun _ _ _ ⟨K, hK, c⟩ k => ⟨K, PySem.W.Frag.In.keeps hK k, c⟩
def ob (s : PySem.W.SharedT) : AlY := obsY (HandSHeadRun.getT s)
theorem ob_eq (s : PySem.W.SharedT) : ob s = hk.obs s.abs := by
  have e : HandSHeadRun.getT s = s.abs.heap.get? := funext (HandSHeadRun.getT_eq s)
  unfold ob
  rw [e]
theorem run (w : World) : HandSHeadRun.RunEqI R (PySem.W.view R.prog [0, 39]) hk ob 4000 loose w := by
  unfold HandSHeadRun.RunEqI
  kernel_rfl
end Wb

namespace Wb
open PySem PySem.Spec PyProof.Rows L2
open Evl (Ex Ex.refl Ex.trans Ex.new)

/-! ### heaps and data -/
theorem ex_upd {H : Hp} {p : Addr} {o : HO} (h : H p = none) : Ex H (upd H p o) := Evl.Ex.new h
mutual
theorem dpMono {K : PySem.W.Frag} {H H' : Hp} (e : Ex H H') : ∀ {d : PyData} {v : V}, Dp K H v d → Dp K H' v d
  | .none, _, h => by cases h; exact .non
  | .bool _, _, h => by cases h; exact .bl _
  | .int _, _, h => by cases h; exact .int _
  | .str _, _, h => by cases h; exact .str _
  | .list ds, _, h => by
    cases h with
    | lst hs ha => exact .lst (Evl.ex_l e hs) (dpMonoA e ha)
  | .tuple ds, _, h => by
    cases h with
    | tup hs ha => exact .tup (Evl.ex_t e hs) (dpMonoA e ha)
  | .dict _, _, h => by cases h
theorem dpMonoA {K : PySem.W.Frag} {H H' : Hp} (e : Ex H H') : ∀ {ds : List PyData} {vs : List V}, DpAll K H vs ds → DpAll K H' vs ds
  | [], _, h => by cases h; exact .nil
  | d :: ds, _, h => by
    cases h with
    | cons h1 h2 => exact .cons (dpMono e h1) (dpMonoA e h2)
end
section
variable {K : PySem.W.Frag} {H H' : Hp} {v : V} {vs : List V} {d : PyData} {ds : List PyData}
theorem dpInt {i : Int} (h : Dp K H v (.int i)) : v = .int i := by cases h; rfl
theorem dpBl {b : Bool} (h : Dp K H v (.bool b)) : v = .bl b := by cases h; rfl
theorem dpStr {s : Str} (h : Dp K H v (.str s)) : v = .str s := by cases h; rfl
theorem dpNon (h : Dp K H v .none) : v = .non := by cases h; rfl
theorem dpTup (h : Dp K H v (.tuple ds)) : ∃ a vs, v = .ref a ∧ SqT K H a vs ∧ DpAll K H vs ds := by
  cases h with
  | tup hs ha => exact ⟨_, _, rfl, hs, ha⟩
theorem dpLst (h : Dp K H v (.list ds)) : ∃ a vs, v = .ref a ∧ SqL K H a vs ∧ DpAll K H vs ds := by
  cases h with
  | lst hs ha => exact ⟨_, _, rfl, hs, ha⟩
theorem dpLen : ∀ {ds : List PyData} {vs : List V}, DpAll K H vs ds → vs.length = ds.length
  | [], _, h => by cases h; rfl
  | d :: ds, _, h => by
    cases h with
    | cons h1 h2 => rw [List.length_cons, List.length_cons, dpLen h2]
theorem dpGet : ∀ {ds : List PyData} {vs : List V} {i : Nat} {d : PyData}, DpAll K H vs ds → ds[i]? = some d → ∃ v, vs[i]? = some v ∧ Dp K H v d
  | [], _, _, _, _, e => by simp at e
  | d :: ds, _, 0, _, h, e => by
    cases h with
    | cons h1 h2 =>
      have e2 : d = _ := Option.some.inj e
      subst e2
      exact ⟨_, rfl, h1⟩
  | d :: ds, _, i + 1, _, h, e => by
    cases h with
    | cons h1 h2 =>
      obtain ⟨v, q1, q2⟩ := dpGet (i := i) h2 (by simpa using e)
      exact ⟨v, by simpa using q1, q2⟩
theorem dpAt {i : Int} {d : PyData} (h : DpAll K H vs ds) (e : atI ds i = some d) : ∃ v, atI vs i = some v ∧ Dp K H v d := by
  unfold atI at e ⊢
  rw [dpLen h]
  cases q : ixN ds.length i with
  | none =>
    rw [q] at e
    cases e
  | some j =>
    rw [q] at e
    exact dpGet h e
def tyD : PyData → String
  | .none => "NoneType"
  | .bool _ => "bool"
  | .int _ => "int"
  | .str _ => "str"
  | .list _ => "list"
  | .tuple _ => "tuple"
  | .dict _ => "dict"
theorem dpTy (h : Dp K H v d) : TyX K H v (.type (tyD d)) := by
  cases h with
  | non => exact .base .non
  | bl b => exact .base (.bl b)
  | int i => exact .base (.int i)
  | str x => exact .base (.str x)
  | lst hs ha =>
    rcases hs with (h1 | ⟨o, h1⟩) | ⟨o, its, n, lk, hc, _⟩
    · exact .base (.lst h1)
    · exact .base (.frz h1)
    · exact .kList lk hc
  | tup hs ha =>
    rcases hs with (h1 | ⟨o, h1⟩) | ⟨o, its, n, lk, hc, _⟩
    · exact .base (.tup h1)
    · exact .fTuple h1
    · exact .kTuple lk hc
end
/-! ### sizes of ints -/
def Sz (n : Nat) (i : Int) : Prop := i.natAbs < 2 ^ n
theorem sz_mul {a b : Nat} {i j : Int} (ha : Sz a i) (hb : Sz b j) : Sz (a + b) (i * j) := by
  unfold Sz at *
  rw [Int.natAbs_mul, Nat.pow_add]
  exact Nat.mul_lt_mul'' ha hb
theorem sz_mono {a b : Nat} {i : Int} (h : Sz a i) (hab : a ≤ b) : Sz b i := Nat.lt_of_lt_of_le h (Nat.pow_le_pow_right (by decide) hab)
theorem sz_add {a b : Nat} {i j : Int} (ha : Sz a i) (hb : Sz b j) : Sz (a + b + 1) (i + j) := by
  have h1 := sz_mono ha (Nat.le_add_right a b)
  have h2 := sz_mono hb (Nat.le_add_left b a)
  unfold Sz at *
  rw [Nat.pow_succ]
  have := Int.natAbs_add_le i j
  omega
theorem sz_neg {a : Nat} {i : Int} (ha : Sz a i) : Sz a (-i) := by
  unfold Sz at *
  rw [Int.natAbs_neg]
  exact ha
theorem sz_sub {a b : Nat} {i j : Int} (ha : Sz a i) (hb : Sz b j) : Sz (a + b + 1) (i - j) := by
  rw [Int.sub_eq_add_neg]
  exact sz_add ha (sz_neg hb)
theorem sz_le {a : Nat} {i j : Int} (ha : Sz a j) (h : i.natAbs ≤ j.natAbs) : Sz a i := Nat.lt_of_le_of_lt h ha
theorem sz_div {a : Nat} {i j : Int} (ha : Sz a i) : Sz a (i / j) := sz_le ha (Int.natAbs_ediv_le_natAbs i j)
theorem fdiv_abs (i j : Int) : (i.fdiv j).natAbs ≤ i.natAbs := by
  rcases Int.lt_trichotomy j 0 with h | h | h
  · have e : i.fdiv j = (-i) / (-j) := by
      rw [← Int.fdiv_eq_ediv_of_nonneg (-i) (by omega), Int.neg_fdiv_neg]
    rw [e, ← Int.natAbs_neg i]
    exact Int.natAbs_ediv_le_natAbs _ _
  · subst h
    rw [Int.fdiv_zero]
    omega
  · rw [Int.fdiv_eq_ediv_of_nonneg i (by omega)]
    exact Int.natAbs_ediv_le_natAbs _ _
theorem sz_fdiv {a : Nat} {i j : Int} (ha : Sz a i) : Sz a (i.fdiv j) := sz_le ha (fdiv_abs i j)
theorem mulx {a b : Nat} {i j : Int} (ha : Sz a i) (hb : Sz b j) (h : a + b ≤ 134217728) : CMulX i j := mulx_ok ha hb h

theorem sz_lit {i : Int} (h : i.natAbs < 18446744073709551616) : Sz 64 i := h
theorem ex_at {H H' : Hp} {a : Addr} {o : HO} (e : Ex H H') (h : H a = some o) : H' a = some o := e a o h
def gd (a b : Int) : Int := ((Nat.gcd a.natAbs b.natAbs : Nat) : Int)
/-! ### own operators -/
section
variable {X : Cx}
def CPowX (i j : Int) : Prop := 0 ≤ j ∧ (Builtin.Int.intBits i : Int) * j ≤ 2 ^ 27
theorem op_powX : OpR X (binaryOp .Pow) (rI CPowX fun i j => .int (i ^ j.toNat)) := opI fun _ _ _ _ _ _ _ hc q => pow_int hc.1 hc.2 q
def CDivX (_ j : Int) : Prop := j ≠ 0 ∧ j.natAbs.log2 < 9000
theorem op_fdivX : OpR X (binaryOp .FloorDiv) (rI CDivX fun i j => .int (i.fdiv j)) := opI fun i j _ _ _ _ _ hc q =>
  floordiv_int hc.1 q (.inl (PyProof.noPylong_of_log2 hc.2))
/-- a def that may be called by its name -/
structure Cl (P : Program) (w : World) (K : PySem.W.Frag) (mg : Str → Option Value) (base : Heap) (k : Nat) (x : Str) (sp : Sp) : Prop where
  ex : ∃ (f : Addr) (fd : FuncData) (ps : List Str), FnOk P w K mg base CX0 k f fd ps sp ∧ mg x = some (.ref f) ∧ PySem.W.keepIn K (.ref f) = true ∧ Binds K fd ps []
def tCl (sp : Sp) (t : TA) : TE := fun σ H Q => t σ H fun vs H1 => sp vs H1 Q E0
theorem pc {k j : Nat} {x : Str} {sp : Sp} {p pos : Pos} {e : Expr} {es : List Expr} {t : TA} (c : Cl X.prog X.w X.K X.mg X.base k x sp) (hr : Room j X.A) (hk : k ≤ j) (hg : Gl X x) (ha : PA X (e :: es) t)
    (hdb : (x == ("__debug__" : Str)) = false := by decide) (he : starEach (e :: es) X.env = (false, eval e X.env) :: starEach es X.env := by rfl) (hpl : (backTo pos (starEach es X.env)).any (·.1) = false := by rfl) :
    PE X (.Call (.Name x p) (e :: es) [] pos) (tCl sp t) := by
  obtain ⟨f, fd, ps, F, hm, kp, b⟩ := c.ex
  have h := pe_call (p := p) F (hr.mono hk) hg hm kp b (.nil : Vals [] []) pass0 ha hdb he hpl
  have e1 : tCall sp [] E0 t = tCl sp t := by
    funext σ H Q
    show (t σ H fun vs H1 => sp (vs ++ []) H1 Q E0) = t σ H fun vs H1 => sp vs H1 Q E0
    congr 1
    funext vs H1
    rw [List.append_nil]
  rw [← e1]
  exact h
end
/-- a def with a star parameter -/
structure ClR (P : Program) (w : World) (K : PySem.W.Frag) (mg : Str → Option Value) (base : Heap) (k : Nat) (x : Str) (sp : Sp) : Prop where
  ex : ∃ (f : Addr), FnR P w K mg base CX0 k f sp ∧ mg x = some (.ref f) ∧ PySem.W.keepIn K (.ref f) = true
section
variable {X : Cx}
theorem pcR {k j : Nat} {x : Str} {sp : Sp} {p pos : Pos} {e : Expr} {es : List Expr} {t : TA} (c : ClR X.prog X.w X.K X.mg X.base k x sp) (hr : Room j X.A) (hk : k ≤ j) (hg : Gl X x) (ha : PA X (e :: es) t)
    (hdb : (x == ("__debug__" : Str)) = false := by decide) (he : starEach (e :: es) X.env = (false, eval e X.env) :: starEach es X.env := by rfl) (hpl : (backTo pos (starEach es X.env)).any (·.1) = false := by rfl) :
    PE X (.Call (.Name x p) (e :: es) [] pos) (tCl sp t) := by
  obtain ⟨f, F, hm, kp⟩ := c.ex
  refine ⟨fun pins s σ H Q I h => ?_⟩
  refine wpAny_Call_Name_kw (ld_glob I hg hm ?_ hdb)
  refine PySem.W.callWith_K (h₀ := X.base) I.ok.mod.kin kp (thn (ha.run pos pins s σ H _ I h) fun us s1 ⟨vs, H1, I1, r, q⟩ => ⟨I1.kIn, ?_⟩) he hpl
  exact wpAny_call (run_fnR F (hr.mono hk) pass0 I1 r q)
end
theorem FnR.weak {P : Program} {w : World} {K : PySem.W.Frag} {mg : Str → Option Value} {base : Heap} {CX : CXT} {k : Nat} {f : Addr} {sp sp' : Sp} (F : FnR P w K mg base CX k f sp) (h : ∀ vs H Q E, sp' vs H Q E → sp vs H Q E) : FnR P w K mg base CX k f sp' :=
  fun A outer s H us vs Q E hr e0 r hs => F A outer s H us vs Q E hr e0 r (h vs H Q E hs)
/-! ### built-ins by names of their own -/
def qLen (K : PySem.W.Frag) : List V → Hp → VK → Prop := fun xs H Q => ∃ p ys, xs = [.ref p] ∧ (SqL K H p ys ∨ SqT K H p ys) ∧ Q (.int (ys.length : Int)) H
def qAbs : List V → Hp → VK → Prop := fun xs H Q => ∃ i, xs = [.int i] ∧ Q (.int (if i < 0 then -i else i)) H
def qMax2 : List V → Hp → VK → Prop := fun xs H Q => ∃ i j, xs = [.int i, .int j] ∧ Q (.int (if j > i then j else i)) H
def qMin2 : List V → Hp → VK → Prop := fun xs H Q => ∃ i j, xs = [.int i, .int j] ∧ Q (.int (if j < i then j else i)) H
def qInt1 : List V → Hp → VK → Prop := fun xs H Q => (∃ i, xs = [.int i] ∧ Q (.int i) H) ∨ ∃ k, xs = [.bl k] ∧ Q (.int (if k then 1 else 0)) H
def qListOf (K : PySem.W.Frag) : List V → Hp → VK → Prop := fun xs H Q => ∃ p ys, xs = [.ref p] ∧ (SqL K H p ys ∨ SqT K H p ys) ∧ ∀ l, H l = none → Q (.ref l) (upd H l (.lst ys))
def qTupleOf (K : PySem.W.Frag) : List V → Hp → VK → Prop := fun xs H Q => ∃ p ys, xs = [.ref p] ∧ ((SqL K H p ys ∧ ∀ l, H l = none → Q (.ref l) (upd H l (.tup ys))) ∨ (SqT K H p ys ∧ Q (.ref p) H))
def qIsN : R2 := fun x y H Q => y = .non ∧ Q (.bl (decide (x = .non))) H
def qNotN : R2 := fun x y H Q => y = .non ∧ Q (.bl (!decide (x = .non))) H
section
variable {X : Cx}
theorem call_qlen : CallR X (.builtin "len") (qLen X.K) := call_len_seq
theorem call_qabs : CallR X (.builtin "abs") qAbs := call_abs
theorem call_qmax2 (hc : X.calm = true) : CallR X (.builtin "max") qMax2 := call_max2 hc
theorem call_qmin2 (hc : X.calm = true) : CallR X (.builtin "min") qMin2 := call_min2 hc
theorem call_qint1 : CallR X (.type "int") qInt1 := call_int1
theorem call_qlist : CallR X (.type "list") (qListOf X.K) := call_list_of
theorem call_qtuple : CallR X (.type "tuple") (qTupleOf X.K) := call_tuple_of
theorem op_qisN : OpR X (compareOp .Is) qIsN := op_isN
theorem op_qnotN : OpR X (compareOp .IsNot) qNotN := op_notN
end
def MkT (xs : List V) (H : Hp) (Q : VK) : Prop := xs.length ≤ sizeLine ∧ ∀ p, H p = none → Q (.ref p) (upd H p (.tup xs))
def MkL (xs : List V) (H : Hp) (Q : VK) : Prop := xs.length ≤ sizeLine ∧ ∀ p, H p = none → Q (.ref p) (upd H p (.lst xs))
/-! ### readings, step by step -/
section
variable {K : PySem.W.Frag} {σ : L2.St} {H H' : Hp} {Q : VK} {D : Ends} {ta tb te : TE} {t u : TS} {c c' : TT} {v w : V} {i j : Int} {n m : Nat}
theorem i_seq (h : t { D with nx := u D } σ H) : tSeq t u D σ H := h
theorem i_asg {g : TG} (h : te σ H fun x H1 => g x σ H1 D.nx) : tAsg te g D σ H := h
theorem i_name {R : L2.St → Hp → Prop} (h : R (σ.set n (some v)) H) : gName n v σ H R := h
theorem i_nameN {σ' : L2.St} {R : L2.St → Hp → Prop} (e : σ.set n (some v) = σ') (h : R σ' H) : gName n v σ H R := by subst e; exact h
theorem i_ret (h : te σ H D.rt) : tRet te D σ H := h
theorem i_ifs (h : c σ H fun b H1 => if b = true then t D σ H1 else u D σ H1) : tIfS c t u D σ H := h
theorem i_drop (h : te σ H fun _ H1 => D.nx σ H1) : tDrop te D σ H := h
theorem i_next (h : D.nx σ H) : tNext D σ H := h
theorem i_var (h : σ[n]? = some (some v)) (q : Q v H) : tVar n σ H Q := ⟨v, h, q⟩
theorem i_c (q : Q v H) : tC v σ H Q := q
theorem i_op {r : R2} (q : ta σ H fun x H1 => tb σ H1 fun y H2 => r x y H2 Q) : tOp r ta tb σ H Q := q
theorem i_un {r : V → Hp → VK → Prop} (q : ta σ H fun x H1 => r x H1 Q) : tUn r ta σ H Q := q
theorem i_I0 {g : Int → Int → V} (q : Q (g i j) H) : rI0 g (.int i) (.int j) H Q := ⟨i, j, rfl, rfl, q⟩
theorem i_I {C : Int → Int → Prop} {g : Int → Int → V} (hc : C i j) (q : Q (g i j) H) : rI C g (.int i) (.int j) H Q := ⟨i, j, rfl, rfl, hc, q⟩
theorem i_mul {a b : Nat} (ha : Sz a i) (hb : Sz b j) (h : a + b ≤ 134217728) (q : Q (.int (i * j)) H) : rI CMulX (fun i j => .int (i * j)) (.int i) (.int j) H Q := ⟨i, j, rfl, rfl, mulx ha hb h, q⟩
theorem i_modN (h : j ≠ 0) (q : Q (.int (i.fmod j)) H) : rI (fun _ j => j ≠ 0) (fun i j => .int (i.fmod j)) (.int i) (.int j) H Q := ⟨i, j, rfl, rfl, h, q⟩
theorem i_fdX {b : Nat} (h : j ≠ 0) (hb : Sz b j) (h9 : b ≤ 9000) (q : Q (.int (i.fdiv j)) H) : rI CDivX (fun i j => .int (i.fdiv j)) (.int i) (.int j) H Q := by
  refine ⟨i, j, rfl, rfl, ⟨h, ?_⟩, q⟩
  have h2 : j.natAbs < 2 ^ (b + 1) := Nat.lt_of_lt_of_le hb (Nat.pow_le_pow_right (by decide) (Nat.le_succ b))
  have h3 : j.natAbs < 2 ^ 9000 := Nat.lt_of_lt_of_le hb (Nat.pow_le_pow_right (by decide) h9)
  exact PySem.Flt.log2_lt_of (by decide) h3
theorem i_pow (h : CPowX i j) (q : Q (.int (i ^ j.toNat)) H) : rI CPowX (fun i j => .int (i ^ j.toNat)) (.int i) (.int j) H Q := ⟨i, j, rfl, rfl, h, q⟩
theorem i_U {g : Int → V} (q : Q (g i) H) : rU g (.int i) H Q := ⟨i, rfl, q⟩
theorem i_test {R : Bool → Hp → Prop} (q : te σ H fun x H' => ∃ k, x = .bl k ∧ R k H') : tTest te σ H R := q
theorem i_B {R : Bool → Hp → Prop} (q : te σ H fun x H' => ∃ k, x = .bl k ∧ R k H') : tB te σ H R := q
theorem i_k {b : Bool} {R : Bool → Prop} (q : R b) : ∃ k, V.bl b = .bl k ∧ R k := ⟨b, rfl, q⟩
theorem i_and {R : Bool → Hp → Prop} (q : c σ H fun b H1 => if b = true then c' σ H1 R else R false H1) : tAnd c c' σ H R := q
theorem i_or {R : Bool → Hp → Prop} (q : c σ H fun b H1 => if b = true then R true H1 else c' σ H1 R) : tOr c c' σ H R := q
theorem i_not {R : Bool → Hp → Prop} (q : c σ H fun b H1 => R (!b) H1) : tNot c σ H R := q
theorem i_andV (q : ta σ H fun x H1 => ∃ k, x = .bl k ∧ if k = true then tb σ H1 Q else Q (.bl false) H1) : tAndV ta tb σ H Q := q
theorem i_orV (q : ta σ H fun x H1 => ∃ k, x = .bl k ∧ if k = true then Q (.bl true) H1 else tb σ H1 Q) : tOrV ta tb σ H Q := q
theorem i_notV (q : ta σ H fun x H1 => ∃ k, x = .bl k ∧ Q (.bl (!k)) H1) : tNotV ta σ H Q := q
theorem i_if (q : c σ H fun b H1 => if b = true then ta σ H1 Q else tb σ H1 Q) : tIf c ta tb σ H Q := q
theorem i_ite {p : Prop} [Decidable p] {A B : Prop} (h1 : p → A) (h2 : ¬ p → B) : if decide p = true then A else B := by
  by_cases h : p
  · rw [if_pos (decide_eq_true h)]
    exact h1 h
  · rw [if_neg (by rw [decide_eq_false h]; decide)]
    exact h2 h
theorem i_iteN {p : Prop} [Decidable p] {A B : Prop} (h1 : ¬ p → A) (h2 : p → B) : if (!decide p) = true then A else B := by
  by_cases h : p
  · rw [decide_eq_true h]
    exact h2 h
  · rw [decide_eq_false h]
    exact h1 h
theorem i_iteB {b : Bool} {A B : Prop} (h1 : b = true → A) (h2 : b = false → B) : if b = true then A else B := by
  cases b with
  | true => exact h1 rfl
  | false => exact h2 rfl
theorem i_iteBN {b : Bool} {A B : Prop} (h1 : b = false → A) (h2 : b = true → B) : if (!b) = true then A else B := by
  cases b with
  | true => exact h2 rfl
  | false => exact h1 rfl
theorem i_iteT {A B : Prop} (h : A) : if true = true then A else B := h
theorem i_iteF {A B : Prop} (h : B) : if false = true then A else B := h
theorem i_cl {sp : Sp} {ts : TA} (q : ts σ H fun vs H1 => sp vs H1 Q E0) : tCl sp ts σ H Q := q
theorem i_nil {R : List V → Hp → Prop} (q : R [] H) : tNil σ H R := q
theorem i_cons {ts : TA} {R : List V → Hp → Prop} (q : ta σ H fun x H1 => ts σ H1 fun xs H2 => R (x :: xs) H2) : tCons ta ts σ H R := q
theorem i_cb {r : List V → Hp → VK → Prop} {ts : TA} (q : ts σ H fun vs H1 => r vs H1 Q) : tCB r ts σ H Q := q
theorem i_tup {ts : TA} (q : ts σ H fun xs H1 => MkT xs H1 Q) : tTup ts σ H Q := q
theorem i_lst {ts : TA} (q : ts σ H fun xs H1 => MkL xs H1 Q) : tLst ts σ H Q := q
theorem i_mkT {xs : List V} (hl : xs.length ≤ 100000) (q : ∀ p H2, Ex H H2 → H2 p = some (.tup xs) → Q (.ref p) H2) : MkT xs H Q :=
  ⟨Evl.sz_of hl, fun p hp => q p _ (ex_upd hp) upd_same⟩
theorem i_mkL {xs : List V} (hl : xs.length ≤ 100000) (q : ∀ p H2, H p = none → Ex H H2 → H2 p = some (.lst xs) → Q (.ref p) H2) : MkL xs H Q :=
  ⟨Evl.sz_of hl, fun p hp => q p _ hp (ex_upd hp) upd_same⟩
theorem i_ixTI {H0 : Hp} {ds : List PyData} {k : Int} (h : Dp K H0 v (.tuple ds)) (he : Ex H0 H) (e : atI ds k = some (.int i)) (q : Q (.int i) H) : rIxT K v (.int k) H Q := by
  obtain ⟨a, vs, rfl, hs, ha⟩ := dpTup (dpMono he h)
  obtain ⟨u, e1, e2⟩ := dpAt ha e
  cases dpInt e2
  exact ⟨a, vs, k, _, rfl, rfl, hs, e1, q⟩
theorem i_ixT {H0 : Hp} {ds : List PyData} {k : Int} {d : PyData} (h : Dp K H0 v (.tuple ds)) (he : Ex H0 H) (e : atI ds k = some d) (q : ∀ u, Dp K H0 u d → Q u H) : rIxT K v (.int k) H Q := by
  obtain ⟨a, vs, rfl, hs, ha⟩ := dpTup h
  obtain ⟨u, e1, e2⟩ := dpAt ha e
  exact ⟨a, vs, k, _, rfl, rfl, Evl.ex_t he hs, e1, q u e2⟩
theorem i_ixLI {H0 : Hp} {ds : List PyData} {k : Int} (h : Dp K H0 v (.list ds)) (he : Ex H0 H) (e : atI ds k = some (.int i)) (q : Q (.int i) H) : rIxL K v (.int k) H Q := by
  obtain ⟨a, vs, rfl, hs, ha⟩ := dpLst (dpMono he h)
  obtain ⟨u, e1, e2⟩ := dpAt ha e
  cases dpInt e2
  exact ⟨a, vs, k, _, rfl, rfl, hs, e1, q⟩
theorem i_ixL {H0 : Hp} {ds : List PyData} {k : Int} {d : PyData} (h : Dp K H0 v (.list ds)) (he : Ex H0 H) (e : atI ds k = some d) (q : ∀ u, Dp K H0 u d → Q u H) : rIxL K v (.int k) H Q := by
  obtain ⟨a, vs, rfl, hs, ha⟩ := dpLst h
  obtain ⟨u, e1, e2⟩ := dpAt ha e
  exact ⟨a, vs, k, _, rfl, rfl, Evl.ex_l he hs, e1, q u e2⟩
theorem i_isi {d : PyData} {T : String} {b : Bool} (h : Dp K H v d) (e : kitB (tyD d) T = some b) (q : Q (.bl b) H) : rIsi K [v, .ty T] H Q :=
  ⟨v, .ty T, _, _, b, rfl, .ty T, dpTy h, kit_ty e, q⟩
@[reducible] def dIsInt : PyData → Bool
  | .int _ => true
  | .bool _ => true
  | _ => false
@[reducible] def dIsBool : PyData → Bool
  | .bool _ => true
  | _ => false
@[reducible] def dIsTup : PyData → Bool
  | .tuple _ => true
  | _ => false
@[reducible] def dIsStr : PyData → Bool
  | .str _ => true
  | _ => false
@[reducible] def dIsLst : PyData → Bool
  | .list _ => true
  | _ => false
theorem i_isiI {d : PyData} (h : Dp K H v d) (q : Q (.bl (dIsInt d)) H) : rIsi K [v, .ty "int"] H Q := i_isi h (by cases d <;> (dsimp only [tyD, dIsInt]; decide +kernel)) q
theorem i_isiB {d : PyData} (h : Dp K H v d) (q : Q (.bl (dIsBool d)) H) : rIsi K [v, .ty "bool"] H Q := i_isi h (by cases d <;> (dsimp only [tyD, dIsBool]; decide +kernel)) q
theorem i_isiT {d : PyData} (h : Dp K H v d) (q : Q (.bl (dIsTup d)) H) : rIsi K [v, .ty "tuple"] H Q := i_isi h (by cases d <;> (dsimp only [tyD, dIsTup]; decide +kernel)) q
theorem i_isiS {d : PyData} (h : Dp K H v d) (q : Q (.bl (dIsStr d)) H) : rIsi K [v, .ty "str"] H Q := i_isi h (by cases d <;> (dsimp only [tyD, dIsStr]; decide +kernel)) q
theorem i_isiL {d : PyData} (h : Dp K H v d) (q : Q (.bl (dIsLst d)) H) : rIsi K [v, .ty "list"] H Q := i_isi h (by cases d <;> (dsimp only [tyD, dIsLst]; decide +kernel)) q
theorem i_iteTr {b : Bool} {A B : Prop} (h : b = true) (q : A) : if b = true then A else B := by subst h; exact q
theorem i_iteFr {b : Bool} {A B : Prop} (h : b = false) (q : B) : if b = true then A else B := by subst h; exact q
/-- promises by the number of arguments -/
def A1 (P : V → Hp → VK → Prop) : Sp := fun vs H Q _ => ∃ v1, vs = [v1] ∧ P v1 H Q
def A2 (P : V → V → Hp → VK → Prop) : Sp := fun vs H Q _ => ∃ v1 v2, vs = [v1, v2] ∧ P v1 v2 H Q
def A3 (P : V → V → V → Hp → VK → Prop) : Sp := fun vs H Q _ => ∃ v1 v2 v3, vs = [v1, v2, v3] ∧ P v1 v2 v3 H Q
def A4 (P : V → V → V → V → Hp → VK → Prop) : Sp := fun vs H Q _ => ∃ v1 v2 v3 v4, vs = [v1, v2, v3, v4] ∧ P v1 v2 v3 v4 H Q
def A5 (P : V → V → V → V → V → Hp → VK → Prop) : Sp := fun vs H Q _ => ∃ v1 v2 v3 v4 v5, vs = [v1, v2, v3, v4, v5] ∧ P v1 v2 v3 v4 v5 H Q
def A6 (P : V → V → V → V → V → V → Hp → VK → Prop) : Sp := fun vs H Q _ => ∃ v1 v2 v3 v4 v5 v6, vs = [v1, v2, v3, v4, v5, v6] ∧ P v1 v2 v3 v4 v5 v6 H Q
theorem A1.len {P} {vs : List V} {E : XK} (h : A1 P vs H Q E) : vs.length = 1 := by obtain ⟨_, rfl, _⟩ := h; rfl
theorem A2.len {P} {vs : List V} {E : XK} (h : A2 P vs H Q E) : vs.length = 2 := by obtain ⟨_, _, rfl, _⟩ := h; rfl
theorem A3.len {P} {vs : List V} {E : XK} (h : A3 P vs H Q E) : vs.length = 3 := by obtain ⟨_, _, _, rfl, _⟩ := h; rfl
theorem A4.len {P} {vs : List V} {E : XK} (h : A4 P vs H Q E) : vs.length = 4 := by obtain ⟨_, _, _, _, rfl, _⟩ := h; rfl
theorem A5.len {P} {vs : List V} {E : XK} (h : A5 P vs H Q E) : vs.length = 5 := by obtain ⟨_, _, _, _, _, rfl, _⟩ := h; rfl
theorem A6.len {P} {vs : List V} {E : XK} (h : A6 P vs H Q E) : vs.length = 6 := by obtain ⟨_, _, _, _, _, _, rfl, _⟩ := h; rfl
/-- what a pure def gives back -/
def Ret (K : PySem.W.Frag) (d : PyData) (H : Hp) (Q : VK) : Prop := ∀ v H2, Ex H H2 → Dp K H2 v d → Q v H2
theorem Ret.int (r : Ret K (.int i) H Q) (e : Ex H H') : Q (.int i) H' := r _ _ e (.int i)
theorem Ret.bl {b : Bool} (r : Ret K (.bool b) H Q) (e : Ex H H') : Q (.bl b) H' := r _ _ e (.bl b)
theorem Ret.non (r : Ret K .none H Q) (e : Ex H H') : Q .non H' := r _ _ e .non
theorem ret_int (q : ∀ H2, Ex H H2 → Q (.int i) H2) : Ret K (.int i) H Q := fun v H2 e h => by cases h; exact q H2 e
theorem ret_bl {b : Bool} (q : ∀ H2, Ex H H2 → Q (.bl b) H2) : Ret K (.bool b) H Q := fun v H2 e h => by cases h; exact q H2 e
theorem ret_non (q : ∀ H2, Ex H H2 → Q .non H2) : Ret K .none H Q := fun v H2 e h => by cases h; exact q H2 e
theorem Ret.use {d : PyData} (r : Ret K d H Q) (e : Ex H H') (h : Dp K H' v d) : Q v H' := r v H' e h
theorem Ret.int' {k : Int} (r : Ret K (.int k) H Q) (e : Ex H H') (h : k = i) : Q (.int i) H' := by
  subst h
  exact r.int e
theorem Ret.bl' {b k : Bool} (r : Ret K (.bool k) H Q) (e : Ex H H') (h : k = b) : Q (.bl b) H' := by
  subst h
  exact r.bl e
theorem i_eq (hs : scal v w = true) (q : Q (.bl (decide (v = w))) H) : rEq v w H Q := ⟨hs, q⟩
theorem i_ne (hs : scal v w = true) (q : Q (.bl (!decide (v = w))) H) : rNe v w H Q := ⟨hs, q⟩
theorem i_eqI (q : Q (.bl (decide (i = j))) H) : rEq (.int i) (.int j) H Q := by
  refine ⟨rfl, ?_⟩
  have e : decide (V.int i = V.int j) = decide (i = j) := by
    by_cases h : i = j
    · subst h; simp
    · rw [decide_eq_false h, decide_eq_false (fun z => h (V.int.inj z))]
  rw [e]
  exact q
theorem i_neI (q : Q (.bl (!decide (i = j))) H) : rNe (.int i) (.int j) H Q := by
  refine ⟨rfl, ?_⟩
  have e : decide (V.int i = V.int j) = decide (i = j) := by
    by_cases h : i = j
    · subst h; simp
    · rw [decide_eq_false h, decide_eq_false (fun z => h (V.int.inj z))]
  rw [e]
  exact q
theorem i_gcd (q : Q (.int (gd i j)) H) : rGcd [.int i, .int j] H Q := ⟨i, j, rfl, q⟩
theorem i_qabs (q : Q (.int (if i < 0 then -i else i)) H) : qAbs [.int i] H Q := ⟨i, rfl, q⟩
theorem i_qmax2 (q : Q (.int (if j > i then j else i)) H) : qMax2 [.int i, .int j] H Q := ⟨i, j, rfl, q⟩
theorem i_qmin2 (q : Q (.int (if j < i then j else i)) H) : qMin2 [.int i, .int j] H Q := ⟨i, j, rfl, q⟩
theorem i_qint (q : Q (.int i) H) : qInt1 [.int i] H Q := .inl ⟨i, rfl, q⟩
theorem i_qintB {b : Bool} (q : Q (.int (if b then 1 else 0)) H) : qInt1 [.bl b] H Q := .inr ⟨b, rfl, q⟩
theorem i_qlenT {ds : List PyData} (h : Dp K H v (.tuple ds)) (q : Q (.int (ds.length : Int)) H) : qLen K [v] H Q := by
  obtain ⟨a, vs, rfl, hs, ha⟩ := dpTup h
  refine ⟨a, vs, rfl, .inr hs, ?_⟩
  rw [dpLen ha]
  exact q
theorem i_qlenL {ds : List PyData} (h : Dp K H v (.list ds)) (q : Q (.int (ds.length : Int)) H) : qLen K [v] H Q := by
  obtain ⟨a, vs, rfl, hs, ha⟩ := dpLst h
  refine ⟨a, vs, rfl, .inl hs, ?_⟩
  rw [dpLen ha]
  exact q
theorem i_qtupleL {ds : List PyData} (h : Dp K H v (.list ds)) (q : ∀ p H2, Ex H H2 → (∃ vs, H2 p = some (.tup vs) ∧ DpAll K H2 vs ds) → Q (.ref p) H2) : qTupleOf K [v] H Q := by
  obtain ⟨a, vs, rfl, hs, ha⟩ := dpLst h
  exact ⟨a, vs, rfl, .inl ⟨hs, fun l hl => q l _ (ex_upd hl) ⟨vs, upd_same, dpMonoA (ex_upd hl) ha⟩⟩⟩
theorem i_qlistT {ds : List PyData} (h : Dp K H v (.tuple ds)) (q : ∀ p H2, H p = none → Ex H H2 → (∃ vs, H2 p = some (.lst vs) ∧ DpAll K H2 vs ds) → Q (.ref p) H2) : qListOf K [v] H Q := by
  obtain ⟨a, vs, rfl, hs, ha⟩ := dpTup h
  exact ⟨a, vs, rfl, .inr hs, fun l hl => q l _ hl (ex_upd hl) ⟨vs, upd_same, dpMonoA (ex_upd hl) ha⟩⟩
theorem i_qisN (q : Q (.bl (decide (v = .non))) H) : qIsN v .non H Q := ⟨rfl, q⟩
theorem i_qnotN (q : Q (.bl (!decide (v = .non))) H) : qNotN v .non H Q := ⟨rfl, q⟩
def Par2 (n m : Nat) (σ : L2.St) (R : L2.St → Hp → Prop) (vs : List V) (H : Hp) : Prop := ∃ v w, vs = [v, w] ∧ R ((σ.set n (some v)).set m (some w)) H
def Par3 (n m k : Nat) (σ : L2.St) (R : L2.St → Hp → Prop) (vs : List V) (H : Hp) : Prop := ∃ u v w, vs = [u, v, w] ∧ R (((σ.set n (some u)).set m (some v)).set k (some w)) H
theorem i_par {ts : TA} (q : ts σ H fun vs H1 => Par2 n m σ D.nx vs H1) : tPar n m ts D σ H := q
theorem i_par2 {σ' : L2.St} {R : L2.St → Hp → Prop} (e : (σ.set n (some v)).set m (some w) = σ') (q : R σ' H) : Par2 n m σ R [v, w] H := by subst e; exact ⟨v, w, rfl, q⟩
theorem i_par3 {k : Nat} {ts : TA} (q : ts σ H fun vs H1 => Par3 n m k σ D.nx vs H1) : tPar3 n m k ts D σ H := q
theorem i_par33 {σ' : L2.St} {k : Nat} {u : V} {R : L2.St → Hp → Prop} (e : ((σ.set n (some u)).set m (some v)).set k (some w) = σ') (q : R σ' H) : Par3 n m k σ R [u, v, w] H := by subst e; exact ⟨u, v, w, rfl, q⟩
theorem i_gtup {H0 : Hp} {k : Nat} {ts : TGs} {R : L2.St → Hp → Prop} {ds : List PyData} (h : Dp K H0 v (.tuple ds)) (he : Ex H0 H) (hl : ds.length = k) (q : ∀ vs, DpAll K H0 vs ds → ts vs σ H R) : gTup K k ts v σ H R := by
  obtain ⟨a, vs, rfl, hs, ha⟩ := dpTup h
  exact ⟨a, vs, rfl, Evl.ex_t he hs, (dpLen ha).trans hl, q vs ha⟩
theorem i_glst {H0 : Hp} {k : Nat} {ts : TGs} {R : L2.St → Hp → Prop} {ds : List PyData} (h : Dp K H0 v (.list ds)) (he : Ex H0 H) (hl : ds.length = k) (q : ∀ vs, DpAll K H0 vs ds → ts vs σ H R) : gLst K k ts v σ H R := by
  obtain ⟨a, vs, rfl, hs, ha⟩ := dpLst h
  exact ⟨a, vs, rfl, Evl.ex_l he hs, (dpLen ha).trans hl, q vs ha⟩
theorem i_gcons {g : TG} {ts : TGs} {vs : List V} {R : L2.St → Hp → Prop} (q : g v σ H fun σ' H' => ts vs σ' H' R) : gCons g ts (v :: vs) σ H R := ⟨v, vs, rfl, q⟩
theorem i_gnil {R : L2.St → Hp → Prop} (q : R σ H) : gNil [] σ H R := ⟨rfl, q⟩
theorem i_gconsA {H0 : Hp} {g : TG} {ts : TGs} {vs : List V} {d : PyData} {ds : List PyData} {R : L2.St → Hp → Prop} (h : DpAll K H0 vs (d :: ds)) (q : ∀ v r, Dp K H0 v d → DpAll K H0 r ds → g v σ H fun σ' H' => ts r σ' H' R) : gCons g ts vs σ H R := by
  cases h with
  | cons h1 h2 => exact ⟨_, _, rfl, q _ _ h1 h2⟩
theorem i_gconsI {H0 : Hp} {g : TG} {ts : TGs} {vs : List V} {ds : List PyData} {R : L2.St → Hp → Prop} (h : DpAll K H0 vs (.int i :: ds)) (q : ∀ r, DpAll K H0 r ds → g (.int i) σ H fun σ' H' => ts r σ' H' R) : gCons g ts vs σ H R := by
  cases h with
  | cons h1 h2 => cases dpInt h1; exact ⟨_, _, rfl, q _ h2⟩
theorem i_gnilA {H0 : Hp} {vs : List V} {R : L2.St → Hp → Prop} (h : DpAll K H0 vs []) (q : R σ H) : gNil vs σ H R := by
  cases h
  exact ⟨rfl, q⟩
theorem i_eqD {d e : PyData} (h1 : Dp K H v d) (h2 : Dp K H w e) (s1 : SeqAt.shaped d = true) (s2 : SeqAt.shaped e = true) (q : Q (.bl (PyData.eqv d e)) H) : rEqD K v w H Q := ⟨d, e, h1, h2, s1, s2, q⟩
theorem i_neD {d e : PyData} (h1 : Dp K H v d) (h2 : Dp K H w e) (s1 : SeqAt.shaped d = true) (s2 : SeqAt.shaped e = true) (q : Q (.bl (!PyData.eqv d e)) H) : rNeD K v w H Q := ⟨d, e, h1, h2, s1, s2, q⟩
theorem dpInts : ∀ {ns : List Int} {vs : List V}, DpAll K H vs (ns.map PyData.int) → vs = ns.map V.int
  | [], _, h => by cases h; rfl
  | n :: ns, _, h => by
    cases h with
    | cons h1 h2 => rw [dpInt h1, dpInts h2]; rfl
theorem i_ltT {ns ms : List Int} {ds es : List PyData} (h1 : Dp K H v (.tuple ds)) (h2 : Dp K H w (.tuple es)) (e1 : ds = ns.map PyData.int) (e2 : es = ms.map PyData.int) (q : Q (.bl (HT.lexLt ns ms)) H) : rLtT K v w H Q := by
  subst e1 e2
  obtain ⟨a, vs, rfl, hs, ha⟩ := dpTup h1
  obtain ⟨b, ws, rfl, ks, ka⟩ := dpTup h2
  rw [dpInts ha] at hs
  rw [dpInts ka] at ks
  exact ⟨a, b, ns, ms, rfl, rfl, hs, ks, q⟩
/-- a loop over a tuple whose turns only add to the heap and set the loop's name -/
theorem i_forT {tb : TS} {ds : List PyData} {j : Nat} (h : Dp K H v (.tuple ds)) (hσ : ∀ u : V, (σ.set j (some u)).set j (some u) = σ.set j (some u))
    (hs : ∀ (u : V) (d : PyData) (H2 : Hp) (y : Option V) (N : L2.St → Hp → Prop), Ex H H2 → d ∈ ds → Dp K H2 u d → (∀ H3, Ex H2 H3 → N (σ.set j (some u)) H3) → tb { D with nx := N, ct := N, bk := D.nx } (σ.set j (some u)) H2)
    (hd : ∀ (y : Option V) (H2 : Hp), Ex H H2 → D.nx (σ.set j y) H2) (h0 : σ.set j none = σ) : tFor (iTup K (tC v)) (gName j) tb D σ H := by
  obtain ⟨a, xs, rfl, hq, ha⟩ := dpTup h
  refine ⟨a, rfl, ⟨xs, hq⟩, for_tup (xs := xs) (fun i σ' H' => (∃ y, σ' = σ.set j y) ∧ Ex H H') ⟨⟨none, h0.symm⟩, Ex.refl H⟩ (fun i σ' H' _ p => Evl.ex_t p.2 hq) (fun i x σ' H' hi p => ?_) (fun σ' H' p => ?_)⟩
  · obtain ⟨⟨y, rfl⟩, e⟩ := p
    have hm : ∃ d, ds[i]? = some d ∧ Dp K H x d := by
      have hj : i < ds.length := by rw [← dpLen ha]; exact (List.getElem?_eq_some_iff.mp hi).1
      obtain ⟨u, h1, h2⟩ := dpGet ha (List.getElem?_eq_getElem hj)
      rw [hi] at h1
      cases h1
      exact ⟨_, List.getElem?_eq_getElem hj, h2⟩
    obtain ⟨d, hd1, hd2⟩ := hm
    show tb _ ((σ.set j y).set j (some x)) H'
    rw [List.set_set]
    exact hs x d H' y _ e (List.mem_of_getElem? hd1) (dpMono e hd2) fun H3 e3 => ⟨⟨some x, rfl⟩, e.trans e3⟩
  · obtain ⟨⟨y, rfl⟩, e⟩ := p
    exact hd y H' e
theorem i_forU {tb : TS} {tl : TE} {j : Nat} (q : tl σ H fun x H1 => tFor (iTup K (tC x)) (gName j) tb D σ H1) : tFor (iTup K tl) (gName j) tb D σ H := q
theorem i_forV {tb : TS} {tl : TE} {j : Nat} (q : tl σ H fun x H1 => tFor (iList K (tC x)) (gName j) tb D σ H1) : tFor (iList K tl) (gName j) tb D σ H := q
theorem i_isB {a b : Bool} (q : Q (.bl (decide (a = b))) H) : rIsB (.bl a) (.bl b) H Q := ⟨a, b, rfl, rfl, q⟩
theorem i_notB {a b : Bool} (q : Q (.bl (!decide (a = b))) H) : rNotB (.bl a) (.bl b) H Q := ⟨a, b, rfl, rfl, q⟩
theorem i_chain {r r' : R2} {tc : TE} (q : ta σ H fun x H1 => tb σ H1 fun y H2 => r x y H2 fun z H3 => ∃ k, z = .bl k ∧ (if k = true then tc σ H3 fun w' H4 => r' y w' H4 Q else Q (.bl false) H3)) : tChain r r' ta tb tc σ H Q := q
theorem i_tw (W : Nat → L2.St → Hp → Prop) (m0 : Nat) (h0 : W m0 σ H) {tb : TS}
    (hs : ∀ m σ' H', W m σ' H' → c σ' H' fun b H1 => if b = true then ∃ N : L2.St → Hp → Prop, (∀ σ2 H2, N σ2 H2 → ∃ m', m' < m ∧ W m' σ2 H2) ∧ tb { D with nx := N, ct := N, bk := D.nx } σ' H1 else D.nx σ' H1) : tWhile c tb D σ H := ⟨W, ⟨m0, h0⟩, hs⟩
theorem ret_any {d : PyData} (q : ∀ v H2, Ex H H2 → Dp K H2 v d → Q v H2) : Ret K d H Q := q
end

/-! ### comprehensions over pure data -/
mutual
/-- no list within -/
def noL : PyData → Bool
  | .list _ => false
  | .dict _ => false
  | .tuple ds => noLs ds
  | _ => true
def noLs : List PyData → Bool
  | [] => true
  | d :: ds => noL d && noLs ds
end
section
variable {K : PySem.W.Frag} {H : Hp} {D : Addr} {xs ys : List V}
theorem sqt_upd {a : Addr} {zs : List V} (hD : H D = some (.lst xs)) (h : SqT K H a zs) : SqT K (upd H D (.lst ys)) a zs := by
  rcases h with (h | ⟨o, h⟩) | h
  · exact .inl (.inl (by rw [upd_ne (ne_of h hD (by intro z; cases z))]; exact h))
  · exact .inl (.inr ⟨o, by rw [upd_ne (ne_of h hD (by intro z; cases z))]; exact h⟩)
  · exact .inr h
mutual
theorem dpUpd (hD : H D = some (.lst xs)) : ∀ {d : PyData} {v : V}, noL d = true → Dp K H v d → Dp K (upd H D (.lst ys)) v d
  | .none, _, _, h => by cases h; exact .non
  | .bool _, _, _, h => by cases h; exact .bl _
  | .int _, _, _, h => by cases h; exact .int _
  | .str _, _, _, h => by cases h; exact .str _
  | .list ds, _, n, h => by cases n
  | .tuple ds, _, n, h => by
    cases h with
    | tup hs ha => exact .tup (sqt_upd hD hs) (dpUpdA hD n ha)
  | .dict _, _, _, h => by cases h
theorem dpUpdA (hD : H D = some (.lst xs)) : ∀ {ds : List PyData} {vs : List V}, noLs ds = true → DpAll K H vs ds → DpAll K (upd H D (.lst ys)) vs ds
  | [], _, _, h => by cases h; exact .nil
  | d :: ds, _, n, h => by
    cases h with
    | cons h1 h2 =>
      have n2 := Bool.and_eq_true_iff.mp (show (noL d && noLs ds) = true from n)
      exact .cons (dpUpd hD n2.1 h1) (dpUpdA hD n2.2 h2)
end
theorem noLs_all : ∀ {ds : List PyData}, (∀ d ∈ ds, noL d = true) → noLs ds = true
  | [], _ => rfl
  | d :: ds, h => by
    show (noL d && noLs ds) = true
    rw [h d List.mem_cons_self, noLs_all fun e he => h e (List.mem_cons_of_mem _ he)]
    rfl
theorem dpAllApp : ∀ {ds es : List PyData} {vs ws : List V}, DpAll K H vs ds → DpAll K H ws es → DpAll K H (vs ++ ws) (ds ++ es)
  | [], _, _, _, h, k => by cases h; exact k
  | d :: ds, _, _, _, h, k => by
    cases h with
    | cons h1 h2 => exact .cons h1 (dpAllApp h2 k)
end
section
variable {K : PySem.W.Frag} {σ : L2.St} {H : Hp} {Q : VK} {j : Nat} {te tl : TE} {tt : TT} {vs : List Nat} {v : V}
theorem i_lcU (q : tl σ H fun x H1 => tLc (iTup K (tC x)) (gName j) tt te vs σ H1 Q) : tLc (iTup K tl) (gName j) tt te vs σ H Q := q
theorem i_lcM (q : tl σ H fun x H1 => tLc (iList K (tC x)) (gName j) tt te vs σ H1 Q) : tLc (iList K tl) (gName j) tt te vs σ H Q := q
/-- one turn of a pure comprehension keeps what it made so far -/
def Lcv (K : PySem.W.Frag) (H1 : Hp) (D : Addr) (ds : List PyData) (c : PyData → Bool) (f : PyData → PyData) (i : Nat) (H' : Hp) : Prop :=
  H1 D = none ∧ Ex H1 H' ∧ ∃ acc, H' D = some (.lst acc) ∧ DpAll K H' acc (((ds.take i).filter c).map f)
theorem lcv_turn {H1 H' : Hp} {D : Addr} {ds : List PyData} {c : PyData → Bool} {f : PyData → PyData} {i : Nat} {d : PyData} {σ2 : L2.St} (p : Lcv K H1 D ds c f i H') (hd : ds[i]? = some d) (hl : ds.length ≤ 100000) (hn : ∀ d ∈ ds, noL (f d) = true)
    (ht : ∀ (H2 : Hp) (R : Bool → Hp → Prop), Ex H1 H2 → (∀ H3, Ex H2 H3 → R (c d) H3) → tt σ2 H2 R)
    (he : c d = true → ∀ (H2 : Hp) (R : VK), Ex H1 H2 → (∀ w H3, Ex H2 H3 → Dp K H3 w (f d) → R w H3) → te σ2 H2 R) :
    tt σ2 H' fun b H3 => if b = true then te σ2 H3 fun y H4 => ∃ acc, H4 D = some (.lst acc) ∧ acc.length < sizeLine ∧ Lcv K H1 D ds c f (i + 1) (upd H4 D (.lst (acc ++ [y]))) else Lcv K H1 D ds c f (i + 1) H3 := by
  obtain ⟨p1, p2, acc, p3, p4⟩ := p
  have ht1 : ds.take (i + 1) = ds.take i ++ [d] := by rw [List.take_add_one, hd]; rfl
  refine ht H' _ p2 fun H3 e3 => ?_
  cases hc : c d with
  | true =>
    refine he hc H3 _ (p2.trans e3) fun y H4 e4 hy => ?_
    have hD4 : H4 D = some (.lst acc) := e4 _ _ (e3 _ _ p3)
    have hlen : acc.length ≤ ds.length := by
      rw [dpLen p4, List.length_map]
      exact Nat.le_trans (List.length_filter_le _ _) (by rw [List.length_take]; omega)
    refine ⟨acc, hD4, Evl.sz_lt (by
      have hi : i < ds.length := (List.getElem?_eq_some_iff.mp hd).1
      have : acc.length ≤ i := by
        rw [dpLen p4, List.length_map]
        exact Nat.le_trans (List.length_filter_le _ _) (by rw [List.length_take]; omega)
      omega), p1, Evl.Ex.mut ((p2.trans e3).trans e4) p1, acc ++ [y], upd_same, ?_⟩
    rw [ht1, List.filter_append, List.map_append, List.filter_cons, if_pos hc]
    refine dpUpdA hD4 (noLs_all fun z hz => ?_) (dpAllApp (dpMonoA (e3.trans e4) p4) (.cons hy .nil))
    rcases List.mem_append.mp hz with h | h
    · obtain ⟨z0, h1, rfl⟩ := List.mem_map.mp h
      exact hn z0 (List.mem_of_mem_take (List.mem_filter.mp h1).1)
    · rcases List.mem_singleton.mp h with rfl
      exact hn d (List.mem_of_getElem? hd)
  | false =>
    refine ⟨p1, p2.trans e3, acc, e3 _ _ p3, ?_⟩
    rw [ht1, List.filter_append, List.filter_cons, if_neg (by rw [hc]; decide), List.filter_nil, List.append_nil]
    exact dpMonoA e3 p4
theorem dpIdx {H : Hp} {xs : List V} {ds : List PyData} {i : Nat} {x : V} (h : DpAll K H xs ds) (e : xs[i]? = some x) : ∃ d, ds[i]? = some d ∧ Dp K H x d := by
  have hi : i < xs.length := (List.getElem?_eq_some_iff.mp e).1
  have hj : i < ds.length := by rw [← dpLen h]; exact hi
  obtain ⟨u, h1, h2⟩ := dpGet h (List.getElem?_eq_getElem hj)
  rw [e] at h1
  cases h1
  exact ⟨_, List.getElem?_eq_getElem hj, h2⟩
theorem i_lcT {ds : List PyData} (c : PyData → Bool) (f : PyData → PyData) (h : Dp K H v (.tuple ds)) (hl : ds.length ≤ 100000) (hn : ∀ d ∈ ds, noL (f d) = true) (hw : ∀ x, wipe ((wipe σ vs).set j (some x)) vs = wipe σ vs)
    (ht : ∀ (u : V) (d : PyData) (H2 : Hp) (R : Bool → Hp → Prop), Ex H H2 → d ∈ ds → Dp K H2 u d → (∀ H3, Ex H2 H3 → R (c d) H3) → tt ((wipe σ vs).set j (some u)) H2 R)
    (he : ∀ (u : V) (d : PyData) (H2 : Hp) (R : VK), Ex H H2 → d ∈ ds → c d = true → Dp K H2 u d → (∀ w H3, Ex H2 H3 → Dp K H3 w (f d) → R w H3) → te ((wipe σ vs).set j (some u)) H2 R)
    (q : ∀ p H2, H p = none → Ex H H2 → (∃ acc, H2 p = some (.lst acc) ∧ DpAll K H2 acc ((ds.filter c).map f)) → Q (.ref p) H2) : tLc (iTup K (tC v)) (gName j) tt te vs σ H Q := by
  obtain ⟨a, xs, rfl, hs, ha⟩ := dpTup h
  refine ⟨a, rfl, ⟨xs, hs⟩, fun D hD => lc_tup (xs := xs) (Lcv K H D ds c f) ⟨hD, Ex.new hD, [], upd_same, .nil⟩ (fun i H' _ p => Evl.ex_t p.2.1 hs) (fun i x H' hi p => ⟨hw x, ?_⟩) (fun H' p => ?_)⟩
  · obtain ⟨d, hd, hx⟩ := dpIdx ha hi
    have hm := List.mem_of_getElem? hd
    exact lcv_turn p hd hl hn (fun H2 R e2 r => ht x d H2 R e2 hm (dpMono e2 hx) r) (fun hc H2 R e2 r => he x d H2 R e2 hm hc (dpMono e2 hx) r)
  · obtain ⟨p1, p2, acc, p3, p4⟩ := p
    rw [dpLen ha, List.take_length] at p4
    exact q D H' p1 p2 ⟨acc, p3, p4⟩
theorem i_lcL {ds : List PyData} (c : PyData → Bool) (f : PyData → PyData) (h : Dp K H v (.list ds)) (hl : ds.length ≤ 100000) (hn : ∀ d ∈ ds, noL (f d) = true) (hw : ∀ x, wipe ((wipe σ vs).set j (some x)) vs = wipe σ vs)
    (ht : ∀ (u : V) (d : PyData) (H2 : Hp) (R : Bool → Hp → Prop), Ex H H2 → d ∈ ds → Dp K H2 u d → (∀ H3, Ex H2 H3 → R (c d) H3) → tt ((wipe σ vs).set j (some u)) H2 R)
    (he : ∀ (u : V) (d : PyData) (H2 : Hp) (R : VK), Ex H H2 → d ∈ ds → c d = true → Dp K H2 u d → (∀ w H3, Ex H2 H3 → Dp K H3 w (f d) → R w H3) → te ((wipe σ vs).set j (some u)) H2 R)
    (q : ∀ p H2, H p = none → Ex H H2 → (∃ acc, H2 p = some (.lst acc) ∧ DpAll K H2 acc ((ds.filter c).map f)) → Q (.ref p) H2) : tLc (iList K (tC v)) (gName j) tt te vs σ H Q := by
  obtain ⟨a, xs, rfl, hs, ha⟩ := dpLst h
  refine ⟨a, rfl, ⟨xs, hs⟩, fun D hD => lc_list (xs := xs) (Lcv K H D ds c f) ⟨hD, Ex.new hD, [], upd_same, .nil⟩ (fun i H' _ p => Evl.ex_l p.2.1 hs) (fun i x H' hi p => ⟨hw x, ?_⟩) (fun H' p => ?_)⟩
  · obtain ⟨d, hd, hx⟩ := dpIdx ha hi
    have hm := List.mem_of_getElem? hd
    exact lcv_turn p hd hl hn (fun H2 R e2 r => ht x d H2 R e2 hm (dpMono e2 hx) r) (fun hc H2 R e2 r => he x d H2 R e2 hm hc (dpMono e2 hx) r)
  · obtain ⟨p1, p2, acc, p3, p4⟩ := p
    rw [dpLen ha, List.take_length] at p4
    exact q D H' p1 p2 ⟨acc, p3, p4⟩
theorem i_yes {R : Bool → Hp → Prop} (q : R true H) : tYes σ H R := q
theorem i_all {ds : List PyData} {bs : List Bool} (h : Dp K H v (.list ds)) (e : ds = bs.map PyData.bool) (q : Q (.bl (bs.all id)) H) : rAll K [v] H Q := by
  obtain ⟨a, xs, rfl, hs, ha⟩ := dpLst h
  subst e
  have ex : ∀ {bs : List Bool} {xs : List V}, DpAll K H xs (bs.map PyData.bool) → xs = bs.map V.bl := by
    intro bs
    induction bs with
    | nil => intro xs h; cases h; rfl
    | cons b bs ih =>
      intro xs h
      cases h with
      | cons h1 h2 => rw [dpBl h1, ih h2]; rfl
  rw [ex ha] at hs
  exact ⟨a, bs, rfl, hs, q⟩
theorem wipe1 (x : V) : wipe ((wipe σ [j]).set j (some x)) [j] = wipe σ [j] := by
  show ((σ.set j none).set j (some x)).set j none = σ.set j none
  rw [List.set_set, List.set_set]
end
end Wb

namespace Wb
open PySem PySem.Spec PyProof.Rows L2
open Evl (Ex Ex.refl Ex.trans Ex.new)
/-! ### the bag of draws: a list of three ints that is changed by each draw; all else is told of the heap without it -/
def hid (b : Addr) (H : Hp) : Hp := fun a => if a = b then none else H a
theorem hid_of {b a : Addr} {H : Hp} {o : HO} (h : H a = some o) (hn : a ≠ b) : hid b H a = some o := by
  unfold hid
  rw [if_neg hn]
  exact h
theorem of_hid {b a : Addr} {H : Hp} {o : HO} (h : hid b H a = some o) : a ≠ b ∧ H a = some o := by
  unfold hid at h
  by_cases e : a = b
  · rw [if_pos e] at h
    cases h
  · rw [if_neg e] at h
    exact ⟨e, h⟩
theorem ex_hid {b : Addr} {H : Hp} : Ex (hid b H) H := fun _ _ h => (of_hid h).2
theorem hid_ex {b : Addr} {H H' : Hp} (e : Ex H H') : Ex (hid b H) (hid b H') := fun a o h => hid_of (e a o (of_hid h).2) (of_hid h).1
theorem hid_upd {b : Addr} {H : Hp} {o : HO} : Ex (hid b H) (hid b (upd H b o)) := fun a u h => hid_of (by rw [upd_ne (of_hid h).1]; exact (of_hid h).2) (of_hid h).1
/-- what did not know the bag stays known -/
theorem ex_unhid {b : Addr} {H0 H H' : Hp} (h0 : H0 b = none) (e : Ex H0 H) (e2 : Ex (hid b H) (hid b H')) : Ex H0 H' := fun a o h => (of_hid (e2 a o (hid_of (e a o h) (ne_of_none h h0)))).2
theorem ex_tohid {b : Addr} {H0 H : Hp} (h0 : H0 b = none) (e : Ex H0 H) : Ex H0 (hid b H) := fun a o h => hid_of (e a o h) (ne_of_none h h0)
structure Bag (b : Addr) (H : Hp) : Prop where
  ex : ∃ x y z : Int, H b = some (.lst [.int x, .int y, .int z]) ∧ 0 ≤ x ∧ Sz 2100 x
theorem Bag.mono {b : Addr} {H H' : Hp} (h : Bag b H) (e : Ex H H') : Bag b H' := by
  obtain ⟨x, y, z, h1, h2, h3⟩ := h.ex
  exact ⟨x, y, z, e _ _ h1, h2, h3⟩
theorem Bag.ne {b p : Addr} {H : Hp} (h : Bag b H) (hp : H p = none) : p ≠ b := by
  obtain ⟨x, y, z, h1, _⟩ := h.ex
  exact (ne_of_none h1 hp).symm
theorem hid_tup {b p : Addr} {H : Hp} {xs : List V} (h : Bag b H) (hp : H p = some (.tup xs)) : hid b H p = some (.tup xs) := by
  obtain ⟨x, y, z, h1, _⟩ := h.ex
  exact hid_of hp (ne_of hp h1 (by intro z; cases z))
theorem hid_new {b p : Addr} {H H' : Hp} {o : HO} (h : Bag b H) (hn : H p = none) (hp : H' p = some o) : hid b H' p = some o := hid_of hp (h.ne hn)
section
variable {K : PySem.W.Frag} {σ : L2.St} {H H' : Hp} {Q : VK} {D : Ends} {ta tb te : TE} {v : V} {i j : Int} {b : Addr}
theorem i_mkTB {xs : List V} (hl : xs.length ≤ 100000) (hb : Bag b H) (q : ∀ p H2, Ex H H2 → Bag b H2 → hid b H2 p = some (.tup xs) → Q (.ref p) H2) : MkT xs H Q :=
  i_mkT hl fun p H2 e hp => q p H2 e (hb.mono e) (hid_tup (hb.mono e) hp)
theorem i_mkLB {xs : List V} (hl : xs.length ≤ 100000) (hb : Bag b H) (q : ∀ p H2, H p = none → Ex H H2 → Bag b H2 → hid b H2 p = some (.lst xs) → Q (.ref p) H2) : MkL xs H Q :=
  i_mkL hl fun p H2 hn e hp => q p H2 hn e (hb.mono e) (hid_new hb hn hp)
theorem i_mulC (h : CMul i j) (q : Q (.int (i * j)) H) : rI CMul (fun i j => .int (i * j)) (.int i) (.int j) H Q := ⟨i, j, rfl, rfl, h, q⟩
theorem cmul_l (h : i.natAbs < 18446744073709551616) : CMul i j := .inl ⟨by omega, by omega⟩
theorem cmul_r (h : j.natAbs < 18446744073709551616) : CMul i j := .inr ⟨by omega, by omega⟩
theorem i_ixLr {xs : List V} {k : Int} (h : H b = some (.lst xs)) (e : atI xs k = some v) (q : Q v H) : rIxL K (.ref b) (.int k) H Q := ⟨b, xs, k, v, rfl, rfl, .inl (.inl h), e, q⟩
theorem i_sub {to ti : TE} {ts : TSet} {R : L2.St → Hp → Prop} (q : to σ H fun o H1 => ti σ H1 fun i H2 => ts o i v H2 fun H3 => R σ H3) : gSub to ti ts v σ H R := q
theorem i_setL {xs : List V} {k : Int} {n : Nat} {R : Hp → Prop} (h : H b = some (.lst xs)) (e : ixN xs.length k = some n) (q : ∀ H2, H2 b = some (.lst (xs.set n v)) → Ex (hid b H) (hid b H2) → R H2) : rSetL (.ref b) (.int k) v H R :=
  ⟨b, xs, k, n, rfl, rfl, h, e, q _ upd_same hid_upd⟩
theorem fmod_lt (a : Int) {b : Int} (hb : b ≠ 0) : (a.fmod b).natAbs < b.natAbs := by
  rcases Int.lt_or_gt_of_ne hb with h | h
  · rw [Int.fmod_eq_emod]
    have h1 := Int.emod_nonneg a hb
    have h2 := Int.emod_lt a hb
    have h3 : b ∣ a → a % b = 0 := Int.emod_eq_zero_of_dvd
    by_cases hd : b ∣ a
    · rw [if_pos (Or.inr hd), h3 hd]
      omega
    · rw [if_neg (by omega)]
      have h4 : a % b ≠ 0 := fun z => hd (Int.dvd_of_emod_eq_zero z)
      omega
  · have h1 := Int.fmod_nonneg_of_pos a h
    have h2 := Int.fmod_lt_of_pos a h
    omega
theorem sz_fmod {a : Nat} {i j : Int} (hj : j ≠ 0) (ha : Sz a j) : Sz a (i.fmod j) := sz_le ha (Nat.le_of_lt (fmod_lt i hj))
theorem i_qlenS {xs : List V} (h : SqL K H b xs) (q : Q (.int (xs.length : Int)) H) : qLen K [.ref b] H Q := ⟨b, xs, rfl, .inl h, q⟩
theorem i_sl {r : V → Option Int → Option Int → Hp → VK → Prop} {tl th : TO} (q : te σ H fun x H1 => tl σ H1 fun l H2 => th σ H2 fun u H3 => r x l u H3 Q) : tSl r te tl th σ H Q := q
theorem i_nopart {R : Option Int → Hp → Prop} (q : R none H) : tNoPart σ H R := q
theorem i_part {R : Option Int → Hp → Prop} (q : te σ H fun x H1 => ∃ i, x = .int i ∧ R (some i) H1) : tPart te σ H R := q
theorem i_part1 {R : Int → Prop} (q : R i) : ∃ k, V.int i = .int k ∧ R k := ⟨i, rfl, q⟩
theorem i_slL {xs : List V} {lo hi : Option Int} (h : SqL K H b xs) (q : ∀ p H2, H p = none → Ex H H2 → H2 p = some (.lst (cutV xs lo hi)) → Q (.ref p) H2) : rSlL K (.ref b) lo hi H Q := ⟨b, xs, rfl, h, fun p hp => q p _ hp (ex_upd hp) upd_same⟩
theorem i_sum {ns : List Int} (h : SqL K H b (ns.map V.int)) (q : Q (.int ns.sum) H) : rSum K [.ref b] H Q := ⟨b, ns, rfl, h, q⟩
theorem i_ixLs {xs : List V} {k : Int} (h : SqL K H b xs) (e : atI xs k = some v) (q : Q v H) : rIxL K (.ref b) (.int k) H Q := ⟨b, xs, k, v, rfl, rfl, h, e, q⟩
end
end Wb

namespace Wb
open PySem PySem.W PySem.Calls PyProof.Rows PyProof.V PySem.Spec
section
variable {P : Program} {w : World} {A : Around} {K : PySem.W.Frag} {B i newId : String} {bmB : List Value}
/-- the wrapper's call: the args are laid anew -/
theorem mw_call {h : Heap} {g : Array GenState} {d : Drawn} {t : Nat} {os : OsState} {E : Value → Shared → Prop} {Q : Value → Shared → Prop} {C u x t0 : Addr} {rest : List Value} (FB : ExcBaseFacts B newId i bmB) (X : K.In h) (q : excInitIn K C bmB newId = true) (hu : h.get? u = some (kxs_mw i x))
    (he : h.get? x = some (HandSPX.excO C t0)) (hz : rest.length ≤ sizeLine)
    (hq : ∀ h' t1, (∀ b o, b ≠ x → h.get? b = some o → h'.get? b = some o) → h'.get? x = some (HandSPX.excO C t1) → Q .none ⟨h', g, d, t, os⟩) :
    wpAny (model P w) A (call (.ref u) rest) Q E ⟨h, g, d, t, os⟩ := by
  obtain ⟨nm, N', qn, bs, bm, hdct, sn, sub, ab, col, dd, k0, k1, k2, k3, k5, hC, hT⟩ := excInit_of X q
  refine wpAny_call (codeAny_of_tree ?_)
  show wpAny _ A.in1 (callAny (.ref u) ⟨rest, []⟩) _ _ _
  simp only [callAny]
  refine wpAny_bind (wpAny_load hu ?_)
  simp only [kxs_mw, show (Value.type "method-wrapper" == Value.type "method" || Value.type "method-wrapper" == Value.type "builtin_function_or_method" || Value.type "method-wrapper" == Value.type "method-wrapper") = true by decide, if_true]
  refine KFB.if_so (by decide) ?_
  refine wpAny_bind (check_bound_init FB.toExcCallFacts hC he rfl ?_)
  refine wpAny_bind (wpAny_pure (wpAny_pure ?_))
  refine ⟨plainId_quiet FB.init.plain _, codeAny_builtin FB.initEntry ?_⟩
  exact exc_init_tree (cls := .ref C) (t0 := t0) (dv := none) (c2 := .none) (c3 := .none) (b4 := .bool false) he hz fun h' a b _ => hq h' _ a b
/-- what the written part says of a class over the built-in B whose __init__ says super().__init__(..) -/
structure SupC (P : Program) (K : PySem.W.Frag) (C fI : Addr) (B i newId : String) (bmB : List Value) (st : Stmt) (qual : Str) : Prop where
  init : findIn K (.ref C) "__init__" = some (some (.ref fI))
  ini : excInitIn K C bmB newId = true
  over : excOver K C bmB = true
  hd : hasDictIn K C = true
  sa : findIn K (.ref C) "__setattr__" = some (some (.builtin "object.__setattr__"))
  subB : subIn K (.ref C) (.type B) = some true
  subE : subIn K (.ref C) (.type "BaseException") = some true
  ty : typeIn K (.ref C) = some (.type "type")
  tyI : typeIn K (.ref fI) = some (.type "function")
  kp : keepIn K (.ref C) = true
  sup : ks_superIn K C C "__init__" = some (some (.builtin i))
  mro : mroIn K C (.ref C) = some true
  op : nsIn K cStatics "thirdparty.any" = some none
  fn : ∃ (oc : Value) (od : Option Addr) (osl : Array (Option Value)) (doc pm : Value) (an : Option Addr) (cda : Addr) (ct : Value) (cc : Addr),
    K.lookup fI = some ⟨oc, od, .func (fnX "__init__" qual (L2.defArgs st) (L2.defBody st) (L2.defScope st) [("__class__", cc)] .none .none doc pm an (.ref cda) ct), osl⟩ ∧ codeIn K (.ref cda) qual = true ∧
    (∃ ccl cdd vs ccs file tf, K.lookup cda = some ⟨ccl, cdd, .fields vs, ccs⟩ ∧ vs[2]? = some (.str file tf) ∧ ((P.main.file : Str) == file) = true) ∧ ∃ cl cld csl, K.lookup cc = some ⟨cl, cld, .cell (some (.ref C)), csl⟩
end

section
variable {P : Program} {w : World} {A : Around} {K : PySem.W.Frag} {B i newId : String} {bmB : List Value}
theorem cls_at {h : Heap} {D : Addr} {cd : ClassData} (X : K.In h) (hD : clsIn K D = some cd) : ∃ oD, h.get? D = some oD ∧ oD.data = .cls cd := by
  unfold clsIn at hD
  split at hD
  · rename_i c d cd' sl ho
    cases hD
    exact ⟨_, X _ _ ho, rfl⟩
  · cases hD
theorem sup_first {h base : Heap} {g : Array GenState} {d : Drawn} {t : Nat} {os : OsState} {mg : Str → Option Value} {E : Value → Shared → Prop} {Q : Flow → Shared → Prop} {C fI x t0 L cda cc : Addr} {qual m : Str} {scope : Scope} {body rest : List Stmt} {p0 p1 p2 p3 p4 p5 : Pos} {j : Nat} {ar : Arg} {ml : Str → Option Value}
    {oc ccl cl : Value} {od cdd cld : Option Addr} {osl ccs csl : Array (Option Value)} {fd : FuncData} {vs : Array Value} {file : Str} {tf : Tok}
    (FB : ExcBaseFacts B newId i bmB) (KF : KxsFacts B i) (M : L2.Mod K mg base) (hb : ∀ b o, base.get? b = some o → h.get? b = some o) (ini : excInitIn K C bmB newId = true) (subB : subIn K (.ref C) (.type B) = some true) (sup : ks_superIn K C C "__init__" = some (some (.builtin i))) (mro : mroIn K C (.ref C) = some true) (op : nsIn K cStatics "thirdparty.any" = some none)
    (hf : K.lookup fI = some ⟨oc, od, .func fd, osl⟩) (hp : (fd.params.posonlyargs ++ fd.params.args).head? = some ar) (hcode : K.lookup cda = some ⟨ccl, cdd, .fields vs, ccs⟩) (hvs : vs[2]? = some (.str file tf)) (hfile : ((P.main.file : Str) == file) = true)
    (hcell : K.lookup cc = some ⟨cl, cld, .cell (some (.ref C)), csl⟩) (hmg : mg "super" = none) (hks : scope.names.lookup ("super" : Str) = some .globalImplicit) (hkc : scope.names.lookup ("__class__" : Str) = some .free) (hka : scope.names.lookup ar.arg = some .local) (hk : scope.kind = .function)
    (htop : (P.main.scope.names.lookup ("super" : Str)).isSome = false) {pl : Sem Bool} (hi : interactive (envX qual scope L fI (.ref cda) [("__class__", cc)]) = false) (hsw : swapsWith (.Call (.Attribute (.Call (.Name "super" p0) [] [] p1) "__init__" p2) [.Constant (.str m) j p3] [] p4) none p5.line (envX qual scope L fI (.ref cda) [("__class__", cc)]) = pure false)
    (he : eval (.Call (.Attribute (.Call (.Name "super" p0) [] [] p1) "__init__" p2) [.Constant (.str m) j p3] [] p4) (envX qual scope L fI (.ref cda) [("__class__", cc)]) = (do
      let ov ← attributeBase (.Call (.Name "super" p0) [] [] p1) "__init__" (envX qual scope L fI (.ref cda) [("__class__", cc)]) (eval (.Call (.Name "super" p0) [] [] p1) (envX qual scope L fI (.ref cda) [("__class__", cc)]))
      standAt p2.atName
      let (f, first) ← holding [ov] (getMethod ov "__init__" pl)
      callWith p4 f first (backTo p4 (starEach [.Constant (.str m) j p3] (envX qual scope L fI (.ref cda) [("__class__", cc)]))) []))
    (hns : h.Ns L ml) (hv : ml ar.arg = some (.ref x)) (hx : h.get? x = some (HandSPX.excO C t0))
    (hq : ∀ h' t' t1, (∀ b o, b ≠ x → h.get? b = some o → h'.get? b = some o) → h'.get? x = some (HandSPX.excO C t1) → wpAny (model P w) A (execs rest (envX qual scope L fI (.ref cda) [("__class__", cc)])) Q E ⟨h', g, d, t', os⟩) :
    _root_.PySem.wpAt (model P w) A (.func body (envX qual scope L fI (.ref cda) [("__class__", cc)])) (execs (.Expr (.Call (.Attribute (.Call (.Name "super" p0) [] [] p1) "__init__" p2) [.Constant (.str m) j p3] [] p4) p5 :: rest) (envX qual scope L fI (.ref cda) [("__class__", cc)])) Q E ⟨h, g, d, t, os⟩ := by
  have X : K.In h := M.kin.keeps hb
  obtain ⟨cd, hcd⟩ : ∃ cd, clsIn K C = some cd := by
    cases hc : clsIn K C with
    | none => unfold ks_superIn at sup; rw [hc] at sup; cases sup
    | some cd => exact ⟨cd, rfl⟩
  obtain ⟨oD, hD1, hD2⟩ := cls_at X hcd
  obtain ⟨mb, hb1, hb2⟩ := M.blt
  have I : InstAt h x (HandSPX.excO C t0) C none := ⟨hx, rfl, rfl, trivial⟩
  have hxC : x ≠ C := ks_ne X I hcd
  refine ks_wpAt_execs_cons (ks_wpAt_Expr_any (ks_wpAt_MethodCall (pl := pl) ?_ he) hi hsw)
  refine ks_wpAt_super_base (env := envX qual scope L fI (.ref cda) [("__class__", cc)]) hks hkc (by decide) rfl (X _ _ hf) rfl hp rfl (X _ _ hcode) rfl hvs hfile htop ?_
  refine ks_loadName_global hk hks (loadGlobal_builtin (env := envX qual scope L fI (.ref cda) [("__class__", cc)]) (M.glob.keeps hb) hmg (hb1.keeps hb) ((hb2 "super" (by decide)).trans (show bootBuiltins "super" = some (.type "super") by first | kernel_rfl | decide +kernel)) ⟨rfl, ?_⟩)
  refine wpAny_loadName_free hk hkc rfl ⟨_, X _ _ hcell, rfl⟩ ?_
  refine wpAny_loadName_local hk hka hns hv ?_
  refine ks_wpAny_isType_cls hD1 hD2 ⟨rfl, ?_⟩
  refine ks_wpAny_call_super hD1 hD2 hx rfl (fun c e => by cases e) (looks_mroIn X mro) (fun h1 e1 k1 => ?_)
  have X1 : K.In h1 := X.keeps k1
  have hx1 := k1 _ _ hx
  have I1 : InstAt h1 x (HandSPX.excO C t0) C none := ⟨hx1, rfl, rfl, trivial⟩
  have hI : Looks (model P w) h1 (isInstance (.ref x) (.type B)) true := I1.type.andThen (looks_subIn X1 subB)
  have hsup : alongIn K "__init__" ((cd.mro.dropWhile (· != .ref C)).drop 1) = some (some (.builtin i)) := by
    unfold ks_superIn at sup
    rw [hcd] at sup
    exact sup
  refine kxs_getMethod KF e1 (looks_opaque X1 op) (l₀ := cd.mro) (fun A Q E s k q => wpAny_bind ((looks_clsIn X1 hcd) A _ E s k (wpAny_pure q))) rfl X1 hsup hI hxC (by decide) ?_
  have k2 : ∀ b o, h1.get? b = some o → (h1.push (kxs_mw i x)).get? b = some o := fun b o e => Heap.get?_push_of_some _ e
  refine kxs_callWith (i := i) (x := x) rfl (evalArgs_plain ?_)
  refine Calls.spliced_cons (Calls.Constant_str (k := j) (pos := p3) (Calls.spliced_nil ?_))
  refine ⟨Heap.get?_push_size _ rfl, ?_⟩
  refine mw_call FB (X1.keeps k2) ini (Heap.get?_push_size _ rfl) (k2 _ _ hx1) (by show 1 ≤ sizeLine; rw [sizeLine_eq]; omega) fun h' t1 k3 e3 => ?_
  exact wpAt_of_wpAny (hq h' _ t1 (fun b o hb2 e => k3 b o hb2 (k2 b o (k1 b o e))) e3)
end

section
open Builtin Builtin.ObjectAttr
variable {P : Program} {w : World} {A : Around} {K : PySem.W.Frag} {B i newId : String} {bmB : List Value}
/-- self.f = v, the first one -/
theorem osa_first {hp : Heap} {g : Array GenState} {d : Drawn} {t : Nat} {os : OsState} {R : Result → Shared → Prop} {name : Str} {tk : Tok} {v : Value} {x C t0 : Addr} (SF : StoreFacts B bmB "object.__setattr__" "object")
    (X : K.In hp) (hx : hp.get? x = some (HandSPX.excO C t0)) (over : excOver K C bmB = true) (hh : hasDictIn K C = true) (ht : takerIn K C name = some none)
    (hq : ∀ h' tk' dx, (∀ b o, b ≠ x → hp.get? b = some o → h'.get? b = some o) → hp.objs.size ≤ dx → dx ≠ x → h'.get? x = some { cls := .ref C, dict := some dx, data := .fields #[.ref t0, .none, .none, .none, .bool false, .none] } →
      h'.Ns1 dx (fun y => if y = name then some v else none) → R (.ok (.ret .none)) ⟨h', g, d, tk', os⟩) :
    codeAny (model P w) A (.call (.builtin "object.__setattr__") ⟨[.ref x, .str name tk, v], []⟩) R ⟨hp, g, d, t, os⟩ := by
  have I : InstAt hp x (HandSPX.excO C t0) C none := ⟨hx, rfl, rfl, trivial⟩
  have hxs : x ≠ hp.objs.size := Nat.ne_of_lt (Heap.lt_size hx)
  refine osa_openX (s := ⟨hp, g, d, t, os⟩) SF X I over ht fun b => ?_
  obtain ⟨cd, hcd, hd⟩ := any_some hh
  have hcls : Looks (model P w) hp (classData C) cd := looks_clsIn X hcd
  obtain ⟨nm, bs, mro, ns, qn, hd', sn, sb, ab, col, del⟩ := cd
  dsimp only at hd
  subst hd
  show wpAny _ _ (storeInOwnDict (.ref x) (.ref C) (.str name tk) name v b) _ _ _
  unfold storeInOwnDict ownDictForStores
  repeat (first | with_reducible refine HandSPX.store_in_new ?_ ?_ | with_reducible refine wpAny_loadPart_at hx ?_ | with_reducible refine hcls.at ?_ | wp_step)
  · exact ⟨_, #[], _, (Heap.get?_update_ne _ _ _ _ hxs.symm).trans (Heap.get?_push_at rfl rfl), rfl, fun e he => absurd he (by simp), fun _ => rfl⟩
  · intro h' tk' hn' hs
    have hx₁ : (hp.push { cls := .type "dict", data := .dict #[] }).get? x = some (HandSPX.excO C t0) := Heap.get?_push_of_some _ hx
    refine hq h' tk' hp.objs.size (fun b o hb ho => ?_) (Nat.le_refl _) hxs.symm ?_ hn'
    · exact (hs.2 b (Nat.ne_of_lt (Heap.lt_size ho))).trans ((Heap.get?_update_ne _ _ _ _ hb).trans (Heap.get?_push_of_some _ ho))
    · exact (hs.2 x hxs).trans (Heap.get?_update_self _ hx₁ rfl)
end

/-- what the text says of such an __init__(self, a): super().__init__('..'); self.f = a -/
structure Init1 (P : Program) (st : Stmt) (qual sf a f : Str) : Prop where
  body : ∃ (m : Str) (j : Nat) (p0 p1 p2 p3 p4 p5 q0 q1 q2 q3 : Pos), L2.defBody st = [.Expr (.Call (.Attribute (.Call (.Name "super" p0) [] [] p1) "__init__" p2) [.Constant (.str m) j p3] [] p4) p5, .Assign [.Attribute (.Name sf q0) f q1] (.Name a q2) q3] ∧
    (∀ (L fI cda cc : Addr), swapsWith (.Call (.Attribute (.Call (.Name "super" p0) [] [] p1) "__init__" p2) [.Constant (.str m) j p3] [] p4) none p5.line (envX qual (L2.defScope st) L fI (.ref cda) [("__class__", cc)]) = pure false) ∧
    (∀ (L fI cda cc : Addr), swapsWith (.Name a q2) (some (.Attribute (.Name sf q0) f q1)) q3.line (envX qual (L2.defScope st) L fI (.ref cda) [("__class__", cc)]) = pure false) ∧
    (∀ (L fI cda cc : Addr), ∃ pl : Sem Bool, eval (.Call (.Attribute (.Call (.Name "super" p0) [] [] p1) "__init__" p2) [.Constant (.str m) j p3] [] p4) (envX qual (L2.defScope st) L fI (.ref cda) [("__class__", cc)]) = (do
      let ov ← attributeBase (.Call (.Name "super" p0) [] [] p1) "__init__" (envX qual (L2.defScope st) L fI (.ref cda) [("__class__", cc)]) (eval (.Call (.Name "super" p0) [] [] p1) (envX qual (L2.defScope st) L fI (.ref cda) [("__class__", cc)]))
      standAt p2.atName
      let (f, first) ← holding [ov] (getMethod ov "__init__" pl)
      callWith p4 f first (backTo p4 (starEach [.Constant (.str m) j p3] (envX qual (L2.defScope st) L fI (.ref cda) [("__class__", cc)]))) []))
  inter : ∀ (L fI cda cc : Addr), interactive (envX qual (L2.defScope st) L fI (.ref cda) [("__class__", cc)]) = false
  kind : (L2.defScope st).kind = .function
  co : (L2.defScope st).isCoroutine = false
  gen : (L2.defScope st).isGenerator = false
  nocell : ∀ x ∈ (L2.defScope st).names, x.2 ≠ .cell
  sup : (L2.defScope st).names.lookup ("super" : Str) = some .globalImplicit
  cls : (L2.defScope st).names.lookup ("__class__" : Str) = some .free
  self : (L2.defScope st).names.lookup sf = some .local
  arg : (L2.defScope st).names.lookup a = some .local
  ne : (sf == a) = false
  sd : (sf == ("__debug__" : Str)) = false
  ad : (a == ("__debug__" : Str)) = false
  first : ∃ ar : Arg, ((L2.defArgs st).posonlyargs ++ (L2.defArgs st).args).head? = some ar ∧ ar.arg = sf
  binds : ∀ (s : Shared) (doc pm : Value) (an : Option Addr) (cda : Addr) (ct : Value) (cc : Addr) (u v : Value), BindsTo s (fnX "__init__" qual (L2.defArgs st) (L2.defBody st) (L2.defScope st) [("__class__", cc)] .none .none doc pm an (.ref cda) ct) ⟨[u, v], []⟩ [(sf, u), (a, v)]
  top : (P.main.scope.names.lookup ("super" : Str)).isSome = false
section
variable {P : Program} {w : World} {A : Around} {K : PySem.W.Frag} {B i newId : String} {bmB : List Value}
theorem sup_run1 {h base : Heap} {g : Array GenState} {d : Drawn} {t : Nat} {os : OsState} {mg : Str → Option Value} {R : Result → Shared → Prop} {C fI x t0 : Addr} {qual sf a f : Str} {st : Stmt} {u : Value}
    (S : SupC P K C fI B i newId bmB st qual) (T : Init1 P st qual sf a f) (FB : ExcBaseFacts B newId i bmB) (KF : KxsFacts B i) (SF : StoreFacts B bmB "object.__setattr__" "object") (M : L2.Mod K mg base) (hb : ∀ b o, base.get? b = some o → h.get? b = some o)
    (hmg : mg "super" = none) (ht : takerIn K C f = some none) (hroom : A.depth < recursionLimit) (hx : h.get? x = some (HandSPX.excO C t0)) (hxb : base.get? x = none)
    (hq : ∀ h' t' dx t1, (∀ b o, b ≠ x → h.get? b = some o → h'.get? b = some o) → h.objs.size ≤ dx → dx ≠ x → h'.get? x = some { cls := .ref C, dict := some dx, data := .fields #[.ref t1, .none, .none, .none, .bool false, .none] } →
      h'.Ns1 dx (fun y => if y = f then some u else none) → R (.ok (.ret .none)) ⟨h', g, d, t', os⟩) :
    codeAny (model P w) A (.call (.ref fI) ⟨[.ref x, u], []⟩) R ⟨h, g, d, t, os⟩ := by
  have X : K.In h := M.kin.keeps hb
  obtain ⟨oc, od, osl, doc, pm, an, cda, ct, cc, lk, hcd, ⟨ccl, cdd, vs, ccs, file, tf, hcode, hvs, hfile⟩, cl, cld, csl, hcell⟩ := S.fn
  obtain ⟨m, j, p0, p1, p2, p3, p4, p5, q0, q1, q2, q3, hbody, hsw, hsw2, he⟩ := T.body
  obtain ⟨ar, har, hae⟩ := T.first
  subst hae
  refine ks_codeAny_call_defAt (fd := fnX "__init__" qual (L2.defArgs st) (L2.defBody st) (L2.defScope st) [("__class__", cc)] .none .none doc pm an (.ref cda) ct) (body := L2.defBody st) (binds := [(ar.arg, .ref x), (a, u)]) hroom (X _ _ lk) rfl (M.nolimit.keeps hb) (codeRec_of X hcd) rfl (T.binds _ _ _ _ _ _ _ _ _) T.nocell (fun y hy => ?_) (fun h₁ hns hk₁ => ?_) T.co T.gen T.kind
  · simp only [List.mem_cons, List.not_mem_nil, or_false] at hy
    rcases hy with rfl | rfl
    · exact T.self
    · exact T.arg
  show _root_.PySem.wpAt (model P w) _ (.func _ (envX qual (L2.defScope st) h.objs.size fI (.ref cda) [("__class__", cc)])) (execs (L2.defBody st) (envX qual (L2.defScope st) h.objs.size fI (.ref cda) [("__class__", cc)])) _ _ _
  obtain ⟨pl, hev⟩ := he h.objs.size fI cda cc
  have hL : h.objs.size ≠ x := Nat.ne_of_gt (Heap.lt_size hx)
  have l1 : ([(ar.arg, Value.ref x), (a, u)].reverse).lookup ar.arg = some (.ref x) := by
    show List.lookup ar.arg [(a, u), (ar.arg, Value.ref x)] = _
    rw [List.lookup_cons, T.ne, List.lookup_cons, beq_self_eq_true]
  have l2 : ([(ar.arg, Value.ref x), (a, u)].reverse).lookup a = some u := by
    show List.lookup a [(a, u), (ar.arg, Value.ref x)] = _
    rw [List.lookup_cons, beq_self_eq_true]
  rw [hbody]
  refine sup_first FB KF M (fun b o e => hk₁ b o (hb b o e)) S.ini S.subB S.sup S.mro S.op lk har hcode hvs hfile hcell hmg T.sup T.cls T.self T.kind T.top (T.inter _ _ _ _) (hsw _ _ _ _) hev hns l1 (hk₁ _ _ hx) fun h2 t2 t1 k2 hx2 => ?_
  have hb2 : ∀ b o, base.get? b = some o → h2.get? b = some o := fun b o e => k2 b o (fun z => by rw [z, hxb] at e; cases e) (hk₁ b o (hb b o e))
  have hns2 : h2.Ns h.objs.size fun y => ([(ar.arg, Value.ref x), (a, u)].reverse).lookup y := by
    obtain ⟨oL, es, ep, hoL, r⟩ := hns
    exact ⟨oL, es, ep, k2 _ _ hL hoL, r⟩
  have X2 : K.In h2 := M.kin.keeps hb2
  refine wpAny_execs_cons (plainObj_wpAny_Assign_Attribute (wpAny_Name (wpAny_loadName_local T.kind T.arg hns2 l2 (wpAny_Name (wpAny_loadName_local T.kind T.self hns2 l1 ?_) T.sd)) T.ad) (hsw2 _ _ _ _))
  refine set_plain X2 (ox := HandSPX.excO C t1) (od := none) ⟨hx2, rfl, rfl, trivial⟩ S.sa ?_
  refine osa_first SF X2 hx2 S.over S.hd ht fun h3 t3 dx k3 dn dne hx3 hn3 => ?_
  refine wpAny_execs_nil ?_
  have hs : h.objs.size ≤ dx := by
    have := Nat.lt_of_lt_of_le (Heap.lt_size (k2 _ _ hL (hns.choose_spec.choose_spec.choose_spec.1))) dn
    omega
  exact hq h3 t3 dx t1 (fun b o hb e => k3 b o hb (k2 b o hb (hk₁ b o e))) hs dne hx3 hn3
end

section
open L2
variable {X : Cx} {B i newId : String} {bmB : List Value}
/-- C(e): the exception and its dict -/
def tMk1 (C : Addr) (f : Str) (te : TE) : L2.St → Hp → XK → Prop := fun σ H Q => te σ H fun v H1 => ∀ dx, H1 dx = none → Q (.ref C) (some dx) (upd H1 dx (.xd [(f, v)]))
theorem pmk_sup1 {k : Nat} {C fI : Addr} {qual sf a f x : Str} {st : Stmt} {e : Expr} {te : TE} {p pos : Pos} (S : SupC X.prog X.K C fI B i newId bmB st qual) (T : Init1 X.prog st qual sf a f) (FB : ExcBaseFacts B newId i bmB) (KF : KxsFacts B i) (SF : StoreFacts B bmB "object.__setattr__" "object")
    (hmg : X.mg "super" = none) (ht : takerIn X.K C f = some none) (hr : Room (k + 1) X.A) (hg : Gl X x) (hm : X.mg x = some (.ref C)) (he : PE X e te)
    (hdb : (x == ("__debug__" : Str)) = false := by decide) (hst : starEach [e] X.env = (false, eval e X.env) :: starEach [] X.env := by rfl) : PMk X (.Call (.Name x p) [e] [] pos) (tMk1 C f te) := by
  intro pins s σ H Q I h
  have ha : PA X [e] (tCons te tNil) := pa_cons he pa_nil hst
  refine wpAny_Call_Name_kw (ld_glob I hg hm ?_ hdb)
  refine PySem.W.callWith_K (h₀ := X.base) I.ok.mod.kin S.kp (thn (ha.run pos pins s σ H (fun vs H1 => ∃ v, vs = [v] ∧ ∀ dx, H1 dx = none → Q (.ref C) (some dx) (upd H1 dx (.xd [(f, v)]))) I ?_) fun us s1 ⟨vs, H1, I1, r1, v, ev, q1⟩ => ⟨I1.kIn, ?_⟩) hst rfl
  · refine (show te σ H _ from ?_)
    have h' : te σ H fun v H1 => ∀ dx, H1 dx = none → Q (.ref C) (some dx) (upd H1 dx (.xd [(f, v)])) := h
    have e : (fun v H1 => ∀ dx, H1 dx = none → Q (.ref C) (some dx) (upd H1 dx (.xd [(f, v)]))) = fun (x : V) (H1 : Hp) => tNil σ H1 fun xs H2 => (∃ v, x :: xs = [v] ∧ ∀ dx, H2 dx = none → Q (.ref C) (some dx) (upd H2 dx (.xd [(f, v)]))) := by
      funext x H1
      refine propext ⟨fun z => ⟨x, rfl, z⟩, fun ⟨v, e, z⟩ => ?_⟩
      cases e
      exact z
    rw [← e]
    exact h'
  subst ev
  cases r1 with
  | @cons _ u _ ur ru rn =>
  cases rn
  show wpAny _ _ (call (.ref C) [u]) _ _ _
  obtain ⟨hp, g, dr, tk, os⟩ := s1
  obtain ⟨nm, N', qn, bs, bm, hdct, sn, sub, ab, col, dd, k0, k1, k2, k3, k5, hC, hT⟩ := excInit_of I1.kIn S.ini
  have hus : [u].length ≤ sizeLine := by show 1 ≤ sizeLine; rw [sizeLine_eq]; omega
  have kk : ∀ b o, hp.get? b = some o → ((hp.push (PySem.W.kdv_tup [u])).push (PySem.HandSPX.excO C hp.objs.size)).get? b = some o := fun b o e => Heap.get?_push_of_some _ (Heap.get?_push_of_some _ e)
  have hget : ((hp.push (PySem.W.kdv_tup [u])).push (PySem.HandSPX.excO C hp.objs.size)).get? (hp.objs.size + 1) = some (PySem.HandSPX.excO C hp.objs.size) := by heap_get
  have hsz : ((hp.push (PySem.W.kdv_tup [u])).push (PySem.HandSPX.excO C hp.objs.size)).objs.size = hp.objs.size + 2 := by rw [Heap.size_push, Heap.size_push]
  refine wpAny_call (PySem.HandSPX.call_own FB hT hC (PySem.W.looks_findIn I1.kIn S.init) (fun self => PySem.W.bind_fn I1.kIn self S.tyI) hus ?_)
  refine sup_run1 S T FB KF SF I1.ok.mod (fun b o e => kk b o (I1.bk b o e)) hmg ht (hr.make C [u] []).depth hget ?_ fun h' t' dx t1 k4 dn dne hx' hn' => ⟨rfl, ?_⟩
  · cases z : X.base.get? (hp.objs.size + 1) with
    | none => rfl
    | some o => exact absurd (Heap.lt_size (I1.bk _ _ z)) (by show ¬ hp.objs.size + 1 < hp.objs.size; omega)
  obtain ⟨G, g1', g2'⟩ := restrict h' fun b => decide (b ≠ hp.objs.size + 1)
  have gk : ∀ b, b ≠ hp.objs.size + 1 → G.get? b = h'.get? b := fun b hb => g1' b (decide_eq_true hb)
  have ge : G.get? (hp.objs.size + 1) = none := g2' _ (by simp)
  have hdx : hp.objs.size ≤ dx := by rw [hsz] at dn; omega
  have nha : ∀ {b : Addr} {o : Obj}, hp.get? b = some o → b ≠ hp.objs.size + 1 := fun {b o} z => Nat.ne_of_lt (Nat.lt_succ_of_lt (Heap.lt_size z))
  have hnd : H1 dx = none := I1.hok.fresh hdx
  have hna : H1 (hp.objs.size + 1) = none := I1.hok.fresh (Nat.le_succ _)
  have J : Inv X pins σ (upd H1 dx (.xd [(f, v)])) ⟨G, g, dr, t', os⟩ := I1.laid (t' := t') (a := dx) (o := .xd [(f, v)]) (h' := G) (fun b o e => by rw [gk b (nha e)]; exact k4 b o (nha e) (kk b o e)) hdx
    ⟨_, hn'.at fun o y => (gk dx dne).trans y, relO_put (fs := []) ru fun g => True.intro⟩
  exact ⟨hp.objs.size + 1, _, _, ⟨G, g, dr, t', os⟩, upd H1 dx (.xd [(f, v)]), .ref C, some dx, rfl, J, (fun b o z => by
    by_cases hba : b = hp.objs.size + 1
    · rw [hba, ge] at z
      cases z
    · exact (gk b hba).symm.trans z), ge, hx', ⟨rfl, rfl⟩, rfl, rfl, by rw [upd_ne (Ne.symm dne)]; exact hna, rfl, I1.bare, raises_own S.subE S.ty, q1 dx hnd⟩
end
end Wb

namespace Wb
open PySem PySem.Spec PyProof.Rows L2
open Evl (Ex Ex.refl Ex.trans Ex.new)
/-! ### defs that ask for repr: nothing is being shown around them -/
structure FnG (P : Program) (w : World) (K : PySem.W.Frag) (mg : Str → Option Value) (base : Heap) (CX : CXT) (k : Nat) (f : Addr) (fd : FuncData) (ps : List Str) (sp : Sp) : Prop where
  len : ∀ vs H Q E, sp vs H Q E → vs.length = ps.length
  run : ∀ (A : Around) (outer : List Env) (s : Shared) (H : Hp) (args : Args) (us : List Value) (vs : List V) (Q : VK) (E : XK), A.guards = some [] → Room k A → Env0 P w K mg base A outer s H → BindsTo s fd args (ps.zip us) → Vals vs us → sp vs H Q E →
    codeAny (model P w) A (.call (.ref f) args) (CR CX outer P w H s Q E) s
theorem FnG.mono {P : Program} {w : World} {K : PySem.W.Frag} {mg : Str → Option Value} {base : Heap} {CX : CXT} {j k : Nat} {f : Addr} {fd : FuncData} {ps : List Str} {sp : Sp} (F : FnG P w K mg base CX j f fd ps sp) (h : j ≤ k) : FnG P w K mg base CX k f fd ps sp :=
  ⟨F.len, fun A outer s H args us vs Q E hg hr => F.run A outer s H args us vs Q E hg (hr.mono h)⟩
theorem okG {P : Program} {w : World} {K : PySem.W.Frag} {mg : Str → Option Value} {base : Heap} {x : Str} {st : Stmt} {f : Addr} {fd : FuncData} {CX : CXT} {N ps : List Str} {k : Nat} {sp : Sp} (F : FunD K x x (defArgs st) (defBody st) (defScope st) [] [] f fd) (S : FnScope N ps (defScope st)) (len : ∀ vs H Q E, sp vs H Q E → vs.length = ps.length)
    (hbody : ∀ (cdv : Value) (A : Around) (outer : List Env) (s : Shared) (H : Hp) (vs : List V) (Q : VK) (E : XK), A.guards = some [] → Room k (A.deeper (envOfC x (defScope st) s.heap.objs.size f cdv)) → sp vs H Q E →
      ∃ t, PSs (cxOf CX P w K mg base N x (defScope st) f cdv A outer s H E) (defBody st) t ∧ t { nx := fun _ H' => Q .non H', rt := Q } (start N vs) H) : FnG P w K mg base CX (k + 1) f fd ps sp := by
  obtain ⟨oc, od, dV, kV, doc, pm, an, cdv, ct, osl, rfl, lk, hcd, _, _⟩ := F.ex
  refine ⟨len, fun A outer s H args us vs Q E hga hr e0 hb r hsp => ?_⟩
  have kp : ∀ b o, base.get? b = some o → s.heap.get? b = some o := fun b o e => (e0.bs b o e).1
  have KX : K.In s.heap := e0.mod.kin.keeps kp
  have hl := len _ _ _ _ hsp
  refine codeAny_call_function hr.depth (KX _ _ lk) rfl S.co S.gen rfl (PySem.W.codeRec_of KX hcd) (hb _ _ _ _ ?_)
  refine wpAny_newFunctionEnv_cells S.kind (fun ⟨n, v⟩ hy => ?_) fun env he s1 x1 => ?_
  · rcases S.par n (List.of_mem_zip hy).1 with q | q
    · exact .inl q
    · exact .inr ⟨q, PySem.W.cellsFrom_some _ _ _ (.inl q)⟩
  subst he
  obtain ⟨t, ht, hq⟩ := hbody cdv A outer s H vs Q E hga (hr.deeper _) hsp
  refine ⟨(e0.mod.nolimit.keeps kp).keeps x1.toInCall.keep, codeAny_func (wpAny_mono (ht.run [] s1 (start N vs) H _ (inv_start S hr.hd e0 hl r x1) hq) (fun fl s' hs => ?_) fun e s' hs => hs)⟩
  cases fl with
  | ret u =>
    obtain ⟨v, σ', H', J, rv, q⟩ := hs
    exact ⟨v, H', J.os, J.bare, J.base, J.hok, rv, q⟩
  | next =>
    obtain ⟨σ', H', J, q⟩ := hs
    exact ⟨.non, H', J.os, J.bare, J.base, J.hok, rfl, q⟩
  | brk =>
    obtain ⟨_, _, _, q⟩ := hs
    exact q.elim
  | cont =>
    obtain ⟨_, _, _, q⟩ := hs
    exact q.elim
structure ClG (P : Program) (w : World) (K : PySem.W.Frag) (mg : Str → Option Value) (base : Heap) (k : Nat) (x : Str) (sp : Sp) : Prop where
  ex : ∃ (f : Addr) (fd : FuncData) (ps : List Str), FnG P w K mg base CX0 k f fd ps sp ∧ mg x = some (.ref f) ∧ PySem.W.keepIn K (.ref f) = true ∧ Binds K fd ps []
section
variable {X : Cx}
theorem pcG {k j : Nat} {x : Str} {sp : Sp} {p pos : Pos} {e : Expr} {es : List Expr} {t : TA} (c : ClG X.prog X.w X.K X.mg X.base k x sp) (hga : X.A.guards = some []) (hr : Room j X.A) (hk : k ≤ j) (hg : Gl X x) (ha : PA X (e :: es) t)
    (hdb : (x == ("__debug__" : Str)) = false := by decide) (he : starEach (e :: es) X.env = (false, eval e X.env) :: starEach es X.env := by rfl) (hpl : (backTo pos (starEach es X.env)).any (·.1) = false := by rfl) :
    PE X (.Call (.Name x p) (e :: es) [] pos) (tCl sp t) := by
  obtain ⟨f, fd, ps, F, hm, kp, b⟩ := c.ex
  refine ⟨fun pins s σ H Q I h => ?_⟩
  refine wpAny_Call_Name_kw (ld_glob I hg hm ?_ hdb)
  refine PySem.W.callWith_K (h₀ := X.base) I.ok.mod.kin kp (thn (ha.run pos pins s σ H _ I h) fun us s1 ⟨vs, H1, I1, r, q⟩ => ⟨I1.kIn, ?_⟩) he hpl
  have hl : (us ++ []).length = ps.length := by rw [List.append_nil, ← r.length]; exact F.len _ _ _ _ q
  have b1 := b s1 us I1.kIn hl
  rw [List.append_nil] at b1
  refine wpAny_call (codeAny_mono (F.run X.A X.stack s1 H1 ⟨us, []⟩ us vs Q E0 hga (hr.mono hk) I1.env0 b1 r q) fun r2 s2 hq => ?_)
  cases r2 with
  | error er => exact pass0 pins σ H1 s1 er s2 I1 hq
  | ok fl =>
    cases fl with
    | ret u => exact I1.after hq
    | next => exact False.elim hq
    | brk => exact False.elim hq
    | cont => exact False.elim hq
end
/-- the end: the law's def, called by the claim's caller -/
theorem end_call {P : Program} {w : World} {K : PySem.W.Frag} {mg mb : Str → Option Value} {k : Nat} {fa a : Addr} {fd : FuncData} {x : Str} {sp : Sp} {s₁ : Shared} {vs : List Value} {ns : List Int}
    (KX : K.In s₁.heap) (hns : s₁.heap.Ns mainGlobals mg) (hb : s₁.heap.Ns builtinsNs mb) (hbb : ∀ x : Str, x ≠ "__name__" → mb x = bootBuiltins x) (hlim : s₁.heap.NoLimit) (hg : s₁.gens = #[])
    (ha : s₁.heap.get? a = some { cls := .type "list", data := .seq vs.toArray }) (hi : IntsAre vs ns) (hl : ns.length ≤ sizeLine) (hr : Room k callerA)
    (F : ∀ base : Heap, K.In base → base.Ns mainGlobals mg → FnG P w K mg base CX0 k fa fd [x] sp) (hbind : ∀ (s : Shared) (u : Value), BindsTo s fd ⟨[u], []⟩ [(x, u)])
    (hsp : ∀ H : Hp, SqL K H a (ns.map V.int) → sp [.ref a] H (fun v _ => v = .bl true) fun _ _ _ => False) :
    codeAny (model P w) callerA (.call (.ref fa) ⟨[.ref a], []⟩) (fun r s' => r = .ok (.ret (.bool true)) ∧ OldK s₁.heap s'.heap ∧ s'.os = s₁.os ∧ AllBare s'.gens) s₁ := by
  have rv := vals_ints hi
  -- from any abstract heap that tracks the script at most, locked
  have core : ∀ H : Hp, (∀ b u, H b = some u → b = a ∧ u = .frz { cls := .type "list", data := .seq vs.toArray } (.lst (ns.map V.int)) ∧ K.lookup a = none) → SqL K H a (ns.map V.int) → HOk P w H s₁.heap →
      codeAny (model P w) callerA (.call (.ref fa) ⟨[.ref a], []⟩) (fun r s' => r = .ok (.ret (.bool true)) ∧ OldK s₁.heap s'.heap ∧ s'.os = s₁.os ∧ AllBare s'.gens) s₁ := by
    intro H hA hS hok
    have free : ∀ {b : Addr}, (b = a → False) → H b = none := fun {b} n => by
      cases q : H b with
      | none => rfl
      | some u => exact (n (hA b u q).1).elim
    have nsK : ∀ {b : Addr} {m : Str → Option Value}, s₁.heap.Ns b m → (hidT s₁.heap H).Ns b m := fun {b m} ⟨o, es, ep, e, d, r⟩ => ⟨o, es, ep, hidT_get e (free fun z => by
      subst z
      rw [ha] at e
      cases e
      have d' : Data.seq vs.toArray _ = Data.dict es ep := d
      cases d'), d, r⟩
    have hKb : K.In (hidT s₁.heap H) := fun b o e => hidT_get (KX b o e) (by
      cases q : H b with
      | none => rfl
      | some u =>
        obtain ⟨z, _, z2⟩ := hA b u q
        subst z
        rw [z2] at e
        cases e)
    have e0 : Env0 P w K mg (hidT s₁.heap H) callerA [] s₁ H := ⟨rfl, ⟨hKb, nsK hns, ⟨mb, nsK hb, hbb⟩, let ⟨mc, h1, h2⟩ := hlim; ⟨mc, nsK h1, h2⟩⟩, fun b o e => of_hidT e, Nat.le_of_eq (hidT_size _ _), trivial, fun b hb => absurd (show b ∈ ([] : List Addr) from hb) (by simp), hok, .of_eq hg⟩
    refine codeAny_mono ((F _ hKb (nsK hns)).run callerA [] s₁ H ⟨[.ref a], []⟩ [.ref a] [.ref a] _ _ rfl hr e0 (hbind s₁ (.ref a)) (.cons rfl .nil) (hsp H hS)) fun r s' h => ?_
    cases r with
    | error e => exact h.elim
    | ok fl =>
      cases fl with
      | ret u =>
        obtain ⟨v, H', os, bare, un, hok', r', q⟩ := h
        cases (show v = .bl true from q)
        obtain rfl : u = Value.bool true := r'
        refine ⟨rfl, OldK.of_keep fun b o e => ?_, os, bare⟩
        cases q : H b with
        | none => exact un.keep b o e q (fun z => absurd (show b ∈ ([] : List Addr) from z) (by simp)) (by simp)
        | some u =>
          obtain ⟨_, z, _⟩ := hA b u q
          rw [z] at q
          have e1 := (hok b _ q).1
          have e2 := (hok' b _ (un.frzs b _ _ q)).1
          rw [e] at e1
          cases e1
          exact e2
      | _ => exact h.elim
  cases hk : K.lookup a with
  | some o =>
    have e := KX a o hk
    rw [ha] at e
    cases e
    exact core (fun _ => none) (fun b u z => by cases z) (.inr ⟨_, vs.toArray, _, hk, rfl, rfl, rfl, by rw [List.size_toArray, hi.length]; exact hl, by simpa using rv⟩) (fun b u z => by cases z)
  | none =>
    refine core (fun b => if b = a then some (.frz { cls := .type "list", data := .seq vs.toArray } (.lst (ns.map V.int))) else none) (fun b u z => ?_) (.inl (.inr ⟨{ cls := .type "list", data := .seq vs.toArray }, if_pos rfl⟩)) (fun b u z => ?_)
    · skip
      by_cases hb : b = a
      · rw [if_pos hb] at z
        exact ⟨hb, (Option.some.inj z).symm, hk⟩
      · rw [if_neg hb] at z
        cases z
    · dsimp only at z
      by_cases hb : b = a
      · rw [if_pos hb] at z
        cases z
        subst hb
        exact ⟨ha, by rw [List.length_map]; exact hl, vs, _, rv, ha⟩
      · rw [if_neg hb] at z
        cases z
theorem walk_G {l : PySem.W.OpenLaw} {n k : Nat} {q : Program} {loose : List Str} {XP : (Str → Option Value) → Heap → Prop} {YP : World → Heap → Prop} {d : DefRec} {x : Str}
    (hn : l.most = some n) (hn2 : n ≤ sizeLine) (hdf : d.params.defaults = []) (hr : Room k callerA)
    (F : ∀ (w : World) (mg : Str → Option Value) (fa : Addr) (h : Heap), YP w h → h.Ns mainGlobals mg → mg d.name = some (.ref fa) →
      ∃ (K : PySem.W.Frag) (fd : FuncData) (sp : Sp), K.In h ∧ (∀ (s : Shared) (u : Value), BindsTo s fd ⟨[u], []⟩ [(x, u)]) ∧
        (∀ (H : Hp) (a : Addr) (ns : List Int), ns.length ≤ n → SqL K H a (ns.map V.int) → sp [.ref a] H (fun v _ => v = .bl true) fun _ _ _ => False) ∧
        ∀ base : Heap, K.In base → base.Ns mainGlobals mg → FnG l.prog w K mg base CX0 k fa fd [x] sp) :
    PySem.W.WalkO q loose XP YP l.row.toRowW d [] (fun f vs => PySem.call f vs) := by
  refine Att.attach_call hn hdf fun w s₀ s₁ mg mb fa o pm cd doc a vs ns G Y ho hd hcd hmg hobj hints hlen hg => ?_
  obtain ⟨K, fd, sp, KX, hb, hsp, hF⟩ := F w mg fa _ Y G.T.g hmg
  exact end_call KX G.T.g G.T.b G.T.builtins G.T.nolimit hg hobj hints (Nat.le_trans hlen hn2) hr hF hb (fun H hS => hsp H a ns hlen hS)
end Wb

namespace Wb
open PySem PySem.Spec PyProof.Rows L2
open Evl (Ex Ex.refl Ex.trans Ex.new)
/-! ### data, or the one written dict -/
def oD : PyData := .dict [(.int 1, .int 2)]
def Od (K : PySem.W.Frag) (H : Hp) (v : V) (d : PyData) : Prop := Dp K H v d ∨ (d = oD ∧ ∃ a, v = .ref a ∧ H a = some (.dK [(Sum.inl 1, .int 2)]))
section
variable {K : PySem.W.Frag} {H H' : Hp} {v : V} {d : PyData}
theorem odMono (e : Ex H H') (h : Od K H v d) : Od K H' v d := by
  rcases h with h | ⟨h1, a, h2, h3⟩
  · exact .inl (dpMono e h)
  · exact .inr ⟨h1, a, h2, e _ _ h3⟩
theorem odTy (h : Od K H v d) : TyX K H v (.type (tyD d)) := by
  rcases h with h | ⟨rfl, a, rfl, h3⟩
  · exact dpTy h
  · exact .base (.dK h3)
mutual
theorem dpNoD : ∀ {d : PyData} {v : V}, Dp K H v d → d.hasDict = false
  | .none, _, _ => by simp only [PyData.hasDict]
  | .bool _, _, _ => by simp only [PyData.hasDict]
  | .int _, _, _ => by simp only [PyData.hasDict]
  | .str _, _, _ => by simp only [PyData.hasDict]
  | .list ds, _, h => by
    cases h with
    | lst hs ha => simp only [PyData.hasDict]; exact dpNoDA ha
  | .tuple ds, _, h => by
    cases h with
    | tup hs ha => simp only [PyData.hasDict]; exact dpNoDA ha
  | .dict _, _, h => by cases h
theorem dpNoDA : ∀ {ds : List PyData} {vs : List V}, DpAll K H vs ds → PyData.hasDictAll ds = false
  | [], _, _ => by simp only [PyData.hasDictAll]
  | d :: ds, _, h => by
    cases h with
    | cons h1 h2 => simp only [PyData.hasDictAll]; rw [dpNoD h1, dpNoDA h2]; rfl
end
end
/-- repr(x) -/
def qReprD (K : PySem.W.Frag) : List V → Hp → VK → Prop := fun xs H Q => ∃ v d, xs = [v] ∧ Od K H v d ∧ d.showable = true ∧ d.shown.length ≤ sizeLine ∧ d.depth ≤ 10 ∧ Q (.str d.shown) H
theorem call_reprD {X : Cx} (hg : X.A.guards = some []) (hu : X.A.units + 64 < cLine) : CallR X (.builtin "repr") (qReprD X.K) := by
  intro pins s σ H xs us Q I r h
  obtain ⟨v, d, rfl, hd, hs, hz, hdep, q⟩ := h
  obtain ⟨u, rfl, ru⟩ := vals1 r
  have big : ∀ (a : Addr) (as : List Addr), u = .ref a → Reads s.heap u d as → (d.hasDict = true → sysModules ∉ as) → wpAny (model X.prog X.w) X.A (call (.builtin "repr") [u]) (EP X pins σ Q) X.xe s := by
    intro a as eu rd hsm
    subst eu
    refine repr_of_reads' rd hs hsm hg (by omega) (fun _ _ e => e) (fun h' u tk hk => ?_) hz
    exact ⟨.str d.shown, H, I.kept (t' := tk) hk, ⟨_, rfl⟩, q⟩
  rcases hd with hd | ⟨rfl, a, rfl, ha⟩
  · obtain ⟨as, rd⟩ := Dp.reads I d v u hd ru
    have hno := dpNoD hd
    cases d with
    | none =>
      cases hd
      cases ru
      exact PySem.P.repr_of_none ⟨.str _, H, I.tok _, ⟨_, rfl⟩, q⟩
    | bool b =>
      cases hd
      cases ru
      exact PySem.P.repr_of_bool ⟨.str _, H, I.tok _, ⟨_, rfl⟩, q⟩
    | int i =>
      cases hd
      obtain ⟨t, rfl⟩ := ru
      exact PySem.P.repr_of_int (of_decide_eq_true hs) ⟨.str _, H, I.tok _, ⟨_, rfl⟩, q⟩
    | str x =>
      cases hd
      obtain ⟨t, rfl⟩ := ru
      exact PySem.P.repr_of_str ⟨.str _, H, I.tok _, ⟨_, rfl⟩, q⟩ hz
    | list ds =>
      cases hd with
      | lst h1 h2 =>
        cases ru
        exact big _ as rfl rd (PyData.noDict_hsm hno)
    | tuple ds =>
      cases hd with
      | tup h1 h2 =>
        cases ru
        exact big _ as rfl rd (PyData.noDict_hsm hno)
    | dict _ => cases hd
  · cases ru
    obtain ⟨_, hsys, vs, kv, o, es, ep, ho, hx, hde, hk, hp, _⟩ := I.hok a _ ha
    cases kv with
    | @cons p q0 ps qs rel tl =>
      cases tl
      obtain ⟨k, u⟩ := q0
      obtain ⟨ek, ru⟩ := rel
      cases ek
      obtain ⟨t2, rfl⟩ := (show ∃ t, u = Value.int 2 t from ru)
      obtain ⟨l⟩ := es
      have hp' : Pairs (mixKind X.prog X.w) l [(Sum.inl 1, Value.int 2 t2)] := hp
      cases hp' with
      | cons h1 h2 h3 =>
        cases h3
        rename_i e
        rcases keyIs_shape (k := Sum.inl 1) (v := e.key) h1 with ⟨i, t, e1, e2⟩ | ⟨x, t, e1, e2⟩
        · cases e1
          refine big a _ rfl (Reads.dict (kvs := [(.int 1, .int 2)]) ho hx.1 hde (as := []) (bs := []) ?_ ?_) fun _ => ?_
          · show ReadsAll s.heap [e.key] [.int 1] []
            rw [e2]
            exact .cons (.int 1 t) .nil
          · show ReadsAll s.heap [e.val] [.int 2] []
            rw [h2]
            exact .cons (.int 2 t2) .nil
          · intro z
            have z' : sysModules ∈ [a] := z
            rcases List.mem_singleton.mp z' with rfl
            simp at hsys
        · cases e1
end Wb

namespace Wb
open PySem PySem.Spec PyProof.Rows L2
open Evl (Ex Ex.refl Ex.trans Ex.new)
local macro_rules | `(tactic| wtm_at "dp") => `(tactic| first | with_reducible assumption | with_reducible exact Dp.int _ | with_reducible exact Dp.bl _ | with_reducible exact Dp.str _ | with_reducible exact Dp.non | ((with_reducible refine' dpMono ?dme (by with_reducible assumption)); (case dme => wtm_at "ex")) | ((with_reducible refine' Dp.tup (Evl.st_of ?dph) ?dpa); (case dph => wtm_at "hs"); (case dpa => wtm_at "dpa")) | ((with_reducible refine' Dp.lst (Evl.sq_of ?dph) ?dpa); (case dph => wtm_at "hs"); (case dpa => wtm_at "dpa")))
local macro_rules | `(tactic| wtm_at "dpa") => `(tactic| first | with_reducible exact DpAll.nil | ((with_reducible refine' DpAll.cons ?dp1 ?dp2); (case dp1 => wtm_at "dp"); (case dp2 => wtm_at "dpa")) | with_reducible assumption | ((with_reducible refine' dpMonoA ?dme (by with_reducible assumption)); (case dme => wtm_at "ex")))
local macro_rules | `(tactic| wtm_at "sz") => `(tactic| first | with_reducible assumption | ((with_reducible refine' sz_mul ?sz1 ?sz2); (case sz1 => wtm_at "sz"); (case sz2 => wtm_at "sz")) | ((with_reducible refine' sz_add ?sz1 ?sz2); (case sz1 => wtm_at "sz"); (case sz2 => wtm_at "sz")) | ((with_reducible refine' sz_sub ?sz1 ?sz2); (case sz1 => wtm_at "sz"); (case sz2 => wtm_at "sz")) | ((with_reducible refine' sz_neg ?sz1); (case sz1 => wtm_at "sz")) | ((with_reducible refine' sz_div ?sz1); (case sz1 => wtm_at "sz")) | ((with_reducible refine' sz_fdiv ?sz1); (case sz1 => wtm_at "sz")) | exact sz_lit (by decide) | wtm_at "sz2")
local macro_rules | `(tactic| wtm_at "szb") => `(tactic| first | with_reducible assumption | ((with_reducible refine' sz_mono ?szb1 ?szb2); (case szb1 => wtm_at "sz"); (case szb2 => decide)))
local macro_rules | `(tactic| wtm_at "nz") => `(tactic| first | assumption | decide | omega)
local macro_rules | `(tactic| wtm_at "shaped") => `(tactic| first | rfl | decide)
local macro_rules | `(tactic| wtm_at "sset") => `(tactic| ((dsimp only [L2.wipe, List.set, List.set_cons_zero, List.set_cons_succ]) <;> exact rfl))
local macro_rules | `(tactic| wtm_at "nrm") => `(tactic| dsimp only [L2.start, L2.wipe, List.set, List.append, List.map, List.map_cons, List.map_nil, List.length_cons, List.length_nil, Nat.reduceAdd, Nat.reduceSub, List.reduceReplicate, List.replicate, List.cons_append, List.nil_append, List.set_cons_zero, List.set_cons_succ])
local macro_rules | `(tactic| wtm_at "st") => `(tactic| first
  | ((with_reducible refine' i_var (v := ?u0) ?u1 ?uq); (case u1 => exact rfl))
  | ((with_reducible refine' i_nameN ?u0 ?uq); (case u0 => wtm_at "sset"))
  | (with_reducible refine' i_op ?uq)
  | (with_reducible refine' i_c ?uq)
  | (with_reducible refine' i_I0 ?uq)
  | ((with_reducible refine' i_ixTI (i := ?u0) ?u1 ?u2 ?u3 ?uq); (case u1 => wtm_at "dp"); (case u2 => wtm_at "ex"); (case u3 => exact rfl))
  | ((with_reducible refine' i_ixT (d := ?u0) ?u1 ?u2 ?u3 (fun xu hxu => ?uq)); (case u1 => wtm_at "dp"); (case u2 => wtm_at "ex"); (case u3 => exact rfl))
  | ((with_reducible refine' i_mul ?u0 ?u1 ?u2 ?uq); (case u0 => wtm_at "sz"); (case u1 => wtm_at "sz"); (case u2 => first | decide | omega))
  | (with_reducible refine' i_seq ?uq)
  | (with_reducible refine' i_asg ?uq)
  | (with_reducible refine' i_ret ?uq)
  | (with_reducible refine' i_ifs ?uq)
  | (with_reducible refine' i_drop ?uq)
  | (with_reducible refine' i_next ?uq)
  | (with_reducible refine' i_cons ?uq)
  | (with_reducible refine' i_nil ?uq)
  | (with_reducible refine' i_cl ?uq)
  | (with_reducible refine' i_cb ?uq)
  | (with_reducible refine' i_tup ?uq)
  | (with_reducible refine' i_lst ?uq)
  | ((with_reducible refine' i_mkT ?u0 (fun np nH nhe nhp => ?uq)); (case u0 => exact Nat.le_of_ble_eq_true rfl))
  | (with_reducible refine' i_test ?uq)
  | (with_reducible refine' i_B ?uq)
  | (with_reducible refine' i_k ?uq)
  | (with_reducible refine' i_and ?uq)
  | (with_reducible refine' i_or ?uq)
  | (with_reducible refine' i_not ?uq)
  | (with_reducible refine' i_andV ?uq)
  | (with_reducible refine' i_orV ?uq)
  | (with_reducible refine' i_notV ?uq)
  | (with_reducible refine' i_if ?uq)
  | (with_reducible refine' i_un ?uq)
  | (with_reducible refine' i_U ?uq)
  | (with_reducible refine' i_iteT ?uq)
  | (with_reducible refine' i_iteF ?uq)
  | ((with_reducible refine' i_iteTr ?u0 ?uq); (case u0 => first | with_reducible rfl | decide | (simp only [dIsInt, dIsBool, dIsTup, dIsStr, dIsLst, Bool.not_true, Bool.not_false]; done)))
  | ((with_reducible refine' i_iteFr ?u0 ?uq); (case u0 => first | with_reducible rfl | decide | (simp only [dIsInt, dIsBool, dIsTup, dIsStr, dIsLst, Bool.not_true, Bool.not_false]; done)))
  | (with_reducible refine' i_ite (fun hif => ?uqa) (fun hif => ?uqb))
  | (with_reducible refine' i_iteN (fun hif => ?uqa) (fun hif => ?uqb))
  | (with_reducible refine' i_iteBN (fun hif => ?uqa) (fun hif => ?uqb))
  | (with_reducible refine' i_iteB (fun hif => ?uqa) (fun hif => ?uqb))
  | ((with_reducible refine' i_modN ?u0 ?uq); (case u0 => wtm_at "nz"))
  | ((with_reducible refine' i_fdX ?u0 ?u1 ?u2 ?uq); (case u0 => wtm_at "nz"); (case u1 => wtm_at "sz"); (case u2 => first | decide | omega))
  | ((with_reducible refine' i_pow ?u0 ?uq); (case u0 => exact ⟨by decide, by decide +kernel⟩))
  | (with_reducible refine' i_eqI ?uq)
  | (with_reducible refine' i_neI ?uq)
  | (with_reducible refine' i_gcd ?uq)
  | (with_reducible refine' i_qabs ?uq)
  | (with_reducible refine' i_qint ?uq)
  | (with_reducible refine' i_qintB ?uq)
  | (with_reducible refine' i_qmax2 ?uq)
  | (with_reducible refine' i_qmin2 ?uq)
  | (with_reducible refine' i_isB ?uq)
  | (with_reducible refine' i_notB ?uq)
  | (with_reducible refine' i_chain ?uq)
  | (with_reducible refine' i_qisN ?uq)
  | (with_reducible refine' i_qnotN ?uq)
  | (with_reducible refine' i_yes ?uq)
  | (with_reducible refine' i_par ?uq)
  | (with_reducible refine' i_par3 ?uq)
  | ((with_reducible refine' i_par2 ?u0 ?uq); (case u0 => wtm_at "sset"))
  | ((with_reducible refine' i_par33 ?u0 ?uq); (case u0 => wtm_at "sset"))
  | ((with_reducible refine' i_ixLI (i := ?u0) ?u1 ?u2 ?u3 ?uq); (case u1 => wtm_at "dp"); (case u2 => wtm_at "ex"); (case u3 => exact rfl))
  | ((with_reducible refine' i_ixL (d := ?u0) ?u1 ?u2 ?u3 (fun xu hxu => ?uq)); (case u1 => wtm_at "dp"); (case u2 => wtm_at "ex"); (case u3 => exact rfl))
  | ((with_reducible refine' i_qlenT ?u0 ?uq); (case u0 => wtm_at "dp"))
  | ((with_reducible refine' i_qlenL ?u0 ?uq); (case u0 => wtm_at "dp"))
  | ((with_reducible refine' i_gtup ?u0 ?u1 ?u2 (fun gvs gdp => ?uq)); (case u0 => wtm_at "dp"); (case u1 => wtm_at "ex"); (case u2 => exact rfl))
  | ((with_reducible refine' i_glst ?u0 ?u1 ?u2 (fun gvs gdp => ?uq)); (case u0 => wtm_at "dp"); (case u1 => wtm_at "ex"); (case u2 => exact rfl))
  | ((with_reducible refine' i_gconsI ?u0 (fun gr gh => ?uq)); (case u0 => with_reducible assumption))
  | ((with_reducible refine' i_gconsA ?u0 (fun gv gr gh1 gh2 => ?uq)); (case u0 => with_reducible assumption))
  | ((with_reducible refine' i_gnilA ?u0 ?uq); (case u0 => with_reducible assumption))
  | ((with_reducible refine' i_isiI ?u0 ?uq); (case u0 => wtm_at "dp"))
  | ((with_reducible refine' i_isiB ?u0 ?uq); (case u0 => wtm_at "dp"))
  | ((with_reducible refine' i_isiT ?u0 ?uq); (case u0 => wtm_at "dp"))
  | ((with_reducible refine' i_isiS ?u0 ?uq); (case u0 => wtm_at "dp"))
  | ((with_reducible refine' i_isiL ?u0 ?uq); (case u0 => wtm_at "dp"))
  | ((with_reducible refine' i_eqD ?u0 ?u1 ?u2 ?u3 ?uq); (case u0 => wtm_at "dp"); (case u1 => wtm_at "dp"); (case u2 => wtm_at "shaped"); (case u3 => wtm_at "shaped"))
  | ((with_reducible refine' i_neD ?u0 ?u1 ?u2 ?u3 ?uq); (case u0 => wtm_at "dp"); (case u1 => wtm_at "dp"); (case u2 => wtm_at "shaped"); (case u3 => wtm_at "shaped"))
  | wtm_at "st2"
  | wtm_at "use")
local macro_rules | `(tactic| wtm_at "go") => `(tactic| repeat' (wtm_at "st"))
local macro_rules | `(tactic| wtm_at "go0") => `(tactic| ((try dsimp only [L2.cxOf, L2.Cx.nox, L2.Cx.wish, L2.Cx.tr, L2.Cx.blk]); (try wtm_at "nrm"); wtm_at "go"))
local macro_rules | `(tactic| wtm_at "fin") => `(tactic| ((try dsimp only); first | with_reducible assumption | assumption | ((with_reducible refine' Ret.use ?rur ?rue ?rud); (case rur => with_reducible assumption); (case rue => wtm_at "ex"); (case rud => wtm_at "dp"))))
local macro_rules | `(tactic| wtm_at "ex") => `(tactic| first | with_reducible assumption | with_reducible exact Ex.refl _ | with_reducible exact ex_hid | ((with_reducible refine' Ex.trans ?exe (by with_reducible assumption)); (case exe => wtm_at "ex")) | ((with_reducible refine' Ex.trans ?exe (hid_ex (by with_reducible assumption))); (case exe => wtm_at "ex")) | ((with_reducible refine' Ex.trans ?exe ex_hid); (case exe => wtm_at "ex")))
local macro_rules | `(tactic| wtm_at "bag") => `(tactic| first | with_reducible assumption | ((with_reducible refine' Bag.mono ?bgm (by with_reducible assumption)); (case bgm => wtm_at "bag")))
local macro_rules | `(tactic| wtm_at "hs") => `(tactic| first | with_reducible assumption | ((with_reducible refine' hid_tup ?hb ?hp); (case hp => with_reducible assumption); (case hb => wtm_at "bag")) | ((with_reducible refine' hid_new ?hb ?hn ?hp); (case hp => with_reducible assumption); (case hn => with_reducible assumption); (case hb => wtm_at "bag")) | ((with_reducible refine' ex_at ?exe (by with_reducible assumption)); (case exe => wtm_at "ex")))
local macro_rules | `(tactic| wtm_at "st2") => `(tactic| first
  | ((with_reducible refine' i_mulC ?u0 ?uq); (case u0 => first | exact cmul_l (by decide) | exact cmul_r (by decide)))
  | ((with_reducible refine' i_ixLr (v := ?u0) ?u1 ?u2 ?uq); (case u1 => with_reducible assumption); (case u2 => exact rfl))
  | (with_reducible refine' i_sub ?uq)
  | ((with_reducible refine' i_mkL ?u0 (fun np nH nfr nhe nhp => ?uq)); (case u0 => exact Nat.le_of_ble_eq_true rfl))
  | ((with_reducible refine' i_setL (n := ?u0) ?u1 ?u2 (fun sH sh se => ?uq)); (case u1 => with_reducible assumption); (case u2 => exact rfl))
  | (with_reducible refine' i_sl ?uq)
  | (with_reducible refine' i_nopart ?uq)
  | (with_reducible refine' i_part ?uq)
  | (with_reducible refine' i_part1 ?uq))
local macro_rules | `(tactic| wtm_at "sz2") => `(tactic| ((with_reducible refine' sz_fmod ?sz1 ?sz2); (case sz1 => wtm_at "nz"); (case sz2 => wtm_at "sz")))
local macro_rules | `(tactic| wtm_at "stb") => `(tactic| first
  | ((with_reducible refine' i_mkTB ?u0 ?u1 (fun np nH nhe nhb nhp => ?uq)); (case u0 => exact Nat.le_of_ble_eq_true rfl); (case u1 => wtm_at "bag"))
  | ((with_reducible refine' i_mkLB ?u0 ?u1 (fun np nH nfr nhe nhb nhp => ?uq)); (case u0 => exact Nat.le_of_ble_eq_true rfl); (case u1 => wtm_at "bag"))
  | wtm_at "st")
local macro_rules | `(tactic| wtm_at "gob") => `(tactic| repeat' (wtm_at "stb"))
local macro_rules | `(tactic| wtm_at "gob0") => `(tactic| ((try dsimp only [L2.cxOf, L2.Cx.nox, L2.Cx.wish, L2.Cx.tr, L2.Cx.blk]); (try wtm_at "nrm"); wtm_at "gob"))
structure G (mg : Str → Option Value) : Prop where
  f_len : mg "len" = none
  f_abs : mg "abs" = none
  f_int : mg "int" = none
  f_bool : mg "bool" = none
  f_tuple : mg "tuple" = none
  f_list : mg "list" = none
  f_isinstance : mg "isinstance" = none
  f_all : mg "all" = none
  f_max : mg "max" = none
  f_min : mg "min" = none
  f_sum : mg "sum" = none
  f_range : mg "range" = none
  f_repr : mg "repr" = none
  f_str : mg "str" = none
  f_super : mg "super" = none
  c_max : ∃ t, mg "MAX_NAME" = some (.int 20 t)
  b_gcd : mg "gcd" = some (.builtin "math.gcd")
abbrev FnP (K : PySem.W.Frag) (x : Str) (st : Stmt) (f : Addr) (fd : FuncData) : Prop := FunD K x x (defArgs st) (defBody st) (defScope st) [] [] f fd
abbrev pt (x y w : Int) : PyData := .tuple [.int x, .int y, .int w]
abbrev B0 : Nat := 400
def sgn (s : Int) : Int := if 0 < s then 1 else if s < 0 then -1 else 0
abbrev det (x1 y1 w1 x2 y2 w2 x3 y3 w3 : Int) : Int := x1 * (y2 * w3 - y3 * w2) - y1 * (x2 * w3 - x3 * w2) + w1 * (x2 * y3 - x3 * y2)
@[reducible] def isInt : PyData → Bool
  | .int _ => true
  | _ => false
/-- the common divisor, with the sign of the bottom -/
def sg (g w : Int) : Int := if w < 0 then -gd g w else gd g w
theorem sg_ne {g w : Int} (h : w ≠ 0) : sg g w ≠ 0 := by
  have h1 : gd g w ≠ 0 := by
    unfold gd
    have := Nat.gcd_pos_of_pos_right (m := g.natAbs) (Int.natAbs_pos.mpr h)
    omega
  unfold sg
  split <;> omega
theorem gd_abs {g w : Int} (h : w ≠ 0) : (gd g w).natAbs ≤ w.natAbs := by
  unfold gd
  rw [Int.natAbs_natCast]
  exact Nat.gcd_le_right _ (Int.natAbs_pos.mpr h)
theorem sg_abs (g w : Int) : (sg g w).natAbs = (gd g w).natAbs := by
  unfold sg
  split
  · rw [Int.natAbs_neg]
  · rfl
theorem sz_sg {a : Nat} {g w : Int} (ha : Sz a w ∧ w ≠ 0) : Sz a (sg g w) := sz_le ha.1 (by rw [sg_abs]; exact gd_abs ha.2)
abbrev rp (x y w : Int) : PyData := pt (x.fdiv (sg (gd x y) w)) (y.fdiv (sg (gd x y) w)) (w.fdiv (sg (gd x y) w))
abbrev rf (x w : Int) : PyData := .tuple [.int (x.fdiv (sg x w)), .int (w.fdiv (sg x w))]
section
variable {P : Program} {w : World} {K : PySem.W.Frag} {mg : Str → Option Value} {base : Heap} {H H' : Hp} {Q : VK} {E : XK} {v1 v2 v3 v4 : V} {x1 y1 w1 x2 y2 w2 x3 y3 w3 x4 y4 w4 : Int}
def sp_is_integer (K : PySem.W.Frag) : Sp := A1 fun v1 H Q => ∃ d, Dp K H v1 d ∧ Q (.bl (isInt d)) H
abbrev s_is_integer : Stmt := top 5
theorem sc_is_integer : FnScope ["value"] ["value"] (defScope s_is_integer) := ⟨rfl, rfl, rfl, by decide +kernel, rfl, by decide +kernel, by decide +kernel⟩
theorem ok_is_integer {f : Addr} {fd : FuncData} (F : FnP K "is_integer" s_is_integer f fd) (g : G mg)   : FnOk P w K mg base CX0 1 f fd ["value"] (sp_is_integer K) := by
  have nd := sc_is_integer.nd
  refine F.ok sc_is_integer (fun vs H Q E h => h.len) (fun cdv A outer s H vs Q E hr h => ?_)
  obtain ⟨v1, rfl, h⟩ := h
  refine ⟨_, PSs.nox (pss_one (ps_ret (pe_and (pe_callB call_isi (by rfl) g.f_isinstance boot_isinstance (pa_cons (pv 0) (pa_cons (pe_bltn (v := .ty "int") (by rfl) g.f_int boot_int rfl) pa_nil))) (pe_one (pe_not (pe_callB call_isi (by rfl) g.f_isinstance boot_isinstance (pa_cons (pv 0) (pa_cons (pe_bltn (v := .ty "bool") (by rfl) g.f_bool boot_bool rfl) pa_nil)))))))), ?_⟩
  obtain ⟨d, hd, q⟩ := h
  cases d <;> wtm_at "go0" <;> wtm_at "fin"
theorem use_is_integer {d : PyData} (h : Dp K H v1 d) (q : Q (.bl (isInt d)) H) : sp_is_integer K [v1] H Q E := ⟨_, rfl, _, h, q⟩
def sp_shared_of (K : PySem.W.Frag) : Sp := A2 fun v1 v2 H Q => ∃ a b, v1 = .int a ∧ v2 = .int b ∧ Q (.int (gd a b)) H
theorem gd_step (a b : Int) : gd b (a.fmod b) = gd a b := by
  unfold gd
  congr 1
  have e : (Nat.gcd b.natAbs (a.fmod b).natAbs) = Nat.gcd b.natAbs a.natAbs := by
    have h : (Int.gcd b (a.fmod b)) = Int.gcd b a := by
      rw [Int.fmod_def, Int.sub_eq_add_neg, ← Int.mul_neg]
      exact Int.gcd_add_mul_left_right b a _
    exact h
  rw [e, Nat.gcd_comm]
abbrev s_shared_of : Stmt := top 7
theorem sc_shared_of : FnScope ["one", "other"] ["one", "other"] (defScope s_shared_of) := ⟨rfl, rfl, rfl, by decide +kernel, rfl, by decide +kernel, by decide +kernel⟩
theorem ok_shared_of {f : Addr} {fd : FuncData} (F : FnP K "shared_of" s_shared_of f fd) (g : G mg)   : FnOk P w K mg base CX0 1 f fd ["one", "other"] (sp_shared_of K) := by
  have nd := sc_shared_of.nd
  refine F.ok sc_shared_of (fun vs H Q E h => h.len) (fun cdv A outer s H vs Q E hr h => ?_)
  obtain ⟨v1, v2, rfl, h⟩ := h
  refine ⟨_, PSs.nox (pss_cons (ps_while PassesOwn.never (pt_cmpR op_ne (pv 1) pe_int (nomark _)) (pss_one (ps_par (i := 0) (j := 1) (by rfl) nd rfl rfl (by decide) rfl rfl (pa_cons (pv 1) (pa_cons (pe_op op_modN (pv 0) (pv 1)) pa_nil)) (by rfl)))) (pss_one (ps_ret (pe_callB call_qabs (by rfl) g.f_abs boot_abs (pa_cons (pv 0) pa_nil))))), ?_⟩
  obtain ⟨a, b, rfl, rfl, q⟩ := h
  try dsimp only [L2.cxOf, L2.Cx.nox, L2.Cx.wish]
  refine i_seq (i_tw (fun m σ H' => ∃ a' b' : Int, m = b'.natAbs ∧ σ = [some (.int a'), some (.int b')] ∧ H' = H ∧ gd a' b' = gd a b) b.natAbs ⟨a, b, rfl, rfl, rfl, rfl⟩ ?_)
  rintro m σ H' ⟨a', b', rfl, rfl, rfl, hg⟩
  wtm_at "go"
  · refine ⟨fun σ2 H2 => σ2 = [some (.int b'), some (.int (a'.fmod b'))] ∧ H2 = H', ?_, ?_⟩
    · rintro σ2 H2 ⟨rfl, rfl⟩
      refine ⟨(a'.fmod b').natAbs, ?_, b', a'.fmod b', rfl, rfl, rfl, (gd_step a' b').trans hg⟩
      have hb : b' ≠ 0 := by assumption
      exact fmod_lt a' hb
    · wtm_at "go"
      exact ⟨rfl, rfl⟩
  · dsimp only
    have hb : b' = 0 := by assumption
    subst hb
    have e : (if a' < 0 then -a' else a') = gd a b := by
      rw [← hg]
      unfold gd
      rw [Int.natAbs_zero, Nat.gcd_zero_right]
      split <;> omega
    rw [e]
    exact q
theorem use_shared_of {a b : Int} (q : Q (.int (gd a b)) H) : sp_shared_of K [.int a, .int b] H Q E := ⟨_, _, rfl, _, _, rfl, rfl, q⟩
def sp_reduced (K : PySem.W.Frag) : Sp := A2 fun v1 v2 H Q => ∃ x w : Int, v1 = .int x ∧ v2 = .int w ∧ w ≠ 0 ∧ Sz 9000 w ∧ Ret K (rf x w) H Q
abbrev s_reduced : Stmt := top 11
theorem sc_reduced : FnScope ["top", "bottom", "shared"] ["top", "bottom"] (defScope s_reduced) := ⟨rfl, rfl, rfl, by decide +kernel, rfl, by decide +kernel, by decide +kernel⟩
theorem ok_reduced {f : Addr} {fd : FuncData} (F : FnP K "reduced" s_reduced f fd) (g : G mg)   : FnOk P w K mg base CX0 1 f fd ["top", "bottom"] (sp_reduced K) := by
  have nd := sc_reduced.nd
  refine F.ok sc_reduced (fun vs H Q E h => h.len) (fun cdv A outer s H vs Q E hr h => ?_)
  obtain ⟨v1, v2, rfl, h⟩ := h
  refine ⟨_, PSs.nox (pss_cons (ps_set (i := 2) nd rfl (Or.inl rfl) (pe_callBfun cr_gcd (by rfl) g.b_gcd (pa_cons (pv 0) (pa_cons (pv 1) pa_nil)))) (pss_cons (ps_if (pt_cmpR op_lt (pv 1) pe_int (nomark _)) (pss_one (ps_set (i := 2) nd rfl (Or.inl rfl) (pe_un un_neg (pv 2)))) pss_nil) (pss_one (ps_ret (pe_tup (pa_cons (pe_op op_fdivX (pv 0) (pv 2)) (pa_cons (pe_op op_fdivX (pv 1) (pv 2)) pa_nil))))))), ?_⟩
  obtain ⟨x, w', rfl, rfl, hw, sw, q⟩ := h
  have s1 : Sz 9000 (gd x w') := sz_le sw (gd_abs hw)
  have s2 : Sz 9000 (-gd x w') := sz_neg s1
  have n1 : gd x w' ≠ 0 := by
    have := sg_ne (g := x) hw
    unfold sg at this
    split at this <;> omega
  have n2 : -gd x w' ≠ 0 := by omega
  wtm_at "go0"
  all_goals (simp only [rf, sg, *, if_true, if_false] at q)
  all_goals wtm_at "fin"
theorem use_reduced {x w : Int} (hw : w ≠ 0) (sw : Sz 9000 w) (q : ∀ v H2, Ex H H2 → Dp K H2 v (rf x w) → Q v H2) : sp_reduced K [.int x, .int w] H Q E := ⟨_, _, rfl, _, _, rfl, rfl, hw, sw, q⟩
local macro_rules | `(tactic| wtm_at "use") => `(tactic| (with_reducible refine' use_shared_of ?uq))
local macro_rules | `(tactic| wtm_at "use") => `(tactic| ((with_reducible refine' use_is_integer ?u0 ?uq); (case u0 => wtm_at "dp")))
local macro_rules | `(tactic| wtm_at "use") => `(tactic| ((with_reducible refine' use_reduced ?u0 ?u1 (fun ur uH ue ud => ?uq)); (case u0 => wtm_at "nz"); (case u1 => wtm_at "szb")))
abbrev fq (a b : Int) : PyData := .tuple [.int a, .int b]
def isFrac : PyData → Bool
  | .tuple [.int a, .int b] => decide (1 ≤ b) && decide (gd a b = 1)
  | _ => false
theorem len2 {α : Type} {ds : List α} (h : (ds.length : Int) = 2) : ∃ a b, ds = [a, b] := by
  match ds, h with
  | [a, b], _ => exact ⟨a, b, rfl⟩
  | [], h => simp at h
  | [_], h => simp at h
  | _ :: _ :: _ :: r, h =>
    simp only [List.length_cons] at h
    omega
theorem isFrac_len {ds : List PyData} (h : ¬ (ds.length : Int) = 2) : isFrac (.tuple ds) = false := by
  unfold isFrac
  split
  · rename_i e
    cases e
    exact absurd rfl h
  · rfl
theorem isFrac_a {a b : PyData} (h : isInt a = false) : isFrac (.tuple [a, b]) = false := by
  unfold isFrac
  split
  · rename_i e
    cases e
    cases h
  · rfl
theorem isFrac_b {a b : PyData} (h : isInt b = false) : isFrac (.tuple [a, b]) = false := by
  unfold isFrac
  split
  · rename_i e
    cases e
    cases h
  · rfl
theorem isInt_ex {d : PyData} (h : isInt d = true) : ∃ i, d = .int i := by
  cases d with
  | int i => exact ⟨i, rfl⟩
  | _ => cases h
theorem i_isO {T : String} {b : Bool} {d : PyData} {v : V} (h : Od K H v d) (e : kitB (tyD d) T = some b) (q : Q (.bl b) H) : rIsi K [v, .ty T] H Q := ⟨v, .ty T, _, _, b, rfl, .ty T, odTy h, kit_ty e, q⟩
theorem i_isOT {d : PyData} {v : V} (h : Od K H v d) (q : Q (.bl (dIsTup d)) H) : rIsi K [v, .ty "tuple"] H Q := i_isO h (by cases d <;> (dsimp only [tyD, dIsTup]; decide +kernel)) q
local macro_rules | `(tactic| wtm_at "st2") => `(tactic| ((with_reducible refine' i_isOT ?u0 ?uq); (case u0 => with_reducible assumption)))
def sp_is_fraction (K : PySem.W.Frag) : Sp := A1 fun v1 H Q => ∃ d, Od K H v1 d ∧ Ret K (.bool (isFrac d)) H Q
abbrev s_is_fraction : Stmt := top 8
theorem sc_is_fraction : FnScope ["value"] ["value"] (defScope s_is_fraction) := ⟨rfl, rfl, rfl, by decide +kernel, rfl, by decide +kernel, by decide +kernel⟩
theorem ok_is_fraction {f : Addr} {fd : FuncData} (F : FnP K "is_fraction" s_is_fraction f fd) (g : G mg) (c_is_integer : Cl P w K mg base 1 "is_integer" (sp_is_integer K)) (c_shared_of : Cl P w K mg base 1 "shared_of" (sp_shared_of K))  : FnOk P w K mg base CX0 2 f fd ["value"] (sp_is_fraction K) := by
  have nd := sc_is_fraction.nd
  refine F.ok sc_is_fraction (fun vs H Q E h => h.len) (fun cdv A outer s H vs Q E hr h => ?_)
  obtain ⟨v1, rfl, h⟩ := h
  refine ⟨_, PSs.nox (pss_cons (ps_if (PW.pt (pw_or (pt_not (pt_val (pe_callB call_isi (by rfl) g.f_isinstance boot_isinstance (pa_cons (pv 0) (pa_cons (pe_bltn (v := .ty "tuple") (by rfl) g.f_tuple boot_tuple rfl) pa_nil))))) (pw_or1 (pt_cmpR op_ne (pe_callB call_qlen (by rfl) g.f_len boot_len (pa_cons (pv 0) pa_nil)) pe_int (nomark _))))) (pss_one (ps_ret pe_bl)) pss_nil) (pss_cons (ps_if (PW.pt (pw_or (pt_not (pt_val (pc c_is_integer hr (by decide) (by rfl) (pa_cons (pe_ix ix_tup (pv 0) pe_int (fun _ _ => rfl)) pa_nil)))) (pw_or1 (pt_not (pt_val (pc c_is_integer hr (by decide) (by rfl) (pa_cons (pe_ix ix_tup (pv 0) pe_int (fun _ _ => rfl)) pa_nil))))))) (pss_one (ps_ret pe_bl)) pss_nil) (pss_one (ps_ret (pe_and (pe_cmpR op_ge (pe_ix ix_tup (pv 0) pe_int (fun _ _ => rfl)) pe_int (nomark _)) (pe_one (pe_cmpR op_eq (pc c_shared_of hr (by decide) (by rfl) (pa_cons (pe_ix ix_tup (pv 0) pe_int (fun _ _ => rfl)) (pa_cons (pe_ix ix_tup (pv 0) pe_int (fun _ _ => rfl)) pa_nil))) pe_int (nomark _)))))))), ?_⟩
  obtain ⟨d, ho, q⟩ := h
  by_cases ht : dIsTup d = true
  · obtain hd | ⟨rfl, _⟩ := ho
    · cases d with
      | tuple ds =>
        wtm_at "go0"
        · rename_i hn
          dsimp only
          exact Ret.bl' q (by wtm_at "ex") (isFrac_len hn)
        · rename_i hn
          obtain ⟨a, b, rfl⟩ := len2 hn
          wtm_at "go"
          · rename_i h1
            dsimp only
            exact Ret.bl' q (by wtm_at "ex") (isFrac_a h1)
          · rename_i h1 h2
            dsimp only
            exact Ret.bl' q (by wtm_at "ex") (isFrac_b h2)
          · have h1 : isInt a = true := by assumption
            have h2 : isInt b = true := by assumption
            obtain ⟨x, rfl⟩ := isInt_ex h1
            obtain ⟨z, rfl⟩ := isInt_ex h2
            rename_i u hu
            cases dpInt hu
            wtm_at "go"
            · rename_i h3
              dsimp only
              refine Ret.bl' q (by wtm_at "ex") ?_
              show (decide (1 ≤ z) && decide (gd x z = 1)) = _
              rw [decide_eq_true h3, Bool.true_and]
            · rename_i h3
              dsimp only
              refine Ret.bl' q (by wtm_at "ex") ?_
              show (decide (1 ≤ z) && decide (gd x z = 1)) = _
              rw [decide_eq_false h3, Bool.false_and]
      | _ => cases ht
    · cases ht
  · have hf : isFrac d = false := by
      cases d with
      | tuple _ => exact absurd rfl ht
      | _ => rfl
    have ht2 : dIsTup d = false := Bool.not_eq_true _ ▸ ht
    (try dsimp only [L2.cxOf, L2.Cx.nox, L2.Cx.wish, L2.Cx.tr, L2.Cx.blk])
    wtm_at "go0"
    all_goals first
      | (dsimp only; exact Ret.bl' q (by wtm_at "ex") hf)
      | (exfalso; have hz : dIsTup d = true := by assumption
         rw [ht2] at hz; cases hz)
theorem use_is_fraction {d : PyData} (h : Od K H v1 d) (q : ∀ H2, Ex H H2 → Q (.bl (isFrac d)) H2) : sp_is_fraction K [v1] H Q E := ⟨_, rfl, _, h, ret_bl q⟩
abbrev F0 : Nat := 2200
abbrev sumD (a b c d : Int) : PyData := if b = d then rf (a + c) b else rf (a * d + c * b) (b * d)
def sp_sum_of (K : PySem.W.Frag) : Sp := A2 fun v1 v2 H Q => ∃ a b c d, Dp K H v1 (fq a b) ∧ Dp K H v2 (fq c d) ∧ (Sz F0 a ∧ Sz F0 b ∧ Sz F0 c ∧ Sz F0 d) ∧ b ≠ 0 ∧ d ≠ 0 ∧ Ret K (sumD a b c d) H Q
abbrev s_sum_of : Stmt := top 12
theorem sc_sum_of : FnScope ["one", "other"] ["one", "other"] (defScope s_sum_of) := ⟨rfl, rfl, rfl, by decide +kernel, rfl, by decide +kernel, by decide +kernel⟩
theorem ok_sum_of {f : Addr} {fd : FuncData} (F : FnP K "sum_of" s_sum_of f fd) (g : G mg) (c_reduced : Cl P w K mg base 1 "reduced" (sp_reduced K))  : FnOk P w K mg base CX0 2 f fd ["one", "other"] (sp_sum_of K) := by
  have nd := sc_sum_of.nd
  refine F.ok sc_sum_of (fun vs H Q E h => h.len) (fun cdv A outer s H vs Q E hr h => ?_)
  obtain ⟨v1, v2, rfl, h⟩ := h
  refine ⟨_, PSs.nox (pss_cons (ps_if (pt_cmpR op_eq (pe_ix ix_tup (pv 0) pe_int (fun _ _ => rfl)) (pe_ix ix_tup (pv 1) pe_int (fun _ _ => rfl)) (nomark _)) (pss_one (ps_ret (pc c_reduced hr (by decide) (by rfl) (pa_cons (pe_op op_add (pe_ix ix_tup (pv 0) pe_int (fun _ _ => rfl)) (pe_ix ix_tup (pv 1) pe_int (fun _ _ => rfl))) (pa_cons (pe_ix ix_tup (pv 0) pe_int (fun _ _ => rfl)) pa_nil))))) pss_nil) (pss_one (ps_ret (pc c_reduced hr (by decide) (by rfl) (pa_cons (pe_op op_add (pe_op op_mulX (pe_ix ix_tup (pv 0) pe_int (fun _ _ => rfl)) (pe_ix ix_tup (pv 1) pe_int (fun _ _ => rfl))) (pe_op op_mulX (pe_ix ix_tup (pv 1) pe_int (fun _ _ => rfl)) (pe_ix ix_tup (pv 0) pe_int (fun _ _ => rfl)))) (pa_cons (pe_op op_mulX (pe_ix ix_tup (pv 0) pe_int (fun _ _ => rfl)) (pe_ix ix_tup (pv 1) pe_int (fun _ _ => rfl))) pa_nil)))))), ?_⟩
  obtain ⟨a, b, c, d, h1, h2, ⟨sa, sb, sc, sd⟩, nb, nd2, q⟩ := h
  have n3 := Int.mul_ne_zero nb nd2
  wtm_at "go0"
  · have hz : b = d := by assumption
    unfold sumD at q
    rw [if_pos hz] at q
    wtm_at "fin"
  · have hz : ¬ b = d := by assumption
    unfold sumD at q
    rw [if_neg hz] at q
    wtm_at "fin"
theorem use_sum_of {a b c d : Int} (h1 : Dp K H v1 (fq a b)) (h2 : Dp K H v2 (fq c d)) (sa : Sz F0 a) (sb : Sz F0 b) (sc : Sz F0 c) (sd : Sz F0 d) (nb : b ≠ 0) (nd : d ≠ 0) (q : ∀ v H2, Ex H H2 → Dp K H2 v (sumD a b c d) → Q v H2) : sp_sum_of K [v1, v2] H Q E := ⟨_, _, rfl, _, _, _, _, h1, h2, ⟨sa, sb, sc, sd⟩, nb, nd, q⟩
local macro_rules | `(tactic| wtm_at "use") => `(tactic| ((with_reducible refine' use_sum_of ?u0 ?u1 ?u2 ?u3 ?u4 ?u5 ?u6 ?u7 (fun ur uH ue ud => ?uq)); (case u0 => wtm_at "dp"); (case u1 => wtm_at "dp"); (case u2 => wtm_at "szb"); (case u3 => wtm_at "szb"); (case u4 => wtm_at "szb"); (case u5 => wtm_at "szb"); (case u6 => wtm_at "nz"); (case u7 => wtm_at "nz")))
def sp_difference_of (K : PySem.W.Frag) : Sp := A2 fun v1 v2 H Q => ∃ a b c d, Dp K H v1 (fq a b) ∧ Dp K H v2 (fq c d) ∧ (Sz F0 a ∧ Sz F0 b ∧ Sz F0 c ∧ Sz F0 d) ∧ b ≠ 0 ∧ d ≠ 0 ∧ Ret K (sumD a b (-c) d) H Q
abbrev s_difference_of : Stmt := top 13
theorem sc_difference_of : FnScope ["one", "other"] ["one", "other"] (defScope s_difference_of) := ⟨rfl, rfl, rfl, by decide +kernel, rfl, by decide +kernel, by decide +kernel⟩
theorem ok_difference_of {f : Addr} {fd : FuncData} (F : FnP K "difference_of" s_difference_of f fd) (g : G mg) (c_sum_of : Cl P w K mg base 2 "sum_of" (sp_sum_of K))  : FnOk P w K mg base CX0 3 f fd ["one", "other"] (sp_difference_of K) := by
  have nd := sc_difference_of.nd
  refine F.ok sc_difference_of (fun vs H Q E h => h.len) (fun cdv A outer s H vs Q E hr h => ?_)
  obtain ⟨v1, v2, rfl, h⟩ := h
  refine ⟨_, PSs.nox (pss_one (ps_ret (pc c_sum_of hr (by decide) (by rfl) (pa_cons (pv 0) (pa_cons (pe_tup (pa_cons (pe_un un_neg (pe_ix ix_tup (pv 1) pe_int (fun _ _ => rfl))) (pa_cons (pe_ix ix_tup (pv 1) pe_int (fun _ _ => rfl)) pa_nil))) pa_nil))))), ?_⟩
  obtain ⟨a, b, c, d, h1, h2, ⟨sa, sb, sc, sd⟩, nb, nd2, q⟩ := h
  wtm_at "go0"
  all_goals wtm_at "fin"
theorem use_difference_of {a b c d : Int} (h1 : Dp K H v1 (fq a b)) (h2 : Dp K H v2 (fq c d)) (sa : Sz F0 a) (sb : Sz F0 b) (sc : Sz F0 c) (sd : Sz F0 d) (nb : b ≠ 0) (nd : d ≠ 0) (q : ∀ v H2, Ex H H2 → Dp K H2 v (sumD a b (-c) d) → Q v H2) : sp_difference_of K [v1, v2] H Q E := ⟨_, _, rfl, _, _, _, _, h1, h2, ⟨sa, sb, sc, sd⟩, nb, nd, q⟩
def sp_product_of (K : PySem.W.Frag) : Sp := A2 fun v1 v2 H Q => ∃ a b c d, Dp K H v1 (fq a b) ∧ Dp K H v2 (fq c d) ∧ (Sz F0 a ∧ Sz F0 b ∧ Sz F0 c ∧ Sz F0 d) ∧ b ≠ 0 ∧ d ≠ 0 ∧ Ret K (rf (a * c) (b * d)) H Q
abbrev s_product_of : Stmt := top 14
theorem sc_product_of : FnScope ["one", "other"] ["one", "other"] (defScope s_product_of) := ⟨rfl, rfl, rfl, by decide +kernel, rfl, by decide +kernel, by decide +kernel⟩
theorem ok_product_of {f : Addr} {fd : FuncData} (F : FnP K "product_of" s_product_of f fd) (g : G mg) (c_reduced : Cl P w K mg base 1 "reduced" (sp_reduced K))  : FnOk P w K mg base CX0 2 f fd ["one", "other"] (sp_product_of K) := by
  have nd := sc_product_of.nd
  refine F.ok sc_product_of (fun vs H Q E h => h.len) (fun cdv A outer s H vs Q E hr h => ?_)
  obtain ⟨v1, v2, rfl, h⟩ := h
  refine ⟨_, PSs.nox (pss_one (ps_ret (pc c_reduced hr (by decide) (by rfl) (pa_cons (pe_op op_mulX (pe_ix ix_tup (pv 0) pe_int (fun _ _ => rfl)) (pe_ix ix_tup (pv 1) pe_int (fun _ _ => rfl))) (pa_cons (pe_op op_mulX (pe_ix ix_tup (pv 0) pe_int (fun _ _ => rfl)) (pe_ix ix_tup (pv 1) pe_int (fun _ _ => rfl))) pa_nil))))), ?_⟩
  obtain ⟨a, b, c, d, h1, h2, ⟨sa, sb, sc, sd⟩, nb, nd2, q⟩ := h
  have n3 := Int.mul_ne_zero nb nd2
  wtm_at "go0"
  all_goals wtm_at "fin"
theorem use_product_of {a b c d : Int} (h1 : Dp K H v1 (fq a b)) (h2 : Dp K H v2 (fq c d)) (sa : Sz F0 a) (sb : Sz F0 b) (sc : Sz F0 c) (sd : Sz F0 d) (nb : b ≠ 0) (nd : d ≠ 0) (q : ∀ v H2, Ex H H2 → Dp K H2 v (rf (a * c) (b * d)) → Q v H2) : sp_product_of K [v1, v2] H Q E := ⟨_, _, rfl, _, _, _, _, h1, h2, ⟨sa, sb, sc, sd⟩, nb, nd, q⟩
def sp_is_below (K : PySem.W.Frag) : Sp := A2 fun v1 v2 H Q => ∃ a b c d, Dp K H v1 (fq a b) ∧ Dp K H v2 (fq c d) ∧ (Sz F0 a ∧ Sz F0 b ∧ Sz F0 c ∧ Sz F0 d) ∧ Q (.bl (decide (a * d < c * b))) H
abbrev s_is_below : Stmt := top 15
theorem sc_is_below : FnScope ["one", "other"] ["one", "other"] (defScope s_is_below) := ⟨rfl, rfl, rfl, by decide +kernel, rfl, by decide +kernel, by decide +kernel⟩
theorem ok_is_below {f : Addr} {fd : FuncData} (F : FnP K "is_below" s_is_below f fd) (g : G mg)   : FnOk P w K mg base CX0 1 f fd ["one", "other"] (sp_is_below K) := by
  have nd := sc_is_below.nd
  refine F.ok sc_is_below (fun vs H Q E h => h.len) (fun cdv A outer s H vs Q E hr h => ?_)
  obtain ⟨v1, v2, rfl, h⟩ := h
  refine ⟨_, PSs.nox (pss_one (ps_ret (pe_cmpR op_lt (pe_op op_mulX (pe_ix ix_tup (pv 0) pe_int (fun _ _ => rfl)) (pe_ix ix_tup (pv 1) pe_int (fun _ _ => rfl))) (pe_op op_mulX (pe_ix ix_tup (pv 1) pe_int (fun _ _ => rfl)) (pe_ix ix_tup (pv 0) pe_int (fun _ _ => rfl))) (nomark _)))), ?_⟩
  obtain ⟨a, b, c, d, h1, h2, ⟨sa, sb, sc, sd⟩, q⟩ := h
  wtm_at "go0"
  all_goals wtm_at "fin"
theorem use_is_below {a b c d : Int} (h1 : Dp K H v1 (fq a b)) (h2 : Dp K H v2 (fq c d)) (sa : Sz F0 a) (sb : Sz F0 b) (sc : Sz F0 c) (sd : Sz F0 d) (q : Q (.bl (decide (a * d < c * b))) H) : sp_is_below K [v1, v2] H Q E := ⟨_, _, rfl, _, _, _, _, h1, h2, ⟨sa, sb, sc, sd⟩, q⟩
def sp_floor_of (K : PySem.W.Frag) : Sp := A1 fun v1 H Q => ∃ a b, Dp K H v1 (fq a b) ∧ Sz F0 b ∧ b ≠ 0 ∧ Q (.int (a.fdiv b)) H
abbrev s_floor_of : Stmt := top 16
theorem sc_floor_of : FnScope ["one"] ["one"] (defScope s_floor_of) := ⟨rfl, rfl, rfl, by decide +kernel, rfl, by decide +kernel, by decide +kernel⟩
theorem ok_floor_of {f : Addr} {fd : FuncData} (F : FnP K "floor_of" s_floor_of f fd) (g : G mg)   : FnOk P w K mg base CX0 1 f fd ["one"] (sp_floor_of K) := by
  have nd := sc_floor_of.nd
  refine F.ok sc_floor_of (fun vs H Q E h => h.len) (fun cdv A outer s H vs Q E hr h => ?_)
  obtain ⟨v1, rfl, h⟩ := h
  refine ⟨_, PSs.nox (pss_one (ps_ret (pe_op op_fdivX (pe_ix ix_tup (pv 0) pe_int (fun _ _ => rfl)) (pe_ix ix_tup (pv 0) pe_int (fun _ _ => rfl))))), ?_⟩
  obtain ⟨a, b, h1, sb, nb, q⟩ := h
  wtm_at "go0"
  all_goals wtm_at "fin"
theorem use_floor_of {a b : Int} (h1 : Dp K H v1 (fq a b)) (sb : Sz F0 b) (nb : b ≠ 0) (q : Q (.int (a.fdiv b)) H) : sp_floor_of K [v1] H Q E := ⟨_, rfl, _, _, h1, sb, nb, q⟩
def sp_ceiling_of (K : PySem.W.Frag) : Sp := A1 fun v1 H Q => ∃ a b, Dp K H v1 (fq a b) ∧ Sz F0 b ∧ b ≠ 0 ∧ Q (.int (-((-a).fdiv b))) H
abbrev s_ceiling_of : Stmt := top 17
theorem sc_ceiling_of : FnScope ["one"] ["one"] (defScope s_ceiling_of) := ⟨rfl, rfl, rfl, by decide +kernel, rfl, by decide +kernel, by decide +kernel⟩
theorem ok_ceiling_of {f : Addr} {fd : FuncData} (F : FnP K "ceiling_of" s_ceiling_of f fd) (g : G mg)   : FnOk P w K mg base CX0 1 f fd ["one"] (sp_ceiling_of K) := by
  have nd := sc_ceiling_of.nd
  refine F.ok sc_ceiling_of (fun vs H Q E h => h.len) (fun cdv A outer s H vs Q E hr h => ?_)
  obtain ⟨v1, rfl, h⟩ := h
  refine ⟨_, PSs.nox (pss_one (ps_ret (pe_un un_neg (pe_op op_fdivX (pe_un un_neg (pe_ix ix_tup (pv 0) pe_int (fun _ _ => rfl))) (pe_ix ix_tup (pv 0) pe_int (fun _ _ => rfl)))))), ?_⟩
  obtain ⟨a, b, h1, sb, nb, q⟩ := h
  wtm_at "go0"
  all_goals wtm_at "fin"
theorem use_ceiling_of {a b : Int} (h1 : Dp K H v1 (fq a b)) (sb : Sz F0 b) (nb : b ≠ 0) (q : Q (.int (-((-a).fdiv b))) H) : sp_ceiling_of K [v1] H Q E := ⟨_, rfl, _, _, h1, sb, nb, q⟩
end
end Wb

namespace Wb
open PySem PySem.Spec PyProof.Rows L2
open Evl (Ex Ex.refl Ex.trans Ex.new)
local macro_rules | `(tactic| wtm_at "dp") => `(tactic| first | with_reducible assumption | with_reducible exact Dp.int _ | with_reducible exact Dp.bl _ | with_reducible exact Dp.str _ | with_reducible exact Dp.non | ((with_reducible refine' dpMono ?dme (by with_reducible assumption)); (case dme => wtm_at "ex")) | ((with_reducible refine' Dp.tup (Evl.st_of ?dph) ?dpa); (case dph => wtm_at "hs"); (case dpa => wtm_at "dpa")) | ((with_reducible refine' Dp.lst (Evl.sq_of ?dph) ?dpa); (case dph => wtm_at "hs"); (case dpa => wtm_at "dpa")))
local macro_rules | `(tactic| wtm_at "dpa") => `(tactic| first | with_reducible exact DpAll.nil | ((with_reducible refine' DpAll.cons ?dp1 ?dp2); (case dp1 => wtm_at "dp"); (case dp2 => wtm_at "dpa")) | with_reducible assumption | ((with_reducible refine' dpMonoA ?dme (by with_reducible assumption)); (case dme => wtm_at "ex")))
local macro_rules | `(tactic| wtm_at "sz") => `(tactic| first | with_reducible assumption | ((with_reducible refine' sz_mul ?sz1 ?sz2); (case sz1 => wtm_at "sz"); (case sz2 => wtm_at "sz")) | ((with_reducible refine' sz_add ?sz1 ?sz2); (case sz1 => wtm_at "sz"); (case sz2 => wtm_at "sz")) | ((with_reducible refine' sz_sub ?sz1 ?sz2); (case sz1 => wtm_at "sz"); (case sz2 => wtm_at "sz")) | ((with_reducible refine' sz_neg ?sz1); (case sz1 => wtm_at "sz")) | ((with_reducible refine' sz_div ?sz1); (case sz1 => wtm_at "sz")) | ((with_reducible refine' sz_fdiv ?sz1); (case sz1 => wtm_at "sz")) | exact sz_lit (by decide) | wtm_at "sz2")
local macro_rules | `(tactic| wtm_at "szb") => `(tactic| first | with_reducible assumption | ((with_reducible refine' sz_mono ?szb1 ?szb2); (case szb1 => wtm_at "sz"); (case szb2 => decide)))
local macro_rules | `(tactic| wtm_at "nz") => `(tactic| first | assumption | decide | omega)
local macro_rules | `(tactic| wtm_at "shaped") => `(tactic| first | rfl | decide)
local macro_rules | `(tactic| wtm_at "sset") => `(tactic| ((dsimp only [L2.wipe, List.set, List.set_cons_zero, List.set_cons_succ]) <;> exact rfl))
local macro_rules | `(tactic| wtm_at "nrm") => `(tactic| dsimp only [L2.start, L2.wipe, List.set, List.append, List.map, List.map_cons, List.map_nil, List.length_cons, List.length_nil, Nat.reduceAdd, Nat.reduceSub, List.reduceReplicate, List.replicate, List.cons_append, List.nil_append, List.set_cons_zero, List.set_cons_succ])
local macro_rules | `(tactic| wtm_at "st") => `(tactic| first
  | ((with_reducible refine' i_var (v := ?u0) ?u1 ?uq); (case u1 => exact rfl))
  | ((with_reducible refine' i_nameN ?u0 ?uq); (case u0 => wtm_at "sset"))
  | (with_reducible refine' i_op ?uq)
  | (with_reducible refine' i_c ?uq)
  | (with_reducible refine' i_I0 ?uq)
  | ((with_reducible refine' i_ixTI (i := ?u0) ?u1 ?u2 ?u3 ?uq); (case u1 => wtm_at "dp"); (case u2 => wtm_at "ex"); (case u3 => exact rfl))
  | ((with_reducible refine' i_ixT (d := ?u0) ?u1 ?u2 ?u3 (fun xu hxu => ?uq)); (case u1 => wtm_at "dp"); (case u2 => wtm_at "ex"); (case u3 => exact rfl))
  | ((with_reducible refine' i_mul ?u0 ?u1 ?u2 ?uq); (case u0 => wtm_at "sz"); (case u1 => wtm_at "sz"); (case u2 => first | decide | omega))
  | (with_reducible refine' i_seq ?uq)
  | (with_reducible refine' i_asg ?uq)
  | (with_reducible refine' i_ret ?uq)
  | (with_reducible refine' i_ifs ?uq)
  | (with_reducible refine' i_drop ?uq)
  | (with_reducible refine' i_next ?uq)
  | (with_reducible refine' i_cons ?uq)
  | (with_reducible refine' i_nil ?uq)
  | (with_reducible refine' i_cl ?uq)
  | (with_reducible refine' i_cb ?uq)
  | (with_reducible refine' i_tup ?uq)
  | (with_reducible refine' i_lst ?uq)
  | ((with_reducible refine' i_mkT ?u0 (fun np nH nhe nhp => ?uq)); (case u0 => exact Nat.le_of_ble_eq_true rfl))
  | (with_reducible refine' i_test ?uq)
  | (with_reducible refine' i_B ?uq)
  | (with_reducible refine' i_k ?uq)
  | (with_reducible refine' i_and ?uq)
  | (with_reducible refine' i_or ?uq)
  | (with_reducible refine' i_not ?uq)
  | (with_reducible refine' i_andV ?uq)
  | (with_reducible refine' i_orV ?uq)
  | (with_reducible refine' i_notV ?uq)
  | (with_reducible refine' i_if ?uq)
  | (with_reducible refine' i_un ?uq)
  | (with_reducible refine' i_U ?uq)
  | (with_reducible refine' i_iteT ?uq)
  | (with_reducible refine' i_iteF ?uq)
  | ((with_reducible refine' i_iteTr ?u0 ?uq); (case u0 => first | with_reducible rfl | decide | (simp only [dIsInt, dIsBool, dIsTup, dIsStr, dIsLst, Bool.not_true, Bool.not_false]; done)))
  | ((with_reducible refine' i_iteFr ?u0 ?uq); (case u0 => first | with_reducible rfl | decide | (simp only [dIsInt, dIsBool, dIsTup, dIsStr, dIsLst, Bool.not_true, Bool.not_false]; done)))
  | (with_reducible refine' i_ite (fun hif => ?uqa) (fun hif => ?uqb))
  | (with_reducible refine' i_iteN (fun hif => ?uqa) (fun hif => ?uqb))
  | (with_reducible refine' i_iteBN (fun hif => ?uqa) (fun hif => ?uqb))
  | (with_reducible refine' i_iteB (fun hif => ?uqa) (fun hif => ?uqb))
  | ((with_reducible refine' i_modN ?u0 ?uq); (case u0 => wtm_at "nz"))
  | ((with_reducible refine' i_fdX ?u0 ?u1 ?u2 ?uq); (case u0 => wtm_at "nz"); (case u1 => wtm_at "sz"); (case u2 => first | decide | omega))
  | ((with_reducible refine' i_pow ?u0 ?uq); (case u0 => exact ⟨by decide, by decide +kernel⟩))
  | (with_reducible refine' i_eqI ?uq)
  | (with_reducible refine' i_neI ?uq)
  | (with_reducible refine' i_gcd ?uq)
  | (with_reducible refine' i_qabs ?uq)
  | (with_reducible refine' i_qint ?uq)
  | (with_reducible refine' i_qintB ?uq)
  | (with_reducible refine' i_qmax2 ?uq)
  | (with_reducible refine' i_qmin2 ?uq)
  | (with_reducible refine' i_isB ?uq)
  | (with_reducible refine' i_notB ?uq)
  | (with_reducible refine' i_chain ?uq)
  | (with_reducible refine' i_qisN ?uq)
  | (with_reducible refine' i_qnotN ?uq)
  | (with_reducible refine' i_yes ?uq)
  | (with_reducible refine' i_par ?uq)
  | (with_reducible refine' i_par3 ?uq)
  | ((with_reducible refine' i_par2 ?u0 ?uq); (case u0 => wtm_at "sset"))
  | ((with_reducible refine' i_par33 ?u0 ?uq); (case u0 => wtm_at "sset"))
  | ((with_reducible refine' i_ixLI (i := ?u0) ?u1 ?u2 ?u3 ?uq); (case u1 => wtm_at "dp"); (case u2 => wtm_at "ex"); (case u3 => exact rfl))
  | ((with_reducible refine' i_ixL (d := ?u0) ?u1 ?u2 ?u3 (fun xu hxu => ?uq)); (case u1 => wtm_at "dp"); (case u2 => wtm_at "ex"); (case u3 => exact rfl))
  | ((with_reducible refine' i_qlenT ?u0 ?uq); (case u0 => wtm_at "dp"))
  | ((with_reducible refine' i_qlenL ?u0 ?uq); (case u0 => wtm_at "dp"))
  | ((with_reducible refine' i_gtup ?u0 ?u1 ?u2 (fun gvs gdp => ?uq)); (case u0 => wtm_at "dp"); (case u1 => wtm_at "ex"); (case u2 => exact rfl))
  | ((with_reducible refine' i_glst ?u0 ?u1 ?u2 (fun gvs gdp => ?uq)); (case u0 => wtm_at "dp"); (case u1 => wtm_at "ex"); (case u2 => exact rfl))
  | ((with_reducible refine' i_gconsI ?u0 (fun gr gh => ?uq)); (case u0 => with_reducible assumption))
  | ((with_reducible refine' i_gconsA ?u0 (fun gv gr gh1 gh2 => ?uq)); (case u0 => with_reducible assumption))
  | ((with_reducible refine' i_gnilA ?u0 ?uq); (case u0 => with_reducible assumption))
  | ((with_reducible refine' i_isiI ?u0 ?uq); (case u0 => wtm_at "dp"))
  | ((with_reducible refine' i_isiB ?u0 ?uq); (case u0 => wtm_at "dp"))
  | ((with_reducible refine' i_isiT ?u0 ?uq); (case u0 => wtm_at "dp"))
  | ((with_reducible refine' i_isiS ?u0 ?uq); (case u0 => wtm_at "dp"))
  | ((with_reducible refine' i_isiL ?u0 ?uq); (case u0 => wtm_at "dp"))
  | ((with_reducible refine' i_eqD ?u0 ?u1 ?u2 ?u3 ?uq); (case u0 => wtm_at "dp"); (case u1 => wtm_at "dp"); (case u2 => wtm_at "shaped"); (case u3 => wtm_at "shaped"))
  | ((with_reducible refine' i_neD ?u0 ?u1 ?u2 ?u3 ?uq); (case u0 => wtm_at "dp"); (case u1 => wtm_at "dp"); (case u2 => wtm_at "shaped"); (case u3 => wtm_at "shaped"))
  | wtm_at "st2"
  | wtm_at "use")
local macro_rules | `(tactic| wtm_at "go") => `(tactic| repeat' (wtm_at "st"))
local macro_rules | `(tactic| wtm_at "go0") => `(tactic| ((try dsimp only [L2.cxOf, L2.Cx.nox, L2.Cx.wish, L2.Cx.tr, L2.Cx.blk]); (try wtm_at "nrm"); wtm_at "go"))
local macro_rules | `(tactic| wtm_at "fin") => `(tactic| ((try dsimp only); first | with_reducible assumption | assumption | ((with_reducible refine' Ret.use ?rur ?rue ?rud); (case rur => with_reducible assumption); (case rue => wtm_at "ex"); (case rud => wtm_at "dp"))))
local macro_rules | `(tactic| wtm_at "ex") => `(tactic| first | with_reducible assumption | with_reducible exact Ex.refl _ | with_reducible exact ex_hid | ((with_reducible refine' Ex.trans ?exe (by with_reducible assumption)); (case exe => wtm_at "ex")) | ((with_reducible refine' Ex.trans ?exe (hid_ex (by with_reducible assumption))); (case exe => wtm_at "ex")) | ((with_reducible refine' Ex.trans ?exe ex_hid); (case exe => wtm_at "ex")))
local macro_rules | `(tactic| wtm_at "bag") => `(tactic| first | with_reducible assumption | ((with_reducible refine' Bag.mono ?bgm (by with_reducible assumption)); (case bgm => wtm_at "bag")))
local macro_rules | `(tactic| wtm_at "hs") => `(tactic| first | with_reducible assumption | ((with_reducible refine' hid_tup ?hb ?hp); (case hp => with_reducible assumption); (case hb => wtm_at "bag")) | ((with_reducible refine' hid_new ?hb ?hn ?hp); (case hp => with_reducible assumption); (case hn => with_reducible assumption); (case hb => wtm_at "bag")) | ((with_reducible refine' ex_at ?exe (by with_reducible assumption)); (case exe => wtm_at "ex")))
local macro_rules | `(tactic| wtm_at "st2") => `(tactic| first
  | ((with_reducible refine' i_mulC ?u0 ?uq); (case u0 => first | exact cmul_l (by decide) | exact cmul_r (by decide)))
  | ((with_reducible refine' i_ixLr (v := ?u0) ?u1 ?u2 ?uq); (case u1 => with_reducible assumption); (case u2 => exact rfl))
  | (with_reducible refine' i_sub ?uq)
  | ((with_reducible refine' i_mkL ?u0 (fun np nH nfr nhe nhp => ?uq)); (case u0 => exact Nat.le_of_ble_eq_true rfl))
  | ((with_reducible refine' i_setL (n := ?u0) ?u1 ?u2 (fun sH sh se => ?uq)); (case u1 => with_reducible assumption); (case u2 => exact rfl))
  | (with_reducible refine' i_sl ?uq)
  | (with_reducible refine' i_nopart ?uq)
  | (with_reducible refine' i_part ?uq)
  | (with_reducible refine' i_part1 ?uq))
local macro_rules | `(tactic| wtm_at "sz2") => `(tactic| ((with_reducible refine' sz_fmod ?sz1 ?sz2); (case sz1 => wtm_at "nz"); (case sz2 => wtm_at "sz")))
local macro_rules | `(tactic| wtm_at "stb") => `(tactic| first
  | ((with_reducible refine' i_mkTB ?u0 ?u1 (fun np nH nhe nhb nhp => ?uq)); (case u0 => exact Nat.le_of_ble_eq_true rfl); (case u1 => wtm_at "bag"))
  | ((with_reducible refine' i_mkLB ?u0 ?u1 (fun np nH nfr nhe nhb nhp => ?uq)); (case u0 => exact Nat.le_of_ble_eq_true rfl); (case u1 => wtm_at "bag"))
  | wtm_at "st")
local macro_rules | `(tactic| wtm_at "gob") => `(tactic| repeat' (wtm_at "stb"))
local macro_rules | `(tactic| wtm_at "gob0") => `(tactic| ((try dsimp only [L2.cxOf, L2.Cx.nox, L2.Cx.wish, L2.Cx.tr, L2.Cx.blk]); (try wtm_at "nrm"); wtm_at "gob"))
local macro_rules | `(tactic| wtm_at "use") => `(tactic| (with_reducible refine' use_shared_of ?uq))
local macro_rules | `(tactic| wtm_at "use") => `(tactic| ((with_reducible refine' use_is_integer ?u0 ?uq); (case u0 => wtm_at "dp")))
local macro_rules | `(tactic| wtm_at "use") => `(tactic| ((with_reducible refine' use_reduced ?u0 ?u1 (fun ur uH ue ud => ?uq)); (case u0 => wtm_at "nz"); (case u1 => wtm_at "szb")))
local macro_rules | `(tactic| wtm_at "use") => `(tactic| ((with_reducible refine' use_sum_of ?u0 ?u1 ?u2 ?u3 ?u4 ?u5 ?u6 ?u7 (fun ur uH ue ud => ?uq)); (case u0 => wtm_at "dp"); (case u1 => wtm_at "dp"); (case u2 => wtm_at "szb"); (case u3 => wtm_at "szb"); (case u4 => wtm_at "szb"); (case u5 => wtm_at "szb"); (case u6 => wtm_at "nz"); (case u7 => wtm_at "nz")))
local macro_rules | `(tactic| wtm_at "use") => `(tactic| ((with_reducible refine' use_difference_of ?u0 ?u1 ?u2 ?u3 ?u4 ?u5 ?u6 ?u7 (fun ur uH ue ud => ?uq)); (case u0 => wtm_at "dp"); (case u1 => wtm_at "dp"); (case u2 => wtm_at "szb"); (case u3 => wtm_at "szb"); (case u4 => wtm_at "szb"); (case u5 => wtm_at "szb"); (case u6 => wtm_at "nz"); (case u7 => wtm_at "nz")))
local macro_rules | `(tactic| wtm_at "use") => `(tactic| ((with_reducible refine' use_product_of ?u0 ?u1 ?u2 ?u3 ?u4 ?u5 ?u6 ?u7 (fun ur uH ue ud => ?uq)); (case u0 => wtm_at "dp"); (case u1 => wtm_at "dp"); (case u2 => wtm_at "szb"); (case u3 => wtm_at "szb"); (case u4 => wtm_at "szb"); (case u5 => wtm_at "szb"); (case u6 => wtm_at "nz"); (case u7 => wtm_at "nz")))
local macro_rules | `(tactic| wtm_at "use") => `(tactic| ((with_reducible refine' use_is_below ?u0 ?u1 ?u2 ?u3 ?u4 ?u5 ?uq); (case u0 => wtm_at "dp"); (case u1 => wtm_at "dp"); (case u2 => wtm_at "szb"); (case u3 => wtm_at "szb"); (case u4 => wtm_at "szb"); (case u5 => wtm_at "szb")))
local macro_rules | `(tactic| wtm_at "use") => `(tactic| ((with_reducible refine' use_floor_of ?u0 ?u1 ?u2 ?uq); (case u0 => wtm_at "dp"); (case u1 => wtm_at "szb"); (case u2 => wtm_at "nz")))
local macro_rules | `(tactic| wtm_at "use") => `(tactic| ((with_reducible refine' use_ceiling_of ?u0 ?u1 ?u2 ?uq); (case u0 => wtm_at "dp"); (case u1 => wtm_at "szb"); (case u2 => wtm_at "nz")))
local macro_rules | `(tactic| wtm_at "use") => `(tactic| ((with_reducible refine' use_is_fraction ?u0 (fun uH ue => ?uq)); (case u0 => wtm_at "od")))
local macro_rules | `(tactic| wtm_at "od") => `(tactic| first | with_reducible assumption | ((with_reducible refine' odMono ?ode (by with_reducible assumption)); (case ode => wtm_at "ex")) | ((with_reducible refine' Or.inl ?odd); (case odd => wtm_at "dp")))
section
variable {P : Program} {w : World} {K : PySem.W.Frag} {mg : Str → Option Value} {base : Heap} {H H' : Hp} {Q : VK} {E : XK} {v1 v2 v3 v4 : V}
abbrev stI : Stmt := inClass (top 2) 0
abbrev ieTail : List Value := [.type "IndexError", .type "LookupError", .type "Exception", .type "BaseException", .type "object"]
structure ExN (P : Program) (K : PySem.W.Frag) (mg : Str → Option Value) (C : Addr) : Prop where
  it : Init1 P stI "InvalidNumber.__init__" "self" "value" "value"
  s : ∃ fI, SupC P K C fI "IndexError" "IndexError.__init__" "IndexError.__new__" ieTail stI "InvalidNumber.__init__"
  g : mg "InvalidNumber" = some (.ref C)
  tk : PySem.W.takerIn K C "value" = some none
  xf : XfC K C
  no : PySem.W.findIn K (.ref C) "value" = some none
  m : PySem.W.exmOne K (.ref C) (.ref C) = some true
theorem init1 : Init1 PySem.Challenge.pw_wherebase_k01_whole_fractions_and_names stI "InvalidNumber.__init__" "self" "value" "value" where
  body := ⟨_, _, _, _, _, _, _, _, _, _, _, _, rfl, fun _ _ _ _ => rfl, fun _ _ _ _ => rfl, fun _ _ _ _ => ⟨_, rfl⟩⟩
  inter := fun _ _ _ _ => rfl
  kind := rfl
  co := rfl
  gen := rfl
  nocell := by decide +kernel
  sup := by decide +kernel
  cls := by decide +kernel
  self := by decide +kernel
  arg := by decide +kernel
  ne := by decide +kernel
  sd := by decide +kernel
  ad := by decide +kernel
  first := ⟨_, rfl, rfl⟩
  binds := fun _ _ _ _ _ _ _ _ _ => BindsTo.of_eq rfl
  top := by decide +kernel

def B1 (P : V → Hp → VK → XK → Prop) : Sp := fun vs H Q E => ∃ v1, vs = [v1] ∧ P v1 H Q E
def B2 (P : V → V → Hp → VK → XK → Prop) : Sp := fun vs H Q E => ∃ v1 v2, vs = [v1, v2] ∧ P v1 v2 H Q E
def B3 (P : V → V → V → Hp → VK → XK → Prop) : Sp := fun vs H Q E => ∃ v1 v2 v3, vs = [v1, v2, v3] ∧ P v1 v2 v3 H Q E
theorem B1.len {P} {vs : List V} (h : B1 P vs H Q E) : vs.length = 1 := by obtain ⟨_, rfl, _⟩ := h; rfl
theorem B2.len {P} {vs : List V} (h : B2 P vs H Q E) : vs.length = 2 := by obtain ⟨_, _, rfl, _⟩ := h; rfl
theorem B3.len {P} {vs : List V} (h : B3 P vs H Q E) : vs.length = 3 := by obtain ⟨_, _, _, rfl, _⟩ := h; rfl
/-- InvalidNumber(v) leaves -/
def XR (C : Addr) (v : V) (H : Hp) (E : XK) : Prop := ∀ H2 dx, Ex H H2 → H2 dx = none → E (.ref C) (some dx) (upd H2 dx (.xd [("value", v)]))
theorem XR.up {C : Addr} {v : V} (x : XR C v H E) (e : Ex H H') : XR C v H' E := fun H2 dx e2 n => x H2 dx (e.trans e2) n
structure ClX (P : Program) (w : World) (K : PySem.W.Frag) (mg : Str → Option Value) (base : Heap) (k : Nat) (x : Str) (sp : Sp) : Prop where
  ex : ∃ (f : Addr) (fd : FuncData) (ps : List Str), FnOk P w K mg base (L2.CX P w) k f fd ps sp ∧ mg x = some (.ref f) ∧ PySem.W.keepIn K (.ref f) = true ∧ Binds K fd ps []
theorem pcX {X : Cx} {W : WX} {k j : Nat} {x : Str} {sp : Sp} {p pos : Pos} {e : Expr} {es : List Expr} {t : TA} (c : ClX X.prog X.w X.K X.mg X.base k x sp) (tk : Takes X W) (hr : Room j X.A) (hk : k ≤ j) (hg : Gl X x) (ha : PA X (e :: es) t)
    (hdb : (x == ("__debug__" : Str)) = false := by decide) (he : starEach (e :: es) X.env = (false, eval e X.env) :: starEach es X.env := by rfl) (hpl : (backTo pos (starEach es X.env)).any (·.1) = false := by rfl) :
    PE X (.Call (.Name x p) (e :: es) [] pos) (tCallS sp (WE W) t) := by
  obtain ⟨f, fd, ps, F, hm, kp, b⟩ := c.ex
  exact pe_callS F (hr.mono hk) hg hm kp b (fun σ => passAt tk σ) ha hdb he hpl
theorem i_cs {sp : Sp} {EE : L2.St → XK} {t : TA} {σ : L2.St} (q : t σ H fun vs H1 => sp vs H1 Q (EE σ)) : tCallS sp EE t σ H Q := q
def tRaise (t : L2.St → Hp → XK → Prop) (W : WX) : TS := fun _ σ H => t σ H fun cls d H' => W cls d σ H'
theorem psR {X : Cx} {W : WX} {e : Expr} {t : L2.St → Hp → XK → Prop} {pos : Pos} (hc : X.calm = true) (tk : Takes X W) (he : PMk X e t) : PS X (.Raise (some e) none pos) (tRaise t W) := ps_raise hc tk he
theorem i_raise {t : L2.St → Hp → XK → Prop} {W : WX} {D : Ends} {σ : L2.St} (q : t σ H fun cls d H' => W cls d σ H') : tRaise t W D σ H := q
theorem i_mk1 {C : Addr} {f : Str} {te : TE} {σ : L2.St} {R : XK} (q : te σ H fun v H1 => ∀ dx, H1 dx = none → R (.ref C) (some dx) (upd H1 dx (.xd [(f, v)]))) : tMk1 C f te σ H R := q
theorem isFrac_ne {a b : Int} (h : isFrac (fq a b) = true) : b ≠ 0 := by
  have h1 : (decide (1 ≤ b) && decide (gd a b = 1)) = true := h
  have := of_decide_eq_true (Bool.and_eq_true_iff.mp h1).1
  omega
theorem od_fq {a b : Int} {v : V} (h : Od K H v (fq a b)) : Dp K H v (fq a b) := by
  rcases h with h | ⟨h, _⟩
  · exact h
  · cases h
local macro_rules | `(tactic| wtm_at "st2") => `(tactic| (with_reducible refine' i_cs ?uq))
local macro_rules | `(tactic| wtm_at "st2") => `(tactic| (with_reducible refine' i_raise ?uq))
local macro_rules | `(tactic| wtm_at "st2") => `(tactic| (with_reducible refine' i_mk1 ?uq))
def sp_require_integer (K : PySem.W.Frag) (C : Addr) : Sp := B1 fun v1 H Q E => ∃ d, Dp K H v1 d ∧ (isInt d = true → Q .non H) ∧ (isInt d = false → XR C v1 H E)
abbrev s_require_integer : Stmt := top 9
theorem sc_require_integer : FnScope ["value"] ["value"] (defScope s_require_integer) := ⟨rfl, rfl, rfl, by decide +kernel, rfl, by decide +kernel, by decide +kernel⟩
theorem ok_require_integer {f : Addr} {fd : FuncData} (F : FnP K "require_integer" s_require_integer f fd) (g : G mg) {C : Addr} (e : ExN P K mg C) (c_is_integer : Cl P w K mg base 1 "is_integer" (sp_is_integer K)) : FnOk P w K mg base (L2.CX P w) 2 f fd ["value"] (sp_require_integer K C) := by
  have nd := sc_require_integer.nd
  obtain ⟨fI, eS⟩ := e.s
  refine F.ok sc_require_integer (fun vs H Q E h => h.len) (fun cdv A outer s H vs Q E hr h => ?_)
  obtain ⟨v1, rfl, h⟩ := h
  refine ⟨_, (pss_one (ps_if (pt_not (pt_val (pc c_is_integer hr (by decide) (by rfl) (pa_cons (pv 0) pa_nil)))) (pss_one (psR rfl (takes_of rfl rfl rfl rfl) (pmk_sup1 (k := 0) eS e.it PySem.F.excBase_IndexError PySem.W.kxs_IndexError PySem.F.store_IndexError g.f_super e.tk (hr.mono (by decide)) rfl e.g (pv 0)))) pss_nil)), ?_⟩
  obtain ⟨d, hd, q, x⟩ := h
  wtm_at "go0"
  · rename_i hz
    exact fun dx hn => x hz _ dx (Ex.refl _) hn
  · rename_i hz
    exact q hz
theorem use_require_integer {d : PyData} {C : Addr} (h : Dp K H v1 d) (hp : isInt d = true) (q : Q .non H) : sp_require_integer K C [v1] H Q E := ⟨_, rfl, _, h, fun _ => q, fun z => by rw [hp] at z; cases z⟩
theorem use_require_integerX {d : PyData} {C : Addr} (h : Dp K H v1 d) (hp : isInt d = false) (q : XR C v1 H E) : sp_require_integer K C [v1] H Q E := ⟨_, rfl, _, h, (fun z => by rw [hp] at z; cases z), fun _ => q⟩
def sp_require_fraction (K : PySem.W.Frag) (C : Addr) : Sp := B1 fun v1 H Q E => ∃ d, Od K H v1 d ∧ (isFrac d = true → Ret K .none H Q) ∧ (isFrac d = false → XR C v1 H E)
abbrev s_require_fraction : Stmt := top 10
theorem sc_require_fraction : FnScope ["value"] ["value"] (defScope s_require_fraction) := ⟨rfl, rfl, rfl, by decide +kernel, rfl, by decide +kernel, by decide +kernel⟩
theorem ok_require_fraction {f : Addr} {fd : FuncData} (F : FnP K "require_fraction" s_require_fraction f fd) (g : G mg) {C : Addr} (e : ExN P K mg C) (c_is_fraction : Cl P w K mg base 2 "is_fraction" (sp_is_fraction K)) : FnOk P w K mg base (L2.CX P w) 3 f fd ["value"] (sp_require_fraction K C) := by
  have nd := sc_require_fraction.nd
  obtain ⟨fI, eS⟩ := e.s
  refine F.ok sc_require_fraction (fun vs H Q E h => h.len) (fun cdv A outer s H vs Q E hr h => ?_)
  obtain ⟨v1, rfl, h⟩ := h
  refine ⟨_, (pss_one (ps_if (pt_not (pt_val (pc c_is_fraction hr (by decide) (by rfl) (pa_cons (pv 0) pa_nil)))) (pss_one (psR rfl (takes_of rfl rfl rfl rfl) (pmk_sup1 (k := 0) eS e.it PySem.F.excBase_IndexError PySem.W.kxs_IndexError PySem.F.store_IndexError g.f_super e.tk (hr.mono (by decide)) rfl e.g (pv 0)))) pss_nil)), ?_⟩
  obtain ⟨d, hd, q, x⟩ := h
  wtm_at "go0"
  · rename_i hz
    exact fun dx hn => x hz _ dx (by wtm_at "ex") hn
  · rename_i hz
    have q2 := q hz
    wtm_at "fin"
theorem use_require_fraction {d : PyData} {C : Addr} (h : Od K H v1 d) (hp : isFrac d = true) (q : ∀ H2, Ex H H2 → Q .non H2) : sp_require_fraction K C [v1] H Q E := ⟨_, rfl, _, h, fun _ => ret_non q, fun z => by rw [hp] at z; cases z⟩
theorem use_require_fractionX {d : PyData} {C : Addr} (h : Od K H v1 d) (hp : isFrac d = false) (q : XR C v1 H E) : sp_require_fraction K C [v1] H Q E := ⟨_, rfl, _, h, (fun z => by rw [hp] at z; cases z), fun _ => q⟩
local macro_rules | `(tactic| wtm_at "use") => `(tactic| (first | ((with_reducible refine' use_require_integerX ?u0 ?u1 ?uq); (case u0 => wtm_at "dp"); (case u1 => first | with_reducible assumption | with_reducible rfl)) | fail))
local macro_rules | `(tactic| wtm_at "use") => `(tactic| (first | ((with_reducible refine' use_require_integer ?u0 ?u1 ?uq); (case u0 => wtm_at "dp"); (case u1 => first | with_reducible assumption | with_reducible rfl)) | fail))
local macro_rules | `(tactic| wtm_at "use") => `(tactic| (first | ((with_reducible refine' use_require_fractionX ?u0 ?u1 ?uq); (case u0 => wtm_at "od"); (case u1 => with_reducible assumption)) | fail))
local macro_rules | `(tactic| wtm_at "use") => `(tactic| (first | ((with_reducible refine' use_require_fraction ?u0 ?u1 (fun uH ue => ?uq)); (case u0 => wtm_at "od"); (case u1 => with_reducible assumption)) | fail))
def sp_lowest_of (K : PySem.W.Frag) (C : Addr) : Sp := B2 fun v1 v2 H Q E => ∃ d1 d2, Dp K H v1 d1 ∧ Dp K H v2 d2 ∧ (isInt d1 = false → XR C v1 H E) ∧ (isInt d1 = true → (isInt d2 = false ∨ d2 = .int 0) → XR C v2 H E) ∧ (∀ a b, d1 = .int a → d2 = .int b → b ≠ 0 → Sz 9000 b ∧ Ret K (rf a b) H Q)
abbrev s_lowest_of : Stmt := top 18
theorem sc_lowest_of : FnScope ["top", "bottom"] ["top", "bottom"] (defScope s_lowest_of) := ⟨rfl, rfl, rfl, by decide +kernel, rfl, by decide +kernel, by decide +kernel⟩
theorem ok_lowest_of {f : Addr} {fd : FuncData} (F : FnP K "lowest_of" s_lowest_of f fd) (g : G mg) {C : Addr} (e : ExN P K mg C) (c_require_integer : ClX P w K mg base 2 "require_integer" (sp_require_integer K C)) (c_reduced : Cl P w K mg base 1 "reduced" (sp_reduced K)) (c_is_integer : Cl P w K mg base 1 "is_integer" (sp_is_integer K)) : FnOk P w K mg base (L2.CX P w) 3 f fd ["top", "bottom"] (sp_lowest_of K C) := by
  have nd := sc_lowest_of.nd
  obtain ⟨fI, eS⟩ := e.s
  refine F.ok sc_lowest_of (fun vs H Q E h => h.len) (fun cdv A outer s H vs Q E hr h => ?_)
  obtain ⟨v1, v2, rfl, h⟩ := h
  refine ⟨_, (pss_cons (ps_expr (pcX c_require_integer (takes_of rfl rfl rfl rfl) hr (by decide) (by rfl) (pa_cons (pv 0) pa_nil))) (pss_cons (ps_if (PW.pt (pw_or (pt_not (pt_val (pc c_is_integer hr (by decide) (by rfl) (pa_cons (pv 1) pa_nil)))) (pw_or1 (pt_cmpR op_eq (pv 1) pe_int (nomark _))))) (pss_one (psR rfl (takes_of rfl rfl rfl rfl) (pmk_sup1 (k := 0) eS e.it PySem.F.excBase_IndexError PySem.W.kxs_IndexError PySem.F.store_IndexError g.f_super e.tk (hr.mono (by decide)) rfl e.g (pv 1)))) pss_nil) (pss_one (ps_ret (pc c_reduced hr (by decide) (by rfl) (pa_cons (pv 0) (pa_cons (pv 1) pa_nil))))))), ?_⟩
  obtain ⟨d1, d2, h1, h2, x1, x2, q⟩ := h
  cases hf1 : isInt d1 with
  | false =>
    have y1 := x1 hf1
    wtm_at "go0"
    exact y1
  | true =>
    cases hf2 : isInt d2 with
    | false =>
      have y2 := x2 hf1 (.inl hf2)
      wtm_at "go0"
      all_goals first
        | (exact fun dx hn => y2 _ dx (Ex.refl _) hn)
        | (rename_i hz; rw [hf2] at hz; cases hz)
    | true =>
      obtain ⟨a, rfl⟩ := isInt_ex hf1
      obtain ⟨b, rfl⟩ := isInt_ex hf2
      cases dpInt h1
      cases dpInt h2
      by_cases hb : b = 0
      · subst hb
        have y2 := x2 rfl (.inr rfl)
        wtm_at "go0"
        exact fun dx hn => y2 _ dx (Ex.refl _) hn
      · obtain ⟨sb, q2⟩ := q a b rfl rfl hb
        wtm_at "go0"
        all_goals first
          | (rename_i hz; exact absurd hz hb)
          | wtm_at "fin"
theorem use_lowest_of {a b : Int} {C : Addr} (hb : b ≠ 0) (sb : Sz 9000 b) (q : ∀ v H2, Ex H H2 → Dp K H2 v (rf a b) → Q v H2) : sp_lowest_of K C [.int a, .int b] H Q E :=
  ⟨_, _, rfl, _, _, .int a, .int b, (fun z => by cases z), (fun _ z => by rcases z with z | z <;> cases z; exact absurd rfl hb), fun _ _ e1 e2 _ => by cases e1; cases e2; exact ⟨sb, q⟩⟩
def sp_plus (K : PySem.W.Frag) (C : Addr) : Sp := B2 fun v1 v2 H Q E => ∃ d1 d2, Od K H v1 d1 ∧ Od K H v2 d2 ∧ (isFrac d1 = false → XR C v1 H E) ∧ (isFrac d1 = true → isFrac d2 = false → XR C v2 H E) ∧
  (isFrac d1 = true → isFrac d2 = true → ∃ a b c d, d1 = fq a b ∧ d2 = fq c d ∧ (Sz F0 a ∧ Sz F0 b ∧ Sz F0 c ∧ Sz F0 d) ∧ Ret K (sumD a b c d) H Q)
abbrev s_plus : Stmt := top 19
theorem sc_plus : FnScope ["one", "other"] ["one", "other"] (defScope s_plus) := ⟨rfl, rfl, rfl, by decide +kernel, rfl, by decide +kernel, by decide +kernel⟩
theorem ok_plus {f : Addr} {fd : FuncData} (F : FnP K "plus" s_plus f fd) (g : G mg) {C : Addr} (e : ExN P K mg C) (c_require_fraction : ClX P w K mg base 3 "require_fraction" (sp_require_fraction K C)) (c_sum_of : Cl P w K mg base 2 "sum_of" (sp_sum_of K)) : FnOk P w K mg base (L2.CX P w) 4 f fd ["one", "other"] (sp_plus K C) := by
  have nd := sc_plus.nd
  obtain ⟨fI, eS⟩ := e.s
  refine F.ok sc_plus (fun vs H Q E h => h.len) (fun cdv A outer s H vs Q E hr h => ?_)
  obtain ⟨v1, v2, rfl, h⟩ := h
  refine ⟨_, (pss_cons (ps_expr (pcX c_require_fraction (takes_of rfl rfl rfl rfl) hr (by decide) (by rfl) (pa_cons (pv 0) pa_nil))) (pss_cons (ps_expr (pcX c_require_fraction (takes_of rfl rfl rfl rfl) hr (by decide) (by rfl) (pa_cons (pv 1) pa_nil))) (pss_one (ps_ret (pc c_sum_of hr (by decide) (by rfl) (pa_cons (pv 0) (pa_cons (pv 1) pa_nil))))))), ?_⟩
  obtain ⟨d1, d2, h1, h2, x1, x2, q⟩ := h
  cases hf1 : isFrac d1 with
  | false =>
    have y1 := x1 hf1
    wtm_at "go0"
    exact XR.up y1 (by wtm_at "ex")
  | true =>
    cases hf2 : isFrac d2 with
    | false =>
      have y2 := x2 hf1 hf2
      wtm_at "go0"
      exact XR.up y2 (by wtm_at "ex")
    | true =>
      obtain ⟨a, b, c, d, rfl, rfl, ⟨sa, sb, sc, sd⟩, q2⟩ := q hf1 hf2
      have nb := isFrac_ne hf1
      have nd2 := isFrac_ne hf2
      have k1 := od_fq h1
      have k2 := od_fq h2
      wtm_at "go0"
      wtm_at "fin"
theorem use_plus {a b c d : Int} (h1 : Dp K H v1 (fq a b)) (h2 : Dp K H v2 (fq c d)) (f1 : isFrac (fq a b) = true) (f2 : isFrac (fq c d) = true) (sa : Sz F0 a) (sb : Sz F0 b) (sc : Sz F0 c) (sd : Sz F0 d) (q : ∀ v H2, Ex H H2 → Dp K H2 v (sumD a b c d) → Q v H2) {C : Addr} : sp_plus K C [v1, v2] H Q E :=
  ⟨_, _, rfl, _, _, .inl h1, .inl h2, (fun z => by rw [f1] at z; cases z), (fun _ z => by rw [f2] at z; cases z), fun _ _ => ⟨_, _, _, _, rfl, rfl, ⟨sa, sb, sc, sd⟩, q⟩⟩
theorem use_plusX {d1 d2 : PyData} {C : Addr} (h1 : Od K H v1 d1) (h2 : Od K H v2 d2) (f1 : isFrac d1 = false) (q : XR C v1 H E) : sp_plus K C [v1, v2] H Q E :=
  ⟨_, _, rfl, _, _, h1, h2, fun _ => q, (fun z => by rw [f1] at z; cases z), fun z => by rw [f1] at z; cases z⟩
theorem use_plusY {d1 d2 : PyData} {C : Addr} (h1 : Od K H v1 d1) (h2 : Od K H v2 d2) (f1 : isFrac d1 = true) (f2 : isFrac d2 = false) (q : XR C v2 H E) : sp_plus K C [v1, v2] H Q E :=
  ⟨_, _, rfl, _, _, h1, h2, (fun z => by rw [f1] at z; cases z), fun _ _ => q, fun _ z => by rw [f2] at z; cases z⟩
def sp_minus (K : PySem.W.Frag) (C : Addr) : Sp := B2 fun v1 v2 H Q E => ∃ d1 d2, Od K H v1 d1 ∧ Od K H v2 d2 ∧ (isFrac d1 = false → XR C v1 H E) ∧ (isFrac d1 = true → isFrac d2 = false → XR C v2 H E) ∧
  (isFrac d1 = true → isFrac d2 = true → ∃ a b c d, d1 = fq a b ∧ d2 = fq c d ∧ (Sz F0 a ∧ Sz F0 b ∧ Sz F0 c ∧ Sz F0 d) ∧ Ret K (sumD a b (-c) d) H Q)
abbrev s_minus : Stmt := top 20
theorem sc_minus : FnScope ["one", "other"] ["one", "other"] (defScope s_minus) := ⟨rfl, rfl, rfl, by decide +kernel, rfl, by decide +kernel, by decide +kernel⟩
theorem ok_minus {f : Addr} {fd : FuncData} (F : FnP K "minus" s_minus f fd) (g : G mg) {C : Addr} (e : ExN P K mg C) (c_require_fraction : ClX P w K mg base 3 "require_fraction" (sp_require_fraction K C)) (c_difference_of : Cl P w K mg base 3 "difference_of" (sp_difference_of K)) : FnOk P w K mg base (L2.CX P w) 4 f fd ["one", "other"] (sp_minus K C) := by
  have nd := sc_minus.nd
  obtain ⟨fI, eS⟩ := e.s
  refine F.ok sc_minus (fun vs H Q E h => h.len) (fun cdv A outer s H vs Q E hr h => ?_)
  obtain ⟨v1, v2, rfl, h⟩ := h
  refine ⟨_, (pss_cons (ps_expr (pcX c_require_fraction (takes_of rfl rfl rfl rfl) hr (by decide) (by rfl) (pa_cons (pv 0) pa_nil))) (pss_cons (ps_expr (pcX c_require_fraction (takes_of rfl rfl rfl rfl) hr (by decide) (by rfl) (pa_cons (pv 1) pa_nil))) (pss_one (ps_ret (pc c_difference_of hr (by decide) (by rfl) (pa_cons (pv 0) (pa_cons (pv 1) pa_nil))))))), ?_⟩
  obtain ⟨d1, d2, h1, h2, x1, x2, q⟩ := h
  cases hf1 : isFrac d1 with
  | false =>
    have y1 := x1 hf1
    wtm_at "go0"
    exact XR.up y1 (by wtm_at "ex")
  | true =>
    cases hf2 : isFrac d2 with
    | false =>
      have y2 := x2 hf1 hf2
      wtm_at "go0"
      exact XR.up y2 (by wtm_at "ex")
    | true =>
      obtain ⟨a, b, c, d, rfl, rfl, ⟨sa, sb, sc, sd⟩, q2⟩ := q hf1 hf2
      have nb := isFrac_ne hf1
      have nd2 := isFrac_ne hf2
      have k1 := od_fq h1
      have k2 := od_fq h2
      wtm_at "go0"
      wtm_at "fin"
theorem use_minus {a b c d : Int} (h1 : Dp K H v1 (fq a b)) (h2 : Dp K H v2 (fq c d)) (f1 : isFrac (fq a b) = true) (f2 : isFrac (fq c d) = true) (sa : Sz F0 a) (sb : Sz F0 b) (sc : Sz F0 c) (sd : Sz F0 d) (q : ∀ v H2, Ex H H2 → Dp K H2 v (sumD a b (-c) d) → Q v H2) {C : Addr} : sp_minus K C [v1, v2] H Q E :=
  ⟨_, _, rfl, _, _, .inl h1, .inl h2, (fun z => by rw [f1] at z; cases z), (fun _ z => by rw [f2] at z; cases z), fun _ _ => ⟨_, _, _, _, rfl, rfl, ⟨sa, sb, sc, sd⟩, q⟩⟩
theorem use_minusX {d1 d2 : PyData} {C : Addr} (h1 : Od K H v1 d1) (h2 : Od K H v2 d2) (f1 : isFrac d1 = false) (q : XR C v1 H E) : sp_minus K C [v1, v2] H Q E :=
  ⟨_, _, rfl, _, _, h1, h2, fun _ => q, (fun z => by rw [f1] at z; cases z), fun z => by rw [f1] at z; cases z⟩
theorem use_minusY {d1 d2 : PyData} {C : Addr} (h1 : Od K H v1 d1) (h2 : Od K H v2 d2) (f1 : isFrac d1 = true) (f2 : isFrac d2 = false) (q : XR C v2 H E) : sp_minus K C [v1, v2] H Q E :=
  ⟨_, _, rfl, _, _, h1, h2, (fun z => by rw [f1] at z; cases z), fun _ _ => q, fun _ z => by rw [f2] at z; cases z⟩
def sp_times (K : PySem.W.Frag) (C : Addr) : Sp := B2 fun v1 v2 H Q E => ∃ d1 d2, Od K H v1 d1 ∧ Od K H v2 d2 ∧ (isFrac d1 = false → XR C v1 H E) ∧ (isFrac d1 = true → isFrac d2 = false → XR C v2 H E) ∧
  (isFrac d1 = true → isFrac d2 = true → ∃ a b c d, d1 = fq a b ∧ d2 = fq c d ∧ (Sz F0 a ∧ Sz F0 b ∧ Sz F0 c ∧ Sz F0 d) ∧ Ret K (rf (a * c) (b * d)) H Q)
abbrev s_times : Stmt := top 21
theorem sc_times : FnScope ["one", "other"] ["one", "other"] (defScope s_times) := ⟨rfl, rfl, rfl, by decide +kernel, rfl, by decide +kernel, by decide +kernel⟩
theorem ok_times {f : Addr} {fd : FuncData} (F : FnP K "times" s_times f fd) (g : G mg) {C : Addr} (e : ExN P K mg C) (c_require_fraction : ClX P w K mg base 3 "require_fraction" (sp_require_fraction K C)) (c_product_of : Cl P w K mg base 2 "product_of" (sp_product_of K)) : FnOk P w K mg base (L2.CX P w) 4 f fd ["one", "other"] (sp_times K C) := by
  have nd := sc_times.nd
  obtain ⟨fI, eS⟩ := e.s
  refine F.ok sc_times (fun vs H Q E h => h.len) (fun cdv A outer s H vs Q E hr h => ?_)
  obtain ⟨v1, v2, rfl, h⟩ := h
  refine ⟨_, (pss_cons (ps_expr (pcX c_require_fraction (takes_of rfl rfl rfl rfl) hr (by decide) (by rfl) (pa_cons (pv 0) pa_nil))) (pss_cons (ps_expr (pcX c_require_fraction (takes_of rfl rfl rfl rfl) hr (by decide) (by rfl) (pa_cons (pv 1) pa_nil))) (pss_one (ps_ret (pc c_product_of hr (by decide) (by rfl) (pa_cons (pv 0) (pa_cons (pv 1) pa_nil))))))), ?_⟩
  obtain ⟨d1, d2, h1, h2, x1, x2, q⟩ := h
  cases hf1 : isFrac d1 with
  | false =>
    have y1 := x1 hf1
    wtm_at "go0"
    exact XR.up y1 (by wtm_at "ex")
  | true =>
    cases hf2 : isFrac d2 with
    | false =>
      have y2 := x2 hf1 hf2
      wtm_at "go0"
      exact XR.up y2 (by wtm_at "ex")
    | true =>
      obtain ⟨a, b, c, d, rfl, rfl, ⟨sa, sb, sc, sd⟩, q2⟩ := q hf1 hf2
      have nb := isFrac_ne hf1
      have nd2 := isFrac_ne hf2
      have k1 := od_fq h1
      have k2 := od_fq h2
      wtm_at "go0"
      wtm_at "fin"
theorem use_times {a b c d : Int} (h1 : Dp K H v1 (fq a b)) (h2 : Dp K H v2 (fq c d)) (f1 : isFrac (fq a b) = true) (f2 : isFrac (fq c d) = true) (sa : Sz F0 a) (sb : Sz F0 b) (sc : Sz F0 c) (sd : Sz F0 d) (q : ∀ v H2, Ex H H2 → Dp K H2 v (rf (a * c) (b * d)) → Q v H2) {C : Addr} : sp_times K C [v1, v2] H Q E :=
  ⟨_, _, rfl, _, _, .inl h1, .inl h2, (fun z => by rw [f1] at z; cases z), (fun _ z => by rw [f2] at z; cases z), fun _ _ => ⟨_, _, _, _, rfl, rfl, ⟨sa, sb, sc, sd⟩, q⟩⟩
theorem use_timesX {d1 d2 : PyData} {C : Addr} (h1 : Od K H v1 d1) (h2 : Od K H v2 d2) (f1 : isFrac d1 = false) (q : XR C v1 H E) : sp_times K C [v1, v2] H Q E :=
  ⟨_, _, rfl, _, _, h1, h2, fun _ => q, (fun z => by rw [f1] at z; cases z), fun z => by rw [f1] at z; cases z⟩
theorem use_timesY {d1 d2 : PyData} {C : Addr} (h1 : Od K H v1 d1) (h2 : Od K H v2 d2) (f1 : isFrac d1 = true) (f2 : isFrac d2 = false) (q : XR C v2 H E) : sp_times K C [v1, v2] H Q E :=
  ⟨_, _, rfl, _, _, h1, h2, (fun z => by rw [f1] at z; cases z), fun _ _ => q, fun _ z => by rw [f2] at z; cases z⟩
def sp_is_less (K : PySem.W.Frag) (C : Addr) : Sp := B2 fun v1 v2 H Q E => ∃ d1 d2, Od K H v1 d1 ∧ Od K H v2 d2 ∧ (isFrac d1 = false → XR C v1 H E) ∧ (isFrac d1 = true → isFrac d2 = false → XR C v2 H E) ∧
  (isFrac d1 = true → isFrac d2 = true → ∃ a b c d, d1 = fq a b ∧ d2 = fq c d ∧ (Sz F0 a ∧ Sz F0 b ∧ Sz F0 c ∧ Sz F0 d) ∧ Ret K (.bool (decide (a * d < c * b))) H Q)
abbrev s_is_less : Stmt := top 22
theorem sc_is_less : FnScope ["one", "other"] ["one", "other"] (defScope s_is_less) := ⟨rfl, rfl, rfl, by decide +kernel, rfl, by decide +kernel, by decide +kernel⟩
theorem ok_is_less {f : Addr} {fd : FuncData} (F : FnP K "is_less" s_is_less f fd) (g : G mg) {C : Addr} (e : ExN P K mg C) (c_require_fraction : ClX P w K mg base 3 "require_fraction" (sp_require_fraction K C)) (c_is_below : Cl P w K mg base 1 "is_below" (sp_is_below K)) : FnOk P w K mg base (L2.CX P w) 4 f fd ["one", "other"] (sp_is_less K C) := by
  have nd := sc_is_less.nd
  obtain ⟨fI, eS⟩ := e.s
  refine F.ok sc_is_less (fun vs H Q E h => h.len) (fun cdv A outer s H vs Q E hr h => ?_)
  obtain ⟨v1, v2, rfl, h⟩ := h
  refine ⟨_, (pss_cons (ps_expr (pcX c_require_fraction (takes_of rfl rfl rfl rfl) hr (by decide) (by rfl) (pa_cons (pv 0) pa_nil))) (pss_cons (ps_expr (pcX c_require_fraction (takes_of rfl rfl rfl rfl) hr (by decide) (by rfl) (pa_cons (pv 1) pa_nil))) (pss_one (ps_ret (pc c_is_below hr (by decide) (by rfl) (pa_cons (pv 0) (pa_cons (pv 1) pa_nil))))))), ?_⟩
  obtain ⟨d1, d2, h1, h2, x1, x2, q⟩ := h
  cases hf1 : isFrac d1 with
  | false =>
    have y1 := x1 hf1
    wtm_at "go0"
    exact XR.up y1 (by wtm_at "ex")
  | true =>
    cases hf2 : isFrac d2 with
    | false =>
      have y2 := x2 hf1 hf2
      wtm_at "go0"
      exact XR.up y2 (by wtm_at "ex")
    | true =>
      obtain ⟨a, b, c, d, rfl, rfl, ⟨sa, sb, sc, sd⟩, q2⟩ := q hf1 hf2
      have nb := isFrac_ne hf1
      have nd2 := isFrac_ne hf2
      have k1 := od_fq h1
      have k2 := od_fq h2
      wtm_at "go0"
      wtm_at "fin"
theorem use_is_less {a b c d : Int} (h1 : Dp K H v1 (fq a b)) (h2 : Dp K H v2 (fq c d)) (f1 : isFrac (fq a b) = true) (f2 : isFrac (fq c d) = true) (sa : Sz F0 a) (sb : Sz F0 b) (sc : Sz F0 c) (sd : Sz F0 d) (q : ∀ H2, Ex H H2 → Q (.bl (decide (a * d < c * b))) H2) {C : Addr} : sp_is_less K C [v1, v2] H Q E :=
  ⟨_, _, rfl, _, _, .inl h1, .inl h2, (fun z => by rw [f1] at z; cases z), (fun _ z => by rw [f2] at z; cases z), fun _ _ => ⟨_, _, _, _, rfl, rfl, ⟨sa, sb, sc, sd⟩, ret_bl q⟩⟩
theorem use_is_lessX {d1 d2 : PyData} {C : Addr} (h1 : Od K H v1 d1) (h2 : Od K H v2 d2) (f1 : isFrac d1 = false) (q : XR C v1 H E) : sp_is_less K C [v1, v2] H Q E :=
  ⟨_, _, rfl, _, _, h1, h2, fun _ => q, (fun z => by rw [f1] at z; cases z), fun z => by rw [f1] at z; cases z⟩
theorem use_is_lessY {d1 d2 : PyData} {C : Addr} (h1 : Od K H v1 d1) (h2 : Od K H v2 d2) (f1 : isFrac d1 = true) (f2 : isFrac d2 = false) (q : XR C v2 H E) : sp_is_less K C [v1, v2] H Q E :=
  ⟨_, _, rfl, _, _, h1, h2, (fun z => by rw [f1] at z; cases z), fun _ _ => q, fun _ z => by rw [f2] at z; cases z⟩
def sp_whole_below (K : PySem.W.Frag) (C : Addr) : Sp := B1 fun v1 H Q E => ∃ d1, Od K H v1 d1 ∧ (isFrac d1 = false → XR C v1 H E) ∧ (isFrac d1 = true → ∃ a b, d1 = fq a b ∧ Sz F0 b ∧ Ret K (.int (a.fdiv b)) H Q)
abbrev s_whole_below : Stmt := top 23
theorem sc_whole_below : FnScope ["one"] ["one"] (defScope s_whole_below) := ⟨rfl, rfl, rfl, by decide +kernel, rfl, by decide +kernel, by decide +kernel⟩
theorem ok_whole_below {f : Addr} {fd : FuncData} (F : FnP K "whole_below" s_whole_below f fd) (g : G mg) {C : Addr} (e : ExN P K mg C) (c_require_fraction : ClX P w K mg base 3 "require_fraction" (sp_require_fraction K C)) (c_floor_of : Cl P w K mg base 1 "floor_of" (sp_floor_of K)) : FnOk P w K mg base (L2.CX P w) 4 f fd ["one"] (sp_whole_below K C) := by
  have nd := sc_whole_below.nd
  obtain ⟨fI, eS⟩ := e.s
  refine F.ok sc_whole_below (fun vs H Q E h => h.len) (fun cdv A outer s H vs Q E hr h => ?_)
  obtain ⟨v1, rfl, h⟩ := h
  refine ⟨_, (pss_cons (ps_expr (pcX c_require_fraction (takes_of rfl rfl rfl rfl) hr (by decide) (by rfl) (pa_cons (pv 0) pa_nil))) (pss_one (ps_ret (pc c_floor_of hr (by decide) (by rfl) (pa_cons (pv 0) pa_nil))))), ?_⟩
  obtain ⟨d1, h1, x1, q⟩ := h
  cases hf1 : isFrac d1 with
  | false =>
    have y1 := x1 hf1
    wtm_at "go0"
    exact XR.up y1 (by wtm_at "ex")
  | true =>
    obtain ⟨a, b, rfl, sb, q2⟩ := q hf1
    have nb := isFrac_ne hf1
    have k1 := od_fq h1
    wtm_at "go0"
    wtm_at "fin"
theorem use_whole_below {a b : Int} {C : Addr} (h1 : Dp K H v1 (fq a b)) (f1 : isFrac (fq a b) = true) (sb : Sz F0 b) (q : ∀ H2, Ex H H2 → Q (.int (a.fdiv b)) H2) : sp_whole_below K C [v1] H Q E :=
  ⟨_, rfl, _, .inl h1, (fun z => by rw [f1] at z; cases z), fun _ => ⟨_, _, rfl, sb, ret_int q⟩⟩
theorem use_whole_belowX {d1 : PyData} {C : Addr} (h1 : Od K H v1 d1) (f1 : isFrac d1 = false) (q : XR C v1 H E) : sp_whole_below K C [v1] H Q E :=
  ⟨_, rfl, _, h1, fun _ => q, fun z => by rw [f1] at z; cases z⟩
def sp_whole_above (K : PySem.W.Frag) (C : Addr) : Sp := B1 fun v1 H Q E => ∃ d1, Od K H v1 d1 ∧ (isFrac d1 = false → XR C v1 H E) ∧ (isFrac d1 = true → ∃ a b, d1 = fq a b ∧ Sz F0 b ∧ Ret K (.int (-((-a).fdiv b))) H Q)
abbrev s_whole_above : Stmt := top 24
theorem sc_whole_above : FnScope ["one"] ["one"] (defScope s_whole_above) := ⟨rfl, rfl, rfl, by decide +kernel, rfl, by decide +kernel, by decide +kernel⟩
theorem ok_whole_above {f : Addr} {fd : FuncData} (F : FnP K "whole_above" s_whole_above f fd) (g : G mg) {C : Addr} (e : ExN P K mg C) (c_require_fraction : ClX P w K mg base 3 "require_fraction" (sp_require_fraction K C)) (c_ceiling_of : Cl P w K mg base 1 "ceiling_of" (sp_ceiling_of K)) : FnOk P w K mg base (L2.CX P w) 4 f fd ["one"] (sp_whole_above K C) := by
  have nd := sc_whole_above.nd
  obtain ⟨fI, eS⟩ := e.s
  refine F.ok sc_whole_above (fun vs H Q E h => h.len) (fun cdv A outer s H vs Q E hr h => ?_)
  obtain ⟨v1, rfl, h⟩ := h
  refine ⟨_, (pss_cons (ps_expr (pcX c_require_fraction (takes_of rfl rfl rfl rfl) hr (by decide) (by rfl) (pa_cons (pv 0) pa_nil))) (pss_one (ps_ret (pc c_ceiling_of hr (by decide) (by rfl) (pa_cons (pv 0) pa_nil))))), ?_⟩
  obtain ⟨d1, h1, x1, q⟩ := h
  cases hf1 : isFrac d1 with
  | false =>
    have y1 := x1 hf1
    wtm_at "go0"
    exact XR.up y1 (by wtm_at "ex")
  | true =>
    obtain ⟨a, b, rfl, sb, q2⟩ := q hf1
    have nb := isFrac_ne hf1
    have k1 := od_fq h1
    wtm_at "go0"
    wtm_at "fin"
theorem use_whole_above {a b : Int} {C : Addr} (h1 : Dp K H v1 (fq a b)) (f1 : isFrac (fq a b) = true) (sb : Sz F0 b) (q : ∀ H2, Ex H H2 → Q (.int (-((-a).fdiv b))) H2) : sp_whole_above K C [v1] H Q E :=
  ⟨_, rfl, _, .inl h1, (fun z => by rw [f1] at z; cases z), fun _ => ⟨_, _, rfl, sb, ret_int q⟩⟩
theorem use_whole_aboveX {d1 : PyData} {C : Addr} (h1 : Od K H v1 d1) (f1 : isFrac d1 = false) (q : XR C v1 H E) : sp_whole_above K C [v1] H Q E :=
  ⟨_, rfl, _, h1, fun _ => q, fun z => by rw [f1] at z; cases z⟩
end
end Wb

namespace Wb
open PySem PySem.Spec PyProof.Rows L2
open Evl (Ex Ex.refl Ex.trans Ex.new)
local macro_rules | `(tactic| wtm_at "dp") => `(tactic| first | with_reducible assumption | with_reducible exact Dp.int _ | with_reducible exact Dp.bl _ | with_reducible exact Dp.str _ | with_reducible exact Dp.non | ((with_reducible refine' dpMono ?dme (by with_reducible assumption)); (case dme => wtm_at "ex")) | ((with_reducible refine' Dp.tup (Evl.st_of ?dph) ?dpa); (case dph => wtm_at "hs"); (case dpa => wtm_at "dpa")) | ((with_reducible refine' Dp.lst (Evl.sq_of ?dph) ?dpa); (case dph => wtm_at "hs"); (case dpa => wtm_at "dpa")))
local macro_rules | `(tactic| wtm_at "dpa") => `(tactic| first | with_reducible exact DpAll.nil | ((with_reducible refine' DpAll.cons ?dp1 ?dp2); (case dp1 => wtm_at "dp"); (case dp2 => wtm_at "dpa")) | with_reducible assumption | ((with_reducible refine' dpMonoA ?dme (by with_reducible assumption)); (case dme => wtm_at "ex")))
local macro_rules | `(tactic| wtm_at "sz") => `(tactic| first | with_reducible assumption | ((with_reducible refine' sz_mul ?sz1 ?sz2); (case sz1 => wtm_at "sz"); (case sz2 => wtm_at "sz")) | ((with_reducible refine' sz_add ?sz1 ?sz2); (case sz1 => wtm_at "sz"); (case sz2 => wtm_at "sz")) | ((with_reducible refine' sz_sub ?sz1 ?sz2); (case sz1 => wtm_at "sz"); (case sz2 => wtm_at "sz")) | ((with_reducible refine' sz_neg ?sz1); (case sz1 => wtm_at "sz")) | ((with_reducible refine' sz_div ?sz1); (case sz1 => wtm_at "sz")) | ((with_reducible refine' sz_fdiv ?sz1); (case sz1 => wtm_at "sz")) | exact sz_lit (by decide) | wtm_at "sz2")
local macro_rules | `(tactic| wtm_at "szb") => `(tactic| first | with_reducible assumption | ((with_reducible refine' sz_mono ?szb1 ?szb2); (case szb1 => wtm_at "sz"); (case szb2 => decide)))
local macro_rules | `(tactic| wtm_at "nz") => `(tactic| first | assumption | decide | omega)
local macro_rules | `(tactic| wtm_at "shaped") => `(tactic| first | rfl | decide)
local macro_rules | `(tactic| wtm_at "sset") => `(tactic| ((dsimp only [L2.wipe, List.set, List.set_cons_zero, List.set_cons_succ]) <;> exact rfl))
local macro_rules | `(tactic| wtm_at "nrm") => `(tactic| dsimp only [L2.start, L2.wipe, List.set, List.append, List.map, List.map_cons, List.map_nil, List.length_cons, List.length_nil, Nat.reduceAdd, Nat.reduceSub, List.reduceReplicate, List.replicate, List.cons_append, List.nil_append, List.set_cons_zero, List.set_cons_succ])
local macro_rules | `(tactic| wtm_at "st") => `(tactic| first
  | ((with_reducible refine' i_var (v := ?u0) ?u1 ?uq); (case u1 => exact rfl))
  | ((with_reducible refine' i_nameN ?u0 ?uq); (case u0 => wtm_at "sset"))
  | (with_reducible refine' i_op ?uq)
  | (with_reducible refine' i_c ?uq)
  | (with_reducible refine' i_I0 ?uq)
  | ((with_reducible refine' i_ixTI (i := ?u0) ?u1 ?u2 ?u3 ?uq); (case u1 => wtm_at "dp"); (case u2 => wtm_at "ex"); (case u3 => exact rfl))
  | ((with_reducible refine' i_ixT (d := ?u0) ?u1 ?u2 ?u3 (fun xu hxu => ?uq)); (case u1 => wtm_at "dp"); (case u2 => wtm_at "ex"); (case u3 => exact rfl))
  | ((with_reducible refine' i_mul ?u0 ?u1 ?u2 ?uq); (case u0 => wtm_at "sz"); (case u1 => wtm_at "sz"); (case u2 => first | decide | omega))
  | (with_reducible refine' i_seq ?uq)
  | (with_reducible refine' i_asg ?uq)
  | (with_reducible refine' i_ret ?uq)
  | (with_reducible refine' i_ifs ?uq)
  | (with_reducible refine' i_drop ?uq)
  | (with_reducible refine' i_next ?uq)
  | (with_reducible refine' i_cons ?uq)
  | (with_reducible refine' i_nil ?uq)
  | (with_reducible refine' i_cl ?uq)
  | (with_reducible refine' i_cb ?uq)
  | (with_reducible refine' i_tup ?uq)
  | (with_reducible refine' i_lst ?uq)
  | ((with_reducible refine' i_mkT ?u0 (fun np nH nhe nhp => ?uq)); (case u0 => exact Nat.le_of_ble_eq_true rfl))
  | (with_reducible refine' i_test ?uq)
  | (with_reducible refine' i_B ?uq)
  | (with_reducible refine' i_k ?uq)
  | (with_reducible refine' i_and ?uq)
  | (with_reducible refine' i_or ?uq)
  | (with_reducible refine' i_not ?uq)
  | (with_reducible refine' i_andV ?uq)
  | (with_reducible refine' i_orV ?uq)
  | (with_reducible refine' i_notV ?uq)
  | (with_reducible refine' i_if ?uq)
  | (with_reducible refine' i_un ?uq)
  | (with_reducible refine' i_U ?uq)
  | (with_reducible refine' i_iteT ?uq)
  | (with_reducible refine' i_iteF ?uq)
  | ((with_reducible refine' i_iteTr ?u0 ?uq); (case u0 => first | with_reducible rfl | decide | (simp only [dIsInt, dIsBool, dIsTup, dIsStr, dIsLst, Bool.not_true, Bool.not_false]; done)))
  | ((with_reducible refine' i_iteFr ?u0 ?uq); (case u0 => first | with_reducible rfl | decide | (simp only [dIsInt, dIsBool, dIsTup, dIsStr, dIsLst, Bool.not_true, Bool.not_false]; done)))
  | (with_reducible refine' i_ite (fun hif => ?uqa) (fun hif => ?uqb))
  | (with_reducible refine' i_iteN (fun hif => ?uqa) (fun hif => ?uqb))
  | (with_reducible refine' i_iteBN (fun hif => ?uqa) (fun hif => ?uqb))
  | (with_reducible refine' i_iteB (fun hif => ?uqa) (fun hif => ?uqb))
  | ((with_reducible refine' i_modN ?u0 ?uq); (case u0 => wtm_at "nz"))
  | ((with_reducible refine' i_fdX ?u0 ?u1 ?u2 ?uq); (case u0 => wtm_at "nz"); (case u1 => wtm_at "sz"); (case u2 => first | decide | omega))
  | ((with_reducible refine' i_pow ?u0 ?uq); (case u0 => exact ⟨by decide, by decide +kernel⟩))
  | (with_reducible refine' i_eqI ?uq)
  | (with_reducible refine' i_neI ?uq)
  | (with_reducible refine' i_gcd ?uq)
  | (with_reducible refine' i_qabs ?uq)
  | (with_reducible refine' i_qint ?uq)
  | (with_reducible refine' i_qintB ?uq)
  | (with_reducible refine' i_qmax2 ?uq)
  | (with_reducible refine' i_qmin2 ?uq)
  | (with_reducible refine' i_isB ?uq)
  | (with_reducible refine' i_notB ?uq)
  | (with_reducible refine' i_chain ?uq)
  | (with_reducible refine' i_qisN ?uq)
  | (with_reducible refine' i_qnotN ?uq)
  | (with_reducible refine' i_yes ?uq)
  | (with_reducible refine' i_par ?uq)
  | (with_reducible refine' i_par3 ?uq)
  | ((with_reducible refine' i_par2 ?u0 ?uq); (case u0 => wtm_at "sset"))
  | ((with_reducible refine' i_par33 ?u0 ?uq); (case u0 => wtm_at "sset"))
  | ((with_reducible refine' i_ixLI (i := ?u0) ?u1 ?u2 ?u3 ?uq); (case u1 => wtm_at "dp"); (case u2 => wtm_at "ex"); (case u3 => exact rfl))
  | ((with_reducible refine' i_ixL (d := ?u0) ?u1 ?u2 ?u3 (fun xu hxu => ?uq)); (case u1 => wtm_at "dp"); (case u2 => wtm_at "ex"); (case u3 => exact rfl))
  | ((with_reducible refine' i_qlenT ?u0 ?uq); (case u0 => wtm_at "dp"))
  | ((with_reducible refine' i_qlenL ?u0 ?uq); (case u0 => wtm_at "dp"))
  | ((with_reducible refine' i_gtup ?u0 ?u1 ?u2 (fun gvs gdp => ?uq)); (case u0 => wtm_at "dp"); (case u1 => wtm_at "ex"); (case u2 => exact rfl))
  | ((with_reducible refine' i_glst ?u0 ?u1 ?u2 (fun gvs gdp => ?uq)); (case u0 => wtm_at "dp"); (case u1 => wtm_at "ex"); (case u2 => exact rfl))
  | ((with_reducible refine' i_gconsI ?u0 (fun gr gh => ?uq)); (case u0 => with_reducible assumption))
  | ((with_reducible refine' i_gconsA ?u0 (fun gv gr gh1 gh2 => ?uq)); (case u0 => with_reducible assumption))
  | ((with_reducible refine' i_gnilA ?u0 ?uq); (case u0 => with_reducible assumption))
  | ((with_reducible refine' i_isiI ?u0 ?uq); (case u0 => wtm_at "dp"))
  | ((with_reducible refine' i_isiB ?u0 ?uq); (case u0 => wtm_at "dp"))
  | ((with_reducible refine' i_isiT ?u0 ?uq); (case u0 => wtm_at "dp"))
  | ((with_reducible refine' i_isiS ?u0 ?uq); (case u0 => wtm_at "dp"))
  | ((with_reducible refine' i_isiL ?u0 ?uq); (case u0 => wtm_at "dp"))
  | ((with_reducible refine' i_eqD ?u0 ?u1 ?u2 ?u3 ?uq); (case u0 => wtm_at "dp"); (case u1 => wtm_at "dp"); (case u2 => wtm_at "shaped"); (case u3 => wtm_at "shaped"))
  | ((with_reducible refine' i_neD ?u0 ?u1 ?u2 ?u3 ?uq); (case u0 => wtm_at "dp"); (case u1 => wtm_at "dp"); (case u2 => wtm_at "shaped"); (case u3 => wtm_at "shaped"))
  | wtm_at "st2"
  | wtm_at "use")
local macro_rules | `(tactic| wtm_at "go") => `(tactic| repeat' (wtm_at "st"))
local macro_rules | `(tactic| wtm_at "go0") => `(tactic| ((try dsimp only [L2.cxOf, L2.Cx.nox, L2.Cx.wish, L2.Cx.tr, L2.Cx.blk]); (try wtm_at "nrm"); wtm_at "go"))
local macro_rules | `(tactic| wtm_at "fin") => `(tactic| ((try dsimp only); first | with_reducible assumption | assumption | ((with_reducible refine' Ret.use ?rur ?rue ?rud); (case rur => with_reducible assumption); (case rue => wtm_at "ex"); (case rud => wtm_at "dp"))))
local macro_rules | `(tactic| wtm_at "ex") => `(tactic| first | with_reducible assumption | with_reducible exact Ex.refl _ | with_reducible exact ex_hid | ((with_reducible refine' Ex.trans ?exe (by with_reducible assumption)); (case exe => wtm_at "ex")) | ((with_reducible refine' Ex.trans ?exe (hid_ex (by with_reducible assumption))); (case exe => wtm_at "ex")) | ((with_reducible refine' Ex.trans ?exe ex_hid); (case exe => wtm_at "ex")))
local macro_rules | `(tactic| wtm_at "bag") => `(tactic| first | with_reducible assumption | ((with_reducible refine' Bag.mono ?bgm (by with_reducible assumption)); (case bgm => wtm_at "bag")))
local macro_rules | `(tactic| wtm_at "hs") => `(tactic| first | with_reducible assumption | ((with_reducible refine' hid_tup ?hb ?hp); (case hp => with_reducible assumption); (case hb => wtm_at "bag")) | ((with_reducible refine' hid_new ?hb ?hn ?hp); (case hp => with_reducible assumption); (case hn => with_reducible assumption); (case hb => wtm_at "bag")) | ((with_reducible refine' ex_at ?exe (by with_reducible assumption)); (case exe => wtm_at "ex")))
local macro_rules | `(tactic| wtm_at "st2") => `(tactic| first
  | ((with_reducible refine' i_mulC ?u0 ?uq); (case u0 => first | exact cmul_l (by decide) | exact cmul_r (by decide)))
  | ((with_reducible refine' i_ixLr (v := ?u0) ?u1 ?u2 ?uq); (case u1 => with_reducible assumption); (case u2 => exact rfl))
  | (with_reducible refine' i_sub ?uq)
  | ((with_reducible refine' i_mkL ?u0 (fun np nH nfr nhe nhp => ?uq)); (case u0 => exact Nat.le_of_ble_eq_true rfl))
  | ((with_reducible refine' i_setL (n := ?u0) ?u1 ?u2 (fun sH sh se => ?uq)); (case u1 => with_reducible assumption); (case u2 => exact rfl))
  | (with_reducible refine' i_sl ?uq)
  | (with_reducible refine' i_nopart ?uq)
  | (with_reducible refine' i_part ?uq)
  | (with_reducible refine' i_part1 ?uq))
local macro_rules | `(tactic| wtm_at "sz2") => `(tactic| ((with_reducible refine' sz_fmod ?sz1 ?sz2); (case sz1 => wtm_at "nz"); (case sz2 => wtm_at "sz")))
local macro_rules | `(tactic| wtm_at "stb") => `(tactic| first
  | ((with_reducible refine' i_mkTB ?u0 ?u1 (fun np nH nhe nhb nhp => ?uq)); (case u0 => exact Nat.le_of_ble_eq_true rfl); (case u1 => wtm_at "bag"))
  | ((with_reducible refine' i_mkLB ?u0 ?u1 (fun np nH nfr nhe nhb nhp => ?uq)); (case u0 => exact Nat.le_of_ble_eq_true rfl); (case u1 => wtm_at "bag"))
  | wtm_at "st")
local macro_rules | `(tactic| wtm_at "gob") => `(tactic| repeat' (wtm_at "stb"))
local macro_rules | `(tactic| wtm_at "gob0") => `(tactic| ((try dsimp only [L2.cxOf, L2.Cx.nox, L2.Cx.wish, L2.Cx.tr, L2.Cx.blk]); (try wtm_at "nrm"); wtm_at "gob"))
local macro_rules | `(tactic| wtm_at "use") => `(tactic| (with_reducible refine' use_shared_of ?uq))
local macro_rules | `(tactic| wtm_at "use") => `(tactic| ((with_reducible refine' use_is_integer ?u0 ?uq); (case u0 => wtm_at "dp")))
local macro_rules | `(tactic| wtm_at "use") => `(tactic| ((with_reducible refine' use_reduced ?u0 ?u1 (fun ur uH ue ud => ?uq)); (case u0 => wtm_at "nz"); (case u1 => wtm_at "szb")))
local macro_rules | `(tactic| wtm_at "use") => `(tactic| ((with_reducible refine' use_sum_of ?u0 ?u1 ?u2 ?u3 ?u4 ?u5 ?u6 ?u7 (fun ur uH ue ud => ?uq)); (case u0 => wtm_at "dp"); (case u1 => wtm_at "dp"); (case u2 => wtm_at "szb"); (case u3 => wtm_at "szb"); (case u4 => wtm_at "szb"); (case u5 => wtm_at "szb"); (case u6 => wtm_at "nz"); (case u7 => wtm_at "nz")))
local macro_rules | `(tactic| wtm_at "use") => `(tactic| ((with_reducible refine' use_difference_of ?u0 ?u1 ?u2 ?u3 ?u4 ?u5 ?u6 ?u7 (fun ur uH ue ud => ?uq)); (case u0 => wtm_at "dp"); (case u1 => wtm_at "dp"); (case u2 => wtm_at "szb"); (case u3 => wtm_at "szb"); (case u4 => wtm_at "szb"); (case u5 => wtm_at "szb"); (case u6 => wtm_at "nz"); (case u7 => wtm_at "nz")))
local macro_rules | `(tactic| wtm_at "use") => `(tactic| ((with_reducible refine' use_product_of ?u0 ?u1 ?u2 ?u3 ?u4 ?u5 ?u6 ?u7 (fun ur uH ue ud => ?uq)); (case u0 => wtm_at "dp"); (case u1 => wtm_at "dp"); (case u2 => wtm_at "szb"); (case u3 => wtm_at "szb"); (case u4 => wtm_at "szb"); (case u5 => wtm_at "szb"); (case u6 => wtm_at "nz"); (case u7 => wtm_at "nz")))
local macro_rules | `(tactic| wtm_at "use") => `(tactic| ((with_reducible refine' use_is_below ?u0 ?u1 ?u2 ?u3 ?u4 ?u5 ?uq); (case u0 => wtm_at "dp"); (case u1 => wtm_at "dp"); (case u2 => wtm_at "szb"); (case u3 => wtm_at "szb"); (case u4 => wtm_at "szb"); (case u5 => wtm_at "szb")))
local macro_rules | `(tactic| wtm_at "use") => `(tactic| ((with_reducible refine' use_floor_of ?u0 ?u1 ?u2 ?uq); (case u0 => wtm_at "dp"); (case u1 => wtm_at "szb"); (case u2 => wtm_at "nz")))
local macro_rules | `(tactic| wtm_at "use") => `(tactic| ((with_reducible refine' use_ceiling_of ?u0 ?u1 ?u2 ?uq); (case u0 => wtm_at "dp"); (case u1 => wtm_at "szb"); (case u2 => wtm_at "nz")))
local macro_rules | `(tactic| wtm_at "use") => `(tactic| ((with_reducible refine' use_is_fraction ?u0 (fun uH ue => ?uq)); (case u0 => wtm_at "od")))
local macro_rules | `(tactic| wtm_at "od") => `(tactic| first | with_reducible assumption | ((with_reducible refine' odMono ?ode (by with_reducible assumption)); (case ode => wtm_at "ex")) | ((with_reducible refine' Or.inl ?odd); (case odd => wtm_at "dp")))
section
variable {P : Program} {w : World} {K : PySem.W.Frag} {mg : Str → Option Value} {base : Heap} {H H' : Hp} {Q : VK} {E : XK} {v1 v2 v3 v4 : V}
/-! ### texts -/
def rLeS : R2 := fun x y H Q => ∃ i j, x = .str i ∧ y = .str j ∧ Q (.bl (!decide (j.cps.toList < i.cps.toList))) H
def rAddS : R2 := fun x y H Q => ∃ i j, x = .str i ∧ y = .str j ∧ i.length + j.length ≤ sizeLine ∧ Q (.str (i ++ j)) H
def qLenS : List V → Hp → VK → Prop := fun xs H Q => ∃ z, xs = [.str z] ∧ z.length ≤ sizeLine ∧ Q (.int z.length) H
section
variable {X : Cx}
theorem op_leS : OpR X (compareOp .LtE) rLeS := op_le_str
theorem op_addS : OpR X (binaryOp .Add) rAddS := op_add_str
theorem call_qlenS : CallR X (.builtin "len") qLenS := call_len_str
end
theorem i_leS {i j : Str} (q : Q (.bl (!decide (j.cps.toList < i.cps.toList))) H) : rLeS (.str i) (.str j) H Q := ⟨i, j, rfl, rfl, q⟩
theorem i_addS {i j : Str} (h : i.length + j.length ≤ 100000) (q : Q (.str (i ++ j)) H) : rAddS (.str i) (.str j) H Q := ⟨i, j, rfl, rfl, Evl.sz_of h, q⟩
theorem i_qlenStr {z : Str} (h : z.length ≤ 100000) (q : Q (.int z.length) H) : qLenS [.str z] H Q := ⟨z, rfl, Evl.sz_of h, q⟩
def sgl (c : Nat) : Str := ⟨#[c]⟩
/-- a pure comprehension over a text -/
theorem i_lcS {z : Str} {σ : L2.St} {vs : List Nat} {j : Nat} {te : TE} (f : Nat → PyData) (hl : z.cps.size ≤ 100000) (hn : ∀ c, noL (f c) = true) (hw : ∀ x, wipe ((wipe σ vs).set j (some x)) vs = wipe σ vs)
    (he : ∀ (c : Nat) (H2 : Hp) (R : VK), Ex H H2 → c ∈ z.cps.toList → (∀ w H3, Ex H2 H3 → Dp K H3 w (f c) → R w H3) → te ((wipe σ vs).set j (some (.str (sgl c)))) H2 R)
    (q : ∀ p H2, H p = none → Ex H H2 → (∃ acc, H2 p = some (.lst acc) ∧ DpAll K H2 acc (z.cps.toList.map f)) → Q (.ref p) H2) : tLc (iStr (tC (.str z))) (gName j) tYes te vs σ H Q := by
  have hz : (z.cps.toList.map fun c => PyData.int (c : Nat)).length = z.cps.size := by simp
  refine ⟨z, rfl, fun D hD => lc_it walk_str (Lcv K H D (z.cps.toList.map fun c => PyData.int (c : Nat)) (fun _ => true) (fun d => match d with | .int i => f i.toNat | _ => .none)) ⟨hD, Ex.new hD, [], upd_same, .nil⟩ (fun _ _ _ _ => trivial) (fun i x H' H2 hi p y => ?_) (fun H' p => ?_)⟩
  · obtain ⟨rfl, c, hc, rfl⟩ := y
    have hm : c ∈ z.cps.toList := by
      rw [← Array.getElem?_toList] at hc
      exact List.mem_of_getElem? hc
    refine ⟨hw _, lcv_turn (d := .int (c : Nat)) p ?_ (by rw [hz]; exact hl) (fun d hd => ?_) (fun H3 R e3 r => r H3 (Ex.refl _)) (fun _ H3 R e3 r => ?_)⟩
    · rw [List.getElem?_map, Array.getElem?_toList, hc]
      rfl
    · obtain ⟨c2, _, rfl⟩ := List.mem_map.mp hd
      exact hn _
    · exact he c H3 R e3 hm r
  · obtain ⟨p1, p2, acc, p3, p4⟩ := p
    rw [← hz, List.take_length, List.filter_eq_self.mpr (fun _ _ => rfl), List.map_map] at p4
    refine q D H' p1 p2 ⟨acc, p3, ?_⟩
    have e : (z.cps.toList.map f) = z.cps.toList.map ((fun d => match d with | .int i => f i.toNat | _ => .none) ∘ fun c => PyData.int (c : Nat)) := by
      congr 1
    rw [e]
    exact p4
theorem i_lcSU {tl : TE} {σ : L2.St} {vs : List Nat} {j : Nat} {te : TE} {tt : TT} (q : tl σ H fun x H1 => tLc (iStr (tC x)) (gName j) tt te vs σ H1 Q) : tLc (iStr tl) (gName j) tt te vs σ H Q := q
def isLow (c : Nat) : Bool := decide (97 ≤ c) && decide (c ≤ 122)
def isName : PyData → Bool
  | .str x => decide (1 ≤ x.length) && decide (x.length ≤ 20) && x.cps.toList.all isLow
  | _ => false
local macro_rules | `(tactic| wtm_at "st2") => `(tactic| (with_reducible refine' i_leS ?uq))
local macro_rules | `(tactic| wtm_at "st2") => `(tactic| ((with_reducible refine' i_qlenStr ?u0 ?uq); (case u0 => first | assumption | omega)))
theorem low_le (c : Nat) : (!decide ((sgl c).cps.toList < ([97] : List Nat))) = decide (97 ≤ c) := by
  show (!decide ([c] < ([97] : List Nat))) = _
  rw [Bool.eq_iff_iff]
  simp only [Bool.not_eq_true', decide_eq_false_iff_not, decide_eq_true_eq, List.cons_lt_cons_iff, List.not_lt_nil, and_false, or_false]
  omega
theorem low_ge (c : Nat) : (!decide (([122] : List Nat) < (sgl c).cps.toList)) = decide (c ≤ 122) := by
  show (!decide (([122] : List Nat) < [c])) = _
  rw [Bool.eq_iff_iff]
  simp only [Bool.not_eq_true', decide_eq_false_iff_not, decide_eq_true_eq, List.cons_lt_cons_iff, List.not_lt_nil, and_false, or_false]
  omega
def sp_is_name (K : PySem.W.Frag) : Sp := A1 fun v1 H Q => ∃ d, Dp K H v1 d ∧ (∀ x, d = .str x → x.length ≤ 1000) ∧ Ret K (.bool (isName d)) H Q
abbrev s_is_name : Stmt := top 6
theorem sc_is_name : FnScope ["value", "sign"] ["value"] (defScope s_is_name) := ⟨rfl, rfl, rfl, by decide +kernel, rfl, by decide +kernel, by decide +kernel⟩
theorem ok_is_name {f : Addr} {fd : FuncData} (F : FnP K "is_name" s_is_name f fd) (g : G mg)   : FnOk P w K mg base CX0 1 f fd ["value"] (sp_is_name K) := by
  have nd := sc_is_name.nd
  refine F.ok sc_is_name (fun vs H Q E h => h.len) (fun cdv A outer s H vs Q E hr h => ?_)
  obtain ⟨v1, rfl, h⟩ := h
  refine ⟨_, PSs.nox (pss_cons (ps_if (PW.pt (pw_or (pt_not (pt_val (pe_callB call_isi (by rfl) g.f_isinstance boot_isinstance (pa_cons (pv 0) (pa_cons (pe_bltn (v := .ty "str") (by rfl) g.f_str boot_str rfl) pa_nil))))) (pw_or1 (pt_not (pt_chain op_le op_le pe_int (pe_callB call_qlenS (by rfl) g.f_len boot_len (pa_cons (pv 0) pa_nil)) (pe_glob (v := .int 20) (by rfl) g.c_max.choose_spec ⟨_, rfl⟩)))))) (pss_one (ps_ret pe_bl)) pss_nil) (pss_one (ps_ret (pe_callB (cr_all rfl) (by rfl) g.f_all boot_all (pa_cons (pe_lc (own := [("sign", 1)]) (g := gName 1) (by rfl) nd (pi_str (pv 0)) (blkOk_by (N := ["value", "sign"]) (sc := defScope s_is_name) (own := [("sign", 1)]) (by decide +kernel)) (fun _ _ _ _ _ => (pg_name (i := 1) nd rfl (Or.inl rfl))) (fun _ _ _ _ _ => pts_nil) (fun _ _ _ _ _ => (pe_chain op_leS op_leS pe_str (pv 1) pe_str))) pa_nil))))), ?_⟩
  obtain ⟨d, hd, hx, q⟩ := h
  cases d with
  | str x =>
    have hl := hx x rfl
    have hl2 : x.length ≤ 100000 := by omega
    cases dpStr hd
    wtm_at "go0"
    · rename_i h1 h2
      dsimp only
      refine Ret.bl' q (by wtm_at "ex") ?_
      show (decide (1 ≤ x.length) && decide (x.length ≤ 20) && x.cps.toList.all isLow) = false
      rw [decide_eq_false (p := x.length ≤ 20) (by omega), Bool.and_false, Bool.false_and]
    · have h1 : (1 : Int) ≤ x.length := by assumption
      have h2 : (x.length : Int) ≤ 20 := by assumption
      refine i_lcSU ?_
      wtm_at "go"
      refine i_lcS (K := K) (fun c => .bool (isLow c)) hl2 (fun _ => rfl) (fun x => wipe1 x) (fun c H2 R e2 hm r => ?_) (fun p H2 hp e2 hacc => ?_)
      · wtm_at "nrm"
        wtm_at "go"
        · rename_i h5
          have h6 := low_le c
          rw [Bool.eq_iff_iff] at h6
          have h7 : 97 ≤ c := of_decide_eq_true (h6.mp (by rw [decide_eq_false (p := (sgl c).cps.toList < ([97] : List Nat)) h5]; rfl))
          refine r _ _ (Ex.refl _) ?_
          have e : isLow c = (!decide (([122] : List Nat) < (sgl c).cps.toList)) := by
            rw [low_ge]
            show (decide (97 ≤ c) && decide (c ≤ 122)) = _
            rw [decide_eq_true h7, Bool.true_and]
          rw [e]
          exact Dp.bl _
        · rename_i h5
          have h6 := low_le c
          have h7 : ¬ 97 ≤ c := by
            rw [decide_eq_true (p := (sgl c).cps.toList < ([97] : List Nat)) h5] at h6
            exact of_decide_eq_false h6.symm
          refine r _ _ (Ex.refl _) ?_
          have e : isLow c = false := by
            show (decide (97 ≤ c) && decide (c ≤ 122)) = _
            rw [decide_eq_false h7, Bool.false_and]
          rw [e]
          exact Dp.bl _
      · obtain ⟨acc, h3, h4⟩ := hacc
        have hlst : Dp K H2 (.ref p) (.list (x.cps.toList.map fun c => .bool (isLow c))) := .lst (Evl.sq_of h3) h4
        wtm_at "go"
        refine i_all (bs := x.cps.toList.map isLow) hlst (by rw [List.map_map]; rfl) ?_
        dsimp only
        refine Ret.bl' q (by wtm_at "ex") ?_
        show (decide (1 ≤ x.length) && decide (x.length ≤ 20) && x.cps.toList.all isLow) = _
        rw [decide_eq_true (p := 1 ≤ x.length) (by omega), decide_eq_true (p := x.length ≤ 20) (by omega), List.all_map]
        rfl
    · rename_i h1
      dsimp only
      refine Ret.bl' q (by wtm_at "ex") ?_
      show (decide (1 ≤ x.length) && decide (x.length ≤ 20) && x.cps.toList.all isLow) = false
      rw [decide_eq_false (p := 1 ≤ x.length) (by omega), Bool.false_and, Bool.false_and]
  | _ =>
    wtm_at "go0"
    all_goals (dsimp only; exact Ret.bl' q (Ex.refl _) rfl)
theorem use_is_name {d : PyData} (h : Dp K H v1 d) (hx : ∀ x, d = .str x → x.length ≤ 1000) (q : ∀ H2, Ex H H2 → Q (.bl (isName d)) H2) : sp_is_name K [v1] H Q E := ⟨_, rfl, _, h, hx, ret_bl q⟩
end
end Wb

namespace Wb
open PySem PySem.Spec PyProof.Rows L2
open Evl (Ex Ex.refl Ex.trans Ex.new)
local macro_rules | `(tactic| wtm_at "dp") => `(tactic| first | with_reducible assumption | with_reducible exact Dp.int _ | with_reducible exact Dp.bl _ | with_reducible exact Dp.str _ | with_reducible exact Dp.non | ((with_reducible refine' dpMono ?dme (by with_reducible assumption)); (case dme => wtm_at "ex")) | ((with_reducible refine' Dp.tup (Evl.st_of ?dph) ?dpa); (case dph => wtm_at "hs"); (case dpa => wtm_at "dpa")) | ((with_reducible refine' Dp.lst (Evl.sq_of ?dph) ?dpa); (case dph => wtm_at "hs"); (case dpa => wtm_at "dpa")))
local macro_rules | `(tactic| wtm_at "dpa") => `(tactic| first | with_reducible exact DpAll.nil | ((with_reducible refine' DpAll.cons ?dp1 ?dp2); (case dp1 => wtm_at "dp"); (case dp2 => wtm_at "dpa")) | with_reducible assumption | ((with_reducible refine' dpMonoA ?dme (by with_reducible assumption)); (case dme => wtm_at "ex")))
local macro_rules | `(tactic| wtm_at "sz") => `(tactic| first | with_reducible assumption | ((with_reducible refine' sz_mul ?sz1 ?sz2); (case sz1 => wtm_at "sz"); (case sz2 => wtm_at "sz")) | ((with_reducible refine' sz_add ?sz1 ?sz2); (case sz1 => wtm_at "sz"); (case sz2 => wtm_at "sz")) | ((with_reducible refine' sz_sub ?sz1 ?sz2); (case sz1 => wtm_at "sz"); (case sz2 => wtm_at "sz")) | ((with_reducible refine' sz_neg ?sz1); (case sz1 => wtm_at "sz")) | ((with_reducible refine' sz_div ?sz1); (case sz1 => wtm_at "sz")) | ((with_reducible refine' sz_fdiv ?sz1); (case sz1 => wtm_at "sz")) | exact sz_lit (by decide) | wtm_at "sz2")
local macro_rules | `(tactic| wtm_at "szb") => `(tactic| first | with_reducible assumption | ((with_reducible refine' sz_mono ?szb1 ?szb2); (case szb1 => wtm_at "sz"); (case szb2 => decide)))
local macro_rules | `(tactic| wtm_at "nz") => `(tactic| first | assumption | decide | omega)
local macro_rules | `(tactic| wtm_at "shaped") => `(tactic| first | rfl | decide)
local macro_rules | `(tactic| wtm_at "sset") => `(tactic| ((dsimp only [L2.wipe, List.set, List.set_cons_zero, List.set_cons_succ]) <;> exact rfl))
local macro_rules | `(tactic| wtm_at "nrm") => `(tactic| dsimp only [L2.start, L2.wipe, List.set, List.append, List.map, List.map_cons, List.map_nil, List.length_cons, List.length_nil, Nat.reduceAdd, Nat.reduceSub, List.reduceReplicate, List.replicate, List.cons_append, List.nil_append, List.set_cons_zero, List.set_cons_succ])
local macro_rules | `(tactic| wtm_at "st") => `(tactic| first
  | ((with_reducible refine' i_var (v := ?u0) ?u1 ?uq); (case u1 => exact rfl))
  | ((with_reducible refine' i_nameN ?u0 ?uq); (case u0 => wtm_at "sset"))
  | (with_reducible refine' i_op ?uq)
  | (with_reducible refine' i_c ?uq)
  | (with_reducible refine' i_I0 ?uq)
  | ((with_reducible refine' i_ixTI (i := ?u0) ?u1 ?u2 ?u3 ?uq); (case u1 => wtm_at "dp"); (case u2 => wtm_at "ex"); (case u3 => exact rfl))
  | ((with_reducible refine' i_ixT (d := ?u0) ?u1 ?u2 ?u3 (fun xu hxu => ?uq)); (case u1 => wtm_at "dp"); (case u2 => wtm_at "ex"); (case u3 => exact rfl))
  | ((with_reducible refine' i_mul ?u0 ?u1 ?u2 ?uq); (case u0 => wtm_at "sz"); (case u1 => wtm_at "sz"); (case u2 => first | decide | omega))
  | (with_reducible refine' i_seq ?uq)
  | (with_reducible refine' i_asg ?uq)
  | (with_reducible refine' i_ret ?uq)
  | (with_reducible refine' i_ifs ?uq)
  | (with_reducible refine' i_drop ?uq)
  | (with_reducible refine' i_next ?uq)
  | (with_reducible refine' i_cons ?uq)
  | (with_reducible refine' i_nil ?uq)
  | (with_reducible refine' i_cl ?uq)
  | (with_reducible refine' i_cb ?uq)
  | (with_reducible refine' i_tup ?uq)
  | (with_reducible refine' i_lst ?uq)
  | ((with_reducible refine' i_mkT ?u0 (fun np nH nhe nhp => ?uq)); (case u0 => exact Nat.le_of_ble_eq_true rfl))
  | (with_reducible refine' i_test ?uq)
  | (with_reducible refine' i_B ?uq)
  | (with_reducible refine' i_k ?uq)
  | (with_reducible refine' i_and ?uq)
  | (with_reducible refine' i_or ?uq)
  | (with_reducible refine' i_not ?uq)
  | (with_reducible refine' i_andV ?uq)
  | (with_reducible refine' i_orV ?uq)
  | (with_reducible refine' i_notV ?uq)
  | (with_reducible refine' i_if ?uq)
  | (with_reducible refine' i_un ?uq)
  | (with_reducible refine' i_U ?uq)
  | (with_reducible refine' i_iteT ?uq)
  | (with_reducible refine' i_iteF ?uq)
  | ((with_reducible refine' i_iteTr ?u0 ?uq); (case u0 => first | with_reducible rfl | decide | (simp only [dIsInt, dIsBool, dIsTup, dIsStr, dIsLst, Bool.not_true, Bool.not_false]; done)))
  | ((with_reducible refine' i_iteFr ?u0 ?uq); (case u0 => first | with_reducible rfl | decide | (simp only [dIsInt, dIsBool, dIsTup, dIsStr, dIsLst, Bool.not_true, Bool.not_false]; done)))
  | (with_reducible refine' i_ite (fun hif => ?uqa) (fun hif => ?uqb))
  | (with_reducible refine' i_iteN (fun hif => ?uqa) (fun hif => ?uqb))
  | (with_reducible refine' i_iteBN (fun hif => ?uqa) (fun hif => ?uqb))
  | (with_reducible refine' i_iteB (fun hif => ?uqa) (fun hif => ?uqb))
  | ((with_reducible refine' i_modN ?u0 ?uq); (case u0 => wtm_at "nz"))
  | ((with_reducible refine' i_fdX ?u0 ?u1 ?u2 ?uq); (case u0 => wtm_at "nz"); (case u1 => wtm_at "sz"); (case u2 => first | decide | omega))
  | ((with_reducible refine' i_pow ?u0 ?uq); (case u0 => exact ⟨by decide, by decide +kernel⟩))
  | (with_reducible refine' i_eqI ?uq)
  | (with_reducible refine' i_neI ?uq)
  | (with_reducible refine' i_gcd ?uq)
  | (with_reducible refine' i_qabs ?uq)
  | (with_reducible refine' i_qint ?uq)
  | (with_reducible refine' i_qintB ?uq)
  | (with_reducible refine' i_qmax2 ?uq)
  | (with_reducible refine' i_qmin2 ?uq)
  | (with_reducible refine' i_isB ?uq)
  | (with_reducible refine' i_notB ?uq)
  | (with_reducible refine' i_chain ?uq)
  | (with_reducible refine' i_qisN ?uq)
  | (with_reducible refine' i_qnotN ?uq)
  | (with_reducible refine' i_yes ?uq)
  | (with_reducible refine' i_par ?uq)
  | (with_reducible refine' i_par3 ?uq)
  | ((with_reducible refine' i_par2 ?u0 ?uq); (case u0 => wtm_at "sset"))
  | ((with_reducible refine' i_par33 ?u0 ?uq); (case u0 => wtm_at "sset"))
  | ((with_reducible refine' i_ixLI (i := ?u0) ?u1 ?u2 ?u3 ?uq); (case u1 => wtm_at "dp"); (case u2 => wtm_at "ex"); (case u3 => exact rfl))
  | ((with_reducible refine' i_ixL (d := ?u0) ?u1 ?u2 ?u3 (fun xu hxu => ?uq)); (case u1 => wtm_at "dp"); (case u2 => wtm_at "ex"); (case u3 => exact rfl))
  | ((with_reducible refine' i_qlenT ?u0 ?uq); (case u0 => wtm_at "dp"))
  | ((with_reducible refine' i_qlenL ?u0 ?uq); (case u0 => wtm_at "dp"))
  | ((with_reducible refine' i_gtup ?u0 ?u1 ?u2 (fun gvs gdp => ?uq)); (case u0 => wtm_at "dp"); (case u1 => wtm_at "ex"); (case u2 => exact rfl))
  | ((with_reducible refine' i_glst ?u0 ?u1 ?u2 (fun gvs gdp => ?uq)); (case u0 => wtm_at "dp"); (case u1 => wtm_at "ex"); (case u2 => exact rfl))
  | ((with_reducible refine' i_gconsI ?u0 (fun gr gh => ?uq)); (case u0 => with_reducible assumption))
  | ((with_reducible refine' i_gconsA ?u0 (fun gv gr gh1 gh2 => ?uq)); (case u0 => with_reducible assumption))
  | ((with_reducible refine' i_gnilA ?u0 ?uq); (case u0 => with_reducible assumption))
  | ((with_reducible refine' i_isiI ?u0 ?uq); (case u0 => wtm_at "dp"))
  | ((with_reducible refine' i_isiB ?u0 ?uq); (case u0 => wtm_at "dp"))
  | ((with_reducible refine' i_isiT ?u0 ?uq); (case u0 => wtm_at "dp"))
  | ((with_reducible refine' i_isiS ?u0 ?uq); (case u0 => wtm_at "dp"))
  | ((with_reducible refine' i_isiL ?u0 ?uq); (case u0 => wtm_at "dp"))
  | ((with_reducible refine' i_eqD ?u0 ?u1 ?u2 ?u3 ?uq); (case u0 => wtm_at "dp"); (case u1 => wtm_at "dp"); (case u2 => wtm_at "shaped"); (case u3 => wtm_at "shaped"))
  | ((with_reducible refine' i_neD ?u0 ?u1 ?u2 ?u3 ?uq); (case u0 => wtm_at "dp"); (case u1 => wtm_at "dp"); (case u2 => wtm_at "shaped"); (case u3 => wtm_at "shaped"))
  | wtm_at "st2"
  | wtm_at "use")
local macro_rules | `(tactic| wtm_at "go") => `(tactic| repeat' (wtm_at "st"))
local macro_rules | `(tactic| wtm_at "go0") => `(tactic| ((try dsimp only [L2.cxOf, L2.Cx.nox, L2.Cx.wish, L2.Cx.tr, L2.Cx.blk]); (try wtm_at "nrm"); wtm_at "go"))
local macro_rules | `(tactic| wtm_at "fin") => `(tactic| ((try dsimp only); first | with_reducible assumption | assumption | ((with_reducible refine' Ret.use ?rur ?rue ?rud); (case rur => with_reducible assumption); (case rue => wtm_at "ex"); (case rud => wtm_at "dp"))))
local macro_rules | `(tactic| wtm_at "ex") => `(tactic| first | with_reducible assumption | with_reducible exact Ex.refl _ | with_reducible exact ex_hid | ((with_reducible refine' Ex.trans ?exe (by with_reducible assumption)); (case exe => wtm_at "ex")) | ((with_reducible refine' Ex.trans ?exe (hid_ex (by with_reducible assumption))); (case exe => wtm_at "ex")) | ((with_reducible refine' Ex.trans ?exe ex_hid); (case exe => wtm_at "ex")))
local macro_rules | `(tactic| wtm_at "bag") => `(tactic| first | with_reducible assumption | ((with_reducible refine' Bag.mono ?bgm (by with_reducible assumption)); (case bgm => wtm_at "bag")))
local macro_rules | `(tactic| wtm_at "hs") => `(tactic| first | with_reducible assumption | ((with_reducible refine' hid_tup ?hb ?hp); (case hp => with_reducible assumption); (case hb => wtm_at "bag")) | ((with_reducible refine' hid_new ?hb ?hn ?hp); (case hp => with_reducible assumption); (case hn => with_reducible assumption); (case hb => wtm_at "bag")) | ((with_reducible refine' ex_at ?exe (by with_reducible assumption)); (case exe => wtm_at "ex")))
local macro_rules | `(tactic| wtm_at "st2") => `(tactic| first
  | ((with_reducible refine' i_mulC ?u0 ?uq); (case u0 => first | exact cmul_l (by decide) | exact cmul_r (by decide)))
  | ((with_reducible refine' i_ixLr (v := ?u0) ?u1 ?u2 ?uq); (case u1 => with_reducible assumption); (case u2 => exact rfl))
  | (with_reducible refine' i_sub ?uq)
  | ((with_reducible refine' i_mkL ?u0 (fun np nH nfr nhe nhp => ?uq)); (case u0 => exact Nat.le_of_ble_eq_true rfl))
  | ((with_reducible refine' i_setL (n := ?u0) ?u1 ?u2 (fun sH sh se => ?uq)); (case u1 => with_reducible assumption); (case u2 => exact rfl))
  | (with_reducible refine' i_sl ?uq)
  | (with_reducible refine' i_nopart ?uq)
  | (with_reducible refine' i_part ?uq)
  | (with_reducible refine' i_part1 ?uq))
local macro_rules | `(tactic| wtm_at "sz2") => `(tactic| ((with_reducible refine' sz_fmod ?sz1 ?sz2); (case sz1 => wtm_at "nz"); (case sz2 => wtm_at "sz")))
local macro_rules | `(tactic| wtm_at "stb") => `(tactic| first
  | ((with_reducible refine' i_mkTB ?u0 ?u1 (fun np nH nhe nhb nhp => ?uq)); (case u0 => exact Nat.le_of_ble_eq_true rfl); (case u1 => wtm_at "bag"))
  | ((with_reducible refine' i_mkLB ?u0 ?u1 (fun np nH nfr nhe nhb nhp => ?uq)); (case u0 => exact Nat.le_of_ble_eq_true rfl); (case u1 => wtm_at "bag"))
  | wtm_at "st")
local macro_rules | `(tactic| wtm_at "gob") => `(tactic| repeat' (wtm_at "stb"))
local macro_rules | `(tactic| wtm_at "gob0") => `(tactic| ((try dsimp only [L2.cxOf, L2.Cx.nox, L2.Cx.wish, L2.Cx.tr, L2.Cx.blk]); (try wtm_at "nrm"); wtm_at "gob"))
local macro_rules | `(tactic| wtm_at "use") => `(tactic| (with_reducible refine' use_shared_of ?uq))
local macro_rules | `(tactic| wtm_at "use") => `(tactic| ((with_reducible refine' use_is_integer ?u0 ?uq); (case u0 => wtm_at "dp")))
local macro_rules | `(tactic| wtm_at "use") => `(tactic| ((with_reducible refine' use_reduced ?u0 ?u1 (fun ur uH ue ud => ?uq)); (case u0 => wtm_at "nz"); (case u1 => wtm_at "szb")))
local macro_rules | `(tactic| wtm_at "use") => `(tactic| ((with_reducible refine' use_sum_of ?u0 ?u1 ?u2 ?u3 ?u4 ?u5 ?u6 ?u7 (fun ur uH ue ud => ?uq)); (case u0 => wtm_at "dp"); (case u1 => wtm_at "dp"); (case u2 => wtm_at "szb"); (case u3 => wtm_at "szb"); (case u4 => wtm_at "szb"); (case u5 => wtm_at "szb"); (case u6 => wtm_at "nz"); (case u7 => wtm_at "nz")))
local macro_rules | `(tactic| wtm_at "use") => `(tactic| ((with_reducible refine' use_difference_of ?u0 ?u1 ?u2 ?u3 ?u4 ?u5 ?u6 ?u7 (fun ur uH ue ud => ?uq)); (case u0 => wtm_at "dp"); (case u1 => wtm_at "dp"); (case u2 => wtm_at "szb"); (case u3 => wtm_at "szb"); (case u4 => wtm_at "szb"); (case u5 => wtm_at "szb"); (case u6 => wtm_at "nz"); (case u7 => wtm_at "nz")))
local macro_rules | `(tactic| wtm_at "use") => `(tactic| ((with_reducible refine' use_product_of ?u0 ?u1 ?u2 ?u3 ?u4 ?u5 ?u6 ?u7 (fun ur uH ue ud => ?uq)); (case u0 => wtm_at "dp"); (case u1 => wtm_at "dp"); (case u2 => wtm_at "szb"); (case u3 => wtm_at "szb"); (case u4 => wtm_at "szb"); (case u5 => wtm_at "szb"); (case u6 => wtm_at "nz"); (case u7 => wtm_at "nz")))
local macro_rules | `(tactic| wtm_at "use") => `(tactic| ((with_reducible refine' use_is_below ?u0 ?u1 ?u2 ?u3 ?u4 ?u5 ?uq); (case u0 => wtm_at "dp"); (case u1 => wtm_at "dp"); (case u2 => wtm_at "szb"); (case u3 => wtm_at "szb"); (case u4 => wtm_at "szb"); (case u5 => wtm_at "szb")))
local macro_rules | `(tactic| wtm_at "use") => `(tactic| ((with_reducible refine' use_floor_of ?u0 ?u1 ?u2 ?uq); (case u0 => wtm_at "dp"); (case u1 => wtm_at "szb"); (case u2 => wtm_at "nz")))
local macro_rules | `(tactic| wtm_at "use") => `(tactic| ((with_reducible refine' use_ceiling_of ?u0 ?u1 ?u2 ?uq); (case u0 => wtm_at "dp"); (case u1 => wtm_at "szb"); (case u2 => wtm_at "nz")))
local macro_rules | `(tactic| wtm_at "use") => `(tactic| ((with_reducible refine' use_is_fraction ?u0 (fun uH ue => ?uq)); (case u0 => wtm_at "od")))
local macro_rules | `(tactic| wtm_at "od") => `(tactic| first | with_reducible assumption | ((with_reducible refine' odMono ?ode (by with_reducible assumption)); (case ode => wtm_at "ex")) | ((with_reducible refine' Or.inl ?odd); (case odd => wtm_at "dp")))
section
variable {P : Program} {w : World} {K : PySem.W.Frag} {mg : Str → Option Value} {base : Heap} {H H' : Hp} {Q : VK} {E : XK} {v1 v2 v3 v4 : V}
def sp__law_draw (K : PySem.W.Frag) : Sp := A2 fun v1 v2 H Q => ∃ (b : Addr) (t : Int), v1 = .ref b ∧ v2 = .int t ∧ Bag b H ∧ 0 < t ∧ Sz 9000 t ∧ ∀ n H2, 0 ≤ n → n < t → Ex (hid b H) (hid b H2) → Bag b H2 → Q (.int n) H2
abbrev s__law_draw : Stmt := top 27
theorem sc__law_draw : FnScope ["_law_bag_here", "_law_total", "_law_found", "_law_one", "_law_two"] ["_law_bag_here", "_law_total"] (defScope s__law_draw) := ⟨rfl, rfl, rfl, by decide +kernel, rfl, by decide +kernel, by decide +kernel⟩
theorem ok__law_draw {f : Addr} {fd : FuncData} (F : FnP K "_law_draw" s__law_draw f fd) (g : G mg)   : FnOk P w K mg base CX0 1 f fd ["_law_bag_here", "_law_total"] (sp__law_draw K) := by
  have nd := sc__law_draw.nd
  refine F.ok sc__law_draw (fun vs H Q E h => h.len) (fun cdv A outer s H vs Q E hr h => ?_)
  obtain ⟨v1, v2, rfl, h⟩ := h
  refine ⟨_, PSs.nox (pss_cons (ps_if (pt_cmpR op_gt (pe_ix ix_list (pv 0) pe_int (fun _ _ => rfl)) pe_int (nomark _)) (pss_cons (ps_set (i := 2) nd rfl (Or.inl rfl) (pe_op op_modN (pe_callTy call_qint1 (by rfl) g.f_int boot_int (pa_cons (pe_ix ix_list (pv 0) pe_int (fun _ _ => rfl)) pa_nil)) (pv 1))) (pss_cons (ps_asg (pe_op op_fdivX (pe_ix ix_list (pv 0) pe_int (fun _ _ => rfl)) (pv 1)) (pg_sub (pv 0) pe_int set_list)) (pss_one (ps_ret (pv 2))))) pss_nil) (pss_cons (ps_asg (pe_op op_add (pe_ix ix_list (pv 0) pe_int (fun _ _ => rfl)) pe_int) (pg_sub (pv 0) pe_int set_list)) (pss_cons (ps_set (i := 3) nd rfl (Or.inl rfl) (pe_op op_modN (pe_callTy call_qint1 (by rfl) g.f_int boot_int (pa_cons (pe_op op_add (pe_ix ix_list (pv 0) pe_int (fun _ _ => rfl)) (pe_op op_mul pe_int (pe_ix ix_list (pv 0) pe_int (fun _ _ => rfl)))) pa_nil)) pe_int)) (pss_cons (ps_set (i := 4) nd rfl (Or.inl rfl) (pe_op op_add (pe_op op_mulX (pe_op op_modN (pe_callTy call_qint1 (by rfl) g.f_int boot_int (pa_cons (pe_op op_mulX (pv 3) (pv 3)) pa_nil)) pe_int) (pv 3)) (pe_op op_mul pe_int (pe_ix ix_list (pv 0) pe_int (fun _ _ => rfl))))) (pss_one (ps_ret (pe_op op_modN (pe_callTy call_qint1 (by rfl) g.f_int boot_int (pa_cons (pe_op op_fdivX (pe_op op_modN (pe_callTy call_qint1 (by rfl) g.f_int boot_int (pa_cons (pv 4) pa_nil)) pe_int) pe_int) pa_nil)) (pv 1)))))))), ?_⟩
  obtain ⟨b, t, rfl, rfl, hb, ht, st, q⟩ := h
  obtain ⟨x, y, z, hb1, hx, sx⟩ := hb.ex
  have nt : t ≠ 0 := by omega
  wtm_at "go0"
  · dsimp only
    rename_i H2 sh se
    refine q _ _ (Int.fmod_nonneg_of_pos _ ht) (Int.fmod_lt_of_pos _ ht) (by wtm_at "ex") ⟨_, _, _, sh, ?_, sz_fdiv sx⟩
    rw [Int.fdiv_eq_ediv_of_nonneg _ (by omega)]
    exact Int.ediv_nonneg hx (by omega)
  · dsimp only
    rename_i H2 sh se
    exact q _ _ (Int.fmod_nonneg_of_pos _ ht) (Int.fmod_lt_of_pos _ ht) (by wtm_at "ex") ⟨_, _, _, sh, hx, sx⟩
theorem use__law_draw {b : Addr} {t : Int} (hb : Bag b H) (ht : 0 < t) (st : Sz 9000 t) (q : ∀ n H2, 0 ≤ n → n < t → Ex (hid b H) (hid b H2) → Bag b H2 → Q (.int n) H2) : sp__law_draw K [.ref b, .int t] H Q E := ⟨_, _, rfl, _, _, rfl, rfl, hb, ht, st, q⟩
def sp__law_bag (K : PySem.W.Frag) : Sp := A2 fun v1 v2 H Q => ∃ (a : Addr) (ns : List Int) (k : Int), v1 = .ref a ∧ v2 = .int k ∧ SqL K H a (ns.map V.int) ∧ 0 ≤ k ∧ k < 100 ∧ ∀ b H2, H b = none → Ex H H2 → Bag b H2 → Q (.ref b) H2
theorem great_pos : (0 : Int) < ((10 : Int) ^ (47 : Int).toNat) ^ (13 : Int).toNat := by decide +kernel
theorem great_sz : Sz 2100 (((10 : Int) ^ (47 : Int).toNat) ^ (13 : Int).toNat) := by
  unfold Sz
  decide +kernel
theorem bag_x {g m : Int} (hm : 0 < m) (sm : Sz 2100 m) (c : Int) : 0 ≤ (if g.fmod m - c > 0 then g.fmod m - c else 0) ∧ (0 ≤ c → Sz 2100 (if g.fmod m - c > 0 then g.fmod m - c else 0)) := by
  have h0 := Int.fmod_nonneg_of_pos g hm
  have h1 := Int.fmod_lt_of_pos g hm
  refine ⟨by split <;> omega, fun hc => sz_le sm ?_⟩
  split <;> omega
theorem atI_ok {ns : List Int} {k : Int} (h0 : 0 ≤ k) (h : k < ((ns.map V.int).length : Int)) : ∃ c, atI (ns.map V.int) k = some (.int c) := by
  rw [List.length_map] at h
  obtain ⟨j, rfl⟩ : ∃ j : Nat, k = j := ⟨k.toNat, by omega⟩
  have hk : j < ns.length := by omega
  exact ⟨ns[j], atI_nat (by
    rw [List.getElem?_map, List.getElem?_eq_getElem hk]
    rfl)⟩
theorem cut_ints (ns : List Int) (lo hi : Option Int) : ∃ ms : List Int, cutV (ns.map V.int) lo hi = ms.map V.int := by
  unfold cutV
  exact ⟨_, by rw [← List.map_drop, ← List.map_take]⟩
theorem atD {ds : List PyData} {k : Int} (h0 : 0 ≤ k) (h : k < (ds.length : Int)) : ∃ d, d ∈ ds ∧ atI ds k = some d := by
  obtain ⟨j, rfl⟩ : ∃ j : Nat, k = j := ⟨k.toNat, by omega⟩
  have hk : j < ds.length := by omega
  refine ⟨ds[j], List.getElem_mem hk, ?_⟩
  exact atI_nat (List.getElem?_eq_getElem hk)
theorem i_ixLh {b : Addr} {v : V} {ds : List PyData} {k : Int} {d : PyData} (h : Dp K (hid b H) v (.list ds)) (e : atI ds k = some d) (q : ∀ u, Dp K (hid b H) u d → Q u H) : rIxL K v (.int k) H Q := by
  obtain ⟨a, vs, rfl, hs, ha⟩ := dpLst h
  obtain ⟨u, e1, e2⟩ := dpAt ha e
  exact ⟨a, vs, k, _, rfl, rfl, Evl.ex_l ex_hid hs, e1, q u e2⟩
abbrev s__law_bag : Stmt := top 26
theorem sc__law_bag : FnScope ["_law_script", "_law_at", "_law_cell", "_law_great", "_law_mixed"] ["_law_script", "_law_at"] (defScope s__law_bag) := ⟨rfl, rfl, rfl, by decide +kernel, rfl, by decide +kernel, by decide +kernel⟩
theorem ok__law_bag {f : Addr} {fd : FuncData} (F : FnP K "_law_bag" s__law_bag f fd) (g : G mg)   : FnOk P w K mg base CX0 1 f fd ["_law_script", "_law_at"] (sp__law_bag K) := by
  have nd := sc__law_bag.nd
  refine F.ok sc__law_bag (fun vs H Q E h => h.len) (fun cdv A outer s H vs Q E hr h => ?_)
  obtain ⟨v1, v2, rfl, h⟩ := h
  refine ⟨_, PSs.nox (pss_cons (ps_set (i := 2) nd rfl (Or.inl rfl) (pe_ifExp (pt_cmpR op_lt (pv 1) (pe_callB call_qlen (by rfl) g.f_len boot_len (pa_cons (pv 0) pa_nil)) (nomark _)) (pe_ix ix_list (pv 0) (pv 1) (fun _ _ => rfl)) (pe_op op_add (pe_op op_add (pe_callB (cr_sum rfl) (by rfl) g.f_sum boot_sum (pa_cons (pe_slice sl_list (pv 0) po_none (po_some pe_int)) pa_nil)) (pe_op op_mul pe_int (pv 1))) pe_int))) (pss_cons (ps_set (i := 3) nd rfl (Or.inl rfl) (pe_op op_modN (pe_callTy call_qint1 (by rfl) g.f_int boot_int (pa_cons (pe_callB call_qabs (by rfl) g.f_abs boot_abs (pa_cons (pv 2) pa_nil)) pa_nil)) (pe_op op_powX (pe_op op_powX pe_int pe_int) pe_int))) (pss_cons (ps_set (i := 4) nd rfl (Or.inl rfl) (pe_op op_add (pe_op op_add (pe_op op_add (pe_op op_mul (pe_op op_modN (pe_callTy call_qint1 (by rfl) g.f_int boot_int (pa_cons (pv 3) pa_nil)) pe_int) pe_int) (pe_op op_mul pe_int (pv 1))) (pe_op op_mul pe_int (pe_callTy call_qint1 (by rfl) g.f_int boot_int (pa_cons (pe_cmpR op_lt (pv 2) pe_int (nomark _)) pa_nil)))) pe_int)) (pss_one (ps_ret (pe_lst (pa_cons (pe_callB (call_qmax2 rfl) (by rfl) g.f_max boot_max (pa_cons pe_int (pa_cons (pe_op op_sub (pv 3) (pe_op op_powX pe_int pe_int)) pa_nil))) (pa_cons (pe_op op_modN (pe_callTy call_qint1 (by rfl) g.f_int boot_int (pa_cons (pv 4) pa_nil)) pe_int) (pa_cons pe_int pa_nil))))))))), ?_⟩
  obtain ⟨a, ns, k, rfl, rfl, hS, hk, hk2, q⟩ := h
  have hg := great_pos
  have hgn : ((10 : Int) ^ (47 : Int).toNat) ^ (13 : Int).toNat ≠ 0 := by omega
  wtm_at "go0"
  refine i_qlenS hS ?_
  wtm_at "go"
  · rename_i hlt
    obtain ⟨c, hc⟩ := atI_ok hk hlt
    refine i_ixLs hS hc ?_
    wtm_at "go"
    dsimp only
    rename_i b H2 hn he hb
    exact q b H2 hn (by wtm_at "ex") ⟨_, _, _, hb, (bag_x hg great_sz _).1, (bag_x hg great_sz _).2 (by decide)⟩
  · refine i_slL hS (fun p H2 hp e2 h2 => ?_)
    obtain ⟨ms, hms⟩ := cut_ints ns none (some 1)
    rw [hms] at h2
    wtm_at "go"
    refine i_sum (Evl.sq_of h2) ?_
    wtm_at "go"
    dsimp only
    rename_i b H2 hn he hb
    exact q b H2 (Evl.fresh_back e2 hn) (by wtm_at "ex") ⟨_, _, _, hb, (bag_x hg great_sz _).1, (bag_x hg great_sz _).2 (by decide)⟩
theorem use__law_bag {a : Addr} {ns : List Int} {k : Int} (hS : SqL K H a (ns.map V.int)) (h0 : 0 ≤ k) (h1 : k < 100) (q : ∀ b H2, H b = none → Ex H H2 → Bag b H2 → Q (.ref b) H2) : sp__law_bag K [.ref a, .int k] H Q E := ⟨_, _, rfl, _, _, _, rfl, rfl, hS, h0, h1, q⟩
def sp__law_one_of (K : PySem.W.Frag) : Sp := A2 fun v1 v2 H Q => ∃ (b a : Addr) (xs : List V), v1 = .ref b ∧ v2 = .ref a ∧ Bag b H ∧ SqL K (hid b H) a xs ∧ 0 < xs.length ∧ xs.length ≤ 1000 ∧ ∀ v H2, v ∈ xs → Ex (hid b H) (hid b H2) → Bag b H2 → Q v H2
local macro_rules | `(tactic| wtm_at "use") => `(tactic| ((with_reducible refine' use__law_draw ?u0 ?u1 ?u2 (fun dn dH dn0 dn1 de db => ?uq)); (case u0 => wtm_at "bag"); (case u1 => wtm_at "pos"); (case u2 => wtm_at "szb")))
local macro_rules | `(tactic| wtm_at "pos") => `(tactic| first | assumption | decide | omega)
theorem atV {xs : List V} {k : Int} (h0 : 0 ≤ k) (h : k < (xs.length : Int)) : ∃ v, v ∈ xs ∧ atI xs k = some v := by
  obtain ⟨j, rfl⟩ : ∃ j : Nat, k = j := ⟨k.toNat, by omega⟩
  have hk : j < xs.length := by omega
  exact ⟨xs[j], List.getElem_mem hk, atI_nat (List.getElem?_eq_getElem hk)⟩
abbrev s__law_one_of : Stmt := top 28
theorem sc__law_one_of : FnScope ["_law_bag_here", "_law_items"] ["_law_bag_here", "_law_items"] (defScope s__law_one_of) := ⟨rfl, rfl, rfl, by decide +kernel, rfl, by decide +kernel, by decide +kernel⟩
theorem ok__law_one_of {f : Addr} {fd : FuncData} (F : FnP K "_law_one_of" s__law_one_of f fd) (g : G mg) (c__law_draw : Cl P w K mg base 1 "_law_draw" (sp__law_draw K))  : FnOk P w K mg base CX0 2 f fd ["_law_bag_here", "_law_items"] (sp__law_one_of K) := by
  have nd := sc__law_one_of.nd
  refine F.ok sc__law_one_of (fun vs H Q E h => h.len) (fun cdv A outer s H vs Q E hr h => ?_)
  obtain ⟨v1, v2, rfl, h⟩ := h
  refine ⟨_, PSs.nox (pss_one (ps_ret (pe_ix ix_list (pv 1) (pc c__law_draw hr (by decide) (by rfl) (pa_cons (pv 0) (pa_cons (pe_callB call_qlen (by rfl) g.f_len boot_len (pa_cons (pv 1) pa_nil)) pa_nil))) (fun _ _ => rfl)))), ?_⟩
  obtain ⟨b, a, xs, rfl, rfl, hb, hS, h0, h1, q⟩ := h
  have hl : Sz 9000 (xs.length : Int) := sz_mono (sz_lit (by omega)) (by decide)
  have hS2 : SqL K H a xs := Evl.ex_l ex_hid hS
  wtm_at "go0"
  refine i_qlenS hS2 ?_
  wtm_at "go"
  rename_i n H2 n0 n1 de db
  obtain ⟨v, hm, hat⟩ := atV n0 n1
  exact i_ixLs (Evl.ex_l ex_hid (Evl.ex_l de hS)) hat (q v H2 hm de db)
theorem use__law_one_ofV {b a : Addr} {xs : List V} (hb : Bag b H) (hS : SqL K (hid b H) a xs) (h0 : 0 < xs.length) (h1 : xs.length ≤ 1000) (q : ∀ v H2, v ∈ xs → Ex (hid b H) (hid b H2) → Bag b H2 → Q v H2) : sp__law_one_of K [.ref b, .ref a] H Q E := ⟨_, _, rfl, _, _, _, rfl, rfl, hb, hS, h0, h1, q⟩
theorem use__law_one_of {b : Addr} {ds : List PyData} (hb : Bag b H) (hd : Dp K (hid b H) v2 (.list ds)) (h0 : 0 < ds.length) (h1 : ds.length ≤ 1000) (q : ∀ d v H2, d ∈ ds → Ex (hid b H) (hid b H2) → Bag b H2 → Dp K (hid b H2) v d → Q v H2) : sp__law_one_of K [.ref b, v2] H Q E := by
  obtain ⟨a, vs, rfl, hs, ha⟩ := dpLst hd
  refine use__law_one_ofV hb hs (by rw [dpLen ha]; exact h0) (by rw [dpLen ha]; exact h1) fun v H2 hm e2 b2 => ?_
  obtain ⟨i, hi⟩ := List.mem_iff_getElem?.mp hm
  obtain ⟨d, hd1, hd2⟩ := dpIdx ha hi
  exact q d v H2 (List.mem_of_getElem? hd1) e2 b2 (dpMono e2 hd2)
local macro_rules | `(tactic| wtm_at "oneof") => `(tactic| ((with_reducible refine' use__law_one_of ?u0 ?u1 ?u2 ?u3 ?uq); (case u0 => wtm_at "bag"); (case u1 => wtm_at "dp"); (case u2 => exact Nat.le_of_ble_eq_true rfl); (case u3 => exact Nat.le_of_ble_eq_true rfl)))
def sp__law_shared (K : PySem.W.Frag) : Sp := A2 fun v1 v2 H Q => ∃ a b, v1 = .int a ∧ v2 = .int b ∧ Q (.int (gd a b)) H
theorem gd_abs2 (a b : Int) : gd (if a < 0 then -a else a) (if b < 0 then -b else b) = gd a b := by
  unfold gd
  have h : ∀ c : Int, (if c < 0 then -c else c).natAbs = c.natAbs := fun c => by split <;> omega
  rw [h, h]
abbrev s__law_shared : Stmt := top 29
theorem sc__law_shared : FnScope ["_law_one", "_law_other", "_law_big", "_law_low"] ["_law_one", "_law_other"] (defScope s__law_shared) := ⟨rfl, rfl, rfl, by decide +kernel, rfl, by decide +kernel, by decide +kernel⟩
theorem ok__law_shared {f : Addr} {fd : FuncData} (F : FnP K "_law_shared" s__law_shared f fd) (g : G mg)   : FnOk P w K mg base CX0 1 f fd ["_law_one", "_law_other"] (sp__law_shared K) := by
  have nd := sc__law_shared.nd
  refine F.ok sc__law_shared (fun vs H Q E h => h.len) (fun cdv A outer s H vs Q E hr h => ?_)
  obtain ⟨v1, v2, rfl, h⟩ := h
  refine ⟨_, PSs.nox (pss_cons (ps_par (i := 2) (j := 3) (by rfl) nd rfl rfl (by decide) rfl rfl (pa_cons (pe_callB call_qabs (by rfl) g.f_abs boot_abs (pa_cons (pv 0) pa_nil)) (pa_cons (pe_callB call_qabs (by rfl) g.f_abs boot_abs (pa_cons (pv 1) pa_nil)) pa_nil)) (by rfl)) (pss_cons (ps_while PassesOwn.never (pt_cmpR op_gt (pv 3) pe_int (nomark _)) (pss_one (ps_par (i := 2) (j := 3) (by rfl) nd rfl rfl (by decide) rfl rfl (pa_cons (pv 3) (pa_cons (pe_op op_modN (pe_callTy call_qint1 (by rfl) g.f_int boot_int (pa_cons (pv 2) pa_nil)) (pv 3)) pa_nil)) (by rfl)))) (pss_one (ps_ret (pv 2))))), ?_⟩
  obtain ⟨a, b, rfl, rfl, q⟩ := h
  wtm_at "go0"
  refine i_tw (fun m σ H' => ∃ a' b' : Int, m = b'.natAbs ∧ σ = [some (.int a), some (.int b), some (.int a'), some (.int b')] ∧ H' = H ∧ 0 ≤ a' ∧ 0 ≤ b' ∧ gd a' b' = gd a b) _ ⟨_, _, rfl, rfl, rfl, by split <;> omega, by split <;> omega, gd_abs2 a b⟩ ?_
  rintro m σ H' ⟨a', b', rfl, rfl, rfl, ha, hb, hg⟩
  wtm_at "go"
  · rename_i hb0
    have nb : b' ≠ 0 := by omega
    refine ⟨fun σ2 H2 => σ2 = [some (.int a), some (.int b), some (.int b'), some (.int (a'.fmod b'))] ∧ H2 = H', ?_, ?_⟩
    · rintro σ2 H2 ⟨rfl, rfl⟩
      exact ⟨_, fmod_lt a' nb, b', a'.fmod b', rfl, rfl, rfl, hb, Int.fmod_nonneg_of_pos _ hb0, (gd_step a' b').trans hg⟩
    · wtm_at "go"
      exact ⟨rfl, rfl⟩
  · rename_i hb0
    dsimp only
    have e0 : b' = 0 := by omega
    subst e0
    have e : a' = gd a b := by
      rw [← hg]
      unfold gd
      rw [Int.natAbs_zero, Nat.gcd_zero_right]
      omega
    rw [e]
    exact q
theorem use__law_shared {a b : Int} (q : Q (.int (gd a b)) H) : sp__law_shared K [.int a, .int b] H Q E := ⟨_, _, rfl, _, _, rfl, rfl, q⟩
local macro_rules | `(tactic| wtm_at "use") => `(tactic| (with_reducible refine' use__law_shared ?_))
def sp__law_integer (K : PySem.W.Frag) : Sp := A1 fun v1 H Q => ∃ b, v1 = .ref b ∧ Bag b H ∧ ∀ n H2, Sz 140 n → Ex (hid b H) (hid b H2) → Bag b H2 → Q (.int n) H2
theorem sz140 {n s : Int} (h0 : 0 ≤ n) (h1 : n < 2 * s + 1) (hs : s ≤ 10000000000000000000000000000000000000000) : Sz 140 (n - s) := by
  unfold Sz
  omega
abbrev s__law_integer : Stmt := top 30
theorem sc__law_integer : FnScope ["_law_bag_here", "_law_size"] ["_law_bag_here"] (defScope s__law_integer) := ⟨rfl, rfl, rfl, by decide +kernel, rfl, by decide +kernel, by decide +kernel⟩
theorem ok__law_integer {f : Addr} {fd : FuncData} (F : FnP K "_law_integer" s__law_integer f fd) (g : G mg) (c__law_one_of : Cl P w K mg base 2 "_law_one_of" (sp__law_one_of K)) (c__law_draw : Cl P w K mg base 1 "_law_draw" (sp__law_draw K))  : FnOk P w K mg base CX0 3 f fd ["_law_bag_here"] (sp__law_integer K) := by
  have nd := sc__law_integer.nd
  refine F.ok sc__law_integer (fun vs H Q E h => h.len) (fun cdv A outer s H vs Q E hr h => ?_)
  obtain ⟨v1, rfl, h⟩ := h
  refine ⟨_, PSs.nox (pss_cons (ps_set (i := 1) nd rfl (Or.inl rfl) (pc c__law_one_of hr (by decide) (by rfl) (pa_cons (pv 0) (pa_cons (pe_lst (pa_cons pe_int (pa_cons pe_int (pa_cons pe_int (pa_cons pe_int (pa_cons (pe_op op_powX pe_int pe_int) (pa_cons (pe_op op_powX pe_int pe_int) (pa_cons (pe_op op_powX pe_int pe_int) pa_nil)))))))) pa_nil)))) (pss_one (ps_ret (pe_op op_sub (pc c__law_draw hr (by decide) (by rfl) (pa_cons (pv 0) (pa_cons (pe_op op_add (pe_op op_mul pe_int (pv 1)) pe_int) pa_nil))) (pv 1))))), ?_⟩
  obtain ⟨b, rfl, hb, q⟩ := h
  wtm_at "gob0"
  wtm_at "oneof"
  intro d v H2 hd e2 b2 hv
  obtain ⟨s, rfl, hs1, hs2⟩ : ∃ s : Int, v = .int s ∧ 1 ≤ s ∧ s ≤ 10000000000000000000000000000000000000000 := by
    simp only [List.mem_cons, List.not_mem_nil, or_false] at hd
    rcases hd with rfl | rfl | rfl | rfl | rfl | rfl | rfl <;> exact ⟨_, dpInt hv, by decide, by decide⟩
  have ss : Sz 140 s := by unfold Sz; omega
  wtm_at "gob"
  rename_i n H3 n0 n1 de db
  exact q _ _ (sz140 n0 n1 hs2) (by wtm_at "ex") db
theorem use__law_integer {b : Addr} (hb : Bag b H) (q : ∀ n H2, Sz 140 n → Ex (hid b H) (hid b H2) → Bag b H2 → Q (.int n) H2) : sp__law_integer K [.ref b] H Q E := ⟨_, rfl, _, rfl, hb, q⟩
local macro_rules | `(tactic| wtm_at "use") => `(tactic| ((with_reducible refine' use__law_integer ?u0 (fun dn dH dsz de db => ?uq)); (case u0 => wtm_at "bag")))
def sp__law_bottom (K : PySem.W.Frag) : Sp := A1 fun v1 H Q => ∃ b, v1 = .ref b ∧ Bag b H ∧ ∀ n H2, n ≠ 0 → Sz 140 n → Ex (hid b H) (hid b H2) → Bag b H2 → Q (.int n) H2
abbrev s__law_bottom : Stmt := top 31
theorem sc__law_bottom : FnScope ["_law_bag_here", "_law_found"] ["_law_bag_here"] (defScope s__law_bottom) := ⟨rfl, rfl, rfl, by decide +kernel, rfl, by decide +kernel, by decide +kernel⟩
theorem ok__law_bottom {f : Addr} {fd : FuncData} (F : FnP K "_law_bottom" s__law_bottom f fd) (g : G mg) (c__law_integer : Cl P w K mg base 3 "_law_integer" (sp__law_integer K)) (c__law_draw : Cl P w K mg base 1 "_law_draw" (sp__law_draw K))  : FnOk P w K mg base CX0 4 f fd ["_law_bag_here"] (sp__law_bottom K) := by
  have nd := sc__law_bottom.nd
  refine F.ok sc__law_bottom (fun vs H Q E h => h.len) (fun cdv A outer s H vs Q E hr h => ?_)
  obtain ⟨v1, rfl, h⟩ := h
  refine ⟨_, PSs.nox (pss_cons (ps_set (i := 1) nd rfl (Or.inl rfl) (pc c__law_integer hr (by decide) (by rfl) (pa_cons (pv 0) pa_nil))) (pss_one (ps_ret (pe_ifExp (pt_cmpR op_ne (pv 1) pe_int (nomark _)) (pv 1) (pe_op op_sub pe_int (pe_op op_mul pe_int (pc c__law_draw hr (by decide) (by rfl) (pa_cons (pv 0) (pa_cons pe_int pa_nil))))))))), ?_⟩
  obtain ⟨b, rfl, hb, q⟩ := h
  wtm_at "gob0"
  · exact q _ _ (by assumption) (by assumption) (by wtm_at "ex") (by wtm_at "bag")
  · rename_i n H3 n0 n1 de db
    exact q _ _ (by omega) (by unfold Sz; omega) (by wtm_at "ex") (by wtm_at "bag")
theorem use__law_bottom {b : Addr} (hb : Bag b H) (q : ∀ n H2, n ≠ 0 → Sz 140 n → Ex (hid b H) (hid b H2) → Bag b H2 → Q (.int n) H2) : sp__law_bottom K [.ref b] H Q E := ⟨_, rfl, _, rfl, hb, q⟩
def sp__law_is_whole (K : PySem.W.Frag) : Sp := A1 fun v1 H Q => ∃ d, Dp K H v1 d ∧ Q (.bl (isInt d)) H
abbrev s__law_is_whole : Stmt := top 32
theorem sc__law_is_whole : FnScope ["_law_value"] ["_law_value"] (defScope s__law_is_whole) := ⟨rfl, rfl, rfl, by decide +kernel, rfl, by decide +kernel, by decide +kernel⟩
theorem ok__law_is_whole {f : Addr} {fd : FuncData} (F : FnP K "_law_is_whole" s__law_is_whole f fd) (g : G mg)   : FnOk P w K mg base CX0 1 f fd ["_law_value"] (sp__law_is_whole K) := by
  have nd := sc__law_is_whole.nd
  refine F.ok sc__law_is_whole (fun vs H Q E h => h.len) (fun cdv A outer s H vs Q E hr h => ?_)
  obtain ⟨v1, rfl, h⟩ := h
  refine ⟨_, PSs.nox (pss_one (ps_ret (pe_and (pe_callB call_isi (by rfl) g.f_isinstance boot_isinstance (pa_cons (pv 0) (pa_cons (pe_bltn (v := .ty "int") (by rfl) g.f_int boot_int rfl) pa_nil))) (pe_one (pe_not (pe_callB call_isi (by rfl) g.f_isinstance boot_isinstance (pa_cons (pv 0) (pa_cons (pe_bltn (v := .ty "bool") (by rfl) g.f_bool boot_bool rfl) pa_nil)))))))), ?_⟩
  obtain ⟨d, hd, q⟩ := h
  cases d <;> wtm_at "go0" <;> wtm_at "fin"
theorem use__law_is_whole {d : PyData} (h : Dp K H v1 d) (q : Q (.bl (isInt d)) H) : sp__law_is_whole K [v1] H Q E := ⟨_, rfl, _, h, q⟩
local macro_rules | `(tactic| wtm_at "use") => `(tactic| ((with_reducible refine' use__law_is_whole ?u0 ?uq); (case u0 => wtm_at "dp")))
def just (x w T B : Int) : Bool := decide (1 ≤ w) && decide (gd x w = 1) && decide (x * B = T * w)
def sp__law_is_just (K : PySem.W.Frag) : Sp := A3 fun v1 v2 v3 H Q => ∃ x w T B : Int, v2 = .int T ∧ v3 = .int B ∧ Dp K H v1 (fq x w) ∧ (Sz 9000 x ∧ Sz 9000 w ∧ Sz 9000 T ∧ Sz 9000 B) ∧ Q (.bl (just x w T B)) H
abbrev s__law_is_just : Stmt := top 33
theorem sc__law_is_just : FnScope ["_law_told", "_law_top", "_law_bottom_here"] ["_law_told", "_law_top", "_law_bottom_here"] (defScope s__law_is_just) := ⟨rfl, rfl, rfl, by decide +kernel, rfl, by decide +kernel, by decide +kernel⟩
theorem ok__law_is_just {f : Addr} {fd : FuncData} (F : FnP K "_law_is_just" s__law_is_just f fd) (g : G mg) (c__law_is_whole : Cl P w K mg base 1 "_law_is_whole" (sp__law_is_whole K)) (c__law_shared : Cl P w K mg base 1 "_law_shared" (sp__law_shared K))  : FnOk P w K mg base CX0 2 f fd ["_law_told", "_law_top", "_law_bottom_here"] (sp__law_is_just K) := by
  have nd := sc__law_is_just.nd
  refine F.ok sc__law_is_just (fun vs H Q E h => h.len) (fun cdv A outer s H vs Q E hr h => ?_)
  obtain ⟨v1, v2, v3, rfl, h⟩ := h
  refine ⟨_, PSs.nox (pss_cons (ps_if (PW.pt (pw_or (pt_not (pt_val (pe_callB call_isi (by rfl) g.f_isinstance boot_isinstance (pa_cons (pv 0) (pa_cons (pe_bltn (v := .ty "tuple") (by rfl) g.f_tuple boot_tuple rfl) pa_nil))))) (pw_or (pt_cmpR op_ne (pe_callB call_qlen (by rfl) g.f_len boot_len (pa_cons (pv 0) pa_nil)) pe_int (nomark _)) (pw_or (pt_not (pt_val (pc c__law_is_whole hr (by decide) (by rfl) (pa_cons (pe_ix ix_tup (pv 0) pe_int (fun _ _ => rfl)) pa_nil)))) (pw_or1 (pt_not (pt_val (pc c__law_is_whole hr (by decide) (by rfl) (pa_cons (pe_ix ix_tup (pv 0) pe_int (fun _ _ => rfl)) pa_nil))))))))) (pss_one (ps_ret pe_bl)) pss_nil) (pss_one (ps_ret (pe_and (pe_cmpR op_ge (pe_ix ix_tup (pv 0) pe_int (fun _ _ => rfl)) pe_int (nomark _)) (pe_and (pe_cmpR op_eq (pc c__law_shared hr (by decide) (by rfl) (pa_cons (pe_ix ix_tup (pv 0) pe_int (fun _ _ => rfl)) (pa_cons (pe_ix ix_tup (pv 0) pe_int (fun _ _ => rfl)) pa_nil))) pe_int (nomark _)) (pe_one (pe_cmpR op_eq (pe_op op_mulX (pe_ix ix_tup (pv 0) pe_int (fun _ _ => rfl)) (pv 2)) (pe_op op_mulX (pv 1) (pe_ix ix_tup (pv 0) pe_int (fun _ _ => rfl))) (nomark _)))))))), ?_⟩
  obtain ⟨x, w', T, B, rfl, rfl, hd, ⟨s1, s2, s3, s4⟩, q⟩ := h
  unfold just at q
  wtm_at "go0"
  all_goals first
    | (rename_i hz; exact absurd rfl hz)
    | (dsimp only
       simp only [*, decide_true, decide_false, Bool.true_and, Bool.false_and, Bool.and_false] at q
       exact q)
theorem use__law_is_just {x w T B : Int} (hd : Dp K H v1 (fq x w)) (s1 : Sz 9000 x) (s2 : Sz 9000 w) (s3 : Sz 9000 T) (s4 : Sz 9000 B) (q : Q (.bl (just x w T B)) H) : sp__law_is_just K [v1, .int T, .int B] H Q E := ⟨_, _, _, rfl, _, _, _, _, rfl, rfl, hd, ⟨s1, s2, s3, s4⟩, q⟩
end
end Wb

namespace Wb
open PySem PySem.Spec PyProof.Rows L2
open Evl (Ex Ex.refl Ex.trans Ex.new)
local macro_rules | `(tactic| wtm_at "dp") => `(tactic| first | with_reducible assumption | with_reducible exact Dp.int _ | with_reducible exact Dp.bl _ | with_reducible exact Dp.str _ | with_reducible exact Dp.non | ((with_reducible refine' dpMono ?dme (by with_reducible assumption)); (case dme => wtm_at "ex")) | ((with_reducible refine' Dp.tup (Evl.st_of ?dph) ?dpa); (case dph => wtm_at "hs"); (case dpa => wtm_at "dpa")) | ((with_reducible refine' Dp.lst (Evl.sq_of ?dph) ?dpa); (case dph => wtm_at "hs"); (case dpa => wtm_at "dpa")))
local macro_rules | `(tactic| wtm_at "dpa") => `(tactic| first | with_reducible exact DpAll.nil | ((with_reducible refine' DpAll.cons ?dp1 ?dp2); (case dp1 => wtm_at "dp"); (case dp2 => wtm_at "dpa")) | with_reducible assumption | ((with_reducible refine' dpMonoA ?dme (by with_reducible assumption)); (case dme => wtm_at "ex")))
local macro_rules | `(tactic| wtm_at "sz") => `(tactic| first | with_reducible assumption | ((with_reducible refine' sz_mul ?sz1 ?sz2); (case sz1 => wtm_at "sz"); (case sz2 => wtm_at "sz")) | ((with_reducible refine' sz_add ?sz1 ?sz2); (case sz1 => wtm_at "sz"); (case sz2 => wtm_at "sz")) | ((with_reducible refine' sz_sub ?sz1 ?sz2); (case sz1 => wtm_at "sz"); (case sz2 => wtm_at "sz")) | ((with_reducible refine' sz_neg ?sz1); (case sz1 => wtm_at "sz")) | ((with_reducible refine' sz_div ?sz1); (case sz1 => wtm_at "sz")) | ((with_reducible refine' sz_fdiv ?sz1); (case sz1 => wtm_at "sz")) | exact sz_lit (by decide) | wtm_at "sz2")
local macro_rules | `(tactic| wtm_at "szb") => `(tactic| first | with_reducible assumption | ((with_reducible refine' sz_mono ?szb1 ?szb2); (case szb1 => wtm_at "sz"); (case szb2 => decide)))
local macro_rules | `(tactic| wtm_at "nz") => `(tactic| first | assumption | decide | omega)
local macro_rules | `(tactic| wtm_at "shaped") => `(tactic| first | rfl | decide)
local macro_rules | `(tactic| wtm_at "sset") => `(tactic| ((dsimp only [L2.wipe, List.set, List.set_cons_zero, List.set_cons_succ]) <;> exact rfl))
local macro_rules | `(tactic| wtm_at "nrm") => `(tactic| dsimp only [L2.start, L2.wipe, List.set, List.append, List.map, List.map_cons, List.map_nil, List.length_cons, List.length_nil, Nat.reduceAdd, Nat.reduceSub, List.reduceReplicate, List.replicate, List.cons_append, List.nil_append, List.set_cons_zero, List.set_cons_succ])
local macro_rules | `(tactic| wtm_at "st") => `(tactic| first
  | ((with_reducible refine' i_var (v := ?u0) ?u1 ?uq); (case u1 => exact rfl))
  | ((with_reducible refine' i_nameN ?u0 ?uq); (case u0 => wtm_at "sset"))
  | (with_reducible refine' i_op ?uq)
  | (with_reducible refine' i_c ?uq)
  | (with_reducible refine' i_I0 ?uq)
  | ((with_reducible refine' i_ixTI (i := ?u0) ?u1 ?u2 ?u3 ?uq); (case u1 => wtm_at "dp"); (case u2 => wtm_at "ex"); (case u3 => exact rfl))
  | ((with_reducible refine' i_ixT (d := ?u0) ?u1 ?u2 ?u3 (fun xu hxu => ?uq)); (case u1 => wtm_at "dp"); (case u2 => wtm_at "ex"); (case u3 => exact rfl))
  | ((with_reducible refine' i_mul ?u0 ?u1 ?u2 ?uq); (case u0 => wtm_at "sz"); (case u1 => wtm_at "sz"); (case u2 => first | decide | omega))
  | (with_reducible refine' i_seq ?uq)
  | (with_reducible refine' i_asg ?uq)
  | (with_reducible refine' i_ret ?uq)
  | (with_reducible refine' i_ifs ?uq)
  | (with_reducible refine' i_drop ?uq)
  | (with_reducible refine' i_next ?uq)
  | (with_reducible refine' i_cons ?uq)
  | (with_reducible refine' i_nil ?uq)
  | (with_reducible refine' i_cl ?uq)
  | (with_reducible refine' i_cb ?uq)
  | (with_reducible refine' i_tup ?uq)
  | (with_reducible refine' i_lst ?uq)
  | ((with_reducible refine' i_mkT ?u0 (fun np nH nhe nhp => ?uq)); (case u0 => exact Nat.le_of_ble_eq_true rfl))
  | (with_reducible refine' i_test ?uq)
  | (with_reducible refine' i_B ?uq)
  | (with_reducible refine' i_k ?uq)
  | (with_reducible refine' i_and ?uq)
  | (with_reducible refine' i_or ?uq)
  | (with_reducible refine' i_not ?uq)
  | (with_reducible refine' i_andV ?uq)
  | (with_reducible refine' i_orV ?uq)
  | (with_reducible refine' i_notV ?uq)
  | (with_reducible refine' i_if ?uq)
  | (with_reducible refine' i_un ?uq)
  | (with_reducible refine' i_U ?uq)
  | (with_reducible refine' i_iteT ?uq)
  | (with_reducible refine' i_iteF ?uq)
  | ((with_reducible refine' i_iteTr ?u0 ?uq); (case u0 => first | with_reducible rfl | decide | (simp only [dIsInt, dIsBool, dIsTup, dIsStr, dIsLst, Bool.not_true, Bool.not_false]; done)))
  | ((with_reducible refine' i_iteFr ?u0 ?uq); (case u0 => first | with_reducible rfl | decide | (simp only [dIsInt, dIsBool, dIsTup, dIsStr, dIsLst, Bool.not_true, Bool.not_false]; done)))
  | (with_reducible refine' i_ite (fun hif => ?uqa) (fun hif => ?uqb))
  | (with_reducible refine' i_iteN (fun hif => ?uqa) (fun hif => ?uqb))
  | (with_reducible refine' i_iteBN (fun hif => ?uqa) (fun hif => ?uqb))
  | (with_reducible refine' i_iteB (fun hif => ?uqa) (fun hif => ?uqb))
  | ((with_reducible refine' i_modN ?u0 ?uq); (case u0 => wtm_at "nz"))
  | ((with_reducible refine' i_fdX ?u0 ?u1 ?u2 ?uq); (case u0 => wtm_at "nz"); (case u1 => wtm_at "sz"); (case u2 => first | decide | omega))
  | ((with_reducible refine' i_pow ?u0 ?uq); (case u0 => exact ⟨by decide, by decide +kernel⟩))
  | (with_reducible refine' i_eqI ?uq)
  | (with_reducible refine' i_neI ?uq)
  | (with_reducible refine' i_gcd ?uq)
  | (with_reducible refine' i_qabs ?uq)
  | (with_reducible refine' i_qint ?uq)
  | (with_reducible refine' i_qintB ?uq)
  | (with_reducible refine' i_qmax2 ?uq)
  | (with_reducible refine' i_qmin2 ?uq)
  | (with_reducible refine' i_isB ?uq)
  | (with_reducible refine' i_notB ?uq)
  | (with_reducible refine' i_chain ?uq)
  | (with_reducible refine' i_qisN ?uq)
  | (with_reducible refine' i_qnotN ?uq)
  | (with_reducible refine' i_yes ?uq)
  | (with_reducible refine' i_par ?uq)
  | (with_reducible refine' i_par3 ?uq)
  | ((with_reducible refine' i_par2 ?u0 ?uq); (case u0 => wtm_at "sset"))
  | ((with_reducible refine' i_par33 ?u0 ?uq); (case u0 => wtm_at "sset"))
  | ((with_reducible refine' i_ixLI (i := ?u0) ?u1 ?u2 ?u3 ?uq); (case u1 => wtm_at "dp"); (case u2 => wtm_at "ex"); (case u3 => exact rfl))
  | ((with_reducible refine' i_ixL (d := ?u0) ?u1 ?u2 ?u3 (fun xu hxu => ?uq)); (case u1 => wtm_at "dp"); (case u2 => wtm_at "ex"); (case u3 => exact rfl))
  | ((with_reducible refine' i_qlenT ?u0 ?uq); (case u0 => wtm_at "dp"))
  | ((with_reducible refine' i_qlenL ?u0 ?uq); (case u0 => wtm_at "dp"))
  | ((with_reducible refine' i_gtup ?u0 ?u1 ?u2 (fun gvs gdp => ?uq)); (case u0 => wtm_at "dp"); (case u1 => wtm_at "ex"); (case u2 => exact rfl))
  | ((with_reducible refine' i_glst ?u0 ?u1 ?u2 (fun gvs gdp => ?uq)); (case u0 => wtm_at "dp"); (case u1 => wtm_at "ex"); (case u2 => exact rfl))
  | ((with_reducible refine' i_gconsI ?u0 (fun gr gh => ?uq)); (case u0 => with_reducible assumption))
  | ((with_reducible refine' i_gconsA ?u0 (fun gv gr gh1 gh2 => ?uq)); (case u0 => with_reducible assumption))
  | ((with_reducible refine' i_gnilA ?u0 ?uq); (case u0 => with_reducible assumption))
  | ((with_reducible refine' i_isiI ?u0 ?uq); (case u0 => wtm_at "dp"))
  | ((with_reducible refine' i_isiB ?u0 ?uq); (case u0 => wtm_at "dp"))
  | ((with_reducible refine' i_isiT ?u0 ?uq); (case u0 => wtm_at "dp"))
  | ((with_reducible refine' i_isiS ?u0 ?uq); (case u0 => wtm_at "dp"))
  | ((with_reducible refine' i_isiL ?u0 ?uq); (case u0 => wtm_at "dp"))
  | ((with_reducible refine' i_eqD ?u0 ?u1 ?u2 ?u3 ?uq); (case u0 => wtm_at "dp"); (case u1 => wtm_at "dp"); (case u2 => wtm_at "shaped"); (case u3 => wtm_at "shaped"))
  | ((with_reducible refine' i_neD ?u0 ?u1 ?u2 ?u3 ?uq); (case u0 => wtm_at "dp"); (case u1 => wtm_at "dp"); (case u2 => wtm_at "shaped"); (case u3 => wtm_at "shaped"))
  | wtm_at "st2"
  | wtm_at "use")
local macro_rules | `(tactic| wtm_at "go") => `(tactic| repeat' (wtm_at "st"))
local macro_rules | `(tactic| wtm_at "go0") => `(tactic| ((try dsimp only [L2.cxOf, L2.Cx.nox, L2.Cx.wish, L2.Cx.tr, L2.Cx.blk]); (try wtm_at "nrm"); wtm_at "go"))
local macro_rules | `(tactic| wtm_at "fin") => `(tactic| ((try dsimp only); first | with_reducible assumption | assumption | ((with_reducible refine' Ret.use ?rur ?rue ?rud); (case rur => with_reducible assumption); (case rue => wtm_at "ex"); (case rud => wtm_at "dp"))))
local macro_rules | `(tactic| wtm_at "ex") => `(tactic| first | with_reducible assumption | with_reducible exact Ex.refl _ | with_reducible exact ex_hid | ((with_reducible refine' Ex.trans ?exe (by with_reducible assumption)); (case exe => wtm_at "ex")) | ((with_reducible refine' Ex.trans ?exe (hid_ex (by with_reducible assumption))); (case exe => wtm_at "ex")) | ((with_reducible refine' Ex.trans ?exe ex_hid); (case exe => wtm_at "ex")))
local macro_rules | `(tactic| wtm_at "bag") => `(tactic| first | with_reducible assumption | ((with_reducible refine' Bag.mono ?bgm (by with_reducible assumption)); (case bgm => wtm_at "bag")))
local macro_rules | `(tactic| wtm_at "hs") => `(tactic| first | with_reducible assumption | ((with_reducible refine' hid_tup ?hb ?hp); (case hp => with_reducible assumption); (case hb => wtm_at "bag")) | ((with_reducible refine' hid_new ?hb ?hn ?hp); (case hp => with_reducible assumption); (case hn => with_reducible assumption); (case hb => wtm_at "bag")) | ((with_reducible refine' ex_at ?exe (by with_reducible assumption)); (case exe => wtm_at "ex")))
local macro_rules | `(tactic| wtm_at "st2") => `(tactic| first
  | ((with_reducible refine' i_mulC ?u0 ?uq); (case u0 => first | exact cmul_l (by decide) | exact cmul_r (by decide)))
  | ((with_reducible refine' i_ixLr (v := ?u0) ?u1 ?u2 ?uq); (case u1 => with_reducible assumption); (case u2 => exact rfl))
  | (with_reducible refine' i_sub ?uq)
  | ((with_reducible refine' i_mkL ?u0 (fun np nH nfr nhe nhp => ?uq)); (case u0 => exact Nat.le_of_ble_eq_true rfl))
  | ((with_reducible refine' i_setL (n := ?u0) ?u1 ?u2 (fun sH sh se => ?uq)); (case u1 => with_reducible assumption); (case u2 => exact rfl))
  | (with_reducible refine' i_sl ?uq)
  | (with_reducible refine' i_nopart ?uq)
  | (with_reducible refine' i_part ?uq)
  | (with_reducible refine' i_part1 ?uq))
local macro_rules | `(tactic| wtm_at "sz2") => `(tactic| ((with_reducible refine' sz_fmod ?sz1 ?sz2); (case sz1 => wtm_at "nz"); (case sz2 => wtm_at "sz")))
local macro_rules | `(tactic| wtm_at "stb") => `(tactic| first
  | ((with_reducible refine' i_mkTB ?u0 ?u1 (fun np nH nhe nhb nhp => ?uq)); (case u0 => exact Nat.le_of_ble_eq_true rfl); (case u1 => wtm_at "bag"))
  | ((with_reducible refine' i_mkLB ?u0 ?u1 (fun np nH nfr nhe nhb nhp => ?uq)); (case u0 => exact Nat.le_of_ble_eq_true rfl); (case u1 => wtm_at "bag"))
  | wtm_at "st")
local macro_rules | `(tactic| wtm_at "gob") => `(tactic| repeat' (wtm_at "stb"))
local macro_rules | `(tactic| wtm_at "gob0") => `(tactic| ((try dsimp only [L2.cxOf, L2.Cx.nox, L2.Cx.wish, L2.Cx.tr, L2.Cx.blk]); (try wtm_at "nrm"); wtm_at "gob"))
local macro_rules | `(tactic| wtm_at "use") => `(tactic| (with_reducible refine' use_shared_of ?uq))
local macro_rules | `(tactic| wtm_at "use") => `(tactic| ((with_reducible refine' use_is_integer ?u0 ?uq); (case u0 => wtm_at "dp")))
local macro_rules | `(tactic| wtm_at "use") => `(tactic| ((with_reducible refine' use_reduced ?u0 ?u1 (fun ur uH ue ud => ?uq)); (case u0 => wtm_at "nz"); (case u1 => wtm_at "szb")))
local macro_rules | `(tactic| wtm_at "use") => `(tactic| ((with_reducible refine' use_sum_of ?u0 ?u1 ?u2 ?u3 ?u4 ?u5 ?u6 ?u7 (fun ur uH ue ud => ?uq)); (case u0 => wtm_at "dp"); (case u1 => wtm_at "dp"); (case u2 => wtm_at "szb"); (case u3 => wtm_at "szb"); (case u4 => wtm_at "szb"); (case u5 => wtm_at "szb"); (case u6 => wtm_at "nz"); (case u7 => wtm_at "nz")))
local macro_rules | `(tactic| wtm_at "use") => `(tactic| ((with_reducible refine' use_difference_of ?u0 ?u1 ?u2 ?u3 ?u4 ?u5 ?u6 ?u7 (fun ur uH ue ud => ?uq)); (case u0 => wtm_at "dp"); (case u1 => wtm_at "dp"); (case u2 => wtm_at "szb"); (case u3 => wtm_at "szb"); (case u4 => wtm_at "szb"); (case u5 => wtm_at "szb"); (case u6 => wtm_at "nz"); (case u7 => wtm_at "nz")))
local macro_rules | `(tactic| wtm_at "use") => `(tactic| ((with_reducible refine' use_product_of ?u0 ?u1 ?u2 ?u3 ?u4 ?u5 ?u6 ?u7 (fun ur uH ue ud => ?uq)); (case u0 => wtm_at "dp"); (case u1 => wtm_at "dp"); (case u2 => wtm_at "szb"); (case u3 => wtm_at "szb"); (case u4 => wtm_at "szb"); (case u5 => wtm_at "szb"); (case u6 => wtm_at "nz"); (case u7 => wtm_at "nz")))
local macro_rules | `(tactic| wtm_at "use") => `(tactic| ((with_reducible refine' use_is_below ?u0 ?u1 ?u2 ?u3 ?u4 ?u5 ?uq); (case u0 => wtm_at "dp"); (case u1 => wtm_at "dp"); (case u2 => wtm_at "szb"); (case u3 => wtm_at "szb"); (case u4 => wtm_at "szb"); (case u5 => wtm_at "szb")))
local macro_rules | `(tactic| wtm_at "use") => `(tactic| ((with_reducible refine' use_floor_of ?u0 ?u1 ?u2 ?uq); (case u0 => wtm_at "dp"); (case u1 => wtm_at "szb"); (case u2 => wtm_at "nz")))
local macro_rules | `(tactic| wtm_at "use") => `(tactic| ((with_reducible refine' use_ceiling_of ?u0 ?u1 ?u2 ?uq); (case u0 => wtm_at "dp"); (case u1 => wtm_at "szb"); (case u2 => wtm_at "nz")))
local macro_rules | `(tactic| wtm_at "use") => `(tactic| ((with_reducible refine' use_is_fraction ?u0 (fun uH ue => ?uq)); (case u0 => wtm_at "od")))
local macro_rules | `(tactic| wtm_at "od") => `(tactic| first | with_reducible assumption | ((with_reducible refine' odMono ?ode (by with_reducible assumption)); (case ode => wtm_at "ex")) | ((with_reducible refine' Or.inl ?odd); (case odd => wtm_at "dp")))
local macro_rules | `(tactic| wtm_at "use") => `(tactic| ((with_reducible refine' use__law_draw ?u0 ?u1 ?u2 (fun dn dH dn0 dn1 de db => ?uq)); (case u0 => wtm_at "bag"); (case u1 => wtm_at "pos"); (case u2 => wtm_at "szb")))
local macro_rules | `(tactic| wtm_at "pos") => `(tactic| first | assumption | decide | omega)
section
variable {P : Program} {w : World} {K : PySem.W.Frag} {mg : Str → Option Value} {base : Heap} {H H' : Hp} {Q : VK} {E : XK} {v1 v2 v3 v4 : V}
/-! ### what is no fraction -/
theorem ok_app (x y : Str) : PyData.strOk (x ++ y) = (PyData.strOk x && PyData.strOk y) := by
  show (x.cps ++ y.cps).all _ = _
  rw [Array.all_append]
  rfl
theorem ok_str (s : String) : PyData.strOk (Str.ofString s) = true := by
  rw [Str.ofString_eq_toList]
  unfold PyData.strOk
  simp
  intro c _
  have := c.valid
  rcases this with h | ⟨_, h⟩
  · show c.val.toNat < _
    have : c.val.toNat < 0xd800 := h
    omega
  · exact h
theorem ok_two (a b : Str) (ha : PyData.strOk a = true) (hb : PyData.strOk b = true) : PyData.strOk (tupleText [a, b]) = true := by
  show PyData.strOk ((Str.ofString "(" ++ (a ++ Str.ofString ", " ++ b)) ++ Str.ofString ")") = true
  rw [ok_app, ok_app, ok_app, ok_app, ok_str, ok_str, ok_str, ha, hb]
  rfl
structure OddD (d : PyData) : Prop where
  f : isFrac d = false
  s : d.showable = true
  l : d.shown.length ≤ sizeLine
  dp : d.depth ≤ 10
  k : PyData.strOk d.shown = true
theorem sh_int {i : Int} (h : i.natAbs < 10 ^ 4) : (PyData.shown (.int i)).length ≤ 5 := by
  show (Str.ofString (toString i)).length ≤ 5
  rw [PySem.ofString_length]
  exact int_text_length_le10 (by decide) h
theorem sh_two (d e : PyData) : (PyData.shown (.tuple [d, e])).length = d.shown.length + e.shown.length + 4 := by
  show (("(" : Str) ++ Str.join ", " [d.shown, e.shown] ++ (")" : String)).length = _
  rw [strLen_append, strLen_append]
  have h := join_length_add [d.shown, e.shown] (by simp)
  have h2 : piled [d.shown, e.shown] = d.shown.length + 2 + (e.shown.length + 2) := by simp [piled]
  have h3 : (("(" : Str)).length = 1 := rfl
  have h4 : (((")" : String) : Str)).length = 1 := rfl
  omega
theorem odd_two {a b : PyData} (f : isFrac (.tuple [a, b]) = false) (sa : a.showable = true) (sb : b.showable = true) (la : a.shown.length ≤ 100) (lb : b.shown.length ≤ 100) (da : a.depth = 0) (db : b.depth = 0) (ka : PyData.strOk a.shown = true) (kb : PyData.strOk b.shown = true) : OddD (.tuple [a, b]) := by
  refine ⟨f, ?_, ?_, ?_, ok_two _ _ ka kb⟩
  · simp only [PyData.showable, PyData.showableAll, sa, sb, Bool.and_self]
  · rw [sh_two, sizeLine_eq]
    omega
  · simp only [PyData.depth, PyData.depthAll, da, db]
    omega
theorem show_int {i : Int} (h : i.natAbs < 10 ^ 4) : (PyData.int i).showable = true := by
  simp only [PyData.showable]
  refine decide_eq_true ?_
  by_cases h0 : i.natAbs = 0
  · rw [h0]
    decide
  · exact (Nat.log2_lt h0).mpr (Nat.lt_of_lt_of_le h (by decide +kernel))
theorem odd_ints {a b : Int} (f : isFrac (fq a b) = false) (ha : a.natAbs < 10 ^ 4) (hb : b.natAbs < 10 ^ 4) : OddD (fq a b) :=
  odd_two f (show_int ha) (show_int hb) (Nat.le_trans (sh_int ha) (by decide)) (Nat.le_trans (sh_int hb) (by decide)) (by simp only [PyData.depth]) (by simp only [PyData.depth]) (ok_str _) (ok_str _)
theorem fr_low {a b : Int} (h : b < 1) : isFrac (fq a b) = false := by
  show (decide (1 ≤ b) && decide (gd a b = 1)) = false
  rw [decide_eq_false (by omega), Bool.false_and]
theorem fr_gcd {a b : Int} (h : gd a b ≠ 1) : isFrac (fq a b) = false := by
  show (decide (1 ≤ b) && decide (gd a b = 1)) = false
  rw [decide_eq_false h, Bool.and_false]
theorem gd_zero {b : Int} (h : 2 ≤ b) : gd 0 b ≠ 1 := by
  unfold gd
  simp
  omega
theorem gd_mult {a b : Int} (h : 2 ≤ a) : gd (a * b) a ≠ 1 := by
  have e : gd (a * b) a = a.natAbs := by
    unfold gd
    rw [Int.natAbs_mul, Nat.gcd_mul_right_left]
  rw [e]
  omega
theorem i_catB {b l r : Addr} {xs zs ys : List V} (hb : Bag b H) (h1 : hid b H l = some (.lst xs)) (h2 : hid b H r = some (.lst zs)) (hl : xs.length + zs.length ≤ 100000) (e : xs ++ zs = ys) (q : ∀ p H2, H p = none → Ex H H2 → Bag b H2 → hid b H2 p = some (.lst ys) → Q (.ref p) H2) : rCat (.ref l) (.ref r) H Q := by
  subst e
  exact ⟨l, r, xs, zs, rfl, rfl, (of_hid h1).2, (of_hid h2).2, Evl.sz_of hl, fun p hp => q p _ hp (ex_upd hp) (hb.mono (ex_upd hp)) (hid_new hb hp upd_same)⟩
theorem i_disp12 {b : Addr} {σ : L2.St} (hb : Bag b H) (q : ∀ p H2, H p = none → Ex H H2 → Bag b H2 → hid b H2 p = some (.dK [(Sum.inl 1, .int 2)]) → Q (.ref p) H2) : tDisp [(tC (.int 1), tC (.int 2))] σ H Q := by
  intro p hp
  have e : Ex H (upd (upd H p (.dK [])) p (.dK [(Sum.inl 1, .int 2)])) := fun a o h => by
    have ne : a ≠ p := ne_of_none h hp
    rw [upd_ne ne, upd_ne ne]
    exact h
  exact ⟨upd_same, [(Sum.inl 1, .int 2)], rfl, by decide, q p _ hp e (hb.mono e) (hid_new hb hp upd_same)⟩
theorem hid_dk {b p : Addr} {kvs : List (Key × V)} (h : Bag b H) (hp : H p = some (.dK kvs)) : hid b H p = some (.dK kvs) := by
  obtain ⟨x, y, z, h1, _⟩ := h.ex
  exact hid_of hp (ne_of hp h1 (by intro z; cases z))
theorem odd_int {i : Int} (h : i.natAbs < 10 ^ 4) : OddD (.int i) := ⟨rfl, show_int h, Nat.le_trans (sh_int h) (by rw [sizeLine_eq]; decide), by simp only [PyData.depth]; omega, ok_str _⟩
theorem odd_none : OddD .none := ⟨by decide +kernel, by decide +kernel, by decide +kernel, by decide +kernel, by decide +kernel⟩
theorem odd_true : OddD (.bool true) := ⟨by decide +kernel, by decide +kernel, by decide +kernel, by decide +kernel, by decide +kernel⟩
theorem odd_false : OddD (.bool false) := ⟨by decide +kernel, by decide +kernel, by decide +kernel, by decide +kernel, by decide +kernel⟩
theorem odd_half : OddD (.str "1/2") := ⟨by decide +kernel, by decide +kernel, by decide +kernel, by decide +kernel, by decide +kernel⟩
theorem odd_1 : OddD (.tuple [.int 1]) := ⟨by decide +kernel, by decide +kernel, by decide +kernel, by decide +kernel, by decide +kernel⟩
theorem odd_123 : OddD (.tuple [.int 1, .int 2, .int 3]) := ⟨by decide +kernel, by decide +kernel, by decide +kernel, by decide +kernel, by decide +kernel⟩
theorem odd_l12 : OddD (.list [.int 1, .int 2]) := ⟨by decide +kernel, by decide +kernel, by decide +kernel, by decide +kernel, by decide +kernel⟩
theorem odd_f1 : OddD (.tuple [.bool false, .int 1]) := ⟨by decide +kernel, by decide +kernel, by decide +kernel, by decide +kernel, by decide +kernel⟩
theorem odd_121 : OddD (.tuple [.tuple [.int 1, .int 2], .int 1]) := ⟨by decide +kernel, by decide +kernel, by decide +kernel, by decide +kernel, by decide +kernel⟩
theorem odd_dict : OddD oD := ⟨by decide +kernel, by decide +kernel, by decide +kernel, by decide +kernel, by decide +kernel⟩
theorem odd_nil : OddD (.tuple []) := ⟨by decide +kernel, by decide +kernel, by decide +kernel, by decide +kernel, by decide +kernel⟩
theorem odd_mT {m : Int} (h : m.natAbs < 10 ^ 4) : OddD (.tuple [.int m, .bool true]) := odd_two rfl (show_int h) rfl (Nat.le_trans (sh_int h) (by decide)) (by decide +kernel) (by simp only [PyData.depth]) (by simp only [PyData.depth]) (ok_str _) (by decide +kernel)
theorem odd_mS {m : Int} (h : m.natAbs < 10 ^ 4) : OddD (.tuple [.int m, .str "1"]) := odd_two rfl (show_int h) rfl (Nat.le_trans (sh_int h) (by decide)) (by decide +kernel) (by simp only [PyData.depth]) (by simp only [PyData.depth]) (ok_str _) (by decide +kernel)
def sp__law_odd_fraction (K : PySem.W.Frag) : Sp := A1 fun v1 H Q => ∃ b, v1 = .ref b ∧ Bag b H ∧ ∀ d v H2, OddD d → Ex (hid b H) (hid b H2) → Bag b H2 → Od K (hid b H2) v d → Q v H2
local macro_rules | `(tactic| wtm_at "stb") => `(tactic| ((with_reducible refine' i_disp12 ?u0 (fun np nH nfr nhe nhb nhp => ?uq)); (case u0 => wtm_at "bag")))
local macro_rules | `(tactic| wtm_at "stb") => `(tactic| ((with_reducible refine' i_catB ?u0 ?u1 ?u2 ?u3 ?u4 (fun np nH nfr nhe nhb nhp => ?uq)); (case u0 => wtm_at "bag"); (case u1 => wtm_at "hs"); (case u2 => wtm_at "hs"); (case u3 => exact Nat.le_of_ble_eq_true rfl); (case u4 => exact rfl)))
abbrev s__law_odd_fraction : Stmt := top 34
theorem sc__law_odd_fraction : FnScope ["_law_bag_here", "_law_many", "_law_more", "_law_odd"] ["_law_bag_here"] (defScope s__law_odd_fraction) := ⟨rfl, rfl, rfl, by decide +kernel, rfl, by decide +kernel, by decide +kernel⟩
theorem ok__law_odd_fraction {f : Addr} {fd : FuncData} (F : FnP K "_law_odd_fraction" s__law_odd_fraction f fd) (g : G mg) (c__law_one_of : Cl P w K mg base 2 "_law_one_of" (sp__law_one_of K)) (c__law_draw : Cl P w K mg base 1 "_law_draw" (sp__law_draw K))  : FnOk P w K mg base CX0 3 f fd ["_law_bag_here"] (sp__law_odd_fraction K) := by
  have nd := sc__law_odd_fraction.nd
  refine F.ok sc__law_odd_fraction (fun vs H Q E h => h.len) (fun cdv A outer s H vs Q E hr h => ?_)
  obtain ⟨v1, rfl, h⟩ := h
  refine ⟨_, PSs.nox (pss_cons (ps_par (i := 1) (j := 2) (by rfl) nd rfl rfl (by decide) rfl rfl (pa_cons (pe_op op_add pe_int (pc c__law_draw hr (by decide) (by rfl) (pa_cons (pv 0) (pa_cons pe_int pa_nil)))) (pa_cons (pe_op op_add pe_int (pc c__law_draw hr (by decide) (by rfl) (pa_cons (pv 0) (pa_cons pe_int pa_nil)))) pa_nil)) (by rfl)) (pss_cons (ps_set (i := 3) nd rfl (Or.inl rfl) (pe_lst (pa_cons pe_non (pa_cons pe_bl (pa_cons pe_str (pa_cons (pe_tup (pa_cons pe_int pa_nil)) (pa_cons (pe_tup (pa_cons pe_int (pa_cons pe_int (pa_cons pe_int pa_nil)))) (pa_cons (pe_lst (pa_cons pe_int (pa_cons pe_int pa_nil))) (pa_cons (pe_tup (pa_cons pe_int (pa_cons (pv 1) pa_nil))) (pa_cons (pe_tup (pa_cons (pv 1) (pa_cons pe_int pa_nil))) (pa_cons (pe_tup (pa_cons (pv 2) (pa_cons (pe_op op_sub pe_int (pv 1)) pa_nil))) (pa_cons (pe_tup (pa_cons (pe_op op_mulX (pv 1) (pv 2)) (pa_cons (pv 1) pa_nil))) pa_nil)))))))))))) (pss_one (ps_ret (pc c__law_one_of hr (by decide) (by rfl) (pa_cons (pv 0) (pa_cons (pe_op op_cat (pv 3) (pe_lst (pa_cons (pe_tup (pa_cons (pv 1) (pa_cons pe_bl pa_nil))) (pa_cons (pe_tup (pa_cons pe_bl (pa_cons pe_int pa_nil))) (pa_cons (pe_tup (pa_cons (pv 1) (pa_cons pe_str pa_nil))) (pa_cons (pe_tup (pa_cons (pe_tup (pa_cons pe_int (pa_cons pe_int pa_nil))) (pa_cons pe_int pa_nil))) (pa_cons (pv 1) (pa_cons (pe_disp (pps_cons pe_int pe_int pps_nil) rfl rfl (by decide) (by decide)) (pa_cons (pe_tup pa_nil) pa_nil))))))))) pa_nil))))))), ?_⟩
  obtain ⟨b, rfl, hb, q⟩ := h
  wtm_at "gob0"
  rename_i m H0 hm0 hm1 ee0 bb0 t H00 ht0 ht1 ee00 bb00 pa Ha ea ba pah pb Hb eb bb pbh pc Hc fc ec bc pch pd Hd ed bd pdh pe He eee be peh pf Hf ef bf pfh
  have s1 : Sz 60 (2 + m) := by unfold Sz; omega
  have s2 : Sz 60 (1 + t) := by unfold Sz; omega
  wtm_at "gob"
  rename_i pl Hl nl
  refine' use__law_one_ofV ?o1 (Evl.sq_of ?o2) ?o4 ?o5 ?o3
  case o1 => wtm_at "bag"
  case o2 => wtm_at "hs"
  case o4 => exact Nat.le_of_ble_eq_true rfl
  case o5 => exact Nat.le_of_ble_eq_true rfl
  intro v H2 hv e2 b2
  have hm : (2 + m).natAbs < 10 ^ 4 := by omega
  have ht : (1 + t).natAbs < 10 ^ 4 := by omega
  have hmt : ((2 + m) * (1 + t)).natAbs < 10 ^ 4 := by
    have h1 : (2 + m).natAbs ≤ 61 := by omega
    have h2 : (1 + t).natAbs ≤ 9 := by omega
    rw [Int.natAbs_mul]
    exact Nat.lt_of_le_of_lt (Nat.mul_le_mul h1 h2) (by decide)
  have hn0 : (0 - (2 + m)).natAbs < 10 ^ 4 := by omega
  simp only [List.cons_append, List.nil_append, List.mem_cons, List.not_mem_nil, or_false] at hv
  rcases hv with rfl | rfl | rfl | rfl | rfl | rfl | rfl | rfl | rfl | rfl | rfl | rfl | rfl | rfl | rfl | rfl | rfl
  · exact q _ _ _ odd_none (by wtm_at "ex") b2 (.inl (by wtm_at "dp"))
  · exact q _ _ _ odd_true (by wtm_at "ex") b2 (.inl (by wtm_at "dp"))
  · exact q _ _ _ odd_half (by wtm_at "ex") b2 (.inl (by wtm_at "dp"))
  · exact q _ _ _ odd_1 (by wtm_at "ex") b2 (.inl (by wtm_at "dp"))
  · exact q _ _ _ odd_123 (by wtm_at "ex") b2 (.inl (by wtm_at "dp"))
  · exact q _ _ _ odd_l12 (by wtm_at "ex") b2 (.inl (by wtm_at "dp"))
  · exact q _ _ _ (odd_ints (fr_gcd (gd_zero (b := 2 + m) (by omega))) (by decide) hm) (by wtm_at "ex") b2 (.inl (by wtm_at "dp"))
  · exact q _ _ _ (odd_ints (fr_low (a := 2 + m) (b := 0) (by decide)) hm (by decide)) (by wtm_at "ex") b2 (.inl (by wtm_at "dp"))
  · exact q _ _ _ (odd_ints (fr_low (a := 1 + t) (b := 0 - (2 + m)) (by omega)) ht hn0) (by wtm_at "ex") b2 (.inl (by wtm_at "dp"))
  · exact q _ _ _ (odd_ints (fr_gcd (gd_mult (a := 2 + m) (b := 1 + t) (by omega))) hmt hm) (by wtm_at "ex") b2 (.inl (by wtm_at "dp"))
  · exact q _ _ _ (odd_mT hm) (by wtm_at "ex") b2 (.inl (by wtm_at "dp"))
  · exact q _ _ _ odd_f1 (by wtm_at "ex") b2 (.inl (by wtm_at "dp"))
  · exact q _ _ _ (odd_mS hm) (by wtm_at "ex") b2 (.inl (by wtm_at "dp"))
  · exact q _ _ _ odd_121 (by wtm_at "ex") b2 (.inl (by wtm_at "dp"))
  · exact q _ _ _ (odd_int hm) (by wtm_at "ex") b2 (.inl (by wtm_at "dp"))
  · refine q _ _ _ odd_dict (by wtm_at "ex") b2 (.inr ⟨rfl, _, rfl, ?_⟩)
    wtm_at "hs"
  · exact q _ _ _ odd_nil (by wtm_at "ex") b2 (.inl (by wtm_at "dp"))
theorem use__law_odd_fraction {b : Addr} (hb : Bag b H) (q : ∀ d v H2, OddD d → Ex (hid b H) (hid b H2) → Bag b H2 → Od K (hid b H2) v d → Q v H2) : sp__law_odd_fraction K [.ref b] H Q E := ⟨_, rfl, _, rfl, hb, q⟩
end
end Wb

namespace Wb
open PySem PySem.Spec PyProof.Rows L2
open Evl (Ex Ex.refl Ex.trans Ex.new)
local macro_rules | `(tactic| wtm_at "dp") => `(tactic| first | with_reducible assumption | with_reducible exact Dp.int _ | with_reducible exact Dp.bl _ | with_reducible exact Dp.str _ | with_reducible exact Dp.non | ((with_reducible refine' dpMono ?dme (by with_reducible assumption)); (case dme => wtm_at "ex")) | ((with_reducible refine' Dp.tup (Evl.st_of ?dph) ?dpa); (case dph => wtm_at "hs"); (case dpa => wtm_at "dpa")) | ((with_reducible refine' Dp.lst (Evl.sq_of ?dph) ?dpa); (case dph => wtm_at "hs"); (case dpa => wtm_at "dpa")))
local macro_rules | `(tactic| wtm_at "dpa") => `(tactic| first | with_reducible exact DpAll.nil | ((with_reducible refine' DpAll.cons ?dp1 ?dp2); (case dp1 => wtm_at "dp"); (case dp2 => wtm_at "dpa")) | with_reducible assumption | ((with_reducible refine' dpMonoA ?dme (by with_reducible assumption)); (case dme => wtm_at "ex")))
local macro_rules | `(tactic| wtm_at "sz") => `(tactic| first | with_reducible assumption | ((with_reducible refine' sz_mul ?sz1 ?sz2); (case sz1 => wtm_at "sz"); (case sz2 => wtm_at "sz")) | ((with_reducible refine' sz_add ?sz1 ?sz2); (case sz1 => wtm_at "sz"); (case sz2 => wtm_at "sz")) | ((with_reducible refine' sz_sub ?sz1 ?sz2); (case sz1 => wtm_at "sz"); (case sz2 => wtm_at "sz")) | ((with_reducible refine' sz_neg ?sz1); (case sz1 => wtm_at "sz")) | ((with_reducible refine' sz_div ?sz1); (case sz1 => wtm_at "sz")) | ((with_reducible refine' sz_fdiv ?sz1); (case sz1 => wtm_at "sz")) | exact sz_lit (by decide) | wtm_at "sz2")
local macro_rules | `(tactic| wtm_at "szb") => `(tactic| first | with_reducible assumption | ((with_reducible refine' sz_mono ?szb1 ?szb2); (case szb1 => wtm_at "sz"); (case szb2 => decide)))
local macro_rules | `(tactic| wtm_at "nz") => `(tactic| first | assumption | decide | omega)
local macro_rules | `(tactic| wtm_at "shaped") => `(tactic| first | rfl | decide)
local macro_rules | `(tactic| wtm_at "sset") => `(tactic| ((dsimp only [L2.wipe, List.set, List.set_cons_zero, List.set_cons_succ]) <;> exact rfl))
local macro_rules | `(tactic| wtm_at "nrm") => `(tactic| dsimp only [L2.start, L2.wipe, List.set, List.append, List.map, List.map_cons, List.map_nil, List.length_cons, List.length_nil, Nat.reduceAdd, Nat.reduceSub, List.reduceReplicate, List.replicate, List.cons_append, List.nil_append, List.set_cons_zero, List.set_cons_succ])
local macro_rules | `(tactic| wtm_at "st") => `(tactic| first
  | ((with_reducible refine' i_var (v := ?u0) ?u1 ?uq); (case u1 => exact rfl))
  | ((with_reducible refine' i_nameN ?u0 ?uq); (case u0 => wtm_at "sset"))
  | (with_reducible refine' i_op ?uq)
  | (with_reducible refine' i_c ?uq)
  | (with_reducible refine' i_I0 ?uq)
  | ((with_reducible refine' i_ixTI (i := ?u0) ?u1 ?u2 ?u3 ?uq); (case u1 => wtm_at "dp"); (case u2 => wtm_at "ex"); (case u3 => exact rfl))
  | ((with_reducible refine' i_ixT (d := ?u0) ?u1 ?u2 ?u3 (fun xu hxu => ?uq)); (case u1 => wtm_at "dp"); (case u2 => wtm_at "ex"); (case u3 => exact rfl))
  | ((with_reducible refine' i_mul ?u0 ?u1 ?u2 ?uq); (case u0 => wtm_at "sz"); (case u1 => wtm_at "sz"); (case u2 => first | decide | omega))
  | (with_reducible refine' i_seq ?uq)
  | (with_reducible refine' i_asg ?uq)
  | (with_reducible refine' i_ret ?uq)
  | (with_reducible refine' i_ifs ?uq)
  | (with_reducible refine' i_drop ?uq)
  | (with_reducible refine' i_next ?uq)
  | (with_reducible refine' i_cons ?uq)
  | (with_reducible refine' i_nil ?uq)
  | (with_reducible refine' i_cl ?uq)
  | (with_reducible refine' i_cb ?uq)
  | (with_reducible refine' i_tup ?uq)
  | (with_reducible refine' i_lst ?uq)
  | ((with_reducible refine' i_mkT ?u0 (fun np nH nhe nhp => ?uq)); (case u0 => exact Nat.le_of_ble_eq_true rfl))
  | (with_reducible refine' i_test ?uq)
  | (with_reducible refine' i_B ?uq)
  | (with_reducible refine' i_k ?uq)
  | (with_reducible refine' i_and ?uq)
  | (with_reducible refine' i_or ?uq)
  | (with_reducible refine' i_not ?uq)
  | (with_reducible refine' i_andV ?uq)
  | (with_reducible refine' i_orV ?uq)
  | (with_reducible refine' i_notV ?uq)
  | (with_reducible refine' i_if ?uq)
  | (with_reducible refine' i_un ?uq)
  | (with_reducible refine' i_U ?uq)
  | (with_reducible refine' i_iteT ?uq)
  | (with_reducible refine' i_iteF ?uq)
  | ((with_reducible refine' i_iteTr ?u0 ?uq); (case u0 => first | with_reducible rfl | decide | (simp only [dIsInt, dIsBool, dIsTup, dIsStr, dIsLst, Bool.not_true, Bool.not_false]; done)))
  | ((with_reducible refine' i_iteFr ?u0 ?uq); (case u0 => first | with_reducible rfl | decide | (simp only [dIsInt, dIsBool, dIsTup, dIsStr, dIsLst, Bool.not_true, Bool.not_false]; done)))
  | (with_reducible refine' i_ite (fun hif => ?uqa) (fun hif => ?uqb))
  | (with_reducible refine' i_iteN (fun hif => ?uqa) (fun hif => ?uqb))
  | (with_reducible refine' i_iteBN (fun hif => ?uqa) (fun hif => ?uqb))
  | (with_reducible refine' i_iteB (fun hif => ?uqa) (fun hif => ?uqb))
  | ((with_reducible refine' i_modN ?u0 ?uq); (case u0 => wtm_at "nz"))
  | ((with_reducible refine' i_fdX ?u0 ?u1 ?u2 ?uq); (case u0 => wtm_at "nz"); (case u1 => wtm_at "sz"); (case u2 => first | decide | omega))
  | ((with_reducible refine' i_pow ?u0 ?uq); (case u0 => exact ⟨by decide, by decide +kernel⟩))
  | (with_reducible refine' i_eqI ?uq)
  | (with_reducible refine' i_neI ?uq)
  | (with_reducible refine' i_gcd ?uq)
  | (with_reducible refine' i_qabs ?uq)
  | (with_reducible refine' i_qint ?uq)
  | (with_reducible refine' i_qintB ?uq)
  | (with_reducible refine' i_qmax2 ?uq)
  | (with_reducible refine' i_qmin2 ?uq)
  | (with_reducible refine' i_isB ?uq)
  | (with_reducible refine' i_notB ?uq)
  | (with_reducible refine' i_chain ?uq)
  | (with_reducible refine' i_qisN ?uq)
  | (with_reducible refine' i_qnotN ?uq)
  | (with_reducible refine' i_yes ?uq)
  | (with_reducible refine' i_par ?uq)
  | (with_reducible refine' i_par3 ?uq)
  | ((with_reducible refine' i_par2 ?u0 ?uq); (case u0 => wtm_at "sset"))
  | ((with_reducible refine' i_par33 ?u0 ?uq); (case u0 => wtm_at "sset"))
  | ((with_reducible refine' i_ixLI (i := ?u0) ?u1 ?u2 ?u3 ?uq); (case u1 => wtm_at "dp"); (case u2 => wtm_at "ex"); (case u3 => exact rfl))
  | ((with_reducible refine' i_ixL (d := ?u0) ?u1 ?u2 ?u3 (fun xu hxu => ?uq)); (case u1 => wtm_at "dp"); (case u2 => wtm_at "ex"); (case u3 => exact rfl))
  | ((with_reducible refine' i_qlenT ?u0 ?uq); (case u0 => wtm_at "dp"))
  | ((with_reducible refine' i_qlenL ?u0 ?uq); (case u0 => wtm_at "dp"))
  | ((with_reducible refine' i_gtup ?u0 ?u1 ?u2 (fun gvs gdp => ?uq)); (case u0 => wtm_at "dp"); (case u1 => wtm_at "ex"); (case u2 => exact rfl))
  | ((with_reducible refine' i_glst ?u0 ?u1 ?u2 (fun gvs gdp => ?uq)); (case u0 => wtm_at "dp"); (case u1 => wtm_at "ex"); (case u2 => exact rfl))
  | ((with_reducible refine' i_gconsI ?u0 (fun gr gh => ?uq)); (case u0 => with_reducible assumption))
  | ((with_reducible refine' i_gconsA ?u0 (fun gv gr gh1 gh2 => ?uq)); (case u0 => with_reducible assumption))
  | ((with_reducible refine' i_gnilA ?u0 ?uq); (case u0 => with_reducible assumption))
  | ((with_reducible refine' i_isiI ?u0 ?uq); (case u0 => wtm_at "dp"))
  | ((with_reducible refine' i_isiB ?u0 ?uq); (case u0 => wtm_at "dp"))
  | ((with_reducible refine' i_isiT ?u0 ?uq); (case u0 => wtm_at "dp"))
  | ((with_reducible refine' i_isiS ?u0 ?uq); (case u0 => wtm_at "dp"))
  | ((with_reducible refine' i_isiL ?u0 ?uq); (case u0 => wtm_at "dp"))
  | ((with_reducible refine' i_eqD ?u0 ?u1 ?u2 ?u3 ?uq); (case u0 => wtm_at "dp"); (case u1 => wtm_at "dp"); (case u2 => wtm_at "shaped"); (case u3 => wtm_at "shaped"))
  | ((with_reducible refine' i_neD ?u0 ?u1 ?u2 ?u3 ?uq); (case u0 => wtm_at "dp"); (case u1 => wtm_at "dp"); (case u2 => wtm_at "shaped"); (case u3 => wtm_at "shaped"))
  | wtm_at "st2"
  | wtm_at "use")
local macro_rules | `(tactic| wtm_at "go") => `(tactic| repeat' (wtm_at "st"))
local macro_rules | `(tactic| wtm_at "go0") => `(tactic| ((try dsimp only [L2.cxOf, L2.Cx.nox, L2.Cx.wish, L2.Cx.tr, L2.Cx.blk]); (try wtm_at "nrm"); wtm_at "go"))
local macro_rules | `(tactic| wtm_at "fin") => `(tactic| ((try dsimp only); first | with_reducible assumption | assumption | ((with_reducible refine' Ret.use ?rur ?rue ?rud); (case rur => with_reducible assumption); (case rue => wtm_at "ex"); (case rud => wtm_at "dp"))))
local macro_rules | `(tactic| wtm_at "ex") => `(tactic| first | with_reducible assumption | with_reducible exact Ex.refl _ | with_reducible exact ex_hid | ((with_reducible refine' Ex.trans ?exe (by with_reducible assumption)); (case exe => wtm_at "ex")) | ((with_reducible refine' Ex.trans ?exe (hid_ex (by with_reducible assumption))); (case exe => wtm_at "ex")) | ((with_reducible refine' Ex.trans ?exe ex_hid); (case exe => wtm_at "ex")))
local macro_rules | `(tactic| wtm_at "bag") => `(tactic| first | with_reducible assumption | ((with_reducible refine' Bag.mono ?bgm (by with_reducible assumption)); (case bgm => wtm_at "bag")))
local macro_rules | `(tactic| wtm_at "hs") => `(tactic| first | with_reducible assumption | ((with_reducible refine' hid_tup ?hb ?hp); (case hp => with_reducible assumption); (case hb => wtm_at "bag")) | ((with_reducible refine' hid_new ?hb ?hn ?hp); (case hp => with_reducible assumption); (case hn => with_reducible assumption); (case hb => wtm_at "bag")) | ((with_reducible refine' ex_at ?exe (by with_reducible assumption)); (case exe => wtm_at "ex")))
local macro_rules | `(tactic| wtm_at "st2") => `(tactic| first
  | ((with_reducible refine' i_mulC ?u0 ?uq); (case u0 => first | exact cmul_l (by decide) | exact cmul_r (by decide)))
  | ((with_reducible refine' i_ixLr (v := ?u0) ?u1 ?u2 ?uq); (case u1 => with_reducible assumption); (case u2 => exact rfl))
  | (with_reducible refine' i_sub ?uq)
  | ((with_reducible refine' i_mkL ?u0 (fun np nH nfr nhe nhp => ?uq)); (case u0 => exact Nat.le_of_ble_eq_true rfl))
  | ((with_reducible refine' i_setL (n := ?u0) ?u1 ?u2 (fun sH sh se => ?uq)); (case u1 => with_reducible assumption); (case u2 => exact rfl))
  | (with_reducible refine' i_sl ?uq)
  | (with_reducible refine' i_nopart ?uq)
  | (with_reducible refine' i_part ?uq)
  | (with_reducible refine' i_part1 ?uq))
local macro_rules | `(tactic| wtm_at "sz2") => `(tactic| ((with_reducible refine' sz_fmod ?sz1 ?sz2); (case sz1 => wtm_at "nz"); (case sz2 => wtm_at "sz")))
local macro_rules | `(tactic| wtm_at "stb") => `(tactic| first
  | ((with_reducible refine' i_mkTB ?u0 ?u1 (fun np nH nhe nhb nhp => ?uq)); (case u0 => exact Nat.le_of_ble_eq_true rfl); (case u1 => wtm_at "bag"))
  | ((with_reducible refine' i_mkLB ?u0 ?u1 (fun np nH nfr nhe nhb nhp => ?uq)); (case u0 => exact Nat.le_of_ble_eq_true rfl); (case u1 => wtm_at "bag"))
  | wtm_at "st")
local macro_rules | `(tactic| wtm_at "gob") => `(tactic| repeat' (wtm_at "stb"))
local macro_rules | `(tactic| wtm_at "gob0") => `(tactic| ((try dsimp only [L2.cxOf, L2.Cx.nox, L2.Cx.wish, L2.Cx.tr, L2.Cx.blk]); (try wtm_at "nrm"); wtm_at "gob"))
local macro_rules | `(tactic| wtm_at "use") => `(tactic| (with_reducible refine' use_shared_of ?uq))
local macro_rules | `(tactic| wtm_at "use") => `(tactic| ((with_reducible refine' use_is_integer ?u0 ?uq); (case u0 => wtm_at "dp")))
local macro_rules | `(tactic| wtm_at "use") => `(tactic| ((with_reducible refine' use_reduced ?u0 ?u1 (fun ur uH ue ud => ?uq)); (case u0 => wtm_at "nz"); (case u1 => wtm_at "szb")))
local macro_rules | `(tactic| wtm_at "use") => `(tactic| ((with_reducible refine' use_sum_of ?u0 ?u1 ?u2 ?u3 ?u4 ?u5 ?u6 ?u7 (fun ur uH ue ud => ?uq)); (case u0 => wtm_at "dp"); (case u1 => wtm_at "dp"); (case u2 => wtm_at "szb"); (case u3 => wtm_at "szb"); (case u4 => wtm_at "szb"); (case u5 => wtm_at "szb"); (case u6 => wtm_at "nz"); (case u7 => wtm_at "nz")))
local macro_rules | `(tactic| wtm_at "use") => `(tactic| ((with_reducible refine' use_difference_of ?u0 ?u1 ?u2 ?u3 ?u4 ?u5 ?u6 ?u7 (fun ur uH ue ud => ?uq)); (case u0 => wtm_at "dp"); (case u1 => wtm_at "dp"); (case u2 => wtm_at "szb"); (case u3 => wtm_at "szb"); (case u4 => wtm_at "szb"); (case u5 => wtm_at "szb"); (case u6 => wtm_at "nz"); (case u7 => wtm_at "nz")))
local macro_rules | `(tactic| wtm_at "use") => `(tactic| ((with_reducible refine' use_product_of ?u0 ?u1 ?u2 ?u3 ?u4 ?u5 ?u6 ?u7 (fun ur uH ue ud => ?uq)); (case u0 => wtm_at "dp"); (case u1 => wtm_at "dp"); (case u2 => wtm_at "szb"); (case u3 => wtm_at "szb"); (case u4 => wtm_at "szb"); (case u5 => wtm_at "szb"); (case u6 => wtm_at "nz"); (case u7 => wtm_at "nz")))
local macro_rules | `(tactic| wtm_at "use") => `(tactic| ((with_reducible refine' use_is_below ?u0 ?u1 ?u2 ?u3 ?u4 ?u5 ?uq); (case u0 => wtm_at "dp"); (case u1 => wtm_at "dp"); (case u2 => wtm_at "szb"); (case u3 => wtm_at "szb"); (case u4 => wtm_at "szb"); (case u5 => wtm_at "szb")))
local macro_rules | `(tactic| wtm_at "use") => `(tactic| ((with_reducible refine' use_floor_of ?u0 ?u1 ?u2 ?uq); (case u0 => wtm_at "dp"); (case u1 => wtm_at "szb"); (case u2 => wtm_at "nz")))
local macro_rules | `(tactic| wtm_at "use") => `(tactic| ((with_reducible refine' use_ceiling_of ?u0 ?u1 ?u2 ?uq); (case u0 => wtm_at "dp"); (case u1 => wtm_at "szb"); (case u2 => wtm_at "nz")))
local macro_rules | `(tactic| wtm_at "use") => `(tactic| ((with_reducible refine' use_is_fraction ?u0 (fun uH ue => ?uq)); (case u0 => wtm_at "od")))
local macro_rules | `(tactic| wtm_at "od") => `(tactic| first | with_reducible assumption | ((with_reducible refine' odMono ?ode (by with_reducible assumption)); (case ode => wtm_at "ex")) | ((with_reducible refine' Or.inl ?odd); (case odd => wtm_at "dp")))
local macro_rules | `(tactic| wtm_at "use") => `(tactic| (first | ((with_reducible refine' use_require_integer ?u0 ?u1 ?uq); (case u0 => wtm_at "dp"); (case u1 => first | with_reducible assumption | with_reducible rfl)) | fail))
section
variable {P : Program} {w : World} {K : PySem.W.Frag} {mg : Str → Option Value} {base : Heap} {H H' : Hp} {Q : VK} {E : XK} {v1 v2 v3 v4 : V}
/-- which value is refused -/
structure Rf (K : PySem.W.Frag) (H : Hp) (n : Int) (d1 d2 : PyData) (v2 v3 rv : V) : Prop where
  z : n = 0 → Dp K H v2 d1 ∧ Dp K H v3 d2
  c : (n = 0 ∧ ((isInt d1 = false ∧ rv = v2) ∨ (isInt d1 = true ∧ (isInt d2 = false ∨ d2 = .int 0) ∧ rv = v3))) ∨ ((n = 1 ∨ n = 2 ∨ n = 3 ∨ n = 4) ∧ ((isFrac d1 = false ∧ rv = v2) ∨ (isFrac d1 = true ∧ isFrac d2 = false ∧ rv = v3))) ∨ ((n = 5 ∨ n = 6) ∧ isFrac d1 = false ∧ rv = v2)
def sp__law_asked (K : PySem.W.Frag) : Sp := A3 fun v1 v2 v3 H Q => ∃ (n : Int) (d1 d2 : PyData) (rv : V) (rd : PyData), v1 = .int n ∧ Od K H v2 d1 ∧ Od K H v3 d2 ∧ Od K H rv rd ∧ rd.showable = true ∧ rd.shown.length ≤ sizeLine ∧ rd.depth ≤ 10 ∧ Rf K H n d1 d2 v2 v3 rv ∧ Ret K (.tuple [.str "refused", .str rd.shown]) H Q
theorem use_lowest_ofX {d1 d2 : PyData} {C : Addr} (h1 : Dp K H v1 d1) (h2 : Dp K H v2 d2) (f1 : isInt d1 = false) (q : XR C v1 H E) : sp_lowest_of K C [v1, v2] H Q E :=
  ⟨_, _, rfl, _, _, h1, h2, fun _ => q, (fun z => by rw [f1] at z; cases z), fun a b e => by rw [e] at f1; cases f1⟩
theorem use_lowest_ofY {d1 d2 : PyData} {C : Addr} (h1 : Dp K H v1 d1) (h2 : Dp K H v2 d2) (f1 : isInt d1 = true) (f2 : isInt d2 = false ∨ d2 = .int 0) (q : XR C v2 H E) : sp_lowest_of K C [v1, v2] H Q E :=
  ⟨_, _, rfl, _, _, h1, h2, (fun z => by rw [f1] at z; cases z), fun _ _ => q, fun a b e1 e2 nb => by
    rcases f2 with f2 | f2
    · rw [e2] at f2; cases f2
    · rw [e2] at f2; cases f2; exact absurd rfl nb⟩
local macro_rules | `(tactic| wtm_at "st2") => `(tactic| (with_reducible refine' i_cs ?uq))
abbrev tTold (t : TE) : TE := tTup (tCons (tC (.str "told")) (tCons t tNil))
abbrev tWh (n : Int) : TT := tTest (tOp rEq (tVar 0) (tC (.int n)))
abbrev tA2 : TA := tCons (tVar 1) (tCons (tVar 2) tNil)
abbrev tA1 : TA := tCons (tVar 1) tNil
abbrev tAsk (K : PySem.W.Frag) (C : Addr) (W : WX) : TS := tSeq (tIfS (tWh 0) (tRet (tTold (tCallS (sp_lowest_of K C) (WE W) tA2))) tNext) (tSeq (tIfS (tWh 1) (tRet (tTold (tCallS (sp_plus K C) (WE W) tA2))) tNext) (tSeq (tIfS (tWh 2) (tRet (tTold (tCallS (sp_minus K C) (WE W) tA2))) tNext)
  (tSeq (tIfS (tWh 3) (tRet (tTold (tCallS (sp_times K C) (WE W) tA2))) tNext) (tSeq (tIfS (tWh 4) (tRet (tTold (tCallS (sp_is_less K C) (WE W) tA2))) tNext) (tRet (tIf (tWh 5) (tTold (tCallS (sp_whole_below K C) (WE W) tA1)) (tTold (tCallS (sp_whole_above K C) (WE W) tA1))))))))
abbrev tSuite (K : PySem.W.Frag) (C : Addr) (a : Addr) (cls : Value) (d : Option Addr) : TS := tRet (tTup (tCons (tC (.str "refused")) (tCons (tCB (qReprD K) (tCons (tXf a cls d C "value" (tVar 3)) tNil)) tNil)))
abbrev s__law_asked : Stmt := top 35
theorem sc__law_asked : FnScope ["_law_which", "_law_one", "_law_other", "e"] ["_law_which", "_law_one", "_law_other"] (defScope s__law_asked) := ⟨rfl, rfl, rfl, by decide +kernel, rfl, by decide +kernel, by decide +kernel⟩
theorem ok__law_asked {f : Addr} {fd : FuncData} (F : FnP K "_law_asked" s__law_asked f fd) (g : G mg) {C : Addr} (e : ExN P K mg C) (c0 : ClX P w K mg base 3 "lowest_of" (sp_lowest_of K C)) (c1 : ClX P w K mg base 4 "plus" (sp_plus K C)) (c2 : ClX P w K mg base 4 "minus" (sp_minus K C)) (c3 : ClX P w K mg base 4 "times" (sp_times K C)) (c4 : ClX P w K mg base 4 "is_less" (sp_is_less K C)) (c5 : ClX P w K mg base 4 "whole_below" (sp_whole_below K C)) (c6 : ClX P w K mg base 4 "whole_above" (sp_whole_above K C)) : FnG P w K mg base CX0 5 f fd ["_law_which", "_law_one", "_law_other"] (sp__law_asked K) := by
  have nd := sc__law_asked.nd
  refine okG F sc__law_asked (fun vs H Q E h => h.len) (fun cdv A outer s H vs Q E hga hr h => ?_)
  obtain ⟨v1, v2, v3, rfl, h⟩ := h
  refine ⟨_, pss_one (ps_try_as (i := 3) (c := .ref C) (tb := tAsk K C) (ts := tSuite K C) (Wout := fun _ _ _ _ => False) rfl rfl nd rfl rfl ⟨rfl, by decide, Or.inl e.g⟩ takes0
    (fun W pn xe tk _ => by
      exact (pss_cons (ps_if (pt_cmpR op_eq (pv 0) pe_int (nomark _)) (pss_one (ps_ret (pe_tup (pa_cons pe_str (pa_cons (pcX c0 tk hr (by decide) (by rfl) (pa_cons (pv 1) (pa_cons (pv 2) pa_nil))) pa_nil))))) pss_nil)
       (pss_cons (ps_if (pt_cmpR op_eq (pv 0) pe_int (nomark _)) (pss_one (ps_ret (pe_tup (pa_cons pe_str (pa_cons (pcX c1 tk hr (by decide) (by rfl) (pa_cons (pv 1) (pa_cons (pv 2) pa_nil))) pa_nil))))) pss_nil)
       (pss_cons (ps_if (pt_cmpR op_eq (pv 0) pe_int (nomark _)) (pss_one (ps_ret (pe_tup (pa_cons pe_str (pa_cons (pcX c2 tk hr (by decide) (by rfl) (pa_cons (pv 1) (pa_cons (pv 2) pa_nil))) pa_nil))))) pss_nil)
       (pss_cons (ps_if (pt_cmpR op_eq (pv 0) pe_int (nomark _)) (pss_one (ps_ret (pe_tup (pa_cons pe_str (pa_cons (pcX c3 tk hr (by decide) (by rfl) (pa_cons (pv 1) (pa_cons (pv 2) pa_nil))) pa_nil))))) pss_nil)
       (pss_cons (ps_if (pt_cmpR op_eq (pv 0) pe_int (nomark _)) (pss_one (ps_ret (pe_tup (pa_cons pe_str (pa_cons (pcX c4 tk hr (by decide) (by rfl) (pa_cons (pv 1) (pa_cons (pv 2) pa_nil))) pa_nil))))) pss_nil)
       (pss_one (ps_ret (pe_ifExp (pt_cmpR op_eq (pv 0) pe_int (nomark _)) (pe_tup (pa_cons pe_str (pa_cons (pcX c5 tk hr (by decide) (by rfl) (pa_cons (pv 1) pa_nil)) pa_nil))) (pe_tup (pa_cons pe_str (pa_cons (pcX c6 tk hr (by decide) (by rfl) (pa_cons (pv 1) pa_nil)) pa_nil))))))))))))
    (fun a oe cls d pn hz hf => pss_one (ps_ret (pe_tup (pa_cons pe_str (pa_cons (pe_callB (call_reprD hga hr.units) (by rfl) g.f_repr boot_repr (pa_cons (pe_xf e.xf e.no hz hf (pv 3)) pa_nil)) pa_nil)))))), ?_⟩
  obtain ⟨n, d1, d2, rv, rd, rfl, h1, h2, hrv, hs, hl, hdp, hrf, q⟩ := h
  have key : XR C rv H (WE (wAs K (.ref C) 3 (tSuite K C) (fun _ _ _ _ => False) { nx := fun _ H' => Q .non H', rt := Q }) [some (.int n), some v2, some v3, none]) := by
    intro H2 dx e2 hn
    refine ⟨true, e.m, fun _ a ha => ?_, fun z => by cases z⟩
    have e3 : Ex H (upd H2 dx (.xd [("value", rv)])) := e2.trans (ex_upd hn)
    refine i_ret (i_tup (i_cons (i_c (i_cons (i_cb (i_cons ?_))))))
    refine ⟨.ref a, rfl, rfl, rfl, dx, [("value", rv)], rv, rfl, upd_same, rfl, ?_⟩
    refine i_nil ⟨rv, rd, rfl, odMono e3 hrv, hs, hl, hdp, ?_⟩
    refine i_nil (i_mkT (Nat.le_of_ble_eq_true rfl) fun p H4 e4 hp => ?_)
    exact q _ _ (e3.trans e4) (.tup (Evl.st_of hp) (.cons (.str _) (.cons (.str _) .nil)))
  show tAsk K C (wAs K (.ref C) 3 (tSuite K C) (fun _ _ _ _ => False) { nx := fun _ H' => Q .non H', rt := Q }) { nx := fun _ H' => Q .non H', rt := Q } [some (.int n), some v2, some v3, none] H
  generalize wAs K (.ref C) 3 (tSuite K C) (fun _ _ _ _ => False) { nx := fun _ H' => Q .non H', rt := Q } = W at key ⊢
  rcases hrf.c with ⟨rfl, hc⟩ | ⟨hn, hc⟩ | ⟨hn, f1, rfl⟩
  · obtain ⟨k1, k2⟩ := hrf.z rfl
    wtm_at "go"
    rcases hc with ⟨f1, rfl⟩ | ⟨f1, f2, rfl⟩
    · exact use_lowest_ofX k1 k2 f1 key
    · exact use_lowest_ofY k1 k2 f1 f2 key
  · rcases hn with rfl | rfl | rfl | rfl
    · wtm_at "go"
      rcases hc with ⟨f1, rfl⟩ | ⟨f1, f2, rfl⟩
      · exact use_plusX h1 h2 f1 key
      · exact use_plusY h1 h2 f1 f2 key
    · wtm_at "go"
      rcases hc with ⟨f1, rfl⟩ | ⟨f1, f2, rfl⟩
      · exact use_minusX h1 h2 f1 key
      · exact use_minusY h1 h2 f1 f2 key
    · wtm_at "go"
      rcases hc with ⟨f1, rfl⟩ | ⟨f1, f2, rfl⟩
      · exact use_timesX h1 h2 f1 key
      · exact use_timesY h1 h2 f1 f2 key
    · wtm_at "go"
      rcases hc with ⟨f1, rfl⟩ | ⟨f1, f2, rfl⟩
      · exact use_is_lessX h1 h2 f1 key
      · exact use_is_lessY h1 h2 f1 f2 key
  · rcases hn with rfl | rfl
    · wtm_at "go"
      exact use_whole_belowX h1 f1 key
    · wtm_at "go"
      exact use_whole_aboveX h1 f1 key
theorem use__law_asked {n : Int} {d1 d2 rd : PyData} {rv : V} (h1 : Od K H v2 d1) (h2 : Od K H v3 d2) (hrv : Od K H rv rd) (hs : rd.showable = true) (hl : rd.shown.length ≤ sizeLine) (hd : rd.depth ≤ 10) (hrf : Rf K H n d1 d2 v2 v3 rv) (q : ∀ v H2, Ex H H2 → Dp K H2 v (.tuple [.str "refused", .str rd.shown]) → Q v H2) : sp__law_asked K [.int n, v2, v3] H Q E :=
  ⟨_, _, _, rfl, _, _, _, _, _, rfl, h1, h2, hrv, hs, hl, hd, hrf, q⟩
end
end Wb

namespace Wb
open PySem PySem.Spec PyProof.Rows L2
open Evl (Ex Ex.refl Ex.trans Ex.new)
local macro_rules | `(tactic| wtm_at "dp") => `(tactic| first | with_reducible assumption | with_reducible exact Dp.int _ | with_reducible exact Dp.bl _ | with_reducible exact Dp.str _ | with_reducible exact Dp.non | ((with_reducible refine' dpMono ?dme (by with_reducible assumption)); (case dme => wtm_at "ex")) | ((with_reducible refine' Dp.tup (Evl.st_of ?dph) ?dpa); (case dph => wtm_at "hs"); (case dpa => wtm_at "dpa")) | ((with_reducible refine' Dp.lst (Evl.sq_of ?dph) ?dpa); (case dph => wtm_at "hs"); (case dpa => wtm_at "dpa")))
local macro_rules | `(tactic| wtm_at "dpa") => `(tactic| first | with_reducible exact DpAll.nil | ((with_reducible refine' DpAll.cons ?dp1 ?dp2); (case dp1 => wtm_at "dp"); (case dp2 => wtm_at "dpa")) | with_reducible assumption | ((with_reducible refine' dpMonoA ?dme (by with_reducible assumption)); (case dme => wtm_at "ex")))
local macro_rules | `(tactic| wtm_at "sz") => `(tactic| first | with_reducible assumption | ((with_reducible refine' sz_mul ?sz1 ?sz2); (case sz1 => wtm_at "sz"); (case sz2 => wtm_at "sz")) | ((with_reducible refine' sz_add ?sz1 ?sz2); (case sz1 => wtm_at "sz"); (case sz2 => wtm_at "sz")) | ((with_reducible refine' sz_sub ?sz1 ?sz2); (case sz1 => wtm_at "sz"); (case sz2 => wtm_at "sz")) | ((with_reducible refine' sz_neg ?sz1); (case sz1 => wtm_at "sz")) | ((with_reducible refine' sz_div ?sz1); (case sz1 => wtm_at "sz")) | ((with_reducible refine' sz_fdiv ?sz1); (case sz1 => wtm_at "sz")) | exact sz_lit (by decide) | wtm_at "sz2")
local macro_rules | `(tactic| wtm_at "szb") => `(tactic| first | with_reducible assumption | ((with_reducible refine' sz_mono ?szb1 ?szb2); (case szb1 => wtm_at "sz"); (case szb2 => decide)))
local macro_rules | `(tactic| wtm_at "nz") => `(tactic| first | assumption | decide | omega)
local macro_rules | `(tactic| wtm_at "shaped") => `(tactic| first | rfl | decide)
local macro_rules | `(tactic| wtm_at "sset") => `(tactic| ((dsimp only [L2.wipe, List.set, List.set_cons_zero, List.set_cons_succ]) <;> exact rfl))
local macro_rules | `(tactic| wtm_at "nrm") => `(tactic| dsimp only [L2.start, L2.wipe, List.set, List.append, List.map, List.map_cons, List.map_nil, List.length_cons, List.length_nil, Nat.reduceAdd, Nat.reduceSub, List.reduceReplicate, List.replicate, List.cons_append, List.nil_append, List.set_cons_zero, List.set_cons_succ])
local macro_rules | `(tactic| wtm_at "st") => `(tactic| first
  | ((with_reducible refine' i_var (v := ?u0) ?u1 ?uq); (case u1 => exact rfl))
  | ((with_reducible refine' i_nameN ?u0 ?uq); (case u0 => wtm_at "sset"))
  | (with_reducible refine' i_op ?uq)
  | (with_reducible refine' i_c ?uq)
  | (with_reducible refine' i_I0 ?uq)
  | ((with_reducible refine' i_ixTI (i := ?u0) ?u1 ?u2 ?u3 ?uq); (case u1 => wtm_at "dp"); (case u2 => wtm_at "ex"); (case u3 => exact rfl))
  | ((with_reducible refine' i_ixT (d := ?u0) ?u1 ?u2 ?u3 (fun xu hxu => ?uq)); (case u1 => wtm_at "dp"); (case u2 => wtm_at "ex"); (case u3 => exact rfl))
  | ((with_reducible refine' i_mul ?u0 ?u1 ?u2 ?uq); (case u0 => wtm_at "sz"); (case u1 => wtm_at "sz"); (case u2 => first | decide | omega))
  | (with_reducible refine' i_seq ?uq)
  | (with_reducible refine' i_asg ?uq)
  | (with_reducible refine' i_ret ?uq)
  | (with_reducible refine' i_ifs ?uq)
  | (with_reducible refine' i_drop ?uq)
  | (with_reducible refine' i_next ?uq)
  | (with_reducible refine' i_cons ?uq)
  | (with_reducible refine' i_nil ?uq)
  | (with_reducible refine' i_cl ?uq)
  | (with_reducible refine' i_cb ?uq)
  | (with_reducible refine' i_tup ?uq)
  | (with_reducible refine' i_lst ?uq)
  | ((with_reducible refine' i_mkT ?u0 (fun np nH nhe nhp => ?uq)); (case u0 => exact Nat.le_of_ble_eq_true rfl))
  | (with_reducible refine' i_test ?uq)
  | (with_reducible refine' i_B ?uq)
  | (with_reducible refine' i_k ?uq)
  | (with_reducible refine' i_and ?uq)
  | (with_reducible refine' i_or ?uq)
  | (with_reducible refine' i_not ?uq)
  | (with_reducible refine' i_andV ?uq)
  | (with_reducible refine' i_orV ?uq)
  | (with_reducible refine' i_notV ?uq)
  | (with_reducible refine' i_if ?uq)
  | (with_reducible refine' i_un ?uq)
  | (with_reducible refine' i_U ?uq)
  | (with_reducible refine' i_iteT ?uq)
  | (with_reducible refine' i_iteF ?uq)
  | ((with_reducible refine' i_iteTr ?u0 ?uq); (case u0 => first | with_reducible rfl | decide | (simp only [dIsInt, dIsBool, dIsTup, dIsStr, dIsLst, Bool.not_true, Bool.not_false]; done)))
  | ((with_reducible refine' i_iteFr ?u0 ?uq); (case u0 => first | with_reducible rfl | decide | (simp only [dIsInt, dIsBool, dIsTup, dIsStr, dIsLst, Bool.not_true, Bool.not_false]; done)))
  | (with_reducible refine' i_ite (fun hif => ?uqa) (fun hif => ?uqb))
  | (with_reducible refine' i_iteN (fun hif => ?uqa) (fun hif => ?uqb))
  | (with_reducible refine' i_iteBN (fun hif => ?uqa) (fun hif => ?uqb))
  | (with_reducible refine' i_iteB (fun hif => ?uqa) (fun hif => ?uqb))
  | ((with_reducible refine' i_modN ?u0 ?uq); (case u0 => wtm_at "nz"))
  | ((with_reducible refine' i_fdX ?u0 ?u1 ?u2 ?uq); (case u0 => wtm_at "nz"); (case u1 => wtm_at "sz"); (case u2 => first | decide | omega))
  | ((with_reducible refine' i_pow ?u0 ?uq); (case u0 => exact ⟨by decide, by decide +kernel⟩))
  | (with_reducible refine' i_eqI ?uq)
  | (with_reducible refine' i_neI ?uq)
  | (with_reducible refine' i_gcd ?uq)
  | (with_reducible refine' i_qabs ?uq)
  | (with_reducible refine' i_qint ?uq)
  | (with_reducible refine' i_qintB ?uq)
  | (with_reducible refine' i_qmax2 ?uq)
  | (with_reducible refine' i_qmin2 ?uq)
  | (with_reducible refine' i_isB ?uq)
  | (with_reducible refine' i_notB ?uq)
  | (with_reducible refine' i_chain ?uq)
  | (with_reducible refine' i_qisN ?uq)
  | (with_reducible refine' i_qnotN ?uq)
  | (with_reducible refine' i_yes ?uq)
  | (with_reducible refine' i_par ?uq)
  | (with_reducible refine' i_par3 ?uq)
  | ((with_reducible refine' i_par2 ?u0 ?uq); (case u0 => wtm_at "sset"))
  | ((with_reducible refine' i_par33 ?u0 ?uq); (case u0 => wtm_at "sset"))
  | ((with_reducible refine' i_ixLI (i := ?u0) ?u1 ?u2 ?u3 ?uq); (case u1 => wtm_at "dp"); (case u2 => wtm_at "ex"); (case u3 => exact rfl))
  | ((with_reducible refine' i_ixL (d := ?u0) ?u1 ?u2 ?u3 (fun xu hxu => ?uq)); (case u1 => wtm_at "dp"); (case u2 => wtm_at "ex"); (case u3 => exact rfl))
  | ((with_reducible refine' i_qlenT ?u0 ?uq); (case u0 => wtm_at "dp"))
  | ((with_reducible refine' i_qlenL ?u0 ?uq); (case u0 => wtm_at "dp"))
  | ((with_reducible refine' i_gtup ?u0 ?u1 ?u2 (fun gvs gdp => ?uq)); (case u0 => wtm_at "dp"); (case u1 => wtm_at "ex"); (case u2 => exact rfl))
  | ((with_reducible refine' i_glst ?u0 ?u1 ?u2 (fun gvs gdp => ?uq)); (case u0 => wtm_at "dp"); (case u1 => wtm_at "ex"); (case u2 => exact rfl))
  | ((with_reducible refine' i_gconsI ?u0 (fun gr gh => ?uq)); (case u0 => with_reducible assumption))
  | ((with_reducible refine' i_gconsA ?u0 (fun gv gr gh1 gh2 => ?uq)); (case u0 => with_reducible assumption))
  | ((with_reducible refine' i_gnilA ?u0 ?uq); (case u0 => with_reducible assumption))
  | ((with_reducible refine' i_isiI ?u0 ?uq); (case u0 => wtm_at "dp"))
  | ((with_reducible refine' i_isiB ?u0 ?uq); (case u0 => wtm_at "dp"))
  | ((with_reducible refine' i_isiT ?u0 ?uq); (case u0 => wtm_at "dp"))
  | ((with_reducible refine' i_isiS ?u0 ?uq); (case u0 => wtm_at "dp"))
  | ((with_reducible refine' i_isiL ?u0 ?uq); (case u0 => wtm_at "dp"))
  | ((with_reducible refine' i_eqD ?u0 ?u1 ?u2 ?u3 ?uq); (case u0 => wtm_at "dp"); (case u1 => wtm_at "dp"); (case u2 => wtm_at "shaped"); (case u3 => wtm_at "shaped"))
  | ((with_reducible refine' i_neD ?u0 ?u1 ?u2 ?u3 ?uq); (case u0 => wtm_at "dp"); (case u1 => wtm_at "dp"); (case u2 => wtm_at "shaped"); (case u3 => wtm_at "shaped"))
  | wtm_at "st2"
  | wtm_at "use")
local macro_rules | `(tactic| wtm_at "go") => `(tactic| repeat' (wtm_at "st"))
local macro_rules | `(tactic| wtm_at "go0") => `(tactic| ((try dsimp only [L2.cxOf, L2.Cx.nox, L2.Cx.wish, L2.Cx.tr, L2.Cx.blk]); (try wtm_at "nrm"); wtm_at "go"))
local macro_rules | `(tactic| wtm_at "fin") => `(tactic| ((try dsimp only); first | with_reducible assumption | assumption | ((with_reducible refine' Ret.use ?rur ?rue ?rud); (case rur => with_reducible assumption); (case rue => wtm_at "ex"); (case rud => wtm_at "dp"))))
local macro_rules | `(tactic| wtm_at "ex") => `(tactic| first | with_reducible assumption | with_reducible exact Ex.refl _ | with_reducible exact ex_hid | ((with_reducible refine' Ex.trans ?exe (by with_reducible assumption)); (case exe => wtm_at "ex")) | ((with_reducible refine' Ex.trans ?exe (hid_ex (by with_reducible assumption))); (case exe => wtm_at "ex")) | ((with_reducible refine' Ex.trans ?exe ex_hid); (case exe => wtm_at "ex")))
local macro_rules | `(tactic| wtm_at "bag") => `(tactic| first | with_reducible assumption | ((with_reducible refine' Bag.mono ?bgm (by with_reducible assumption)); (case bgm => wtm_at "bag")))
local macro_rules | `(tactic| wtm_at "hs") => `(tactic| first | with_reducible assumption | ((with_reducible refine' hid_tup ?hb ?hp); (case hp => with_reducible assumption); (case hb => wtm_at "bag")) | ((with_reducible refine' hid_new ?hb ?hn ?hp); (case hp => with_reducible assumption); (case hn => with_reducible assumption); (case hb => wtm_at "bag")) | ((with_reducible refine' ex_at ?exe (by with_reducible assumption)); (case exe => wtm_at "ex")))
local macro_rules | `(tactic| wtm_at "st2") => `(tactic| first
  | ((with_reducible refine' i_mulC ?u0 ?uq); (case u0 => first | exact cmul_l (by decide) | exact cmul_r (by decide)))
  | ((with_reducible refine' i_ixLr (v := ?u0) ?u1 ?u2 ?uq); (case u1 => with_reducible assumption); (case u2 => exact rfl))
  | (with_reducible refine' i_sub ?uq)
  | ((with_reducible refine' i_mkL ?u0 (fun np nH nfr nhe nhp => ?uq)); (case u0 => exact Nat.le_of_ble_eq_true rfl))
  | ((with_reducible refine' i_setL (n := ?u0) ?u1 ?u2 (fun sH sh se => ?uq)); (case u1 => with_reducible assumption); (case u2 => exact rfl))
  | (with_reducible refine' i_sl ?uq)
  | (with_reducible refine' i_nopart ?uq)
  | (with_reducible refine' i_part ?uq)
  | (with_reducible refine' i_part1 ?uq))
local macro_rules | `(tactic| wtm_at "sz2") => `(tactic| ((with_reducible refine' sz_fmod ?sz1 ?sz2); (case sz1 => wtm_at "nz"); (case sz2 => wtm_at "sz")))
local macro_rules | `(tactic| wtm_at "stb") => `(tactic| first
  | ((with_reducible refine' i_mkTB ?u0 ?u1 (fun np nH nhe nhb nhp => ?uq)); (case u0 => exact Nat.le_of_ble_eq_true rfl); (case u1 => wtm_at "bag"))
  | ((with_reducible refine' i_mkLB ?u0 ?u1 (fun np nH nfr nhe nhb nhp => ?uq)); (case u0 => exact Nat.le_of_ble_eq_true rfl); (case u1 => wtm_at "bag"))
  | wtm_at "st")
local macro_rules | `(tactic| wtm_at "gob") => `(tactic| repeat' (wtm_at "stb"))
local macro_rules | `(tactic| wtm_at "gob0") => `(tactic| ((try dsimp only [L2.cxOf, L2.Cx.nox, L2.Cx.wish, L2.Cx.tr, L2.Cx.blk]); (try wtm_at "nrm"); wtm_at "gob"))
local macro_rules | `(tactic| wtm_at "use") => `(tactic| (with_reducible refine' use_shared_of ?uq))
local macro_rules | `(tactic| wtm_at "use") => `(tactic| ((with_reducible refine' use_is_integer ?u0 ?uq); (case u0 => wtm_at "dp")))
local macro_rules | `(tactic| wtm_at "use") => `(tactic| ((with_reducible refine' use_reduced ?u0 ?u1 (fun ur uH ue ud => ?uq)); (case u0 => wtm_at "nz"); (case u1 => wtm_at "szb")))
local macro_rules | `(tactic| wtm_at "use") => `(tactic| ((with_reducible refine' use_sum_of ?u0 ?u1 ?u2 ?u3 ?u4 ?u5 ?u6 ?u7 (fun ur uH ue ud => ?uq)); (case u0 => wtm_at "dp"); (case u1 => wtm_at "dp"); (case u2 => wtm_at "szb"); (case u3 => wtm_at "szb"); (case u4 => wtm_at "szb"); (case u5 => wtm_at "szb"); (case u6 => wtm_at "nz"); (case u7 => wtm_at "nz")))
local macro_rules | `(tactic| wtm_at "use") => `(tactic| ((with_reducible refine' use_difference_of ?u0 ?u1 ?u2 ?u3 ?u4 ?u5 ?u6 ?u7 (fun ur uH ue ud => ?uq)); (case u0 => wtm_at "dp"); (case u1 => wtm_at "dp"); (case u2 => wtm_at "szb"); (case u3 => wtm_at "szb"); (case u4 => wtm_at "szb"); (case u5 => wtm_at "szb"); (case u6 => wtm_at "nz"); (case u7 => wtm_at "nz")))
local macro_rules | `(tactic| wtm_at "use") => `(tactic| ((with_reducible refine' use_product_of ?u0 ?u1 ?u2 ?u3 ?u4 ?u5 ?u6 ?u7 (fun ur uH ue ud => ?uq)); (case u0 => wtm_at "dp"); (case u1 => wtm_at "dp"); (case u2 => wtm_at "szb"); (case u3 => wtm_at "szb"); (case u4 => wtm_at "szb"); (case u5 => wtm_at "szb"); (case u6 => wtm_at "nz"); (case u7 => wtm_at "nz")))
local macro_rules | `(tactic| wtm_at "use") => `(tactic| ((with_reducible refine' use_is_below ?u0 ?u1 ?u2 ?u3 ?u4 ?u5 ?uq); (case u0 => wtm_at "dp"); (case u1 => wtm_at "dp"); (case u2 => wtm_at "szb"); (case u3 => wtm_at "szb"); (case u4 => wtm_at "szb"); (case u5 => wtm_at "szb")))
local macro_rules | `(tactic| wtm_at "use") => `(tactic| ((with_reducible refine' use_floor_of ?u0 ?u1 ?u2 ?uq); (case u0 => wtm_at "dp"); (case u1 => wtm_at "szb"); (case u2 => wtm_at "nz")))
local macro_rules | `(tactic| wtm_at "use") => `(tactic| ((with_reducible refine' use_ceiling_of ?u0 ?u1 ?u2 ?uq); (case u0 => wtm_at "dp"); (case u1 => wtm_at "szb"); (case u2 => wtm_at "nz")))
local macro_rules | `(tactic| wtm_at "use") => `(tactic| ((with_reducible refine' use_is_fraction ?u0 (fun uH ue => ?uq)); (case u0 => wtm_at "od")))
local macro_rules | `(tactic| wtm_at "od") => `(tactic| first | with_reducible assumption | ((with_reducible refine' odMono ?ode (by with_reducible assumption)); (case ode => wtm_at "ex")) | ((with_reducible refine' Or.inl ?odd); (case odd => wtm_at "dp")))
local macro_rules | `(tactic| wtm_at "use") => `(tactic| ((with_reducible refine' use__law_draw ?u0 ?u1 ?u2 (fun dn dH dn0 dn1 de db => ?uq)); (case u0 => wtm_at "bag"); (case u1 => wtm_at "pos"); (case u2 => wtm_at "szb")))
local macro_rules | `(tactic| wtm_at "pos") => `(tactic| first | assumption | decide | omega)
local macro_rules | `(tactic| wtm_at "oneof") => `(tactic| ((with_reducible refine' use__law_one_of ?u0 ?u1 ?u2 ?u3 ?uq); (case u0 => wtm_at "bag"); (case u1 => wtm_at "dp"); (case u2 => exact Nat.le_of_ble_eq_true rfl); (case u3 => exact Nat.le_of_ble_eq_true rfl)))
section
variable {P : Program} {w : World} {K : PySem.W.Frag} {mg : Str → Option Value} {base : Heap} {H H' : Hp} {Q : VK} {E : XK} {v1 v2 v3 v4 : V}
def kA (vs : List V) : TA := fun _ H R => R vs H
section
variable {σ : L2.St} {tu : TS} {D : Ends} {j : Nat} {vs : List Nat} {te : TE} {tt : TT}
theorem i_forRU {ta : TA} (q : ta σ H fun vs H1 => tFor (iRng1 (kA vs)) (gName j) tu D σ H1) : tFor (iRng1 ta) (gName j) tu D σ H := q
theorem i_lcRU {ta : TA} (q : ta σ H fun us H1 => tLc (iRng1 (kA us)) (gName j) tt te vs σ H1 Q) : tLc (iRng1 ta) (gName j) tt te vs σ H Q := q
theorem i_forRK {n : Int} (hn : 0 ≤ n ∧ n ≤ 100000) (Pv : Nat → L2.St → Hp → Prop) (h0 : Pv 0 σ H)
    (hs : ∀ (i : Nat) σ' H', (i : Int) < n → Pv i σ' H' → tu { D with nx := Pv (i + 1), ct := Pv (i + 1), bk := D.nx } (σ'.set j (some (.int (i : Int)))) H') (hd : ∀ σ' H', Pv n.toNat σ' H' → D.nx σ' H') : tFor (iRng1 (kA [.int n])) (gName j) tu D σ H :=
  ⟨n, rfl, by omega, by omega, for_range (lo := 0) (n := n.toNat) Pv h0 (fun i σ' H' hi p => by
    have e0 : (0 : Int) + (i : Int) = (i : Int) := Int.zero_add _
    show tu { D with nx := Pv (i + 1), ct := Pv (i + 1), bk := D.nx } (σ'.set j (some (.int ((0 : Int) + (i : Int))))) H'
    rw [e0]
    exact hs i σ' H' (by omega) p) hd⟩
theorem ex_hidD {b D0 : Addr} {H H' : Hp} {o : HO} (hD : H D0 = none) (e : Ex (hid b H) (hid b H')) : Ex (hid b H) (hid b (upd H' D0 o)) := fun a u h => by
  have h1 := of_hid h
  have hne : a ≠ D0 := ne_of_none h1.2 hD
  have h2 := of_hid (e a u h)
  exact hid_of (by rw [upd_ne hne]; exact h2.2) h2.1
theorem bag_upd {b D0 : Addr} {H : Hp} {o : HO} (hne : D0 ≠ b) (h : Bag b H) : Bag b (upd H D0 o) := by
  obtain ⟨x, y, z, h1, h2, h3⟩ := h.ex
  exact ⟨x, y, z, by rw [upd_ne (Ne.symm hne)]; exact h1, h2, h3⟩
theorem i_lcRB {b : Addr} {P : Int → Prop} {n : Nat} (hb : Bag b H) (hn : n ≤ 1000) (hw : ∀ x, wipe ((wipe σ vs).set j (some x)) vs = wipe σ vs)
    (he : ∀ (i : Nat) (H2 : Hp) (R : VK), Ex (hid b H) (hid b H2) → Bag b H2 → (∀ m H3, P m → Ex (hid b H2) (hid b H3) → Bag b H3 → R (.int m) H3) → te ((wipe σ vs).set j (some (.int (i : Int)))) H2 R)
    (q : ∀ p (ms : List Int) H2, ms.length = n → (∀ m ∈ ms, P m) → Ex (hid b H) (hid b H2) → Bag b H2 → hid b H2 p = some (.lst (ms.map V.int)) → Q (.ref p) H2) : tLc (iRng1 (kA [.int (n : Int)])) (gName j) tYes te vs σ H Q := by
  refine ⟨(n : Int), rfl, by omega, by omega, fun D0 hD => ?_⟩
  have hne : D0 ≠ b := hb.ne hD
  refine lc_range (lo := 0) (n := ((n : Int)).toNat) (fun i H' => Ex (hid b H) (hid b H') ∧ Bag b H' ∧ ∃ ms : List Int, ms.length = i ∧ (∀ m ∈ ms, P m) ∧ H' D0 = some (.lst (ms.map V.int))) ⟨ex_hidD hD (Ex.refl _), bag_upd hne hb, [], rfl, by simp, upd_same⟩ (fun i H' hi p => ?_) (fun H' p => ?_)
  · obtain ⟨p1, p2, ms, p3, p4, p5⟩ := p
    have e0 : (0 : Int) + (i : Int) = (i : Int) := Int.zero_add _
    show wipe ((wipe σ vs).set j (some (.int ((0 : Int) + (i : Int))))) vs = wipe σ vs ∧ tYes ((wipe σ vs).set j (some (.int ((0 : Int) + (i : Int))))) H' fun b' H3 => _
    rw [e0]
    refine ⟨hw _, he i H' _ p1 p2 fun m H3 hm e3 b3 => ?_⟩
    have hD3 : H3 D0 = some (.lst (ms.map V.int)) := (of_hid (e3 _ _ (hid_of p5 hne))).2
    refine ⟨_, hD3, Evl.sz_lt (by rw [List.length_map]; omega), ex_hidD hD (p1.trans e3), bag_upd hne b3, ms ++ [m], by simp [p3], ?_, by rw [upd_same, List.map_append]; rfl⟩
    intro m' hm'
    rcases List.mem_append.mp hm' with h | h
    · exact p4 m' h
    · rcases List.mem_singleton.mp h with rfl
      exact hm
  · obtain ⟨p1, p2, ms, p3, p4, p5⟩ := p
    exact q D0 ms H' (by omega) p4 p1 p2 (hid_of p5 hne)
end
theorem len6 {ms : List Int} (h : ms.length = 6) : ∃ a b c d e f, ms = [a, b, c, d, e, f] := by
  match ms, h with
  | [a, b, c, d, e, f], _ => exact ⟨a, b, c, d, e, f, rfl⟩
theorem i_reprD {d : PyData} {v : V} (h : Od K H v d) (s : d.showable = true) (l : d.shown.length ≤ sizeLine) (dp : d.depth ≤ 10) (q : Q (.str d.shown) H) : qReprD K [v] H Q := ⟨_, _, rfl, h, s, l, dp, q⟩
theorem ref_shaped {s t : Str} (hs : PyData.strOk s = true) (ht : PyData.strOk t = true) : SeqAt.shaped (.tuple [.str s, .str t]) = true := by
  have h : PyData.canLay0 (.tuple [.str s, .str t]) = true := by simp only [PyData.canLay0, PyData.canLayAll0, hs, ht, Bool.and_self]
  have d : PyData.depth (.tuple [.str s, .str t]) ≤ 64 := by simp only [PyData.depth, PyData.depthAll]; decide
  unfold SeqAt.shaped
  rw [h, decide_eq_true d]
  rfl
theorem ok_ref : PyData.strOk "refused" = true := by decide +kernel
local macro_rules | `(tactic| wtm_at "shaped") => `(tactic| (with_reducible exact ref_shaped ok_ref (by with_reducible assumption)))
theorem ref_eq (s t : Str) : PyData.eqv (.tuple [.str s, .str t]) (.tuple [.str s, .str t]) = true := by simp [PyData.eqv, PyData.eqvAll]
theorem ref_ne (s t : Str) : (!PyData.eqv (.tuple [.str s, .str t]) (.tuple [.str s, .str t])) = false := by rw [ref_eq]; rfl
theorem i_forR2 {lo hi : Int} {n : Nat} {σ : L2.St} {tu : TS} {D : Ends} {j : Nat} (hlo : -1000 ≤ lo ∧ lo ≤ 1000) (hn : hi = lo + n) (hn2 : n ≤ 1000) (Pv : Nat → L2.St → Hp → Prop) (h0 : Pv 0 σ H)
    (hs : ∀ (i : Nat) σ' H', i < n → Pv i σ' H' → tu { D with nx := Pv (i + 1), ct := Pv (i + 1), bk := D.nx } (σ'.set j (some (.int (lo + (i : Int))))) H') (hd : ∀ σ' H', Pv n σ' H' → D.nx σ' H') : tFor (iRng2 (kA [.int lo, .int hi])) (gName j) tu D σ H := by
  refine ⟨lo, hi, rfl, ⟨by omega, by omega, by omega, by omega⟩, ?_⟩
  have e : (hi - lo).toNat = n := by omega
  rw [e]
  exact for_range (lo := lo) (n := n) Pv h0 hs hd
theorem odI {d : PyData} {v : V} (h : Dp K H v d) : Od K H v d := .inl h
theorem use_is_fractionE {d : PyData} {r : Bool} (h : Od K H v1 d) (e : isFrac d = r) (q : ∀ H2, Ex H H2 → Q (.bl r) H2) : sp_is_fraction K [v1] H Q E := use_is_fraction h (by rw [e]; exact q)
theorem use_odd {b : Addr} (hb : Bag b H) (q : ∀ d v H2, isFrac d = false → d.showable = true → d.shown.length ≤ sizeLine → d.depth ≤ 10 → PyData.strOk d.shown = true → Ex (hid b H) (hid b H2) → Bag b H2 → Od K (hid b H2) v d → Q v H2) : sp__law_odd_fraction K [.ref b] H Q E := use__law_odd_fraction hb fun d v H2 o => q d v H2 o.f o.s o.l o.dp o.k
theorem i_forRU2 {ta : TA} {σ : L2.St} {tu : TS} {D : Ends} {j : Nat} (q : ta σ H fun vs H1 => tFor (iRng2 (kA vs)) (gName j) tu D σ H1) : tFor (iRng2 ta) (gName j) tu D σ H := q
local macro_rules | `(tactic| wtm_at "od") => `(tactic| first | with_reducible assumption | ((with_reducible refine' odMono ?ode (by with_reducible assumption)); (case ode => wtm_at "ex")) | ((with_reducible refine' odI ?odd); (case odd => wtm_at "dp")))
local macro_rules | `(tactic| wtm_at "st2") => `(tactic| (first | ((with_reducible refine' i_reprD ?u0 ?u1 ?u2 ?u3 ?uq); (case u0 => wtm_at "od"); (case u1 => with_reducible assumption); (case u2 => with_reducible assumption); (case u3 => with_reducible assumption)) | fail))
local macro_rules | `(tactic| wtm_at "stb") => `(tactic| (first | ((with_reducible refine' i_iteFr ?u0 ?uq); (case u0 => with_reducible exact ref_ne _ _)) | fail))
local macro_rules | `(tactic| wtm_at "use") => `(tactic| (first | ((with_reducible refine' use_odd ?u0 (fun od ov oH of os ol odp ok oe ob ood => ?uq)); (case u0 => wtm_at "bag")) | fail))
local macro_rules | `(tactic| wtm_at "use") => `(tactic| (first | ((with_reducible refine' use__law_integer ?u0 (fun dn dH dsz de db => ?uq)); (case u0 => wtm_at "bag")) | fail))
local macro_rules | `(tactic| wtm_at "use") => `(tactic| (first | ((with_reducible refine' use_is_fractionE ?u0 ?u1 (fun uH ue => ?uq)); (case u0 => wtm_at "od"); (case u1 => with_reducible assumption)) | fail))
theorem use_askA {n : Int} {d1 d2 : PyData} (hn : 1 ≤ n ∧ n ≤ 6) (h1 : Od K H v2 d1) (h2 : Od K H v3 d2) (f1 : isFrac d1 = false) (hs : d1.showable = true) (hl : d1.shown.length ≤ sizeLine) (hd : d1.depth ≤ 10) (q : ∀ v H2, Ex H H2 → Dp K H2 v (.tuple [.str "refused", .str d1.shown]) → Q v H2) : sp__law_asked K [.int n, v2, v3] H Q E :=
  use__law_asked h1 h2 h1 hs hl hd ⟨fun z => by omega, .inr (by
    by_cases h4 : n ≤ 4
    · exact .inl ⟨by omega, .inl ⟨f1, rfl⟩⟩
    · exact .inr ⟨by omega, f1, rfl⟩)⟩ q
theorem use_askB {n : Int} {d1 d2 : PyData} (hn : 1 ≤ n ∧ n ≤ 4) (h1 : Od K H v2 d1) (h2 : Od K H v3 d2) (f1 : isFrac d1 = true) (f2 : isFrac d2 = false) (hs : d2.showable = true) (hl : d2.shown.length ≤ sizeLine) (hd : d2.depth ≤ 10) (q : ∀ v H2, Ex H H2 → Dp K H2 v (.tuple [.str "refused", .str d2.shown]) → Q v H2) : sp__law_asked K [.int n, v2, v3] H Q E :=
  use__law_asked h1 h2 h2 hs hl hd ⟨fun z => by omega, .inr (.inl ⟨by omega, .inr ⟨f1, f2, rfl⟩⟩)⟩ q
theorem use_ask0A {d1 d2 : PyData} (h1 : Dp K H v2 d1) (h2 : Dp K H v3 d2) (f1 : isInt d1 = false) (hs : d1.showable = true) (hl : d1.shown.length ≤ sizeLine) (hd : d1.depth ≤ 10) (q : ∀ v H2, Ex H H2 → Dp K H2 v (.tuple [.str "refused", .str d1.shown]) → Q v H2) : sp__law_asked K [.int 0, v2, v3] H Q E :=
  use__law_asked (.inl h1) (.inl h2) (.inl h1) hs hl hd ⟨fun _ => ⟨h1, h2⟩, .inl ⟨rfl, .inl ⟨f1, rfl⟩⟩⟩ q
theorem use_ask0B {i : Int} {d2 : PyData} (h2 : Dp K H v3 d2) (f2 : isInt d2 = false) (hs : d2.showable = true) (hl : d2.shown.length ≤ sizeLine) (hd : d2.depth ≤ 10) (q : ∀ v H2, Ex H H2 → Dp K H2 v (.tuple [.str "refused", .str d2.shown]) → Q v H2) : sp__law_asked K [.int 0, .int i, v3] H Q E :=
  use__law_asked (.inl (.int i)) (.inl h2) (.inl h2) hs hl hd ⟨fun _ => ⟨.int i, h2⟩, .inl ⟨rfl, .inr ⟨rfl, .inl f2, rfl⟩⟩⟩ q
theorem use_ask0C {i : Int} (q : ∀ v H2, Ex H H2 → Dp K H2 v (.tuple [.str "refused", .str "0"]) → Q v H2) : sp__law_asked K [.int 0, .int i, .int 0] H Q E :=
  use__law_asked (.inl (.int i)) (.inl (.int 0)) (.inl (.int 0)) (by decide +kernel) (by decide +kernel) (by decide +kernel) ⟨fun _ => ⟨.int i, .int 0⟩, .inl ⟨rfl, .inr ⟨rfl, .inr rfl, rfl⟩⟩⟩ (by
    have e : PyData.shown (.int 0) = "0" := by decide +kernel
    rw [e]
    exact q)
local macro_rules | `(tactic| wtm_at "use") => `(tactic| (first | ((with_reducible refine' use_askB ?u0 ?u1 ?u2 ?u3 ?u4 ?u5 ?u6 ?u7 (fun av aH ae ad => ?uq)); (case u1 => wtm_at "od"); (case u2 => wtm_at "od"); (case u3 => with_reducible assumption); (case u4 => with_reducible assumption); (case u5 => with_reducible assumption); (case u6 => with_reducible assumption); (case u7 => with_reducible assumption); (case u0 => constructor <;> omega)) | fail))
local macro_rules | `(tactic| wtm_at "use") => `(tactic| (first | ((with_reducible refine' use_askA ?u0 ?u1 ?u2 ?u3 ?u4 ?u5 ?u6 (fun av aH ae ad => ?uq)); (case u1 => wtm_at "od"); (case u2 => wtm_at "od"); (case u3 => with_reducible assumption); (case u4 => with_reducible assumption); (case u5 => with_reducible assumption); (case u6 => with_reducible assumption); (case u0 => constructor <;> omega)) | fail))
local macro_rules | `(tactic| wtm_at "use") => `(tactic| (first | ((with_reducible refine' use_ask0A ?u1 ?u2 ?u3 ?u4 ?u5 ?u6 (fun av aH ae ad => ?uq)); (case u1 => wtm_at "dp"); (case u2 => wtm_at "dp"); (case u3 => with_reducible assumption); (case u4 => with_reducible assumption); (case u5 => with_reducible assumption); (case u6 => with_reducible assumption)) | fail))
local macro_rules | `(tactic| wtm_at "use") => `(tactic| (first | ((with_reducible refine' use_ask0B ?u2 ?u3 ?u4 ?u5 ?u6 (fun av aH ae ad => ?uq)); (case u2 => wtm_at "dp"); (case u3 => with_reducible assumption); (case u4 => with_reducible assumption); (case u5 => with_reducible assumption); (case u6 => with_reducible assumption)) | fail))
local macro_rules | `(tactic| wtm_at "use") => `(tactic| (first | (with_reducible refine' use_ask0C (fun av aH ae ad => ?uq)) | fail))
def sp__law_are_refused (K : PySem.W.Frag) : Sp := A2 fun v1 v2 H Q => ∃ b a c, v1 = .ref b ∧ Bag b H ∧ Dp K (hid b H) v2 (fq a c) ∧ isFrac (fq a c) = true ∧ ∀ H2, Ex (hid b H) (hid b H2) → Bag b H2 → Q (.bl true) H2
abbrev s__law_are_refused : Stmt := top 37
theorem sc__law_are_refused : FnScope ["_law_bag_here", "_law_one", "_law_odd", "_law_other", "_law_which", "_law_whole"] ["_law_bag_here", "_law_one"] (defScope s__law_are_refused) := ⟨rfl, rfl, rfl, by decide +kernel, rfl, by decide +kernel, by decide +kernel⟩
theorem ok__law_are_refused {f : Addr} {fd : FuncData} (F : FnP K "_law_are_refused" s__law_are_refused f fd) (g : G mg) (c__law_one_of : Cl P w K mg base 2 "_law_one_of" (sp__law_one_of K)) (c__law_odd_fraction : Cl P w K mg base 3 "_law_odd_fraction" (sp__law_odd_fraction K)) (c__law_asked : ClG P w K mg base 5 "_law_asked" (sp__law_asked K)) (c_is_fraction : Cl P w K mg base 2 "is_fraction" (sp_is_fraction K)) (c__law_integer : Cl P w K mg base 3 "_law_integer" (sp__law_integer K)) : FnG P w K mg base CX0 6 f fd ["_law_bag_here", "_law_one"] (sp__law_are_refused K) := by
  have nd := sc__law_are_refused.nd
  refine okG F sc__law_are_refused (fun vs H Q E h => h.len) (fun cdv A outer s H vs Q E hga hr h => ?_)
  obtain ⟨v1, v2, rfl, h⟩ := h
  refine ⟨_, PSs.nox (pss_cons (ps_par (i := 2) (j := 3) (by rfl) nd rfl rfl (by decide) rfl rfl (pa_cons (pc c__law_odd_fraction hr (by decide) (by rfl) (pa_cons (pv 0) pa_nil)) (pa_cons (pc c__law_odd_fraction hr (by decide) (by rfl) (pa_cons (pv 0) pa_nil)) pa_nil)) (by rfl)) (pss_cons (ps_if (PW.pt (pw_or (pt_cmpR op_notBl (pc c_is_fraction hr (by decide) (by rfl) (pa_cons (pv 2) pa_nil)) pe_bl (nomark _)) (pw_or1 (pt_cmpR op_notBl (pc c_is_fraction hr (by decide) (by rfl) (pa_cons (pv 1) pa_nil)) pe_bl (nomark _))))) (pss_one (ps_ret pe_bl)) pss_nil) (pss_cons (ps_for PassesOwn.never rfl (pi_range2 (by rfl) g.f_range (pa_cons pe_int (pa_cons pe_int pa_nil))) (pg_name (i := 4) nd rfl (Or.inl rfl)) (pss_cons (ps_if (pt_cmpR (op_neD hr.units) (pcG c__law_asked hga hr (by decide) (by rfl) (pa_cons (pv 4) (pa_cons (pv 2) (pa_cons (pv 1) pa_nil)))) (pe_tup (pa_cons pe_str (pa_cons (pe_callB (call_reprD hga hr.units) (by rfl) g.f_repr boot_repr (pa_cons (pv 2) pa_nil)) pa_nil))) (nomark _)) (pss_one (ps_ret pe_bl)) pss_nil) (pss_cons (ps_if (PW.pt (pw_and (pt_cmpR op_lt (pv 4) pe_int (nomark _)) (pw_and1 (pt_cmpR (op_neD hr.units) (pcG c__law_asked hga hr (by decide) (by rfl) (pa_cons (pv 4) (pa_cons (pv 1) (pa_cons (pv 3) pa_nil)))) (pe_tup (pa_cons pe_str (pa_cons (pe_callB (call_reprD hga hr.units) (by rfl) g.f_repr boot_repr (pa_cons (pv 3) pa_nil)) pa_nil))) (nomark _))))) (pss_one (ps_ret pe_bl)) pss_nil) (pss_one (ps_if (PW.pt (pw_and (pt_cmpR op_lt (pv 4) pe_int (nomark _)) (pw_and1 (pt_cmpR (op_neD hr.units) (pcG c__law_asked hga hr (by decide) (by rfl) (pa_cons (pv 4) (pa_cons (pv 2) (pa_cons (pv 3) pa_nil)))) (pe_tup (pa_cons pe_str (pa_cons (pe_callB (call_reprD hga hr.units) (by rfl) g.f_repr boot_repr (pa_cons (pv 2) pa_nil)) pa_nil))) (nomark _))))) (pss_one (ps_ret pe_bl)) pss_nil))))) (pss_cons (ps_set (i := 5) nd rfl (Or.inl rfl) (pc c__law_one_of hr (by decide) (by rfl) (pa_cons (pv 0) (pa_cons (pe_lst (pa_cons pe_non (pa_cons pe_bl (pa_cons pe_str (pa_cons (pe_tup (pa_cons pe_int (pa_cons pe_int pa_nil))) (pa_cons (pe_lst (pa_cons pe_int pa_nil)) (pa_cons pe_bl pa_nil))))))) pa_nil)))) (pss_cons (ps_if (PW.pt (pw_or (pt_cmpR (op_neD hr.units) (pcG c__law_asked hga hr (by decide) (by rfl) (pa_cons pe_int (pa_cons (pv 5) (pa_cons pe_int pa_nil)))) (pe_tup (pa_cons pe_str (pa_cons (pe_callB (call_reprD hga hr.units) (by rfl) g.f_repr boot_repr (pa_cons (pv 5) pa_nil)) pa_nil))) (nomark _)) (pw_or1 (pt_cmpR (op_neD hr.units) (pcG c__law_asked hga hr (by decide) (by rfl) (pa_cons pe_int (pa_cons pe_int (pa_cons (pv 5) pa_nil)))) (pe_tup (pa_cons pe_str (pa_cons (pe_callB (call_reprD hga hr.units) (by rfl) g.f_repr boot_repr (pa_cons (pv 5) pa_nil)) pa_nil))) (nomark _))))) (pss_one (ps_ret pe_bl)) pss_nil) (pss_one (ps_ret (pe_cmpR (op_eqD hr.units) (pcG c__law_asked hga hr (by decide) (by rfl) (pa_cons pe_int (pa_cons (pc c__law_integer hr (by decide) (by rfl) (pa_cons (pv 0) pa_nil)) (pa_cons pe_int pa_nil)))) (pe_tup (pa_cons pe_str (pa_cons pe_str pa_nil))) (nomark _))))))))), ?_⟩
  obtain ⟨b, a, c, rfl, hb, hd, hf, q⟩ := h
  wtm_at "gob0"
  rename_i d1 vo Ho of1 os1 ol1 op1 ok1 oe1 ob1 oo1 d2 vt Ht of2 os2 ol2 op2 ok2 oe2 ob2 oo2 H3 e3 H4 e4
  have b4 : Bag b H4 := by wtm_at "bag"
  have k1 : Od K (hid b H4) vo d1 := by wtm_at "od"
  have k2 : Od K (hid b H4) vt d2 := by wtm_at "od"
  have k3 : Dp K (hid b H4) v2 (fq a c) := by wtm_at "dp"
  have ex0 : Ex (hid b H) (hid b H4) := by wtm_at "ex"
  clear oo1 oo2 hd oe1 oe2 e3 e4 ob1 ob2 hb
  refine i_forRU2 ?_
  wtm_at "gob"
  refine i_forR2 (n := 6) ⟨by decide, by decide⟩ (by decide) (by decide) (fun i σ' H' => ∃ o4 o5, σ' = [some (.ref b), some v2, some vo, some vt, o4, o5] ∧ Ex (hid b H4) (hid b H') ∧ Bag b H') ⟨_, _, rfl, Ex.refl _, b4⟩ ?_ ?_
  · rintro i σ' H' hi ⟨o4, o5, rfl, ei, bi⟩
    have k1' : Od K (hid b H') vo d1 := odMono ei k1
    have k2' : Od K (hid b H') vt d2 := odMono ei k2
    have k3' : Dp K (hid b H') v2 (fq a c) := dpMono ei k3
    clear k1 k2 k3
    wtm_at "nrm"
    wtm_at "gob"
    all_goals exact ⟨_, _, rfl, by wtm_at "ex", by wtm_at "bag"⟩
  · rintro σ' H' ⟨o4, o5, rfl, ei, bi⟩
    dsimp only
    wtm_at "gob"
    wtm_at "oneof"
    intro d v H5 hd5 e5 b5 hv
    obtain ⟨w1, w2, w3, w4, w5⟩ : isInt d = false ∧ d.showable = true ∧ d.shown.length ≤ sizeLine ∧ d.depth ≤ 10 ∧ PyData.strOk d.shown = true := by
      simp only [List.mem_cons, List.not_mem_nil, or_false] at hd5
      rcases hd5 with rfl | rfl | rfl | rfl | rfl | rfl <;> exact ⟨by decide +kernel, by decide +kernel, by decide +kernel, by decide +kernel, by decide +kernel⟩
    wtm_at "gob"
    refine' i_eqD ?f1 ?f2 ?f3 ?f4 ?f5
    case f1 => wtm_at "dp"
    case f2 => wtm_at "dp"
    case f3 => exact ref_shaped ok_ref (ok_str _)
    case f4 => exact ref_shaped ok_ref (ok_str _)
    case f5 =>
      rw [ref_eq]
      exact q _ (by wtm_at "ex") (by wtm_at "bag")
theorem use__law_are_refused {b : Addr} {a c : Int} (hb : Bag b H) (hd : Dp K (hid b H) v2 (fq a c)) (hf : isFrac (fq a c) = true) (q : ∀ H2, Ex (hid b H) (hid b H2) → Bag b H2 → Q (.bl true) H2) : sp__law_are_refused K [.ref b, v2] H Q E := ⟨_, _, rfl, _, _, _, rfl, hb, hd, hf, q⟩
end
end Wb

namespace Wb
open PySem PySem.Spec PyProof.Rows L2
open Evl (Ex Ex.refl Ex.trans Ex.new)
local macro_rules | `(tactic| wtm_at "dp") => `(tactic| first | with_reducible assumption | with_reducible exact Dp.int _ | with_reducible exact Dp.bl _ | with_reducible exact Dp.str _ | with_reducible exact Dp.non | ((with_reducible refine' dpMono ?dme (by with_reducible assumption)); (case dme => wtm_at "ex")) | ((with_reducible refine' Dp.tup (Evl.st_of ?dph) ?dpa); (case dph => wtm_at "hs"); (case dpa => wtm_at "dpa")) | ((with_reducible refine' Dp.lst (Evl.sq_of ?dph) ?dpa); (case dph => wtm_at "hs"); (case dpa => wtm_at "dpa")))
local macro_rules | `(tactic| wtm_at "dpa") => `(tactic| first | with_reducible exact DpAll.nil | ((with_reducible refine' DpAll.cons ?dp1 ?dp2); (case dp1 => wtm_at "dp"); (case dp2 => wtm_at "dpa")) | with_reducible assumption | ((with_reducible refine' dpMonoA ?dme (by with_reducible assumption)); (case dme => wtm_at "ex")))
local macro_rules | `(tactic| wtm_at "sz") => `(tactic| first | with_reducible assumption | ((with_reducible refine' sz_mul ?sz1 ?sz2); (case sz1 => wtm_at "sz"); (case sz2 => wtm_at "sz")) | ((with_reducible refine' sz_add ?sz1 ?sz2); (case sz1 => wtm_at "sz"); (case sz2 => wtm_at "sz")) | ((with_reducible refine' sz_sub ?sz1 ?sz2); (case sz1 => wtm_at "sz"); (case sz2 => wtm_at "sz")) | ((with_reducible refine' sz_neg ?sz1); (case sz1 => wtm_at "sz")) | ((with_reducible refine' sz_div ?sz1); (case sz1 => wtm_at "sz")) | ((with_reducible refine' sz_fdiv ?sz1); (case sz1 => wtm_at "sz")) | exact sz_lit (by decide) | wtm_at "sz2")
local macro_rules | `(tactic| wtm_at "szb") => `(tactic| first | with_reducible assumption | ((with_reducible refine' sz_mono ?szb1 ?szb2); (case szb1 => wtm_at "sz"); (case szb2 => decide)))
local macro_rules | `(tactic| wtm_at "nz") => `(tactic| first | assumption | decide | omega)
local macro_rules | `(tactic| wtm_at "shaped") => `(tactic| first | rfl | decide)
local macro_rules | `(tactic| wtm_at "sset") => `(tactic| ((dsimp only [L2.wipe, List.set, List.set_cons_zero, List.set_cons_succ]) <;> exact rfl))
local macro_rules | `(tactic| wtm_at "nrm") => `(tactic| dsimp only [L2.start, L2.wipe, List.set, List.append, List.map, List.map_cons, List.map_nil, List.length_cons, List.length_nil, Nat.reduceAdd, Nat.reduceSub, List.reduceReplicate, List.replicate, List.cons_append, List.nil_append, List.set_cons_zero, List.set_cons_succ])
local macro_rules | `(tactic| wtm_at "st") => `(tactic| first
  | ((with_reducible refine' i_var (v := ?u0) ?u1 ?uq); (case u1 => exact rfl))
  | ((with_reducible refine' i_nameN ?u0 ?uq); (case u0 => wtm_at "sset"))
  | (with_reducible refine' i_op ?uq)
  | (with_reducible refine' i_c ?uq)
  | (with_reducible refine' i_I0 ?uq)
  | ((with_reducible refine' i_ixTI (i := ?u0) ?u1 ?u2 ?u3 ?uq); (case u1 => wtm_at "dp"); (case u2 => wtm_at "ex"); (case u3 => exact rfl))
  | ((with_reducible refine' i_ixT (d := ?u0) ?u1 ?u2 ?u3 (fun xu hxu => ?uq)); (case u1 => wtm_at "dp"); (case u2 => wtm_at "ex"); (case u3 => exact rfl))
  | ((with_reducible refine' i_mul ?u0 ?u1 ?u2 ?uq); (case u0 => wtm_at "sz"); (case u1 => wtm_at "sz"); (case u2 => first | decide | omega))
  | (with_reducible refine' i_seq ?uq)
  | (with_reducible refine' i_asg ?uq)
  | (with_reducible refine' i_ret ?uq)
  | (with_reducible refine' i_ifs ?uq)
  | (with_reducible refine' i_drop ?uq)
  | (with_reducible refine' i_next ?uq)
  | (with_reducible refine' i_cons ?uq)
  | (with_reducible refine' i_nil ?uq)
  | (with_reducible refine' i_cl ?uq)
  | (with_reducible refine' i_cb ?uq)
  | (with_reducible refine' i_tup ?uq)
  | (with_reducible refine' i_lst ?uq)
  | ((with_reducible refine' i_mkT ?u0 (fun np nH nhe nhp => ?uq)); (case u0 => exact Nat.le_of_ble_eq_true rfl))
  | (with_reducible refine' i_test ?uq)
  | (with_reducible refine' i_B ?uq)
  | (with_reducible refine' i_k ?uq)
  | (with_reducible refine' i_and ?uq)
  | (with_reducible refine' i_or ?uq)
  | (with_reducible refine' i_not ?uq)
  | (with_reducible refine' i_andV ?uq)
  | (with_reducible refine' i_orV ?uq)
  | (with_reducible refine' i_notV ?uq)
  | (with_reducible refine' i_if ?uq)
  | (with_reducible refine' i_un ?uq)
  | (with_reducible refine' i_U ?uq)
  | (with_reducible refine' i_iteT ?uq)
  | (with_reducible refine' i_iteF ?uq)
  | ((with_reducible refine' i_iteTr ?u0 ?uq); (case u0 => first | with_reducible rfl | decide | (simp only [dIsInt, dIsBool, dIsTup, dIsStr, dIsLst, Bool.not_true, Bool.not_false]; done)))
  | ((with_reducible refine' i_iteFr ?u0 ?uq); (case u0 => first | with_reducible rfl | decide | (simp only [dIsInt, dIsBool, dIsTup, dIsStr, dIsLst, Bool.not_true, Bool.not_false]; done)))
  | (with_reducible refine' i_ite (fun hif => ?uqa) (fun hif => ?uqb))
  | (with_reducible refine' i_iteN (fun hif => ?uqa) (fun hif => ?uqb))
  | (with_reducible refine' i_iteBN (fun hif => ?uqa) (fun hif => ?uqb))
  | (with_reducible refine' i_iteB (fun hif => ?uqa) (fun hif => ?uqb))
  | ((with_reducible refine' i_modN ?u0 ?uq); (case u0 => wtm_at "nz"))
  | ((with_reducible refine' i_fdX ?u0 ?u1 ?u2 ?uq); (case u0 => wtm_at "nz"); (case u1 => wtm_at "sz"); (case u2 => first | decide | omega))
  | ((with_reducible refine' i_pow ?u0 ?uq); (case u0 => exact ⟨by decide, by decide +kernel⟩))
  | (with_reducible refine' i_eqI ?uq)
  | (with_reducible refine' i_neI ?uq)
  | (with_reducible refine' i_gcd ?uq)
  | (with_reducible refine' i_qabs ?uq)
  | (with_reducible refine' i_qint ?uq)
  | (with_reducible refine' i_qintB ?uq)
  | (with_reducible refine' i_qmax2 ?uq)
  | (with_reducible refine' i_qmin2 ?uq)
  | (with_reducible refine' i_isB ?uq)
  | (with_reducible refine' i_notB ?uq)
  | (with_reducible refine' i_chain ?uq)
  | (with_reducible refine' i_qisN ?uq)
  | (with_reducible refine' i_qnotN ?uq)
  | (with_reducible refine' i_yes ?uq)
  | (with_reducible refine' i_par ?uq)
  | (with_reducible refine' i_par3 ?uq)
  | ((with_reducible refine' i_par2 ?u0 ?uq); (case u0 => wtm_at "sset"))
  | ((with_reducible refine' i_par33 ?u0 ?uq); (case u0 => wtm_at "sset"))
  | ((with_reducible refine' i_ixLI (i := ?u0) ?u1 ?u2 ?u3 ?uq); (case u1 => wtm_at "dp"); (case u2 => wtm_at "ex"); (case u3 => exact rfl))
  | ((with_reducible refine' i_ixL (d := ?u0) ?u1 ?u2 ?u3 (fun xu hxu => ?uq)); (case u1 => wtm_at "dp"); (case u2 => wtm_at "ex"); (case u3 => exact rfl))
  | ((with_reducible refine' i_qlenT ?u0 ?uq); (case u0 => wtm_at "dp"))
  | ((with_reducible refine' i_qlenL ?u0 ?uq); (case u0 => wtm_at "dp"))
  | ((with_reducible refine' i_gtup ?u0 ?u1 ?u2 (fun gvs gdp => ?uq)); (case u0 => wtm_at "dp"); (case u1 => wtm_at "ex"); (case u2 => exact rfl))
  | ((with_reducible refine' i_glst ?u0 ?u1 ?u2 (fun gvs gdp => ?uq)); (case u0 => wtm_at "dp"); (case u1 => wtm_at "ex"); (case u2 => exact rfl))
  | ((with_reducible refine' i_gconsI ?u0 (fun gr gh => ?uq)); (case u0 => with_reducible assumption))
  | ((with_reducible refine' i_gconsA ?u0 (fun gv gr gh1 gh2 => ?uq)); (case u0 => with_reducible assumption))
  | ((with_reducible refine' i_gnilA ?u0 ?uq); (case u0 => with_reducible assumption))
  | ((with_reducible refine' i_isiI ?u0 ?uq); (case u0 => wtm_at "dp"))
  | ((with_reducible refine' i_isiB ?u0 ?uq); (case u0 => wtm_at "dp"))
  | ((with_reducible refine' i_isiT ?u0 ?uq); (case u0 => wtm_at "dp"))
  | ((with_reducible refine' i_isiS ?u0 ?uq); (case u0 => wtm_at "dp"))
  | ((with_reducible refine' i_isiL ?u0 ?uq); (case u0 => wtm_at "dp"))
  | ((with_reducible refine' i_eqD ?u0 ?u1 ?u2 ?u3 ?uq); (case u0 => wtm_at "dp"); (case u1 => wtm_at "dp"); (case u2 => wtm_at "shaped"); (case u3 => wtm_at "shaped"))
  | ((with_reducible refine' i_neD ?u0 ?u1 ?u2 ?u3 ?uq); (case u0 => wtm_at "dp"); (case u1 => wtm_at "dp"); (case u2 => wtm_at "shaped"); (case u3 => wtm_at "shaped"))
  | wtm_at "st2"
  | wtm_at "use")
local macro_rules | `(tactic| wtm_at "go") => `(tactic| repeat' (wtm_at "st"))
local macro_rules | `(tactic| wtm_at "go0") => `(tactic| ((try dsimp only [L2.cxOf, L2.Cx.nox, L2.Cx.wish, L2.Cx.tr, L2.Cx.blk]); (try wtm_at "nrm"); wtm_at "go"))
local macro_rules | `(tactic| wtm_at "fin") => `(tactic| ((try dsimp only); first | with_reducible assumption | assumption | ((with_reducible refine' Ret.use ?rur ?rue ?rud); (case rur => with_reducible assumption); (case rue => wtm_at "ex"); (case rud => wtm_at "dp"))))
local macro_rules | `(tactic| wtm_at "ex") => `(tactic| first | with_reducible assumption | with_reducible exact Ex.refl _ | with_reducible exact ex_hid | ((with_reducible refine' Ex.trans ?exe (by with_reducible assumption)); (case exe => wtm_at "ex")) | ((with_reducible refine' Ex.trans ?exe (hid_ex (by with_reducible assumption))); (case exe => wtm_at "ex")) | ((with_reducible refine' Ex.trans ?exe ex_hid); (case exe => wtm_at "ex")))
local macro_rules | `(tactic| wtm_at "bag") => `(tactic| first | with_reducible assumption | ((with_reducible refine' Bag.mono ?bgm (by with_reducible assumption)); (case bgm => wtm_at "bag")))
local macro_rules | `(tactic| wtm_at "hs") => `(tactic| first | with_reducible assumption | ((with_reducible refine' hid_tup ?hb ?hp); (case hp => with_reducible assumption); (case hb => wtm_at "bag")) | ((with_reducible refine' hid_new ?hb ?hn ?hp); (case hp => with_reducible assumption); (case hn => with_reducible assumption); (case hb => wtm_at "bag")) | ((with_reducible refine' ex_at ?exe (by with_reducible assumption)); (case exe => wtm_at "ex")))
local macro_rules | `(tactic| wtm_at "st2") => `(tactic| first
  | ((with_reducible refine' i_mulC ?u0 ?uq); (case u0 => first | exact cmul_l (by decide) | exact cmul_r (by decide)))
  | ((with_reducible refine' i_ixLr (v := ?u0) ?u1 ?u2 ?uq); (case u1 => with_reducible assumption); (case u2 => exact rfl))
  | (with_reducible refine' i_sub ?uq)
  | ((with_reducible refine' i_mkL ?u0 (fun np nH nfr nhe nhp => ?uq)); (case u0 => exact Nat.le_of_ble_eq_true rfl))
  | ((with_reducible refine' i_setL (n := ?u0) ?u1 ?u2 (fun sH sh se => ?uq)); (case u1 => with_reducible assumption); (case u2 => exact rfl))
  | (with_reducible refine' i_sl ?uq)
  | (with_reducible refine' i_nopart ?uq)
  | (with_reducible refine' i_part ?uq)
  | (with_reducible refine' i_part1 ?uq))
local macro_rules | `(tactic| wtm_at "sz2") => `(tactic| ((with_reducible refine' sz_fmod ?sz1 ?sz2); (case sz1 => wtm_at "nz"); (case sz2 => wtm_at "sz")))
local macro_rules | `(tactic| wtm_at "stb") => `(tactic| first
  | ((with_reducible refine' i_mkTB ?u0 ?u1 (fun np nH nhe nhb nhp => ?uq)); (case u0 => exact Nat.le_of_ble_eq_true rfl); (case u1 => wtm_at "bag"))
  | ((with_reducible refine' i_mkLB ?u0 ?u1 (fun np nH nfr nhe nhb nhp => ?uq)); (case u0 => exact Nat.le_of_ble_eq_true rfl); (case u1 => wtm_at "bag"))
  | wtm_at "st")
local macro_rules | `(tactic| wtm_at "gob") => `(tactic| repeat' (wtm_at "stb"))
local macro_rules | `(tactic| wtm_at "gob0") => `(tactic| ((try dsimp only [L2.cxOf, L2.Cx.nox, L2.Cx.wish, L2.Cx.tr, L2.Cx.blk]); (try wtm_at "nrm"); wtm_at "gob"))
theorem gd_dvd_l (a b : Int) : gd a b ∣ a := by
  unfold gd
  exact Int.natAbs_dvd_natAbs.mp (by rw [Int.natAbs_natCast]; exact Nat.gcd_dvd_left _ _)
theorem gd_dvd_r (a b : Int) : gd a b ∣ b := by
  unfold gd
  exact Int.natAbs_dvd_natAbs.mp (by rw [Int.natAbs_natCast]; exact Nat.gcd_dvd_right _ _)
theorem sg_dvd {g w z : Int} (h : gd g w ∣ z) : sg g w ∣ z := by
  unfold sg
  split
  · exact Int.neg_dvd.mpr h
  · exact h
theorem fdiv_mul_of_dvd {z s : Int} (h : s ∣ z) : z.fdiv s * s = z := by
  obtain ⟨c, rfl⟩ := h
  by_cases hs : s = 0
  · subst hs
    simp
  · rw [Int.mul_fdiv_cancel_left _ hs, Int.mul_comm]
/-- what a reduced point is -/
structure Lo (x y w X Y W : Int) : Prop where
  ex : x * W = X * w
  ey : y * W = Y * w
  hw : 1 ≤ w
  g1 : gd (gd x y) w = 1
theorem gd_mul (k a b : Int) : gd (k * a) (k * b) = (k.natAbs : Int) * gd a b := by
  unfold gd
  rw [Int.natAbs_mul, Int.natAbs_mul, Nat.gcd_mul_left]
  exact Int.natCast_mul _ _
theorem gd_abs_l (a b : Int) : gd ((a.natAbs : Int)) b = gd a b := by
  unfold gd
  rw [Int.natAbs_natCast]
theorem gd3_mul (s x y w : Int) : gd (gd (s * x) (s * y)) (s * w) = (s.natAbs : Int) * gd (gd x y) w := by
  rw [gd_mul]
  have k2 : gd ((s.natAbs : Int) * gd x y) (s * w) = gd (s * gd x y) (s * w) := by
    unfold gd
    rw [Int.natAbs_mul, Int.natAbs_natCast, ← Int.natAbs_mul]
  rw [k2, gd_mul]
theorem rp_lo {X Y W : Int} (hW : W ≠ 0) : Lo (X.fdiv (sg (gd X Y) W)) (Y.fdiv (sg (gd X Y) W)) (W.fdiv (sg (gd X Y) W)) X Y W := by
  have hs : sg (gd X Y) W ≠ 0 := sg_ne hW
  have d1 : sg (gd X Y) W ∣ X := sg_dvd (Int.dvd_trans (gd_dvd_l _ _) (gd_dvd_l X Y))
  have d2 : sg (gd X Y) W ∣ Y := sg_dvd (Int.dvd_trans (gd_dvd_l _ _) (gd_dvd_r X Y))
  have d3 : sg (gd X Y) W ∣ W := sg_dvd (gd_dvd_r _ _)
  have e1 := fdiv_mul_of_dvd d1
  have e2 := fdiv_mul_of_dvd d2
  have e3 := fdiv_mul_of_dvd d3
  generalize hx : X.fdiv (sg (gd X Y) W) = x at *
  generalize hy : Y.fdiv (sg (gd X Y) W) = y at *
  generalize hw : W.fdiv (sg (gd X Y) W) = w at *
  have hg : gd (gd X Y) W = ((sg (gd X Y) W).natAbs : Int) * gd (gd x y) w := by
    have k := gd3_mul (sg (gd X Y) W) x y w
    rw [Int.mul_comm _ x, Int.mul_comm _ y, Int.mul_comm _ w, e1, e2, e3] at k
    exact k
  have hgs : gd (gd X Y) W = ((sg (gd X Y) W).natAbs : Int) := by
    have hn : (0 : Int) ≤ gd (gd X Y) W := by unfold gd; omega
    unfold sg
    split
    · rw [Int.natAbs_neg]
      omega
    · omega
  have hpos : (0 : Int) < ((sg (gd X Y) W).natAbs : Int) := by omega
  have g1 : gd (gd x y) w = 1 := by
    rw [hgs] at hg
    have : ((sg (gd X Y) W).natAbs : Int) * 1 = ((sg (gd X Y) W).natAbs : Int) * gd (gd x y) w := by rw [Int.mul_one]; exact hg
    exact (Int.eq_of_mul_eq_mul_left (by omega) this).symm
  have hsw : 0 < w := by
    have hW2 : (0 < W ∧ 0 < sg (gd X Y) W) ∨ (W < 0 ∧ sg (gd X Y) W < 0) := by
      have hn : (0 : Int) ≤ gd (gd X Y) W := by unfold gd; omega
      rcases Int.lt_or_gt_of_ne hW with h | h
      · right
        refine ⟨h, ?_⟩
        unfold sg at hs ⊢
        rw [if_pos h] at hs ⊢
        omega
      · left
        refine ⟨h, ?_⟩
        unfold sg at hs ⊢
        rw [if_neg (by omega)] at hs ⊢
        omega
    rcases hW2 with ⟨a, b⟩ | ⟨a, b⟩
    · rcases Int.lt_trichotomy w 0 with h | h | h
      · have := Int.mul_neg_of_neg_of_pos h b
        omega
      · subst h
        omega
      · exact h
    · rcases Int.lt_trichotomy w 0 with h | h | h
      · have := Int.mul_pos_of_neg_of_neg h b
        omega
      · subst h
        omega
      · exact h
  refine ⟨?_, ?_, by omega, g1⟩
  · rw [← e1, ← e3]; grind
  · rw [← e2, ← e3]; grind
theorem dvd_of_three {k x y w : Int} {m : Int} (g1 : gd (gd x y) w = 1) (h1 : m ∣ k * x) (h2 : m ∣ k * y) (h3 : m ∣ k * w) : m ∣ k := by
  have a1 : m.natAbs ∣ k.natAbs * x.natAbs := by rw [← Int.natAbs_mul]; exact Int.natAbs_dvd_natAbs.mpr h1
  have a2 : m.natAbs ∣ k.natAbs * y.natAbs := by rw [← Int.natAbs_mul]; exact Int.natAbs_dvd_natAbs.mpr h2
  have a3 : m.natAbs ∣ k.natAbs * w.natAbs := by rw [← Int.natAbs_mul]; exact Int.natAbs_dvd_natAbs.mpr h3
  have b := Nat.dvd_gcd (Nat.dvd_gcd a1 a2) a3
  rw [Nat.gcd_mul_left, Nat.gcd_mul_left] at b
  have e : Nat.gcd (Nat.gcd x.natAbs y.natAbs) w.natAbs = 1 := by
    have h := g1
    unfold gd at h
    rw [Int.natAbs_natCast] at h
    omega
  rw [e, Nat.mul_one] at b
  exact Int.natAbs_dvd_natAbs.mp b
/-- a reduced point is one -/
theorem lo_same {x y w x' y' w' : Int} (h1 : 1 ≤ w) (g1 : gd (gd x y) w = 1) (h2 : 1 ≤ w') (g2 : gd (gd x' y') w' = 1) (ex : x * w' = x' * w) (ey : y * w' = y' * w) : x = x' ∧ y = y' ∧ w = w' := by
  have d1 : w ∣ w' := dvd_of_three (k := w') g1 ⟨x', by rw [Int.mul_comm w' x, ex, Int.mul_comm]⟩ ⟨y', by rw [Int.mul_comm w' y, ey, Int.mul_comm]⟩ ⟨w', by rw [Int.mul_comm]⟩
  have d2 : w' ∣ w := dvd_of_three (k := w) g2 ⟨x, by rw [Int.mul_comm w x', ← ex, Int.mul_comm]⟩ ⟨y, by rw [Int.mul_comm w y', ← ey, Int.mul_comm]⟩ ⟨w, by rw [Int.mul_comm]⟩
  have e : w = w' := by
    have l1 := Int.le_of_dvd (by omega) d1
    have l2 := Int.le_of_dvd (by omega) d2
    omega
  subst e
  refine ⟨Int.eq_of_mul_eq_mul_right (by omega) ex, Int.eq_of_mul_eq_mul_right (by omega) ey, rfl⟩
theorem Lo.same {x y w x' y' w' X Y W X' Y' W' : Int} (a : Lo x y w X Y W) (b : Lo x' y' w' X' Y' W') (hW : W ≠ 0) (hW' : W' ≠ 0) (hX : X * W' = X' * W) (hY : Y * W' = Y' * W) : x = x' ∧ y = y' ∧ w = w' := by
  refine lo_same a.hw a.g1 b.hw b.g1 ?_ ?_
  · have h : (W * W') * (x * w') = (W * W') * (x' * w) := by
      have := a.ex; have := b.ex
      grind
    exact Int.eq_of_mul_eq_mul_left (Int.mul_ne_zero hW hW') h
  · have h : (W * W') * (y * w') = (W * W') * (y' * w) := by
      have := a.ey; have := b.ey
      grind
    exact Int.eq_of_mul_eq_mul_left (Int.mul_ne_zero hW hW') h

/-- what a reduced fraction is -/
structure Lf (x w X W : Int) : Prop where
  ex : x * W = X * w
  hw : 1 ≤ w
  g1 : gd x w = 1
theorem gd_g0 (x w : Int) : gd (gd x 0) w = gd x w := by
  unfold gd
  simp
theorem sg_g0 (X W : Int) : sg (gd X 0) W = sg X W := by
  unfold sg
  rw [gd_g0]
theorem rf_lf {X W : Int} (hW : W ≠ 0) : Lf (X.fdiv (sg X W)) (W.fdiv (sg X W)) X W := by
  have l := rp_lo (X := X) (Y := 0) hW
  rw [sg_g0] at l
  have hy : (0 : Int).fdiv (sg X W) = 0 := Int.zero_fdiv _
  have g := l.g1
  rw [hy, gd_g0] at g
  exact ⟨l.ex, l.hw, g⟩
theorem Lf.same {x w x' w' X W X' W' : Int} (a : Lf x w X W) (b : Lf x' w' X' W') (hW : W ≠ 0) (hW' : W' ≠ 0) (h : X * W' = X' * W) : x = x' ∧ w = w' := by
  have ex : x * w' = x' * w := by
    have k : (W * W') * (x * w') = (W * W') * (x' * w) := by
      have := a.ex; have := b.ex
      grind
    exact Int.eq_of_mul_eq_mul_left (Int.mul_ne_zero hW hW') k
  have r := lo_same (y := 0) (y' := 0) a.hw (by rw [gd_g0]; exact a.g1) b.hw (by rw [gd_g0]; exact b.g1) ex (by simp)
  exact ⟨r.1, r.2.2⟩
theorem Lf.frac {x w X W : Int} (a : Lf x w X W) : isFrac (fq x w) = true := by
  show (decide (1 ≤ w) && decide (gd x w = 1)) = true
  rw [decide_eq_true a.hw, decide_eq_true a.g1]
  rfl
theorem Lf.just {x w X W : Int} (a : Lf x w X W) : just x w X W = true := by
  show (decide (1 ≤ w) && decide (gd x w = 1) && decide (x * W = X * w)) = true
  rw [decide_eq_true a.hw, decide_eq_true a.g1, decide_eq_true a.ex]
  rfl
theorem rf_ex {X W : Int} (hW : W ≠ 0) : ∃ x w, rf X W = fq x w ∧ Lf x w X W ∧ (∀ n, Sz n X → Sz n x) ∧ (∀ n, Sz n W → Sz n w) := ⟨_, _, rfl, rf_lf hW, fun n h => sz_fdiv h, fun n h => sz_fdiv h⟩
theorem sum_ex {a b c d : Int} (nb : b ≠ 0) (nd : d ≠ 0) : ∃ x w, sumD a b c d = fq x w ∧ Lf x w (a * d + c * b) (b * d) ∧ (∀ n, Sz n a → Sz n b → Sz n c → Sz n d → Sz (n + n + 1) x ∧ Sz (n + n + 1) w) := by
  unfold sumD
  have nbd : b * d ≠ 0 := Int.mul_ne_zero nb nd
  by_cases h : b = d
  · subst h
    rw [if_pos rfl]
    have l := rf_lf (X := a + c) nb
    refine ⟨_, _, rfl, ⟨?_, l.hw, l.g1⟩, fun n sa sb sc sd => ⟨sz_mono (sz_fdiv (sz_add sa sc)) (by omega), sz_mono (sz_fdiv sb) (by omega)⟩⟩
    have := l.ex
    generalize (a + c).fdiv (sg (a + c) b) = x at *
    generalize b.fdiv (sg (a + c) b) = w at *
    have e : (a * b + c * b) * w = ((a + c) * w) * b := by grind
    rw [e, ← this]
    grind
  · rw [if_neg h]
    refine ⟨_, _, rfl, rf_lf nbd, fun n sa sb sc sd => ⟨sz_fdiv ?_, sz_fdiv (sz_mono (sz_mul sb sd) (by omega))⟩⟩
    have h1 := sz_mul sa sd
    have h2 := sz_mul sc sb
    unfold Sz at *
    rw [Nat.pow_succ]
    have := Int.natAbs_add_le (a * d) (c * b)
    omega
section
variable {P : Program} {w : World} {K : PySem.W.Frag} {mg : Str → Option Value} {base : Heap} {H H' : Hp} {Q : VK} {E : XK} {v1 v2 v3 v4 : V}
def qReprB : List V → Hp → VK → Prop := fun xs H Q => ∃ b, xs = [.bl b] ∧ Q (.str (if b then "True" else "False")) H
theorem call_repr_own {X : Cx} : CallR X (.builtin "repr") qReprB := by
  intro pins s σ H xs us Q I r h
  obtain ⟨i, rfl, q⟩ := h
  obtain ⟨u, rfl, rfl⟩ := vals1 r
  exact PySem.P.repr_of_bool ⟨.str _, H, I.tok _, ⟨_, rfl⟩, q⟩
theorem i_qreprB {b : Bool} (q : Q (.str (if b then "True" else "False")) H) : qReprB [.bl b] H Q := ⟨b, rfl, q⟩
theorem i_neS {a b : Str} (q : Q (.bl (!decide (V.str a = V.str b))) H) : rNe (.str a) (.str b) H Q := ⟨rfl, q⟩
local macro_rules | `(tactic| wtm_at "st2") => `(tactic| with_reducible refine' i_qreprB ?_)
local macro_rules | `(tactic| wtm_at "st2") => `(tactic| with_reducible refine' i_neS ?_)
theorem Lf.chg {p q X W X' W' : Int} (l : Lf p q X W) (hW : W ≠ 0) (h : X * W' = X' * W) : Lf p q X' W' := by
  refine ⟨?_, l.hw, l.g1⟩
  have e := l.ex
  refine Int.eq_of_mul_eq_mul_right hW ?_
  have e1 : p * W' * W = (p * W) * W' := by grind
  have e2 : X' * q * W = (X' * W) * q := by grind
  rw [e1, e, e2, ← h]
  grind
theorem less_eq {x1 w1 x2 w2 a b c d : Int} (l1 : Lf x1 w1 a b) (l2 : Lf x2 w2 c d) (nb : b ≠ 0) (nd : d ≠ 0) : decide (x1 * w2 < x2 * w1) = decide (a * d * b * d < c * b * b * d) := by
  have h1 := l1.hw; have h2 := l2.hw; have e1 := l1.ex; have e2 := l2.ex
  have pbd : 0 < (b * d) * (b * d) := by
    have hn : b * d ≠ 0 := Int.mul_ne_zero nb nd
    rcases Int.lt_or_gt_of_ne hn with k | k
    · exact Int.mul_pos_of_neg_of_neg k k
    · exact Int.mul_pos k k
  have pw : 0 < w1 * w2 := Int.mul_pos (by omega) (by omega)
  have k : (x2 * w1 - x1 * w2) * ((b * d) * (b * d)) = (c * b * b * d - a * d * b * d) * (w1 * w2) := by
    have k1 : (x2 * w1 - x1 * w2) * ((b * d) * (b * d)) = ((x2 * d) * w1 * b - (x1 * b) * w2 * d) * (b * d) := by grind
    rw [k1, e1, e2]
    grind
  refine decide_eq_decide.mpr ⟨fun h => ?_, fun h => ?_⟩
  · have q1 := Int.mul_pos (a := x2 * w1 - x1 * w2) (by omega) pbd
    rw [k] at q1
    have := Int.pos_of_mul_pos_left q1 (by omega)
    omega
  · have q1 := Int.mul_pos (a := c * b * b * d - a * d * b * d) (by omega) pw
    rw [← k] at q1
    have := Int.pos_of_mul_pos_left q1 (by omega)
    omega
theorem use_plusE {a b c d p q' : Int} {C : Addr} (r : sumD a b c d = fq p q') (h1 : Dp K H v1 (fq a b)) (h2 : Dp K H v2 (fq c d)) (f1 : isFrac (fq a b) = true) (f2 : isFrac (fq c d) = true) (sa : Sz F0 a) (sb : Sz F0 b) (sc : Sz F0 c) (sd : Sz F0 d) (q : ∀ v H2, Ex H H2 → Dp K H2 v (fq p q') → Q v H2) : sp_plus K C [v1, v2] H Q E := use_plus h1 h2 f1 f2 sa sb sc sd (by rw [r]; exact q)
theorem use_minusE {a b c d p q' : Int} {C : Addr} (r : sumD a b (-c) d = fq p q') (h1 : Dp K H v1 (fq a b)) (h2 : Dp K H v2 (fq c d)) (f1 : isFrac (fq a b) = true) (f2 : isFrac (fq c d) = true) (sa : Sz F0 a) (sb : Sz F0 b) (sc : Sz F0 c) (sd : Sz F0 d) (q : ∀ v H2, Ex H H2 → Dp K H2 v (fq p q') → Q v H2) : sp_minus K C [v1, v2] H Q E := use_minus h1 h2 f1 f2 sa sb sc sd (by rw [r]; exact q)
theorem use_timesE {a b c d p q' : Int} {C : Addr} (r : rf (a * c) (b * d) = fq p q') (h1 : Dp K H v1 (fq a b)) (h2 : Dp K H v2 (fq c d)) (f1 : isFrac (fq a b) = true) (f2 : isFrac (fq c d) = true) (sa : Sz F0 a) (sb : Sz F0 b) (sc : Sz F0 c) (sd : Sz F0 d) (q : ∀ v H2, Ex H H2 → Dp K H2 v (fq p q') → Q v H2) : sp_times K C [v1, v2] H Q E := use_times h1 h2 f1 f2 sa sb sc sd (by rw [r]; exact q)
theorem use_is_lessE {a b c d : Int} {C : Addr} {r : Bool} (e : decide (a * d < c * b) = r) (h1 : Dp K H v1 (fq a b)) (h2 : Dp K H v2 (fq c d)) (f1 : isFrac (fq a b) = true) (f2 : isFrac (fq c d) = true) (sa : Sz F0 a) (sb : Sz F0 b) (sc : Sz F0 c) (sd : Sz F0 d) (q : ∀ H2, Ex H H2 → Q (.bl r) H2) : sp_is_less K C [v1, v2] H Q E := use_is_less h1 h2 f1 f2 sa sb sc sd (by rw [e]; exact q)
theorem use__law_is_justE {x w T B : Int} (e : just x w T B = true) (hd : Dp K H v1 (fq x w)) (s1 : Sz 9000 x) (s2 : Sz 9000 w) (s3 : Sz 9000 T) (s4 : Sz 9000 B) (q : Q (.bl true) H) : sp__law_is_just K [v1, .int T, .int B] H Q E := use__law_is_just hd s1 s2 s3 s4 (by rw [e]; exact q)
theorem fq_ne {a b c d : Int} (h1 : a = c) (h2 : b = d) : (!PyData.eqv (fq a b) (fq c d)) = false := by
  subst h1 h2
  simp [PyData.eqv, PyData.eqvAll]
local macro_rules | `(tactic| wtm_at "use") => `(tactic| (first | ((with_reducible refine' use_plusE ?u8 ?u0 ?u1 ?u2 ?u3 ?u4 ?u5 ?u6 ?u7 (fun ur uH ue ud => ?uq)); (case u0 => wtm_at "dp"); (case u1 => wtm_at "dp"); (case u8 => with_reducible assumption); (case u2 => with_reducible assumption); (case u3 => with_reducible assumption); (case u4 => wtm_at "szb"); (case u5 => wtm_at "szb"); (case u6 => wtm_at "szb"); (case u7 => wtm_at "szb")) | fail))
local macro_rules | `(tactic| wtm_at "use") => `(tactic| (first | ((with_reducible refine' use_minusE ?u8 ?u0 ?u1 ?u2 ?u3 ?u4 ?u5 ?u6 ?u7 (fun ur uH ue ud => ?uq)); (case u0 => wtm_at "dp"); (case u1 => wtm_at "dp"); (case u8 => with_reducible assumption); (case u2 => with_reducible assumption); (case u3 => with_reducible assumption); (case u4 => wtm_at "szb"); (case u5 => wtm_at "szb"); (case u6 => wtm_at "szb"); (case u7 => wtm_at "szb")) | fail))
local macro_rules | `(tactic| wtm_at "use") => `(tactic| (first | ((with_reducible refine' use_timesE ?u8 ?u0 ?u1 ?u2 ?u3 ?u4 ?u5 ?u6 ?u7 (fun ur uH ue ud => ?uq)); (case u0 => wtm_at "dp"); (case u1 => wtm_at "dp"); (case u8 => with_reducible assumption); (case u2 => with_reducible assumption); (case u3 => with_reducible assumption); (case u4 => wtm_at "szb"); (case u5 => wtm_at "szb"); (case u6 => wtm_at "szb"); (case u7 => wtm_at "szb")) | fail))
local macro_rules | `(tactic| wtm_at "use") => `(tactic| (first | ((with_reducible refine' use_is_lessE ?u8 ?u0 ?u1 ?u2 ?u3 ?u4 ?u5 ?u6 ?u7 (fun uH ue => ?uq)); (case u0 => wtm_at "dp"); (case u1 => wtm_at "dp"); (case u8 => with_reducible assumption); (case u2 => with_reducible assumption); (case u3 => with_reducible assumption); (case u4 => wtm_at "szb"); (case u5 => wtm_at "szb"); (case u6 => wtm_at "szb"); (case u7 => wtm_at "szb")) | fail))
local macro_rules | `(tactic| wtm_at "use") => `(tactic| (first | ((with_reducible refine' use_whole_below ?u0 ?u1 ?u2 (fun uH ue => ?uq)); (case u0 => wtm_at "dp"); (case u1 => with_reducible assumption); (case u2 => wtm_at "szb")) | fail))
local macro_rules | `(tactic| wtm_at "use") => `(tactic| (first | ((with_reducible refine' use_whole_above ?u0 ?u1 ?u2 (fun uH ue => ?uq)); (case u0 => wtm_at "dp"); (case u1 => with_reducible assumption); (case u2 => wtm_at "szb")) | fail))
local macro_rules | `(tactic| wtm_at "use") => `(tactic| (first | ((with_reducible refine' use__law_is_justE ?u5 ?u0 ?u1 ?u2 ?u3 ?u4 ?uq); (case u0 => wtm_at "dp"); (case u5 => with_reducible assumption); (case u1 => wtm_at "szb"); (case u2 => wtm_at "szb"); (case u3 => wtm_at "szb"); (case u4 => wtm_at "szb")) | fail))
local macro_rules | `(tactic| wtm_at "use") => `(tactic| (first | ((with_reducible refine' use__law_is_whole ?u0 ?uq); (case u0 => wtm_at "dp")) | fail))
local macro_rules | `(tactic| wtm_at "st2") => `(tactic| (with_reducible refine' i_cs ?uq))
/-- two fractions and what they were made of -/
structure Two (x1 w1 x2 w2 a b c d : Int) : Prop where
  l1 : Lf x1 w1 a b
  l2 : Lf x2 w2 c d
  nb : b ≠ 0
  nd : d ≠ 0
  s : Sz 150 x1 ∧ Sz 150 w1 ∧ Sz 150 x2 ∧ Sz 150 w2 ∧ Sz 150 a ∧ Sz 150 b ∧ Sz 150 c ∧ Sz 150 d
def sp__law_are_right (K : PySem.W.Frag) : Sp := A6 fun v1 v2 v3 v4 v5 v6 H Q => ∃ x1 w1 x2 w2 a b c d : Int, v3 = .int a ∧ v4 = .int b ∧ v5 = .int c ∧ v6 = .int d ∧ Dp K H v1 (fq x1 w1) ∧ Dp K H v2 (fq x2 w2) ∧ Two x1 w1 x2 w2 a b c d ∧ Ret K (.bool true) H Q
theorem floor_ok {x w : Int} (hw : 1 ≤ w) : x.fdiv w * w ≤ x ∧ x < (x.fdiv w + 1) * w := by
  rw [Int.fdiv_eq_ediv_of_nonneg x (by omega)]
  have h1 := Int.emod_nonneg x (b := w) (by omega)
  have h2 := Int.emod_lt_of_pos x (b := w) (by omega)
  have h3 := Int.mul_ediv_add_emod x w
  have h4 : (x / w + 1) * w = w * (x / w) + w := by grind
  have h5 : x / w * w = w * (x / w) := Int.mul_comm _ _
  omega
theorem ceil_ok {x w : Int} (hw : 1 ≤ w) : (-((-x).fdiv w) - 1) * w < x ∧ x ≤ -((-x).fdiv w) * w := by
  have h := floor_ok (x := -x) hw
  generalize (-x).fdiv w = f at *
  have h4 : (-f - 1) * w = -((f + 1) * w) := by grind
  have h5 : -f * w = -(f * w) := by grind
  omega
abbrev s__law_are_right : Stmt := top 36
theorem sc__law_are_right : FnScope ["_law_one", "_law_other", "_law_a", "_law_b", "_law_c", "_law_d", "_law_low", "_law_high"] ["_law_one", "_law_other", "_law_a", "_law_b", "_law_c", "_law_d"] (defScope s__law_are_right) := ⟨rfl, rfl, rfl, by decide +kernel, rfl, by decide +kernel, by decide +kernel⟩
theorem ok__law_are_right {f : Addr} {fd : FuncData} (F : FnP K "_law_are_right" s__law_are_right f fd) (g : G mg) {C : Addr} (c_whole_below : ClX P w K mg base 4 "whole_below" (sp_whole_below K C)) (c_whole_above : ClX P w K mg base 4 "whole_above" (sp_whole_above K C)) (c__law_is_just : Cl P w K mg base 2 "_law_is_just" (sp__law_is_just K)) (c_plus : ClX P w K mg base 4 "plus" (sp_plus K C)) (c_is_less : ClX P w K mg base 4 "is_less" (sp_is_less K C)) (c__law_is_whole : Cl P w K mg base 1 "_law_is_whole" (sp__law_is_whole K)) (c_minus : ClX P w K mg base 4 "minus" (sp_minus K C)) (c_times : ClX P w K mg base 4 "times" (sp_times K C)) : FnOk P w K mg base CX0 5 f fd ["_law_one", "_law_other", "_law_a", "_law_b", "_law_c", "_law_d"] (sp__law_are_right K) := by
  have nd := sc__law_are_right.nd
  refine F.ok sc__law_are_right (fun vs H Q E h => h.len) (fun cdv A outer s H vs Q E hr h => ?_)
  obtain ⟨v1, v2, v3, v4, v5, v6, rfl, h⟩ := h
  refine ⟨_, PSs.nox (pss_cons (ps_if (PW.pt (pw_or (pt_not (pt_val (pc c__law_is_just hr (by decide) (by rfl) (pa_cons (pcX c_plus takes0 hr (by decide) (by rfl) (pa_cons (pv 0) (pa_cons (pv 1) pa_nil))) (pa_cons (pe_op op_add (pe_op op_mulX (pv 2) (pv 5)) (pe_op op_mulX (pv 4) (pv 3))) (pa_cons (pe_op op_mulX (pv 3) (pv 5)) pa_nil)))))) (pw_or1 (pt_cmpR (op_neD hr.units) (pcX c_plus takes0 hr (by decide) (by rfl) (pa_cons (pv 1) (pa_cons (pv 0) pa_nil))) (pcX c_plus takes0 hr (by decide) (by rfl) (pa_cons (pv 0) (pa_cons (pv 1) pa_nil))) (nomark _))))) (pss_one (ps_ret pe_bl)) pss_nil) (pss_cons (ps_if (PW.pt (pw_or (pt_not (pt_val (pc c__law_is_just hr (by decide) (by rfl) (pa_cons (pcX c_minus takes0 hr (by decide) (by rfl) (pa_cons (pv 0) (pa_cons (pv 1) pa_nil))) (pa_cons (pe_op op_sub (pe_op op_mulX (pv 2) (pv 5)) (pe_op op_mulX (pv 4) (pv 3))) (pa_cons (pe_op op_mulX (pv 3) (pv 5)) pa_nil)))))) (pw_or1 (pt_not (pt_val (pc c__law_is_just hr (by decide) (by rfl) (pa_cons (pcX c_times takes0 hr (by decide) (by rfl) (pa_cons (pv 0) (pa_cons (pv 1) pa_nil))) (pa_cons (pe_op op_mulX (pv 2) (pv 4)) (pa_cons (pe_op op_mulX (pv 3) (pv 5)) pa_nil))))))))) (pss_one (ps_ret pe_bl)) pss_nil) (pss_cons (ps_if (PW.pt (pw_or (pt_cmpR op_ne (pe_callB call_repr_own (by rfl) g.f_repr boot_repr (pa_cons (pcX c_is_less takes0 hr (by decide) (by rfl) (pa_cons (pv 0) (pa_cons (pv 1) pa_nil))) pa_nil)) (pe_callB call_repr_own (by rfl) g.f_repr boot_repr (pa_cons (pe_cmpR op_lt (pe_op op_mulX (pe_op op_mulX (pe_op op_mulX (pv 2) (pv 5)) (pv 3)) (pv 5)) (pe_op op_mulX (pe_op op_mulX (pe_op op_mulX (pv 4) (pv 3)) (pv 3)) (pv 5)) (nomark _)) pa_nil)) (nomark _)) (pw_or1 (pt_cmpR op_notBl (pcX c_is_less takes0 hr (by decide) (by rfl) (pa_cons (pv 0) (pa_cons (pv 0) pa_nil))) pe_bl (nomark _))))) (pss_one (ps_ret pe_bl)) pss_nil) (pss_cons (ps_par (i := 6) (j := 7) (by rfl) nd rfl rfl (by decide) rfl rfl (pa_cons (pcX c_whole_below takes0 hr (by decide) (by rfl) (pa_cons (pv 0) pa_nil)) (pa_cons (pcX c_whole_above takes0 hr (by decide) (by rfl) (pa_cons (pv 0) pa_nil)) pa_nil)) (by rfl)) (pss_cons (ps_if (PW.pt (pw_or (pt_not (pt_val (pc c__law_is_whole hr (by decide) (by rfl) (pa_cons (pv 6) pa_nil)))) (pw_or (pt_not (pt_val (pc c__law_is_whole hr (by decide) (by rfl) (pa_cons (pv 7) pa_nil)))) (pw_or1 (pt_not (pt_chain op_le op_lt (pe_op op_mulX (pv 6) (pe_ix ix_tup (pv 0) pe_int (fun _ _ => rfl))) (pe_ix ix_tup (pv 0) pe_int (fun _ _ => rfl)) (pe_op op_mulX (pe_op op_add (pv 6) pe_int) (pe_ix ix_tup (pv 0) pe_int (fun _ _ => rfl))))))))) (pss_one (ps_ret pe_bl)) pss_nil) (pss_one (ps_ret (pe_chain op_lt op_le (pe_op op_mulX (pe_op op_sub (pv 7) pe_int) (pe_ix ix_tup (pv 0) pe_int (fun _ _ => rfl))) (pe_ix ix_tup (pv 0) pe_int (fun _ _ => rfl)) (pe_op op_mulX (pv 7) (pe_ix ix_tup (pv 0) pe_int (fun _ _ => rfl))))))))))), ?_⟩
  obtain ⟨x1, w1, x2, w2, a, b, c, d, rfl, rfl, rfl, rfl, hd1, hd2, T, q⟩ := h
  obtain ⟨s1, s2, s3, s4, s5, s6, s7, s8⟩ := T.s
  have nb := T.nb; have nd2 := T.nd
  have hw1 := T.l1.hw; have hw2 := T.l2.hw
  have f1 := T.l1.frac; have f2 := T.l2.frac
  have e1 := T.l1.ex; have e2 := T.l2.ex
  have nw1 : w1 ≠ 0 := by omega
  have nw2 : w2 ≠ 0 := by omega
  have nw : w1 * w2 ≠ 0 := Int.mul_ne_zero nw1 nw2
  obtain ⟨p1, q1, r1, m1, z1⟩ := sum_ex (a := x1) (b := w1) (c := x2) (d := w2) nw1 nw2
  obtain ⟨p2, q2, r2, m2, z2⟩ := sum_ex (a := x2) (b := w2) (c := x1) (d := w1) nw2 nw1
  obtain ⟨p3, q3, r3, m3, z3⟩ := sum_ex (a := x1) (b := w1) (c := -x2) (d := w2) nw1 nw2
  obtain ⟨p4, q4, r4, m4, z4a, z4b⟩ := rf_ex (X := x1 * x2) nw
  obtain ⟨t1, t2⟩ := z1 150 s1 s2 s3 s4
  obtain ⟨t3, t4⟩ := z2 150 s3 s4 s1 s2
  obtain ⟨t5, t6⟩ := z3 150 s1 s2 (sz_neg s3) s4
  have t7 := z4a _ (sz_mul s1 s3)
  have t8 := z4b _ (sz_mul s2 s4)
  have eq12 := m2.same m1 (Int.mul_ne_zero nw2 nw1) nw (by grind)
  have j1 : just p1 q1 (a * d + c * b) (b * d) = true := (m1.chg nw (by
    have k : (x1 * w2 + x2 * w1) * (b * d) = (x1 * b) * w2 * d + (x2 * d) * w1 * b := by grind
    rw [k, e1, e2]; grind)).just
  have j3 : just p3 q3 (a * d - c * b) (b * d) = true := (m3.chg nw (by
    have k : (x1 * w2 + -x2 * w1) * (b * d) = (x1 * b) * w2 * d - (x2 * d) * w1 * b := by grind
    rw [k, e1, e2]; grind)).just
  have j4 : just p4 q4 (a * c) (b * d) = true := (m4.chg nw (by
    have k : x1 * x2 * (b * d) = (x1 * b) * (x2 * d) := by grind
    rw [k, e1, e2]; grind)).just
  have le := less_eq T.l1 T.l2 nb nd2
  have l0 : decide (x1 * w1 < x1 * w1) = false := decide_eq_false (by omega)
  have fl := floor_ok (x := x1) hw1
  have ce := ceil_ok (x := x1) hw1
  wtm_at "go0"
  all_goals first
    | (rename_i hz; exact absurd rfl hz)
    | (rename_i hz; exact absurd fl.1 hz)
    | (rename_i hz; exact absurd fl.2 hz)
    | (rename_i hz; exact absurd ce.1 hz)
    | (dsimp only; rw [decide_eq_true ce.2]; exact q _ _ (by wtm_at "ex") (Dp.bl _))
    | (rename_i hz; have hy := fq_ne eq12.1 eq12.2; rw [hz] at hy; cases hy)
theorem use__law_are_right {v5 v6 : V} {x1 w1 x2 w2 a b c d : Int} (hd1 : Dp K H v1 (fq x1 w1)) (hd2 : Dp K H v2 (fq x2 w2)) (T : Two x1 w1 x2 w2 a b c d) (q : ∀ H2, Ex H H2 → Q (.bl true) H2) : sp__law_are_right K [v1, v2, .int a, .int b, .int c, .int d] H Q E := ⟨_, _, _, _, _, _, rfl, _, _, _, _, _, _, _, _, rfl, rfl, rfl, rfl, hd1, hd2, T, ret_bl q⟩
end
end Wb

namespace Wb
open PySem PySem.Spec PyProof.Rows L2
open Evl (Ex Ex.refl Ex.trans Ex.new)
local macro_rules | `(tactic| wtm_at "dp") => `(tactic| first | with_reducible assumption | with_reducible exact Dp.int _ | with_reducible exact Dp.bl _ | with_reducible exact Dp.str _ | with_reducible exact Dp.non | ((with_reducible refine' dpMono ?dme (by with_reducible assumption)); (case dme => wtm_at "ex")) | ((with_reducible refine' Dp.tup (Evl.st_of ?dph) ?dpa); (case dph => wtm_at "hs"); (case dpa => wtm_at "dpa")) | ((with_reducible refine' Dp.lst (Evl.sq_of ?dph) ?dpa); (case dph => wtm_at "hs"); (case dpa => wtm_at "dpa")))
local macro_rules | `(tactic| wtm_at "dpa") => `(tactic| first | with_reducible exact DpAll.nil | ((with_reducible refine' DpAll.cons ?dp1 ?dp2); (case dp1 => wtm_at "dp"); (case dp2 => wtm_at "dpa")) | with_reducible assumption | ((with_reducible refine' dpMonoA ?dme (by with_reducible assumption)); (case dme => wtm_at "ex")))
local macro_rules | `(tactic| wtm_at "sz") => `(tactic| first | with_reducible assumption | ((with_reducible refine' sz_mul ?sz1 ?sz2); (case sz1 => wtm_at "sz"); (case sz2 => wtm_at "sz")) | ((with_reducible refine' sz_add ?sz1 ?sz2); (case sz1 => wtm_at "sz"); (case sz2 => wtm_at "sz")) | ((with_reducible refine' sz_sub ?sz1 ?sz2); (case sz1 => wtm_at "sz"); (case sz2 => wtm_at "sz")) | ((with_reducible refine' sz_neg ?sz1); (case sz1 => wtm_at "sz")) | ((with_reducible refine' sz_div ?sz1); (case sz1 => wtm_at "sz")) | ((with_reducible refine' sz_fdiv ?sz1); (case sz1 => wtm_at "sz")) | exact sz_lit (by decide) | wtm_at "sz2")
local macro_rules | `(tactic| wtm_at "szb") => `(tactic| first | with_reducible assumption | ((with_reducible refine' sz_mono ?szb1 ?szb2); (case szb1 => wtm_at "sz"); (case szb2 => decide)))
local macro_rules | `(tactic| wtm_at "nz") => `(tactic| first | assumption | decide | omega)
local macro_rules | `(tactic| wtm_at "shaped") => `(tactic| first | rfl | decide)
local macro_rules | `(tactic| wtm_at "sset") => `(tactic| ((dsimp only [L2.wipe, List.set, List.set_cons_zero, List.set_cons_succ]) <;> exact rfl))
local macro_rules | `(tactic| wtm_at "nrm") => `(tactic| dsimp only [L2.start, L2.wipe, List.set, List.append, List.map, List.map_cons, List.map_nil, List.length_cons, List.length_nil, Nat.reduceAdd, Nat.reduceSub, List.reduceReplicate, List.replicate, List.cons_append, List.nil_append, List.set_cons_zero, List.set_cons_succ])
local macro_rules | `(tactic| wtm_at "st") => `(tactic| first
  | ((with_reducible refine' i_var (v := ?u0) ?u1 ?uq); (case u1 => exact rfl))
  | ((with_reducible refine' i_nameN ?u0 ?uq); (case u0 => wtm_at "sset"))
  | (with_reducible refine' i_op ?uq)
  | (with_reducible refine' i_c ?uq)
  | (with_reducible refine' i_I0 ?uq)
  | ((with_reducible refine' i_ixTI (i := ?u0) ?u1 ?u2 ?u3 ?uq); (case u1 => wtm_at "dp"); (case u2 => wtm_at "ex"); (case u3 => exact rfl))
  | ((with_reducible refine' i_ixT (d := ?u0) ?u1 ?u2 ?u3 (fun xu hxu => ?uq)); (case u1 => wtm_at "dp"); (case u2 => wtm_at "ex"); (case u3 => exact rfl))
  | ((with_reducible refine' i_mul ?u0 ?u1 ?u2 ?uq); (case u0 => wtm_at "sz"); (case u1 => wtm_at "sz"); (case u2 => first | decide | omega))
  | (with_reducible refine' i_seq ?uq)
  | (with_reducible refine' i_asg ?uq)
  | (with_reducible refine' i_ret ?uq)
  | (with_reducible refine' i_ifs ?uq)
  | (with_reducible refine' i_drop ?uq)
  | (with_reducible refine' i_next ?uq)
  | (with_reducible refine' i_cons ?uq)
  | (with_reducible refine' i_nil ?uq)
  | (with_reducible refine' i_cl ?uq)
  | (with_reducible refine' i_cb ?uq)
  | (with_reducible refine' i_tup ?uq)
  | (with_reducible refine' i_lst ?uq)
  | ((with_reducible refine' i_mkT ?u0 (fun np nH nhe nhp => ?uq)); (case u0 => exact Nat.le_of_ble_eq_true rfl))
  | (with_reducible refine' i_test ?uq)
  | (with_reducible refine' i_B ?uq)
  | (with_reducible refine' i_k ?uq)
  | (with_reducible refine' i_and ?uq)
  | (with_reducible refine' i_or ?uq)
  | (with_reducible refine' i_not ?uq)
  | (with_reducible refine' i_andV ?uq)
  | (with_reducible refine' i_orV ?uq)
  | (with_reducible refine' i_notV ?uq)
  | (with_reducible refine' i_if ?uq)
  | (with_reducible refine' i_un ?uq)
  | (with_reducible refine' i_U ?uq)
  | (with_reducible refine' i_iteT ?uq)
  | (with_reducible refine' i_iteF ?uq)
  | ((with_reducible refine' i_iteTr ?u0 ?uq); (case u0 => first | with_reducible rfl | decide | (simp only [dIsInt, dIsBool, dIsTup, dIsStr, dIsLst, Bool.not_true, Bool.not_false]; done)))
  | ((with_reducible refine' i_iteFr ?u0 ?uq); (case u0 => first | with_reducible rfl | decide | (simp only [dIsInt, dIsBool, dIsTup, dIsStr, dIsLst, Bool.not_true, Bool.not_false]; done)))
  | (with_reducible refine' i_ite (fun hif => ?uqa) (fun hif => ?uqb))
  | (with_reducible refine' i_iteN (fun hif => ?uqa) (fun hif => ?uqb))
  | (with_reducible refine' i_iteBN (fun hif => ?uqa) (fun hif => ?uqb))
  | (with_reducible refine' i_iteB (fun hif => ?uqa) (fun hif => ?uqb))
  | ((with_reducible refine' i_modN ?u0 ?uq); (case u0 => wtm_at "nz"))
  | ((with_reducible refine' i_fdX ?u0 ?u1 ?u2 ?uq); (case u0 => wtm_at "nz"); (case u1 => wtm_at "sz"); (case u2 => first | decide | omega))
  | ((with_reducible refine' i_pow ?u0 ?uq); (case u0 => exact ⟨by decide, by decide +kernel⟩))
  | (with_reducible refine' i_eqI ?uq)
  | (with_reducible refine' i_neI ?uq)
  | (with_reducible refine' i_gcd ?uq)
  | (with_reducible refine' i_qabs ?uq)
  | (with_reducible refine' i_qint ?uq)
  | (with_reducible refine' i_qintB ?uq)
  | (with_reducible refine' i_qmax2 ?uq)
  | (with_reducible refine' i_qmin2 ?uq)
  | (with_reducible refine' i_isB ?uq)
  | (with_reducible refine' i_notB ?uq)
  | (with_reducible refine' i_chain ?uq)
  | (with_reducible refine' i_qisN ?uq)
  | (with_reducible refine' i_qnotN ?uq)
  | (with_reducible refine' i_yes ?uq)
  | (with_reducible refine' i_par ?uq)
  | (with_reducible refine' i_par3 ?uq)
  | ((with_reducible refine' i_par2 ?u0 ?uq); (case u0 => wtm_at "sset"))
  | ((with_reducible refine' i_par33 ?u0 ?uq); (case u0 => wtm_at "sset"))
  | ((with_reducible refine' i_ixLI (i := ?u0) ?u1 ?u2 ?u3 ?uq); (case u1 => wtm_at "dp"); (case u2 => wtm_at "ex"); (case u3 => exact rfl))
  | ((with_reducible refine' i_ixL (d := ?u0) ?u1 ?u2 ?u3 (fun xu hxu => ?uq)); (case u1 => wtm_at "dp"); (case u2 => wtm_at "ex"); (case u3 => exact rfl))
  | ((with_reducible refine' i_qlenT ?u0 ?uq); (case u0 => wtm_at "dp"))
  | ((with_reducible refine' i_qlenL ?u0 ?uq); (case u0 => wtm_at "dp"))
  | ((with_reducible refine' i_gtup ?u0 ?u1 ?u2 (fun gvs gdp => ?uq)); (case u0 => wtm_at "dp"); (case u1 => wtm_at "ex"); (case u2 => exact rfl))
  | ((with_reducible refine' i_glst ?u0 ?u1 ?u2 (fun gvs gdp => ?uq)); (case u0 => wtm_at "dp"); (case u1 => wtm_at "ex"); (case u2 => exact rfl))
  | ((with_reducible refine' i_gconsI ?u0 (fun gr gh => ?uq)); (case u0 => with_reducible assumption))
  | ((with_reducible refine' i_gconsA ?u0 (fun gv gr gh1 gh2 => ?uq)); (case u0 => with_reducible assumption))
  | ((with_reducible refine' i_gnilA ?u0 ?uq); (case u0 => with_reducible assumption))
  | ((with_reducible refine' i_isiI ?u0 ?uq); (case u0 => wtm_at "dp"))
  | ((with_reducible refine' i_isiB ?u0 ?uq); (case u0 => wtm_at "dp"))
  | ((with_reducible refine' i_isiT ?u0 ?uq); (case u0 => wtm_at "dp"))
  | ((with_reducible refine' i_isiS ?u0 ?uq); (case u0 => wtm_at "dp"))
  | ((with_reducible refine' i_isiL ?u0 ?uq); (case u0 => wtm_at "dp"))
  | ((with_reducible refine' i_eqD ?u0 ?u1 ?u2 ?u3 ?uq); (case u0 => wtm_at "dp"); (case u1 => wtm_at "dp"); (case u2 => wtm_at "shaped"); (case u3 => wtm_at "shaped"))
  | ((with_reducible refine' i_neD ?u0 ?u1 ?u2 ?u3 ?uq); (case u0 => wtm_at "dp"); (case u1 => wtm_at "dp"); (case u2 => wtm_at "shaped"); (case u3 => wtm_at "shaped"))
  | wtm_at "st2"
  | wtm_at "use")
local macro_rules | `(tactic| wtm_at "go") => `(tactic| repeat' (wtm_at "st"))
local macro_rules | `(tactic| wtm_at "go0") => `(tactic| ((try dsimp only [L2.cxOf, L2.Cx.nox, L2.Cx.wish, L2.Cx.tr, L2.Cx.blk]); (try wtm_at "nrm"); wtm_at "go"))
local macro_rules | `(tactic| wtm_at "fin") => `(tactic| ((try dsimp only); first | with_reducible assumption | assumption | ((with_reducible refine' Ret.use ?rur ?rue ?rud); (case rur => with_reducible assumption); (case rue => wtm_at "ex"); (case rud => wtm_at "dp"))))
local macro_rules | `(tactic| wtm_at "ex") => `(tactic| first | with_reducible assumption | with_reducible exact Ex.refl _ | with_reducible exact ex_hid | ((with_reducible refine' Ex.trans ?exe (by with_reducible assumption)); (case exe => wtm_at "ex")) | ((with_reducible refine' Ex.trans ?exe (hid_ex (by with_reducible assumption))); (case exe => wtm_at "ex")) | ((with_reducible refine' Ex.trans ?exe ex_hid); (case exe => wtm_at "ex")))
local macro_rules | `(tactic| wtm_at "bag") => `(tactic| first | with_reducible assumption | ((with_reducible refine' Bag.mono ?bgm (by with_reducible assumption)); (case bgm => wtm_at "bag")))
local macro_rules | `(tactic| wtm_at "hs") => `(tactic| first | with_reducible assumption | ((with_reducible refine' hid_tup ?hb ?hp); (case hp => with_reducible assumption); (case hb => wtm_at "bag")) | ((with_reducible refine' hid_new ?hb ?hn ?hp); (case hp => with_reducible assumption); (case hn => with_reducible assumption); (case hb => wtm_at "bag")) | ((with_reducible refine' ex_at ?exe (by with_reducible assumption)); (case exe => wtm_at "ex")))
local macro_rules | `(tactic| wtm_at "st2") => `(tactic| first
  | ((with_reducible refine' i_mulC ?u0 ?uq); (case u0 => first | exact cmul_l (by decide) | exact cmul_r (by decide)))
  | ((with_reducible refine' i_ixLr (v := ?u0) ?u1 ?u2 ?uq); (case u1 => with_reducible assumption); (case u2 => exact rfl))
  | (with_reducible refine' i_sub ?uq)
  | ((with_reducible refine' i_mkL ?u0 (fun np nH nfr nhe nhp => ?uq)); (case u0 => exact Nat.le_of_ble_eq_true rfl))
  | ((with_reducible refine' i_setL (n := ?u0) ?u1 ?u2 (fun sH sh se => ?uq)); (case u1 => with_reducible assumption); (case u2 => exact rfl))
  | (with_reducible refine' i_sl ?uq)
  | (with_reducible refine' i_nopart ?uq)
  | (with_reducible refine' i_part ?uq)
  | (with_reducible refine' i_part1 ?uq))
local macro_rules | `(tactic| wtm_at "sz2") => `(tactic| ((with_reducible refine' sz_fmod ?sz1 ?sz2); (case sz1 => wtm_at "nz"); (case sz2 => wtm_at "sz")))
local macro_rules | `(tactic| wtm_at "stb") => `(tactic| first
  | ((with_reducible refine' i_mkTB ?u0 ?u1 (fun np nH nhe nhb nhp => ?uq)); (case u0 => exact Nat.le_of_ble_eq_true rfl); (case u1 => wtm_at "bag"))
  | ((with_reducible refine' i_mkLB ?u0 ?u1 (fun np nH nfr nhe nhb nhp => ?uq)); (case u0 => exact Nat.le_of_ble_eq_true rfl); (case u1 => wtm_at "bag"))
  | wtm_at "st")
local macro_rules | `(tactic| wtm_at "gob") => `(tactic| repeat' (wtm_at "stb"))
local macro_rules | `(tactic| wtm_at "gob0") => `(tactic| ((try dsimp only [L2.cxOf, L2.Cx.nox, L2.Cx.wish, L2.Cx.tr, L2.Cx.blk]); (try wtm_at "nrm"); wtm_at "gob"))
local macro_rules | `(tactic| wtm_at "use") => `(tactic| ((with_reducible refine' use__law_draw ?u0 ?u1 ?u2 (fun dn dH dn0 dn1 de db => ?uq)); (case u0 => wtm_at "bag"); (case u1 => wtm_at "pos"); (case u2 => wtm_at "szb")))
local macro_rules | `(tactic| wtm_at "pos") => `(tactic| first | assumption | decide | omega)
local macro_rules | `(tactic| wtm_at "oneof") => `(tactic| ((with_reducible refine' use__law_one_of ?u0 ?u1 ?u2 ?u3 ?uq); (case u0 => wtm_at "bag"); (case u1 => wtm_at "dp"); (case u2 => exact Nat.le_of_ble_eq_true rfl); (case u3 => exact Nat.le_of_ble_eq_true rfl)))
section
variable {P : Program} {w : World} {K : PySem.W.Frag} {mg : Str → Option Value} {base : Heap} {H H' : Hp} {Q : VK} {E : XK} {v1 v2 v3 v4 : V}
/-! ### texts, further -/
def rJoin (K : PySem.W.Frag) : V → List V → Hp → VK → Prop := fun x xs H Q => ∃ a p, ∃ ys : List Str, x = .str a ∧ xs = [.ref p] ∧ (SqL K H p (ys.map V.str) ∨ SqT K H p (ys.map V.str)) ∧ (ys.map (·.length)).sum + ys.length * a.length ≤ 16777216 ∧ Q (.str (Txt.join a ys)) H
theorem pe_joinS {X : Cx} {o e : Expr} {to te : TE} {apos pos : Pos} (ho : PE X o to) (he : PE X e te) (hs : starEach [e] X.env = [(false, eval e X.env)] := by rfl) (hbase : attributeBase o "join" X.env (eval o X.env) = eval o X.env := by rfl) (hline : (apos.endLine == pos.line) = true := by rfl) :
    PE X (.Call (.Attribute o "join" apos) [e] [] pos) (tM1 (rJoin X.K) to te) := pe_join ho he hs hbase hline
theorem i_m1 {r : V → List V → Hp → VK → Prop} {to te : TE} {σ : L2.St} (q : to σ H fun x H1 => (∃ a, x = .str a) ∧ te σ H1 fun y H2 => r x [y] H2 Q) : tM1 r to te σ H Q := q
theorem sl_strS {X : Cx} : SlR X rSlS := sl_str
theorem i_slS {z : Str} {lo hi : Option Int} (h : z.length ≤ 100000) (q : Q (.str (cutS z lo hi)) H) : rSlS (.str z) lo hi H Q := ⟨z, rfl, Evl.sz_of h, q⟩
def qListS : List V → Hp → VK → Prop := fun xs H Q => ∃ z : Str, xs = [.str z] ∧ z.cps.size ≤ 100000 ∧ ∀ p, H p = none → Q (.ref p) (upd H p (.lst (z.cps.toList.map fun c => V.str (sgl c))))
theorem vals_by : ∀ {xs : List V} {us : List Value}, xs.length = us.length → (∀ (j : Nat) x u, xs[j]? = some x → us[j]? = some u → RelV x u) → Vals xs us
  | [], [], _, _ => .nil
  | [], _ :: _, h, _ => by simp at h
  | _ :: _, [], h, _ => by simp at h
  | x :: xs, u :: us, h, r => .cons (r 0 x u rfl rfl) (vals_by (by simpa using h) fun j y w h1 h2 => r (j + 1) y w (by simpa using h1) (by simpa using h2))
theorem call_qlistS {X : Cx} (hc : X.calm = true) : CallR X (.type "list") qListS := by
  intro pins s σ H xs us Q I r h
  obtain ⟨z, rfl, hz, q⟩ := h
  obtain ⟨u, rfl, ru⟩ := vals1 r
  obtain ⟨t, rfl⟩ := (show ∃ t, u = Value.str z t from ru)
  have hn : H s.heap.objs.size = none := I.hok.fresh (Nat.le_refl _)
  refine PySem.call_list_str (I.ok.hd hc) z t (fun h' tk acc c k ho hit => ?_) (Evl.sz_of hz)
  refine ⟨.ref s.heap.objs.size, _, I.laid (t' := tk) (a := s.heap.objs.size) (o := .lst (z.cps.toList.map fun c => V.str (sgl c))) k (Nat.le_refl _) ?_, rfl, q _ hn⟩
  refine ⟨by rw [List.length_map, Array.length_toList]; exact Evl.sz_of hz, acc.toList, c, ?_, by simpa using ho⟩
  refine vals_by (by rw [List.length_map, Array.length_toList, Array.length_toList, hit.1]) fun j x u h1 h2 => ?_
  rw [Array.getElem?_toList] at h2
  obtain ⟨c2, t2, h3, rfl⟩ := hit.2 j u h2
  rw [List.getElem?_map, Array.getElem?_toList, h3] at h1
  cases h1
  exact ⟨t2, rfl⟩
theorem i_lcRBV {σ : L2.St} {vs : List Nat} {j : Nat} {te : TE} {b : Addr} {PV : V → Prop} {n : Nat} (hb : Bag b H) (hn : n ≤ 1000) (hw : ∀ x, wipe ((wipe σ vs).set j (some x)) vs = wipe σ vs)
    (he : ∀ (i : Nat) (H2 : Hp) (R : VK), Ex (hid b H) (hid b H2) → Bag b H2 → (∀ v H3, PV v → Ex (hid b H2) (hid b H3) → Bag b H3 → R v H3) → te ((wipe σ vs).set j (some (.int (i : Int)))) H2 R)
    (q : ∀ p (ms : List V) H2, ms.length = n → (∀ m ∈ ms, PV m) → Ex (hid b H) (hid b H2) → Bag b H2 → hid b H2 p = some (.lst ms) → Q (.ref p) H2) : tLc (iRng1 (kA [.int (n : Int)])) (gName j) tYes te vs σ H Q := by
  refine ⟨(n : Int), rfl, by omega, by omega, fun D0 hD => ?_⟩
  have hne : D0 ≠ b := hb.ne hD
  refine lc_range (lo := 0) (n := ((n : Int)).toNat) (fun i H' => Ex (hid b H) (hid b H') ∧ Bag b H' ∧ ∃ ms : List V, ms.length = i ∧ (∀ m ∈ ms, PV m) ∧ H' D0 = some (.lst ms)) ⟨ex_hidD hD (Ex.refl _), bag_upd hne hb, [], rfl, by simp, upd_same⟩ (fun i H' hi p => ?_) (fun H' p => ?_)
  · obtain ⟨p1, p2, ms, p3, p4, p5⟩ := p
    have e0 : (0 : Int) + (i : Int) = (i : Int) := Int.zero_add _
    show wipe ((wipe σ vs).set j (some (.int ((0 : Int) + (i : Int))))) vs = wipe σ vs ∧ tYes ((wipe σ vs).set j (some (.int ((0 : Int) + (i : Int))))) H' fun b' H3 => _
    rw [e0]
    refine ⟨hw _, he i H' _ p1 p2 fun m H3 hm e3 b3 => ?_⟩
    have hD3 : H3 D0 = some (.lst ms) := (of_hid (e3 _ _ (hid_of p5 hne))).2
    refine ⟨_, hD3, Evl.sz_lt (by omega), ex_hidD hD (p1.trans e3), bag_upd hne b3, ms ++ [m], by simp [p3], ?_, by rw [upd_same]⟩
    intro m' hm'
    rcases List.mem_append.mp hm' with h | h
    · exact p4 m' h
    · rcases List.mem_singleton.mp h with rfl
      exact hm
  · obtain ⟨p1, p2, ms, p3, p4, p5⟩ := p
    exact q D0 ms H' (by omega) p4 p1 p2 (hid_of p5 hne)
theorem i_qlistSB {b : Addr} {z : Str} (hb : Bag b H) (hz : z.cps.size ≤ 100000) (q : ∀ p H2, H p = none → Ex H H2 → Bag b H2 → hid b H2 p = some (.lst (z.cps.toList.map fun c => V.str (sgl c))) → Q (.ref p) H2) : qListS [.str z] H Q :=
  ⟨z, rfl, hz, fun p hp => q p _ hp (ex_upd hp) (hb.mono (ex_upd hp)) (hid_new hb hp upd_same)⟩
theorem signs_of : ∀ {ms : List V}, (∀ m ∈ ms, ∃ c, m = V.str (sgl c) ∧ isLow c = true) → ∃ cs : List Nat, ms = cs.map (fun c => V.str (sgl c)) ∧ ∀ c ∈ cs, isLow c = true
  | [], _ => ⟨[], rfl, fun _ h => by cases h⟩
  | m :: ms, h => by
    obtain ⟨c, e, hc⟩ := h m List.mem_cons_self
    obtain ⟨cs, e2, hcs⟩ := signs_of fun x hx => h x (List.mem_cons_of_mem _ hx)
    refine ⟨c :: cs, by rw [e, e2]; rfl, fun x hx => ?_⟩
    rcases List.mem_cons.mp hx with rfl | hx
    · exact hc
    · exact hcs x hx
theorem app_cps (x y : Str) : (x ++ y).cps.toList = x.cps.toList ++ y.cps.toList := by
  show (x.cps ++ y.cps).toList = _
  rw [Array.toList_append]
theorem join_sgl0 : ∀ cs : List Nat, (Str.join (Str.ofString "") (cs.map sgl)).cps.toList = cs
  | [] => rfl
  | [c] => rfl
  | c :: d :: r => by
    show (sgl c ++ Str.ofString "" ++ Str.join (Str.ofString "") ((d :: r).map sgl)).cps.toList = _
    rw [app_cps, app_cps, join_sgl0 (d :: r)]
    have e : (Str.ofString "").cps.toList = [] := by decide +kernel
    rw [e]
    rfl
theorem join_sgl (cs : List Nat) : (Txt.join (Str.ofString "") (cs.map sgl)).cps.toList = cs := by
  have e : Txt.join (Str.ofString "") (cs.map sgl) = Str.join (Str.ofString "") (cs.map sgl) := PySem.StrLaws.glued_eq_join _ _
  rw [e]
  exact join_sgl0 cs
/-- a name, and what is none -/
theorem name_yes {x : Str} {cs : List Nat} (h : x.cps.toList = cs) (h1 : 1 ≤ cs.length) (h2 : cs.length ≤ 20) (hl : ∀ c ∈ cs, isLow c = true) : isName (.str x) = true := by
  have e : x.length = cs.length := by rw [← h, Array.length_toList]; rfl
  show (decide (1 ≤ x.length) && decide (x.length ≤ 20) && x.cps.toList.all isLow) = true
  rw [e, h, decide_eq_true h1, decide_eq_true h2]
  exact List.all_eq_true.mpr hl
theorem name_long {x : Str} (h : 21 ≤ x.length) : isName (.str x) = false := by
  show (decide (1 ≤ x.length) && decide (x.length ≤ 20) && x.cps.toList.all isLow) = false
  rw [decide_eq_false (p := x.length ≤ 20) (by omega), Bool.and_false, Bool.false_and]
theorem name_odd {x : Str} {c : Nat} (h : c ∈ x.cps.toList) (hc : isLow c = false) : isName (.str x) = false := by
  show (decide (1 ≤ x.length) && decide (x.length ≤ 20) && x.cps.toList.all isLow) = false
  have e : x.cps.toList.all isLow = false := by
    cases q : x.cps.toList.all isLow with
    | false => rfl
    | true =>
      have := List.all_eq_true.mp q c h
      rw [hc] at this
      cases this
  rw [e, Bool.and_false]
theorem i_lcNo {σ : L2.St} {vs : List Nat} {j : Nat} {te : TE} {tt : TT} {v : V} {ds : List PyData} (c : PyData → Bool) (h : Dp K H v (.list ds)) (hc : ∀ d ∈ ds, c d = false) (hw : ∀ x, wipe ((wipe σ vs).set j (some x)) vs = wipe σ vs)
    (ht : ∀ (u : V) (d : PyData) (H2 : Hp) (R : Bool → Hp → Prop), Ex H H2 → d ∈ ds → Dp K H2 u d → (∀ H3, Ex H2 H3 → R (c d) H3) → tt ((wipe σ vs).set j (some u)) H2 R)
    (q : ∀ p H2, H p = none → Ex H H2 → Dp K H2 (.ref p) (.list []) → Q (.ref p) H2) : tLc (iList K (tC v)) (gName j) tt te vs σ H Q := by
  obtain ⟨a, xs, rfl, hs, ha⟩ := dpLst h
  refine ⟨a, rfl, ⟨xs, hs⟩, fun D hD => lc_list (xs := xs) (fun i H' => H D = none ∧ Ex H H' ∧ H' D = some (.lst [])) ⟨hD, Ex.new hD, upd_same⟩ (fun i H' _ p => Evl.ex_l p.2.1 hs) (fun i x H' hi p => ⟨hw x, ?_⟩) (fun H' p => ?_)⟩
  · obtain ⟨d, hd, hx⟩ := dpIdx ha hi
    have hm := List.mem_of_getElem? hd
    refine ht x d H' _ p.2.1 hm (dpMono p.2.1 hx) fun H3 e3 => ?_
    rw [hc d hm]
    exact ⟨p.1, p.2.1.trans e3, e3 _ _ p.2.2⟩
  · exact q D H' p.1 p.2.1 (.lst (Evl.sq_of p.2.2) .nil)
theorem use_is_nameE {d : PyData} {r : Bool} (h : Dp K H v1 d) (hx : ∀ x, d = .str x → x.length ≤ 1000) (e : isName d = r) (q : ∀ H2, Ex H H2 → Q (.bl r) H2) : sp_is_name K [v1] H Q E := use_is_name h hx (by rw [e]; exact q)
local macro_rules | `(tactic| wtm_at "stb") => `(tactic| (first | ((with_reducible refine' i_qlistSB ?u0 ?u1 (fun np nH nfr nhe nhb nhp => ?uq)); (case u0 => wtm_at "bag"); (case u1 => decide +kernel)) | fail))
local macro_rules | `(tactic| wtm_at "st2") => `(tactic| (with_reducible refine' i_m1 ?uq))
theorem abc_low : ∀ c ∈ (Str.ofString "abcdefghijklmnopqrstuvwxyz").cps.toList, isLow c = true := by decide +kernel
theorem sum_sgl : ∀ cs : List Nat, ((cs.map sgl).map (·.length)).sum = cs.length
  | [] => rfl
  | c :: cs => by
    show (sgl c).length + ((cs.map sgl).map (·.length)).sum = cs.length + 1
    rw [sum_sgl cs]
    show 1 + cs.length = _
    omega
theorem dpaS {H : Hp} : ∀ cs : List Nat, DpAll K H (cs.map fun c => V.str (sgl c)) (cs.map fun c => PyData.str (sgl c))
  | [] => .nil
  | c :: cs => .cons (.str _) (dpaS cs)
local macro_rules | `(tactic| wtm_at "slen") => `(tactic| first | omega | (simp only [strLen_append]; omega))
local macro_rules | `(tactic| wtm_at "st2") => `(tactic| (first | ((with_reducible refine' i_addS ?u0 ?uq); (case u0 => wtm_at "slen")) | fail))
local macro_rules | `(tactic| wtm_at "st2") => `(tactic| (first | ((with_reducible refine' i_slS ?u0 ?uq); (case u0 => wtm_at "slen")) | fail))
theorem odd_low : ∀ c ∈ (Str.ofString " !-./059:@AMZ[_`{|~\n").cps.toList, isLow c = false := by decide +kernel
def sp__law_are_names (K : PySem.W.Frag) : Sp := A1 fun v1 H Q => ∃ b, v1 = .ref b ∧ Bag b H ∧ ∀ H2, Ex (hid b H) (hid b H2) → Bag b H2 → Q (.bl true) H2
abbrev s__law_are_names : Stmt := top 38
theorem sc__law_are_names : FnScope ["_law_bag_here", "_law_signs", "_law_name", "_law_at", "_law_odd", "_law_near", "_law_turn", "_law_one"] ["_law_bag_here"] (defScope s__law_are_names) := ⟨rfl, rfl, rfl, by decide +kernel, rfl, by decide +kernel, by decide +kernel⟩
theorem ok__law_are_names {f : Addr} {fd : FuncData} (F : FnP K "_law_are_names" s__law_are_names f fd) (g : G mg) {C : Addr} (c__law_one_of : Cl P w K mg base 2 "_law_one_of" (sp__law_one_of K)) (c__law_draw : Cl P w K mg base 1 "_law_draw" (sp__law_draw K)) (c_is_name : Cl P w K mg base 1 "is_name" (sp_is_name K)) : FnOk P w K mg base CX0 3 f fd ["_law_bag_here"] (sp__law_are_names K) := by
  have nd := sc__law_are_names.nd
  refine F.ok sc__law_are_names (fun vs H Q E h => h.len) (fun cdv A outer s H vs Q E hr h => ?_)
  obtain ⟨v1, rfl, h⟩ := h
  refine ⟨_, PSs.nox (pss_cons (ps_setLc (i := 1) (own := [("_law_turn", 6)]) (g := gName 6) (by rfl) nd rfl rfl (sw_true rfl rfl rfl (by decide +kernel)) (pi_range1 (by rfl) g.f_range (pa_cons (pe_op op_add pe_int (pc c__law_draw hr (by decide) (by rfl) (pa_cons (pv 0) (pa_cons pe_int pa_nil)))) pa_nil)) (blkOk_by (N := ["_law_bag_here", "_law_signs", "_law_name", "_law_at", "_law_odd", "_law_near", "_law_turn", "_law_one"]) (sc := defScope s__law_are_names) (own := [("_law_turn", 6)]) (by decide +kernel)) (fun _ _ _ _ _ => (pg_name (i := 6) nd rfl (Or.inl rfl))) (fun _ _ _ _ _ => pts_nil) (fun _ _ _ _ _ => (pc c__law_one_of hr (by decide) (by rfl) (pa_cons (pv 0) (pa_cons (pe_callTy (call_qlistS rfl) (by rfl) g.f_list boot_list (pa_cons pe_str pa_nil)) pa_nil))))) (pss_cons (ps_par (i := 2) (j := 3) (by rfl) nd rfl rfl (by decide) rfl rfl (pa_cons (pe_joinS pe_str (pv 1)) (pa_cons (pc c__law_draw hr (by decide) (by rfl) (pa_cons (pv 0) (pa_cons (pe_callB call_qlen (by rfl) g.f_len boot_len (pa_cons (pv 1) pa_nil)) pa_nil))) pa_nil)) (by rfl)) (pss_cons (ps_set (i := 4) nd rfl (Or.inl rfl) (pc c__law_one_of hr (by decide) (by rfl) (pa_cons (pv 0) (pa_cons (pe_callTy (call_qlistS rfl) (by rfl) g.f_list boot_list (pa_cons pe_str pa_nil)) pa_nil)))) (pss_cons (ps_set (i := 5) nd rfl (Or.inl rfl) (pe_lst (pa_cons (pe_op op_addS (pv 2) pe_str) (pa_cons pe_str (pa_cons (pe_op op_addS (pe_op op_addS (pe_slice sl_strS (pv 2) po_none (po_some (pv 3))) (pv 4)) (pe_slice sl_strS (pv 2) (po_some (pe_op op_add (pv 3) pe_int)) po_none)) (pa_cons (pe_op op_addS (pe_slice sl_strS (pv 2) po_none (po_some pe_int)) (pv 4)) (pa_cons (pv 1) (pa_cons pe_non (pa_cons (pe_tup (pa_cons (pv 2) pa_nil)) (pa_cons pe_int pa_nil)))))))))) (pss_one (ps_ret (pe_and (pe_cmpR op_isBl (pc c_is_name hr (by decide) (by rfl) (pa_cons (pv 2) pa_nil)) pe_bl (nomark _)) (pe_one (pe_cmpR (op_eqD hr.units) (pe_lc (own := [("_law_one", 7)]) (g := gName 7) (by rfl) nd (pi_list (pv 5)) (blkOk_by (N := ["_law_bag_here", "_law_signs", "_law_name", "_law_at", "_law_odd", "_law_near", "_law_turn", "_law_one"]) (sc := defScope s__law_are_names) (own := [("_law_one", 7)]) (by decide +kernel)) (fun _ _ _ _ _ => (pg_name (i := 7) nd rfl (Or.inl rfl))) (fun _ _ _ _ _ => (pts_one (pt_cmpR op_notBl (pc c_is_name hr (by decide) (by rfl) (pa_cons (pv 7) pa_nil)) pe_bl (nomark _)))) (fun _ _ _ _ _ => (pv 7))) (pe_lst pa_nil) (nomark _)))))))))), ?_⟩
  obtain ⟨b, rfl, hb, q⟩ := h
  wtm_at "gob0"
  refine i_lcRU ?_
  wtm_at "gob"
  rename_i n H2 n0 n1 e2 b2
  obtain ⟨m, hm⟩ : ∃ m : Nat, 1 + n = (m : Int) := ⟨(1 + n).toNat, by omega⟩
  rw [hm]
  refine i_lcRBV (b := b) (PV := fun v => ∃ c, v = V.str (sgl c) ∧ isLow c = true) (n := m) b2 (by omega) (fun x => rfl) ?_ ?_
  · intro i3 H3 R e3 b3 r
    wtm_at "nrm"
    wtm_at "gob"
    rename_i np nH nfr nhe nhb nhp
    refine' use__law_one_ofV ?o1 (Evl.sq_of ?o2) ?o4 ?o5 ?o3
    case o1 => exact nhb
    case o2 => exact nhp
    case o4 => rw [List.length_map]; decide +kernel
    case o5 => rw [List.length_map]; decide +kernel
    intro v H4 hv e4 b4
    obtain ⟨c, hc, rfl⟩ := List.mem_map.mp hv
    exact r _ _ ⟨c, rfl, abc_low c hc⟩ (by wtm_at "ex") b4
  intro p ms H3 hl hP e3 b3 hp
  obtain ⟨cs, rfl, hcs⟩ := signs_of hP
  have hlen : cs.length = m := by simpa using hl
  have hm1 : 1 ≤ m := by omega
  have hm2 : m ≤ 20 := by omega
  have hdS : Dp K (hid b H3) (.ref p) (.list (cs.map fun c => PyData.str (sgl c))) := .lst (Evl.sq_of hp) (dpaS cs)
  have hA : (List.map (fun c => PyData.str (sgl c)) cs).length = m := by rw [List.length_map]; exact hlen
  have sA : Sz 9000 ((List.map (fun c => PyData.str (sgl c)) cs).length : Int) := by rw [hA]; exact sz_mono (sz_lit (by omega)) (by decide)
  wtm_at "gob"
  have jz : ((cs.map sgl).map (·.length)).sum + (cs.map sgl).length * (Str.ofString "").length ≤ 16777216 := by
    have e0 : (Str.ofString "").length = 0 := by decide +kernel
    rw [sum_sgl, List.length_map, e0]
    omega
  refine ⟨⟨_, rfl⟩, i_var rfl ⟨_, p, cs.map sgl, rfl, rfl, .inl (Evl.sq_of (by rw [List.map_map]; exact (of_hid hp).2)), jz, ?_⟩⟩
  have hx : (Txt.join (Str.ofString "") (cs.map sgl)).cps.toList = cs := join_sgl cs
  generalize Txt.join (Str.ofString "") (cs.map sgl) = x at hx ⊢
  have xl : x.length = m := by
    rw [← hlen, ← hx, Array.length_toList]
    rfl
  have ny := name_yes hx (by omega) (by omega) hcs
  clear hl hP
  wtm_at "gob"
  rename_i at' H4 a0 a1 e4 b4 np nH nfr nhe nhb nhp
  refine' use__law_one_ofV ?w1 (Evl.sq_of ?w2) ?w4 ?w5 ?w3
  case w1 => exact nhb
  case w2 => exact nhp
  case w4 => rw [List.length_map]; decide +kernel
  case w5 => rw [List.length_map]; decide +kernel
  intro v H5 hv e5 b5
  obtain ⟨o, ho, rfl⟩ := List.mem_map.mp hv
  have hol := odd_low o ho
  have l1 := cutS_length x none (some at')
  have l2 := cutS_length x (some (at' + 1)) none
  have l3 := cutS_length x none (some 10)
  have l4 : (sgl o).length = 1 := rfl
  have l5 : (Str.ofString "abcdefghijklmnopqrst").length = 20 := by decide +kernel
  have n1 : isName (.str (x ++ Str.ofString "abcdefghijklmnopqrst")) = false := name_long (by rw [strLen_append]; omega)
  have n2 : isName (.str (cutS x none (some at') ++ sgl o ++ cutS x (some (at' + 1)) none)) = false := name_odd (c := o) (by rw [app_cps, app_cps]; exact List.mem_append_left _ (List.mem_append_right _ List.mem_cons_self)) hol
  have n3 : isName (.str (cutS x none (some 10) ++ sgl o)) = false := name_odd (c := o) (by rw [app_cps]; exact List.mem_append_right _ List.mem_cons_self) hol
  wtm_at "gob"
  rename_i pt Ht et bt hpt pn Hn fn en bn hpn
  have hN : Dp K (hid b Hn) (.ref pn) (.list [.str (x ++ Str.ofString "abcdefghijklmnopqrst"), .str (Str.ofString ""), .str (cutS x none (some at') ++ sgl o ++ cutS x (some (at' + 1)) none), .str (cutS x none (some 10) ++ sgl o), .list (cs.map fun c => PyData.str (sgl c)), .none, .tuple [.str x], .int 5]) := by wtm_at "dp"
  refine use_is_nameE (.str x) (fun y e => by cases e; omega) ny (fun H6 e6 => ?_)
  wtm_at "gob"
  refine i_lcM ?_
  wtm_at "gob"
  have hN6 := dpMono (show Ex (hid b Hn) H6 by wtm_at "ex") hN
  have hno : ∀ d ∈ [PyData.str (x ++ Str.ofString "abcdefghijklmnopqrst"), .str (Str.ofString ""), .str (cutS x none (some at') ++ sgl o ++ cutS x (some (at' + 1)) none), .str (cutS x none (some 10) ++ sgl o), .list (cs.map fun c => PyData.str (sgl c)), .none, .tuple [.str x], .int 5], isName d = false ∧ ∀ y, d = .str y → y.length ≤ 1000 := by
    intro d hd
    simp only [List.mem_cons, List.not_mem_nil, or_false] at hd
    rcases hd with rfl | rfl | rfl | rfl | rfl | rfl | rfl | rfl
    · exact ⟨n1, fun y e => by cases e; rw [strLen_append]; omega⟩
    · exact ⟨by decide +kernel, fun y e => by cases e; decide +kernel⟩
    · exact ⟨n2, fun y e => by cases e; rw [strLen_append, strLen_append]; omega⟩
    · exact ⟨n3, fun y e => by cases e; rw [strLen_append]; omega⟩
    · exact ⟨rfl, fun y e => by cases e⟩
    · exact ⟨rfl, fun y e => by cases e⟩
    · exact ⟨rfl, fun y e => by cases e⟩
    · exact ⟨rfl, fun y e => by cases e⟩
  refine i_lcNo (K := K) isName hN6 (fun d hd => (hno d hd).1) (fun x => rfl) (fun u d H7 R e7 hd7 hu r => ?_) (fun pz H7 nz e7 hz => ?_)
  · obtain ⟨k1, k2⟩ := hno d hd7
    wtm_at "nrm"
    wtm_at "gob"
    refine use_is_nameE hu k2 k1 (fun H8 e8 => ?_)
    wtm_at "gob"
    rw [k1] at r
    exact r _ (by wtm_at "ex")
  · have b7 : Bag b H7 := by wtm_at "bag"
    wtm_at "gob"
    have ez : PyData.eqv (.list []) (.list []) = true := by simp [PyData.eqv, PyData.eqvAll]
    rw [ez]
    exact q _ (by wtm_at "ex") (by wtm_at "bag")
theorem use__law_are_names {b : Addr} (hb : Bag b H) (q : ∀ H2, Ex (hid b H) (hid b H2) → Bag b H2 → Q (.bl true) H2) : sp__law_are_names K [.ref b] H Q E := ⟨_, rfl, _, rfl, hb, q⟩
end
end Wb

namespace Wb
open PySem PySem.Spec PyProof.Rows L2
open Evl (Ex Ex.refl Ex.trans Ex.new)
local macro_rules | `(tactic| wtm_at "dp") => `(tactic| first | with_reducible assumption | with_reducible exact Dp.int _ | with_reducible exact Dp.bl _ | with_reducible exact Dp.str _ | with_reducible exact Dp.non | ((with_reducible refine' dpMono ?dme (by with_reducible assumption)); (case dme => wtm_at "ex")) | ((with_reducible refine' Dp.tup (Evl.st_of ?dph) ?dpa); (case dph => wtm_at "hs"); (case dpa => wtm_at "dpa")) | ((with_reducible refine' Dp.lst (Evl.sq_of ?dph) ?dpa); (case dph => wtm_at "hs"); (case dpa => wtm_at "dpa")))
local macro_rules | `(tactic| wtm_at "dpa") => `(tactic| first | with_reducible exact DpAll.nil | ((with_reducible refine' DpAll.cons ?dp1 ?dp2); (case dp1 => wtm_at "dp"); (case dp2 => wtm_at "dpa")) | with_reducible assumption | ((with_reducible refine' dpMonoA ?dme (by with_reducible assumption)); (case dme => wtm_at "ex")))
local macro_rules | `(tactic| wtm_at "sz") => `(tactic| first | with_reducible assumption | ((with_reducible refine' sz_mul ?sz1 ?sz2); (case sz1 => wtm_at "sz"); (case sz2 => wtm_at "sz")) | ((with_reducible refine' sz_add ?sz1 ?sz2); (case sz1 => wtm_at "sz"); (case sz2 => wtm_at "sz")) | ((with_reducible refine' sz_sub ?sz1 ?sz2); (case sz1 => wtm_at "sz"); (case sz2 => wtm_at "sz")) | ((with_reducible refine' sz_neg ?sz1); (case sz1 => wtm_at "sz")) | ((with_reducible refine' sz_div ?sz1); (case sz1 => wtm_at "sz")) | ((with_reducible refine' sz_fdiv ?sz1); (case sz1 => wtm_at "sz")) | exact sz_lit (by decide) | wtm_at "sz2")
local macro_rules | `(tactic| wtm_at "szb") => `(tactic| first | with_reducible assumption | ((with_reducible refine' sz_mono ?szb1 ?szb2); (case szb1 => wtm_at "sz"); (case szb2 => decide)))
local macro_rules | `(tactic| wtm_at "nz") => `(tactic| first | assumption | decide | omega)
local macro_rules | `(tactic| wtm_at "shaped") => `(tactic| first | rfl | decide)
local macro_rules | `(tactic| wtm_at "sset") => `(tactic| ((dsimp only [L2.wipe, List.set, List.set_cons_zero, List.set_cons_succ]) <;> exact rfl))
local macro_rules | `(tactic| wtm_at "nrm") => `(tactic| dsimp only [L2.start, L2.wipe, List.set, List.append, List.map, List.map_cons, List.map_nil, List.length_cons, List.length_nil, Nat.reduceAdd, Nat.reduceSub, List.reduceReplicate, List.replicate, List.cons_append, List.nil_append, List.set_cons_zero, List.set_cons_succ])
local macro_rules | `(tactic| wtm_at "st") => `(tactic| first
  | ((with_reducible refine' i_var (v := ?u0) ?u1 ?uq); (case u1 => exact rfl))
  | ((with_reducible refine' i_nameN ?u0 ?uq); (case u0 => wtm_at "sset"))
  | (with_reducible refine' i_op ?uq)
  | (with_reducible refine' i_c ?uq)
  | (with_reducible refine' i_I0 ?uq)
  | ((with_reducible refine' i_ixTI (i := ?u0) ?u1 ?u2 ?u3 ?uq); (case u1 => wtm_at "dp"); (case u2 => wtm_at "ex"); (case u3 => exact rfl))
  | ((with_reducible refine' i_ixT (d := ?u0) ?u1 ?u2 ?u3 (fun xu hxu => ?uq)); (case u1 => wtm_at "dp"); (case u2 => wtm_at "ex"); (case u3 => exact rfl))
  | ((with_reducible refine' i_mul ?u0 ?u1 ?u2 ?uq); (case u0 => wtm_at "sz"); (case u1 => wtm_at "sz"); (case u2 => first | decide | omega))
  | (with_reducible refine' i_seq ?uq)
  | (with_reducible refine' i_asg ?uq)
  | (with_reducible refine' i_ret ?uq)
  | (with_reducible refine' i_ifs ?uq)
  | (with_reducible refine' i_drop ?uq)
  | (with_reducible refine' i_next ?uq)
  | (with_reducible refine' i_cons ?uq)
  | (with_reducible refine' i_nil ?uq)
  | (with_reducible refine' i_cl ?uq)
  | (with_reducible refine' i_cb ?uq)
  | (with_reducible refine' i_tup ?uq)
  | (with_reducible refine' i_lst ?uq)
  | ((with_reducible refine' i_mkT ?u0 (fun np nH nhe nhp => ?uq)); (case u0 => exact Nat.le_of_ble_eq_true rfl))
  | (with_reducible refine' i_test ?uq)
  | (with_reducible refine' i_B ?uq)
  | (with_reducible refine' i_k ?uq)
  | (with_reducible refine' i_and ?uq)
  | (with_reducible refine' i_or ?uq)
  | (with_reducible refine' i_not ?uq)
  | (with_reducible refine' i_andV ?uq)
  | (with_reducible refine' i_orV ?uq)
  | (with_reducible refine' i_notV ?uq)
  | (with_reducible refine' i_if ?uq)
  | (with_reducible refine' i_un ?uq)
  | (with_reducible refine' i_U ?uq)
  | (with_reducible refine' i_iteT ?uq)
  | (with_reducible refine' i_iteF ?uq)
  | ((with_reducible refine' i_iteTr ?u0 ?uq); (case u0 => first | with_reducible rfl | decide | (simp only [dIsInt, dIsBool, dIsTup, dIsStr, dIsLst, Bool.not_true, Bool.not_false]; done)))
  | ((with_reducible refine' i_iteFr ?u0 ?uq); (case u0 => first | with_reducible rfl | decide | (simp only [dIsInt, dIsBool, dIsTup, dIsStr, dIsLst, Bool.not_true, Bool.not_false]; done)))
  | (with_reducible refine' i_ite (fun hif => ?uqa) (fun hif => ?uqb))
  | (with_reducible refine' i_iteN (fun hif => ?uqa) (fun hif => ?uqb))
  | (with_reducible refine' i_iteBN (fun hif => ?uqa) (fun hif => ?uqb))
  | (with_reducible refine' i_iteB (fun hif => ?uqa) (fun hif => ?uqb))
  | ((with_reducible refine' i_modN ?u0 ?uq); (case u0 => wtm_at "nz"))
  | ((with_reducible refine' i_fdX ?u0 ?u1 ?u2 ?uq); (case u0 => wtm_at "nz"); (case u1 => wtm_at "sz"); (case u2 => first | decide | omega))
  | ((with_reducible refine' i_pow ?u0 ?uq); (case u0 => exact ⟨by decide, by decide +kernel⟩))
  | (with_reducible refine' i_eqI ?uq)
  | (with_reducible refine' i_neI ?uq)
  | (with_reducible refine' i_gcd ?uq)
  | (with_reducible refine' i_qabs ?uq)
  | (with_reducible refine' i_qint ?uq)
  | (with_reducible refine' i_qintB ?uq)
  | (with_reducible refine' i_qmax2 ?uq)
  | (with_reducible refine' i_qmin2 ?uq)
  | (with_reducible refine' i_isB ?uq)
  | (with_reducible refine' i_notB ?uq)
  | (with_reducible refine' i_chain ?uq)
  | (with_reducible refine' i_qisN ?uq)
  | (with_reducible refine' i_qnotN ?uq)
  | (with_reducible refine' i_yes ?uq)
  | (with_reducible refine' i_par ?uq)
  | (with_reducible refine' i_par3 ?uq)
  | ((with_reducible refine' i_par2 ?u0 ?uq); (case u0 => wtm_at "sset"))
  | ((with_reducible refine' i_par33 ?u0 ?uq); (case u0 => wtm_at "sset"))
  | ((with_reducible refine' i_ixLI (i := ?u0) ?u1 ?u2 ?u3 ?uq); (case u1 => wtm_at "dp"); (case u2 => wtm_at "ex"); (case u3 => exact rfl))
  | ((with_reducible refine' i_ixL (d := ?u0) ?u1 ?u2 ?u3 (fun xu hxu => ?uq)); (case u1 => wtm_at "dp"); (case u2 => wtm_at "ex"); (case u3 => exact rfl))
  | ((with_reducible refine' i_qlenT ?u0 ?uq); (case u0 => wtm_at "dp"))
  | ((with_reducible refine' i_qlenL ?u0 ?uq); (case u0 => wtm_at "dp"))
  | ((with_reducible refine' i_gtup ?u0 ?u1 ?u2 (fun gvs gdp => ?uq)); (case u0 => wtm_at "dp"); (case u1 => wtm_at "ex"); (case u2 => exact rfl))
  | ((with_reducible refine' i_glst ?u0 ?u1 ?u2 (fun gvs gdp => ?uq)); (case u0 => wtm_at "dp"); (case u1 => wtm_at "ex"); (case u2 => exact rfl))
  | ((with_reducible refine' i_gconsI ?u0 (fun gr gh => ?uq)); (case u0 => with_reducible assumption))
  | ((with_reducible refine' i_gconsA ?u0 (fun gv gr gh1 gh2 => ?uq)); (case u0 => with_reducible assumption))
  | ((with_reducible refine' i_gnilA ?u0 ?uq); (case u0 => with_reducible assumption))
  | ((with_reducible refine' i_isiI ?u0 ?uq); (case u0 => wtm_at "dp"))
  | ((with_reducible refine' i_isiB ?u0 ?uq); (case u0 => wtm_at "dp"))
  | ((with_reducible refine' i_isiT ?u0 ?uq); (case u0 => wtm_at "dp"))
  | ((with_reducible refine' i_isiS ?u0 ?uq); (case u0 => wtm_at "dp"))
  | ((with_reducible refine' i_isiL ?u0 ?uq); (case u0 => wtm_at "dp"))
  | ((with_reducible refine' i_eqD ?u0 ?u1 ?u2 ?u3 ?uq); (case u0 => wtm_at "dp"); (case u1 => wtm_at "dp"); (case u2 => wtm_at "shaped"); (case u3 => wtm_at "shaped"))
  | ((with_reducible refine' i_neD ?u0 ?u1 ?u2 ?u3 ?uq); (case u0 => wtm_at "dp"); (case u1 => wtm_at "dp"); (case u2 => wtm_at "shaped"); (case u3 => wtm_at "shaped"))
  | wtm_at "st2"
  | wtm_at "use")
local macro_rules | `(tactic| wtm_at "go") => `(tactic| repeat' (wtm_at "st"))
local macro_rules | `(tactic| wtm_at "go0") => `(tactic| ((try dsimp only [L2.cxOf, L2.Cx.nox, L2.Cx.wish, L2.Cx.tr, L2.Cx.blk]); (try wtm_at "nrm"); wtm_at "go"))
local macro_rules | `(tactic| wtm_at "fin") => `(tactic| ((try dsimp only); first | with_reducible assumption | assumption | ((with_reducible refine' Ret.use ?rur ?rue ?rud); (case rur => with_reducible assumption); (case rue => wtm_at "ex"); (case rud => wtm_at "dp"))))
local macro_rules | `(tactic| wtm_at "ex") => `(tactic| first | with_reducible assumption | with_reducible exact Ex.refl _ | with_reducible exact ex_hid | ((with_reducible refine' Ex.trans ?exe (by with_reducible assumption)); (case exe => wtm_at "ex")) | ((with_reducible refine' Ex.trans ?exe (hid_ex (by with_reducible assumption))); (case exe => wtm_at "ex")) | ((with_reducible refine' Ex.trans ?exe ex_hid); (case exe => wtm_at "ex")))
local macro_rules | `(tactic| wtm_at "bag") => `(tactic| first | with_reducible assumption | ((with_reducible refine' Bag.mono ?bgm (by with_reducible assumption)); (case bgm => wtm_at "bag")))
local macro_rules | `(tactic| wtm_at "hs") => `(tactic| first | with_reducible assumption | ((with_reducible refine' hid_tup ?hb ?hp); (case hp => with_reducible assumption); (case hb => wtm_at "bag")) | ((with_reducible refine' hid_new ?hb ?hn ?hp); (case hp => with_reducible assumption); (case hn => with_reducible assumption); (case hb => wtm_at "bag")) | ((with_reducible refine' ex_at ?exe (by with_reducible assumption)); (case exe => wtm_at "ex")))
local macro_rules | `(tactic| wtm_at "st2") => `(tactic| first
  | ((with_reducible refine' i_mulC ?u0 ?uq); (case u0 => first | exact cmul_l (by decide) | exact cmul_r (by decide)))
  | ((with_reducible refine' i_ixLr (v := ?u0) ?u1 ?u2 ?uq); (case u1 => with_reducible assumption); (case u2 => exact rfl))
  | (with_reducible refine' i_sub ?uq)
  | ((with_reducible refine' i_mkL ?u0 (fun np nH nfr nhe nhp => ?uq)); (case u0 => exact Nat.le_of_ble_eq_true rfl))
  | ((with_reducible refine' i_setL (n := ?u0) ?u1 ?u2 (fun sH sh se => ?uq)); (case u1 => with_reducible assumption); (case u2 => exact rfl))
  | (with_reducible refine' i_sl ?uq)
  | (with_reducible refine' i_nopart ?uq)
  | (with_reducible refine' i_part ?uq)
  | (with_reducible refine' i_part1 ?uq))
local macro_rules | `(tactic| wtm_at "sz2") => `(tactic| ((with_reducible refine' sz_fmod ?sz1 ?sz2); (case sz1 => wtm_at "nz"); (case sz2 => wtm_at "sz")))
local macro_rules | `(tactic| wtm_at "stb") => `(tactic| first
  | ((with_reducible refine' i_mkTB ?u0 ?u1 (fun np nH nhe nhb nhp => ?uq)); (case u0 => exact Nat.le_of_ble_eq_true rfl); (case u1 => wtm_at "bag"))
  | ((with_reducible refine' i_mkLB ?u0 ?u1 (fun np nH nfr nhe nhb nhp => ?uq)); (case u0 => exact Nat.le_of_ble_eq_true rfl); (case u1 => wtm_at "bag"))
  | wtm_at "st")
local macro_rules | `(tactic| wtm_at "gob") => `(tactic| repeat' (wtm_at "stb"))
local macro_rules | `(tactic| wtm_at "gob0") => `(tactic| ((try dsimp only [L2.cxOf, L2.Cx.nox, L2.Cx.wish, L2.Cx.tr, L2.Cx.blk]); (try wtm_at "nrm"); wtm_at "gob"))
local macro_rules | `(tactic| wtm_at "use") => `(tactic| ((with_reducible refine' use__law_draw ?u0 ?u1 ?u2 (fun dn dH dn0 dn1 de db => ?uq)); (case u0 => wtm_at "bag"); (case u1 => wtm_at "pos"); (case u2 => wtm_at "szb")))
local macro_rules | `(tactic| wtm_at "pos") => `(tactic| first | assumption | decide | omega)
local macro_rules | `(tactic| wtm_at "use") => `(tactic| (first | ((with_reducible refine' use_plusE ?u8 ?u0 ?u1 ?u2 ?u3 ?u4 ?u5 ?u6 ?u7 (fun ur uH ue ud => ?uq)); (case u0 => wtm_at "dp"); (case u1 => wtm_at "dp"); (case u8 => with_reducible assumption); (case u2 => with_reducible assumption); (case u3 => with_reducible assumption); (case u4 => wtm_at "szb"); (case u5 => wtm_at "szb"); (case u6 => wtm_at "szb"); (case u7 => wtm_at "szb")) | fail))
local macro_rules | `(tactic| wtm_at "use") => `(tactic| (first | ((with_reducible refine' use_minusE ?u8 ?u0 ?u1 ?u2 ?u3 ?u4 ?u5 ?u6 ?u7 (fun ur uH ue ud => ?uq)); (case u0 => wtm_at "dp"); (case u1 => wtm_at "dp"); (case u8 => with_reducible assumption); (case u2 => with_reducible assumption); (case u3 => with_reducible assumption); (case u4 => wtm_at "szb"); (case u5 => wtm_at "szb"); (case u6 => wtm_at "szb"); (case u7 => wtm_at "szb")) | fail))
local macro_rules | `(tactic| wtm_at "use") => `(tactic| (first | ((with_reducible refine' use_timesE ?u8 ?u0 ?u1 ?u2 ?u3 ?u4 ?u5 ?u6 ?u7 (fun ur uH ue ud => ?uq)); (case u0 => wtm_at "dp"); (case u1 => wtm_at "dp"); (case u8 => with_reducible assumption); (case u2 => with_reducible assumption); (case u3 => with_reducible assumption); (case u4 => wtm_at "szb"); (case u5 => wtm_at "szb"); (case u6 => wtm_at "szb"); (case u7 => wtm_at "szb")) | fail))
local macro_rules | `(tactic| wtm_at "use") => `(tactic| (first | ((with_reducible refine' use_is_lessE ?u8 ?u0 ?u1 ?u2 ?u3 ?u4 ?u5 ?u6 ?u7 (fun uH ue => ?uq)); (case u0 => wtm_at "dp"); (case u1 => wtm_at "dp"); (case u8 => with_reducible assumption); (case u2 => with_reducible assumption); (case u3 => with_reducible assumption); (case u4 => wtm_at "szb"); (case u5 => wtm_at "szb"); (case u6 => wtm_at "szb"); (case u7 => wtm_at "szb")) | fail))
local macro_rules | `(tactic| wtm_at "use") => `(tactic| (first | ((with_reducible refine' use_whole_below ?u0 ?u1 ?u2 (fun uH ue => ?uq)); (case u0 => wtm_at "dp"); (case u1 => with_reducible assumption); (case u2 => wtm_at "szb")) | fail))
local macro_rules | `(tactic| wtm_at "use") => `(tactic| (first | ((with_reducible refine' use_whole_above ?u0 ?u1 ?u2 (fun uH ue => ?uq)); (case u0 => wtm_at "dp"); (case u1 => with_reducible assumption); (case u2 => wtm_at "szb")) | fail))
local macro_rules | `(tactic| wtm_at "use") => `(tactic| (first | ((with_reducible refine' use__law_is_justE ?u5 ?u0 ?u1 ?u2 ?u3 ?u4 ?uq); (case u0 => wtm_at "dp"); (case u5 => with_reducible assumption); (case u1 => wtm_at "szb"); (case u2 => wtm_at "szb"); (case u3 => wtm_at "szb"); (case u4 => wtm_at "szb")) | fail))
local macro_rules | `(tactic| wtm_at "use") => `(tactic| (first | ((with_reducible refine' use__law_is_whole ?u0 ?uq); (case u0 => wtm_at "dp")) | fail))
local macro_rules | `(tactic| wtm_at "st2") => `(tactic| (with_reducible refine' i_cs ?uq))
section
variable {P : Program} {w : World} {K : PySem.W.Frag} {mg : Str → Option Value} {base : Heap} {H H' : Hp} {Q : VK} {E : XK} {v1 v2 v3 v4 : V}
theorem Lf.sz {x w X W : Int} (l : Lf x w X W) (hW : W ≠ 0) {n m : Nat} (s1 : Sz n X) (s2 : Sz m W) : Sz n x ∧ Sz m w := by
  obtain ⟨x', w', _, l', z1, z2⟩ := rf_ex (X := X) hW
  obtain ⟨rfl, rfl⟩ := l.same l' hW hW rfl
  exact ⟨z1 n s1, z2 m s2⟩
theorem rf_self {x w X W : Int} (l : Lf x w X W) : rf x w = fq x w := by
  have hw := l.hw
  obtain ⟨x', w', r, l', _, _⟩ := rf_ex (X := x) (W := w) (by omega)
  have l2 : Lf x w x w := ⟨rfl, l.hw, l.g1⟩
  obtain ⟨rfl, rfl⟩ := l'.same l2 (by omega) (by omega) rfl
  exact r
theorem i_forLS {σ : L2.St} {tb : TS} {D : Ends} {j : Nat} {ns : List Int} {a : Addr} (h : SqL K H a (ns.map V.int)) (Pv : Nat → L2.St → Hp → Prop) (h0 : Pv 0 σ H) (hl : ∀ i σ' H', Pv i σ' H' → SqL K H' a (ns.map V.int))
    (hs : ∀ (i : Nat) (x : Int) σ' H', ns[i]? = some x → Pv i σ' H' → tb { D with nx := Pv (i + 1), ct := Pv (i + 1), bk := D.nx } (σ'.set j (some (.int x))) H') (hd : ∀ σ' H', Pv ns.length σ' H' → D.nx σ' H') : tFor (iList K (tC (.ref a))) (gName j) tb D σ H := by
  refine ⟨a, rfl, ⟨_, h⟩, for_list (xs := ns.map V.int) Pv h0 (fun i σ' H' _ p => hl i σ' H' p) (fun i x σ' H' hi p => ?_) (fun σ' H' p => hd σ' H' (by rw [List.length_map] at p; exact p))⟩
  rw [List.getElem?_map] at hi
  cases e : ns[i]? with
  | none => rw [e] at hi; cases hi
  | some y =>
    rw [e] at hi
    cases hi
    exact hs i y σ' H' e p
theorem dpHid {b : Addr} {x w : Int} {v : V} (hb : Bag b H) (h : Dp K H v (fq x w)) : Dp K (hid b H) v (fq x w) := by
  obtain ⟨a, vs, rfl, hs, ha⟩ := dpTup h
  cases ha with
  | cons h1 ha => cases ha with
    | cons h2 ha =>
      cases ha
      cases dpInt h1
      cases dpInt h2
      refine .tup ?_ (.cons (.int _) (.cons (.int _) .nil))
      obtain ⟨y1, y2, y3, hb1, _⟩ := hb.ex
      rcases hs with (h1 | ⟨o, h1⟩) | h1
      · exact .inl (.inl (hid_of h1 (ne_of h1 hb1 (by intro z; cases z))))
      · exact .inl (.inr ⟨o, hid_of h1 (ne_of h1 hb1 (by intro z; cases z))⟩)
      · exact .inr h1
theorem use_lowest_ofE {a b x w : Int} {C : Addr} (r : rf a b = fq x w) (hb : b ≠ 0) (sb : Sz 9000 b) (q : ∀ v H2, Ex H H2 → Dp K H2 v (fq x w) → Q v H2) : sp_lowest_of K C [.int a, .int b] H Q E := use_lowest_of hb sb (by rw [r]; exact q)
theorem sz_add2 {n : Nat} {i j : Int} (h1 : Sz n i) (h2 : Sz n j) : Sz (n + 1) (i + j) := by
  unfold Sz at *
  rw [Nat.pow_succ]
  have := Int.natAbs_add_le i j
  omega
theorem cut63 {ns ms : List Int} (h : cutV (ns.map V.int) none (some 63) = ms.map V.int) : ms.length ≤ 63 := by
  have e := congrArg List.length h
  rw [List.length_map] at e
  rw [← e]
  unfold cutV
  rw [List.length_take]
  have e1 : HT.sIx (ns.map V.int).length (ns.map V.int).length (some 63) = min 63 (ns.map V.int).length := HT.sIx_nat _ _ 63
  rw [e1]
  omega
local macro_rules | `(tactic| wtm_at "use") => `(tactic| (first | ((with_reducible refine' use_lowest_ofE ?u0 ?u1 ?u2 (fun ur uH ue ud => ?uq)); (case u0 => with_reducible assumption); (case u1 => wtm_at "nz"); (case u2 => wtm_at "szb")) | fail))
local macro_rules | `(tactic| wtm_at "use") => `(tactic| (first | ((with_reducible refine' use__law_bag ?u0 ?u1 ?u2 (fun bb bH bn be bg => ?uq)); (case u0 => with_reducible assumption); (case u1 => omega); (case u2 => omega)) | fail))
local macro_rules | `(tactic| wtm_at "use") => `(tactic| (first | ((with_reducible refine' use__law_integer ?u0 (fun dn dH dsz de db => ?uq)); (case u0 => wtm_at "bag")) | fail))
local macro_rules | `(tactic| wtm_at "use") => `(tactic| (first | ((with_reducible refine' use__law_bottom ?u0 (fun dn dH dnz dsz de db => ?uq)); (case u0 => wtm_at "bag")) | fail))
local macro_rules | `(tactic| wtm_at "use") => `(tactic| (first | ((with_reducible refine' use__law_are_right (v5 := .non) (v6 := .non) ?u0 ?u1 ?u2 (fun uH ue => ?uq)); (case u0 => wtm_at "dp"); (case u1 => wtm_at "dp"); (case u2 => with_reducible assumption)) | fail))
local macro_rules | `(tactic| wtm_at "use") => `(tactic| (first | ((with_reducible refine' use__law_are_refused ?u0 ?u1 ?u2 (fun uH ue ub => ?uq)); (case u0 => wtm_at "bag"); (case u1 => wtm_at "dp"); (case u2 => with_reducible assumption)) | fail))
local macro_rules | `(tactic| wtm_at "use") => `(tactic| (first | ((with_reducible refine' use__law_are_names ?u0 (fun uH ue ub => ?uq)); (case u0 => wtm_at "bag")) | fail))
local macro_rules | `(tactic| wtm_at "stb") => `(tactic| (first | ((with_reducible refine' i_iteFr ?u0 ?uq); (case u0 => with_reducible exact fq_ne rfl rfl)) | fail))
def sp_law (K : PySem.W.Frag) : Sp := A1 fun v1 H Q => ∃ (a : Addr) (ns : List Int), v1 = .ref a ∧ SqL K H a (ns.map V.int) ∧ ∀ H2, Q (.bl true) H2
local macro_rules | `(tactic| wtm_at "st2") => `(tactic| (first | ((with_reducible refine' i_qlenS ?u0 ?uq); (case u0 => with_reducible assumption)) | fail))
abbrev s_law : Stmt := top 39
theorem sc_law : FnScope ["_law_script", "_law_top", "_law_bottom_here", "_law_sum_told", "_law_cell", "_law_more", "_law_under", "_law_at", "_law_bag_here", "_law_a", "_law_b", "_law_c", "_law_d", "_law_one", "_law_other"] ["_law_script"] (defScope s_law) := ⟨rfl, rfl, rfl, by decide +kernel, rfl, by decide +kernel, by decide +kernel⟩
theorem ok_law {f : Addr} {fd : FuncData} (F : FnP K "law" s_law f fd) (g : G mg) {C : Addr} (c_plus : ClX P w K mg base 4 "plus" (sp_plus K C)) (c__law_is_just : Cl P w K mg base 2 "_law_is_just" (sp__law_is_just K)) (c__law_bag : Cl P w K mg base 1 "_law_bag" (sp__law_bag K)) (c_lowest_of : ClX P w K mg base 3 "lowest_of" (sp_lowest_of K C)) (c__law_integer : Cl P w K mg base 3 "_law_integer" (sp__law_integer K)) (c__law_bottom : Cl P w K mg base 4 "_law_bottom" (sp__law_bottom K)) (c__law_draw : Cl P w K mg base 1 "_law_draw" (sp__law_draw K)) (c__law_are_right : Cl P w K mg base 5 "_law_are_right" (sp__law_are_right K)) (c__law_are_refused : ClG P w K mg base 6 "_law_are_refused" (sp__law_are_refused K)) (c__law_are_names : Cl P w K mg base 3 "_law_are_names" (sp__law_are_names K)) : FnG P w K mg base CX0 7 f fd ["_law_script"] (sp_law K) := by
  have nd := sc_law.nd
  refine okG F sc_law (fun vs H Q E h => h.len) (fun cdv A outer s H vs Q E hga hr h => ?_)
  obtain ⟨v1, rfl, h⟩ := h
  refine ⟨_, PSs.nox (pss_cons (ps_asg (pe_tup (pa_cons pe_int (pa_cons pe_int (pa_cons (pe_tup (pa_cons pe_int (pa_cons pe_int pa_nil))) pa_nil)))) (pg_tup (n := 3) (by rfl) (pgs_cons (pg_name (i := 1) nd rfl (Or.inl rfl)) (pgs_cons (pg_name (i := 2) nd rfl (Or.inl rfl)) (pgs_cons (pg_name (i := 3) nd rfl (Or.inl rfl)) pgs_nil))))) (pss_cons (ps_for PassesOwn.never rfl (pi_list (pe_slice sl_list (pv 0) po_none (po_some pe_int))) (pg_name (i := 4) nd rfl (Or.inl rfl)) (pss_cons (ps_par (i := 5) (j := 6) (by rfl) nd rfl rfl (by decide) rfl rfl (pa_cons (pe_op op_sub (pe_op op_modN (pe_callTy call_qint1 (by rfl) g.f_int boot_int (pa_cons (pv 4) pa_nil)) pe_int) pe_int) (pa_cons (pe_op op_add (pe_op op_modN (pe_op op_fdivX (pe_callTy call_qint1 (by rfl) g.f_int boot_int (pa_cons (pe_callB call_qabs (by rfl) g.f_abs boot_abs (pa_cons (pv 4) pa_nil)) pa_nil)) pe_int) pe_int) pe_int) pa_nil)) (by rfl)) (pss_cons (ps_par (i := 1) (j := 2) (by rfl) nd rfl rfl (by decide) rfl rfl (pa_cons (pe_op op_add (pe_op op_mulX (pv 1) (pv 6)) (pe_op op_mulX (pv 5) (pv 2))) (pa_cons (pe_op op_mulX (pv 2) (pv 6)) pa_nil)) (by rfl)) (pss_one (ps_set (i := 3) nd rfl (Or.inl rfl) (pcX c_plus takes0 hr (by decide) (by rfl) (pa_cons (pv 3) (pa_cons (pcX c_lowest_of takes0 hr (by decide) (by rfl) (pa_cons (pv 5) (pa_cons (pv 6) pa_nil))) pa_nil)))))))) (pss_cons (ps_if (pt_not (pt_val (pc c__law_is_just hr (by decide) (by rfl) (pa_cons (pv 3) (pa_cons (pv 1) (pa_cons (pv 2) pa_nil)))))) (pss_one (ps_ret pe_bl)) pss_nil) (pss_cons (ps_for PassesOwn.never rfl (pi_range1 (by rfl) g.f_range (pa_cons (pe_callB (call_qmax2 rfl) (by rfl) g.f_max boot_max (pa_cons pe_int (pa_cons (pe_callB (call_qmin2 rfl) (by rfl) g.f_min boot_min (pa_cons pe_int (pa_cons (pe_callB call_qlen (by rfl) g.f_len boot_len (pa_cons (pv 0) pa_nil)) pa_nil))) pa_nil))) pa_nil)) (pg_name (i := 7) nd rfl (Or.inl rfl)) (pss_cons (ps_set (i := 8) nd rfl (Or.inl rfl) (pc c__law_bag hr (by decide) (by rfl) (pa_cons (pv 0) (pa_cons (pv 7) pa_nil)))) (pss_cons (ps_asg (pe_tup (pa_cons (pc c__law_integer hr (by decide) (by rfl) (pa_cons (pv 8) pa_nil)) (pa_cons (pc c__law_bottom hr (by decide) (by rfl) (pa_cons (pv 8) pa_nil)) (pa_cons (pc c__law_integer hr (by decide) (by rfl) (pa_cons (pv 8) pa_nil)) (pa_cons (pc c__law_bottom hr (by decide) (by rfl) (pa_cons (pv 8) pa_nil)) pa_nil))))) (pg_tup (n := 4) (by rfl) (pgs_cons (pg_name (i := 9) nd rfl (Or.inl rfl)) (pgs_cons (pg_name (i := 10) nd rfl (Or.inl rfl)) (pgs_cons (pg_name (i := 11) nd rfl (Or.inl rfl)) (pgs_cons (pg_name (i := 12) nd rfl (Or.inl rfl)) pgs_nil)))))) (pss_cons (ps_if (pt_cmpR op_eq (pc c__law_draw hr (by decide) (by rfl) (pa_cons (pv 8) (pa_cons pe_int pa_nil))) pe_int (nomark _)) (pss_one (ps_par (i := 11) (j := 12) (by rfl) nd rfl rfl (by decide) rfl rfl (pa_cons (pe_op op_sub (pe_op op_add (pv 9) (pc c__law_draw hr (by decide) (by rfl) (pa_cons (pv 8) (pa_cons pe_int pa_nil)))) pe_int) (pa_cons (pv 10) pa_nil)) (by rfl))) pss_nil) (pss_cons (ps_par (i := 13) (j := 14) (by rfl) nd rfl rfl (by decide) rfl rfl (pa_cons (pcX c_lowest_of takes0 hr (by decide) (by rfl) (pa_cons (pv 9) (pa_cons (pv 10) pa_nil))) (pa_cons (pcX c_lowest_of takes0 hr (by decide) (by rfl) (pa_cons (pv 11) (pa_cons (pv 12) pa_nil))) pa_nil)) (by rfl)) (pss_cons (ps_if (PW.pt (pw_or (pt_not (pt_val (pc c__law_is_just hr (by decide) (by rfl) (pa_cons (pv 13) (pa_cons (pv 9) (pa_cons (pv 10) pa_nil)))))) (pw_or (pt_not (pt_val (pc c__law_is_just hr (by decide) (by rfl) (pa_cons (pv 14) (pa_cons (pv 11) (pa_cons (pv 12) pa_nil)))))) (pw_or1 (pt_cmpR (op_neD hr.units) (pcX c_lowest_of takes0 hr (by decide) (by rfl) (pa_cons (pe_ix ix_tup (pv 13) pe_int (fun _ _ => rfl)) (pa_cons (pe_ix ix_tup (pv 13) pe_int (fun _ _ => rfl)) pa_nil))) (pv 13) (nomark _)))))) (pss_one (ps_ret pe_bl)) pss_nil) (pss_one (ps_if (PW.pt (pw_or (pt_not (pt_val (pc c__law_are_right hr (by decide) (by rfl) (pa_cons (pv 13) (pa_cons (pv 14) (pa_cons (pv 9) (pa_cons (pv 10) (pa_cons (pv 11) (pa_cons (pv 12) pa_nil))))))))) (pw_or (pt_not (pt_val (pcG c__law_are_refused hga hr (by decide) (by rfl) (pa_cons (pv 8) (pa_cons (pv 13) pa_nil))))) (pw_or1 (pt_not (pt_val (pc c__law_are_names hr (by decide) (by rfl) (pa_cons (pv 8) pa_nil)))))))) (pss_one (ps_ret pe_bl)) pss_nil)))))))) (pss_one (ps_ret pe_bl)))))), ?_⟩
  obtain ⟨a, ns, rfl, hS, q⟩ := h
  wtm_at "go0"
  rename_i pa Ha ea ha pb Hb eb hb gvs gdp gr2 gh1a gr1 gha vt gr hvt ght
  have hSb : SqL K Hb a (ns.map V.int) := Evl.ex_l (ea.trans eb) hS
  clear gdp gh1a gha ght hS
  refine i_forV ?_
  wtm_at "go"
  refine i_slL hSb (fun pl Hl fl el hl => ?_)
  obtain ⟨ms, hms⟩ := cut_ints ns none (some 63)
  have hml := cut63 hms
  rw [hms] at hl
  refine i_forLS (ns := ms) (Evl.sq_of hl) (fun i σ' H' => ∃ (T B x w' : Int) (vt : V) (o4 o5 o6 : Option V), σ' = [some (.ref a), some (.int T), some (.int B), some vt, o4, o5, o6, none, none, none, none, none, none, none, none] ∧ Ex Hl H' ∧ Dp K H' vt (fq x w') ∧ Lf x w' T B ∧ 1 ≤ B ∧ Sz (30 * i + 30) T ∧ Sz (10 * i + 1) B ∧ i ≤ 63)
    ⟨0, 1, 0, 1, vt, _, _, _, rfl, Ex.refl _, dpMono el hvt, ⟨rfl, by decide, by decide +kernel⟩, by decide, by unfold Sz; decide, by unfold Sz; decide, by decide⟩ (fun i σ' H' hp => ?_) ?_ ?_
  · obtain ⟨_, _, _, _, _, _, _, _, _, e, _⟩ := hp
    exact Evl.ex_l e (Evl.sq_of hl)
  · rintro i c σ' H' hi ⟨T, B, x, w', vt, o4, o5, o6, rfl, e, hd, l, hB, sT, sB, _⟩
    have hi63 : i < 63 := Nat.lt_of_lt_of_le (List.getElem?_eq_some_iff.mp hi).1 hml
    have sT' : Sz 1950 T := sz_mono sT (by omega)
    have sB' : Sz 650 B := sz_mono sB (by omega)
    have nB : B ≠ 0 := by omega
    obtain ⟨sx, sw⟩ := l.sz nB sT' sB'
    have hm0 := Int.fmod_nonneg_of_pos c (b := 2000003) (by decide)
    have hm1 := Int.fmod_lt_of_pos c (b := 2000003) (by decide)
    have hu0 := Int.fmod_nonneg_of_pos ((if c < 0 then -c else c).fdiv 2000003) (b := 999) (by decide)
    have hu1 := Int.fmod_lt_of_pos ((if c < 0 then -c else c).fdiv 2000003) (b := 999) (by decide)
    have s1 : Sz 20 (c.fmod 2000003 - 1000001) := by unfold Sz; omega
    have s2 : Sz 10 (((if c < 0 then -c else c).fdiv 2000003).fmod 999 + 1) := by unfold Sz; omega
    have nu : ((if c < 0 then -c else c).fdiv 2000003).fmod 999 + 1 ≠ 0 := by omega
    have pu : 1 ≤ ((if c < 0 then -c else c).fdiv 2000003).fmod 999 + 1 := by omega
    obtain ⟨m', u', r1, l1, z1, z2⟩ := rf_ex (X := c.fmod 2000003 - 1000001) nu
    have z1' := z1 _ s1
    have z2' := z2 _ s2
    have hw := l.hw; have hu := l1.hw
    have nw : w' ≠ 0 := by omega
    have nu' : u' ≠ 0 := by omega
    obtain ⟨p, q', r2, l2, z3⟩ := sum_ex (a := x) (b := w') (c := m') (d := u') nw nu'
    have f1 := l.frac
    have f2 := l1.frac
    wtm_at "nrm"
    wtm_at "go"
    rename_i v1' H1' e1' d1' v2' H2' e2' d2'
    have le1 := l.ex; have le2 := l1.ex
    generalize hm : c.fmod 2000003 - 1000001 = m at *
    generalize hun : ((if c < 0 then -c else c).fdiv 2000003).fmod 999 + 1 = u at *
    refine ⟨T * u + m * B, B * u, p, q', _, _, _, _, rfl, by wtm_at "ex", d2', l2.chg (Int.mul_ne_zero nw nu') ?_, ?_, ?_, ?_, by omega⟩
    · have k : (x * u' + m' * w') * (B * u) = (x * B) * u' * u + (m' * u) * w' * B := by grind
      rw [k, le1, le2]
      grind
    · have := Int.mul_pos (a := B) (b := u) (by omega) (by omega)
      omega
    · exact sz_mono (sz_add2 (n := 30 * i + 40) (sz_mono (sz_mul sT s2) (by omega)) (sz_mono (sz_mul s1 sB) (by omega))) (by omega)
    · exact sz_mono (sz_mul sB s2) (by omega)
  · rintro σ' H' ⟨T, B, x, w', vt, o4, o5, o6, rfl, e, hd, l, hB, sT, sB, _⟩
    have sT' : Sz 1950 T := sz_mono sT (by omega)
    have sB' : Sz 650 B := sz_mono sB (by omega)
    have nB : B ≠ 0 := by omega
    obtain ⟨sx, sw⟩ := l.sz nB sT' sB'
    have j := l.just
    have hS' : SqL K H' a (ns.map V.int) := Evl.ex_l (el.trans e) hSb
    dsimp only
    wtm_at "go"
    refine i_forRU ?_
    wtm_at "go"
    refine i_forRK ⟨by (repeat' split) <;> omega, by (repeat' split) <;> omega⟩ (fun i σ' H' => (i : Int) ≤ 3 ∧ ∃ o1 o2 o3 o4 o5 o6 o7 o8 o9 o10 o11 o12 o13 o14 : Option V, σ' = [some (.ref a), o1, o2, o3, o4, o5, o6, o7, o8, o9, o10, o11, o12, o13, o14] ∧ SqL K H' a (ns.map V.int)) ⟨by decide, _, _, _, _, _, _, _, _, _, _, _, _, _, _, rfl, hS'⟩ ?_ ?_
    rotate_left
    · intro σ' H' hp
      obtain ⟨hi, o1, o2, o3, o4, o5, o6, o7, o8, o9, o10, o11, o12, o13, o14, rfl, hS2⟩ := hp
      dsimp only
      wtm_at "go"
      exact q _
    intro i σ' H' hlt hp
    obtain ⟨hi, o1, o2, o3, o4, o5, o6, o7, o8, o9, o10, o11, o12, o13, o14, rfl, hS2⟩ := hp
    have hlt3 : (i : Int) < 3 := by
      revert hlt
      (repeat' split) <;> omega
    clear hlt hS' hSb hd
    wtm_at "nrm"
    wtm_at "gob"
    · rename_i bb bH bn be bg a' Ha sza ea ba b' Hb nzb szb eb bb2 c' Hc szc ec bc d' Hd nzd szd ed bd np nH nhe nhb nhp gvs gdp gr3 gh3 gr2 gh2 gr1 gh1 gr gh n4 H4 n40 n41 e4 b4 hif n3 H3 n30 n31 e3 b3
      clear gdp gh3 gh2 gh1 gh gvs gr3 gr2 gr1 gr
      have eH : Ex (hid bb bH) (hid bb H3) := by wtm_at "ex"
      clear e3 e4 ed ec eb ea nhp nhe b4 bd bc bb2 ba nhb bg
      have nd : b' ≠ 0 := nzb
      have sc : Sz 150 (a' + n3 - 1) := by
        have h3 : Sz 140 n3 := sz_mono (show Sz 4 n3 by unfold Sz; omega) (by decide)
        have h4 : Sz 141 (-1) := by unfold Sz; decide
        exact sz_mono (sz_add2 (sz_add2 sza h3) h4) (by decide)
      have sd : Sz 150 b' := sz_mono szb (by decide)
      generalize a' + n3 - 1 = c at *
      have sa : Sz 150 a' := sz_mono sza (by decide)
      have sb : Sz 150 b' := sz_mono szb (by decide)
      obtain ⟨x1, w1, r1, l1, z1a, z1b⟩ := rf_ex (X := a') nzb
      obtain ⟨x2, w2, r2, l2, z2a, z2b⟩ := rf_ex (X := c) (W := b') nd
      have sx1 := z1a _ sa
      have sw1 := z1b _ sb
      have sx2 := z2a _ sc
      have sw2 := z2b _ sd
      have nw1 : w1 ≠ 0 := by have := l1.hw; omega
      have f1 := l1.frac
      have f2 := l2.frac
      have j1 := l1.just
      have j2 := l2.just
      have rs := rf_self l1
      have T : Two x1 w1 x2 w2 a' b' c b' := ⟨l1, l2, nzb, nd, ⟨sx1, sw1, sx2, sw2, sa, sb, sc, sd⟩⟩
      clear z1a z1b z2a z2b sza szb
      clear sT' sB' sx sw j sT sB nB hB l e hl hml hms
      refine use_lowest_ofE r1 nzb (sz_mono sb (by decide)) (fun v1 H1 ue1 ud1 => ?_)
      have dh1 := dpHid (b3.mono ue1) ud1
      clear ud1
      wtm_at "gob"
      refine' ⟨by omega, _, _, _, _, _, _, _, _, _, _, _, _, _, _, rfl, Evl.ex_l (ex_unhid bn be ?eone) hS2⟩
      wtm_at "ex"
    · rename_i bb bH bn be bg a' Ha sza ea ba b' Hb nzb szb eb bb2 c Hc szc ec bc d Hd nd szd ed bd np nH nhe nhb nhp gvs gdp gr3 gh3 gr2 gh2 gr1 gh1 gr gh n4 H4 n40 n41 e4 b4 hif
      clear gdp gh3 gh2 gh1 gh gvs gr3 gr2 gr1 gr
      have eH : Ex (hid bb bH) (hid bb H4) := by wtm_at "ex"
      clear e4 ed ec eb ea nhp nhe bd bc bb2 ba nhb bg
      have sc : Sz 150 c := sz_mono szc (by decide)
      have sd : Sz 150 d := sz_mono szd (by decide)
      have sa : Sz 150 a' := sz_mono sza (by decide)
      have sb : Sz 150 b' := sz_mono szb (by decide)
      obtain ⟨x1, w1, r1, l1, z1a, z1b⟩ := rf_ex (X := a') nzb
      obtain ⟨x2, w2, r2, l2, z2a, z2b⟩ := rf_ex (X := c) (W := d) nd
      have sx1 := z1a _ sa
      have sw1 := z1b _ sb
      have sx2 := z2a _ sc
      have sw2 := z2b _ sd
      have nw1 : w1 ≠ 0 := by have := l1.hw; omega
      have f1 := l1.frac
      have f2 := l2.frac
      have j1 := l1.just
      have j2 := l2.just
      have rs := rf_self l1
      have T : Two x1 w1 x2 w2 a' b' c d := ⟨l1, l2, nzb, nd, ⟨sx1, sw1, sx2, sw2, sa, sb, sc, sd⟩⟩
      clear z1a z1b z2a z2b sza szb
      clear sT' sB' sx sw j sT sB nB hB l e hl hml hms
      refine use_lowest_ofE r1 nzb (sz_mono sb (by decide)) (fun v1 H1 ue1 ud1 => ?_)
      have dh1 := dpHid (b4.mono ue1) ud1
      clear ud1
      wtm_at "gob"
      refine' ⟨by omega, _, _, _, _, _, _, _, _, _, _, _, _, _, _, rfl, Evl.ex_l (ex_unhid bn be ?etwo) hS2⟩
      wtm_at "ex"
end
end Wb

namespace Wb
open PySem PySem.Spec PyProof.Rows L2
theorem facts {w : World} {K : PySem.W.Frag} {h : Heap} {mg : Str → Option Value} {f : Addr} (X : K.In h) (G0 : h.Ns mainGlobals mg) (hfa : mg ("law" : Str) = some (.ref f)) (cx : SaysY K) :
    ∃ fd : FuncData, (∀ (s : Shared) (v : Value), BindsTo s fd ⟨[v], []⟩ [("_law_script", v)]) ∧ ∀ base : Heap, K.In base → base.Ns mainGlobals mg → FnG PySem.Challenge.pw_wherebase_k01_whole_fractions_and_names w K mg base CX0 7 f fd ["_law_script"] (sp_law K) := by
  have c : He.SaysD fa fn K := cx.d
  obtain ⟨d_is_integer, F_is_integer⟩ := c.def_ 0 (d := mkD "is_integer" 5 []) rfl
  obtain ⟨d_shared_of, F_shared_of⟩ := c.def_ 1 (d := mkD "shared_of" 7 []) rfl
  obtain ⟨d_is_fraction, F_is_fraction⟩ := c.def_ 2 (d := mkD "is_fraction" 8 []) rfl
  obtain ⟨d_require_fraction, F_require_fraction⟩ := c.def_ 3 (d := mkD "require_fraction" 10 []) rfl
  obtain ⟨d_reduced, F_reduced⟩ := c.def_ 4 (d := mkD "reduced" 11 []) rfl
  obtain ⟨d_sum_of, F_sum_of⟩ := c.def_ 5 (d := mkD "sum_of" 12 []) rfl
  obtain ⟨d_plus, F_plus⟩ := c.def_ 6 (d := mkD "plus" 19 []) rfl
  obtain ⟨d__law_is_whole, F__law_is_whole⟩ := c.def_ 7 (d := mkD "_law_is_whole" 32 []) rfl
  obtain ⟨d__law_shared, F__law_shared⟩ := c.def_ 8 (d := mkD "_law_shared" 29 []) rfl
  obtain ⟨d__law_is_just, F__law_is_just⟩ := c.def_ 9 (d := mkD "_law_is_just" 33 []) rfl
  obtain ⟨d__law_bag, F__law_bag⟩ := c.def_ 10 (d := mkD "_law_bag" 26 []) rfl
  obtain ⟨d_require_integer, F_require_integer⟩ := c.def_ 11 (d := mkD "require_integer" 9 []) rfl
  obtain ⟨d_lowest_of, F_lowest_of⟩ := c.def_ 12 (d := mkD "lowest_of" 18 []) rfl
  obtain ⟨d__law_draw, F__law_draw⟩ := c.def_ 13 (d := mkD "_law_draw" 27 []) rfl
  obtain ⟨d__law_one_of, F__law_one_of⟩ := c.def_ 14 (d := mkD "_law_one_of" 28 []) rfl
  obtain ⟨d__law_integer, F__law_integer⟩ := c.def_ 15 (d := mkD "_law_integer" 30 []) rfl
  obtain ⟨d__law_bottom, F__law_bottom⟩ := c.def_ 16 (d := mkD "_law_bottom" 31 []) rfl
  obtain ⟨d_floor_of, F_floor_of⟩ := c.def_ 17 (d := mkD "floor_of" 16 []) rfl
  obtain ⟨d_whole_below, F_whole_below⟩ := c.def_ 18 (d := mkD "whole_below" 23 []) rfl
  obtain ⟨d_ceiling_of, F_ceiling_of⟩ := c.def_ 19 (d := mkD "ceiling_of" 17 []) rfl
  obtain ⟨d_whole_above, F_whole_above⟩ := c.def_ 20 (d := mkD "whole_above" 24 []) rfl
  obtain ⟨d_is_below, F_is_below⟩ := c.def_ 21 (d := mkD "is_below" 15 []) rfl
  obtain ⟨d_is_less, F_is_less⟩ := c.def_ 22 (d := mkD "is_less" 22 []) rfl
  obtain ⟨d_difference_of, F_difference_of⟩ := c.def_ 23 (d := mkD "difference_of" 13 []) rfl
  obtain ⟨d_minus, F_minus⟩ := c.def_ 24 (d := mkD "minus" 20 []) rfl
  obtain ⟨d_product_of, F_product_of⟩ := c.def_ 25 (d := mkD "product_of" 14 []) rfl
  obtain ⟨d_times, F_times⟩ := c.def_ 26 (d := mkD "times" 21 []) rfl
  obtain ⟨d__law_are_right, F__law_are_right⟩ := c.def_ 27 (d := mkD "_law_are_right" 36 []) rfl
  obtain ⟨d__law_odd_fraction, F__law_odd_fraction⟩ := c.def_ 28 (d := mkD "_law_odd_fraction" 34 []) rfl
  obtain ⟨d__law_asked, F__law_asked⟩ := c.def_ 29 (d := mkD "_law_asked" 35 []) rfl
  obtain ⟨d__law_are_refused, F__law_are_refused⟩ := c.def_ 30 (d := mkD "_law_are_refused" 37 []) rfl
  obtain ⟨d_is_name, F_is_name⟩ := c.def_ 31 (d := mkD "is_name" 6 []) rfl
  obtain ⟨d__law_are_names, F__law_are_names⟩ := c.def_ 32 (d := mkD "_law_are_names" 38 []) rfl
  obtain ⟨d_law, F_law⟩ := c.def_ 33 (d := mkD "law" 39 []) rfl
  have m_is_integer := He.glo_ok X G0 (c.fact 0 (f := .glo "is_integer") rfl)
  have m_shared_of := He.glo_ok X G0 (c.fact 1 (f := .glo "shared_of") rfl)
  have m_is_fraction := He.glo_ok X G0 (c.fact 2 (f := .glo "is_fraction") rfl)
  have m_require_fraction := He.glo_ok X G0 (c.fact 3 (f := .glo "require_fraction") rfl)
  have m_reduced := He.glo_ok X G0 (c.fact 4 (f := .glo "reduced") rfl)
  have m_sum_of := He.glo_ok X G0 (c.fact 5 (f := .glo "sum_of") rfl)
  have m_plus := He.glo_ok X G0 (c.fact 6 (f := .glo "plus") rfl)
  have m__law_is_whole := He.glo_ok X G0 (c.fact 7 (f := .glo "_law_is_whole") rfl)
  have m__law_shared := He.glo_ok X G0 (c.fact 8 (f := .glo "_law_shared") rfl)
  have m__law_is_just := He.glo_ok X G0 (c.fact 9 (f := .glo "_law_is_just") rfl)
  have m__law_bag := He.glo_ok X G0 (c.fact 10 (f := .glo "_law_bag") rfl)
  have m_require_integer := He.glo_ok X G0 (c.fact 11 (f := .glo "require_integer") rfl)
  have m_lowest_of := He.glo_ok X G0 (c.fact 12 (f := .glo "lowest_of") rfl)
  have m__law_draw := He.glo_ok X G0 (c.fact 13 (f := .glo "_law_draw") rfl)
  have m__law_one_of := He.glo_ok X G0 (c.fact 14 (f := .glo "_law_one_of") rfl)
  have m__law_integer := He.glo_ok X G0 (c.fact 15 (f := .glo "_law_integer") rfl)
  have m__law_bottom := He.glo_ok X G0 (c.fact 16 (f := .glo "_law_bottom") rfl)
  have m_floor_of := He.glo_ok X G0 (c.fact 17 (f := .glo "floor_of") rfl)
  have m_whole_below := He.glo_ok X G0 (c.fact 18 (f := .glo "whole_below") rfl)
  have m_ceiling_of := He.glo_ok X G0 (c.fact 19 (f := .glo "ceiling_of") rfl)
  have m_whole_above := He.glo_ok X G0 (c.fact 20 (f := .glo "whole_above") rfl)
  have m_is_below := He.glo_ok X G0 (c.fact 21 (f := .glo "is_below") rfl)
  have m_is_less := He.glo_ok X G0 (c.fact 22 (f := .glo "is_less") rfl)
  have m_difference_of := He.glo_ok X G0 (c.fact 23 (f := .glo "difference_of") rfl)
  have m_minus := He.glo_ok X G0 (c.fact 24 (f := .glo "minus") rfl)
  have m_product_of := He.glo_ok X G0 (c.fact 25 (f := .glo "product_of") rfl)
  have m_times := He.glo_ok X G0 (c.fact 26 (f := .glo "times") rfl)
  have m__law_are_right := He.glo_ok X G0 (c.fact 27 (f := .glo "_law_are_right") rfl)
  have m__law_odd_fraction := He.glo_ok X G0 (c.fact 28 (f := .glo "_law_odd_fraction") rfl)
  have m__law_asked := He.glo_ok X G0 (c.fact 29 (f := .glo "_law_asked") rfl)
  have m__law_are_refused := He.glo_ok X G0 (c.fact 30 (f := .glo "_law_are_refused") rfl)
  have m_is_name := He.glo_ok X G0 (c.fact 31 (f := .glo "is_name") rfl)
  have m__law_are_names := He.glo_ok X G0 (c.fact 32 (f := .glo "_law_are_names") rfl)
  have m_law := He.glo_ok X G0 (c.fact 33 (f := .glo "law") rfl)
  have m_InvalidNumber := He.glo_ok X G0 (c.fact 34 (f := .glo "InvalidNumber") rfl)
  have hm := cx.more
  unfold exB at hm
  obtain ⟨z1, hm⟩ := Bool.and_eq_true_iff.mp hm
  obtain ⟨z2, hm⟩ := Bool.and_eq_true_iff.mp hm
  obtain ⟨z3, z4⟩ := Bool.and_eq_true_iff.mp hm
  have zi := inB_ok z3
  have mx : ∃ t, mg "MAX_NAME" = some (.int 20 t) := by
    split at z2
    · rename_i n tk q
      have := of_decide_eq_true z2
      subst this
      exact ⟨_, PySem.W.mg_of X G0 q⟩
    · cases z2
  have g : G mg := ⟨He.free_ok X G0 (c.fact 35 (f := .free "len") rfl), He.free_ok X G0 (c.fact 36 (f := .free "abs") rfl), He.free_ok X G0 (c.fact 37 (f := .free "int") rfl), He.free_ok X G0 (c.fact 38 (f := .free "bool") rfl), He.free_ok X G0 (c.fact 39 (f := .free "tuple") rfl), He.free_ok X G0 (c.fact 40 (f := .free "list") rfl), He.free_ok X G0 (c.fact 41 (f := .free "isinstance") rfl), He.free_ok X G0 (c.fact 42 (f := .free "all") rfl), He.free_ok X G0 (c.fact 43 (f := .free "max") rfl), He.free_ok X G0 (c.fact 44 (f := .free "min") rfl), He.free_ok X G0 (c.fact 45 (f := .free "sum") rfl), He.free_ok X G0 (c.fact 46 (f := .free "range") rfl), He.free_ok X G0 (c.fact 47 (f := .free "repr") rfl), He.free_ok X G0 (c.fact 48 (f := .free "str") rfl), He.free_ok X G0 (c.fact 49 (f := .free "super") rfl), mx, PySem.W.mg_of X G0 (He.eqO_ok z1)⟩
  have e : ExN PySem.Challenge.pw_wherebase_k01_whole_fractions_and_names K mg (He.ga K "InvalidNumber") := ⟨init1, ⟨_, ⟨zi.init, zi.ini, zi.over, zi.hd, zi.sa, zi.subB, zi.subE, zi.ty, zi.tyI, zi.kp, zi.sup, zi.mro, zi.op, ini_fn cx.ini z4⟩⟩, m_InvalidNumber, zi.tk, xfB_ok zi.xf, zi.no, zi.m⟩
  cases hfa.symm.trans m_law
  have b := FunD.bindsA (ps := ["_law_script"]) F_law fun _ _ _ _ _ _ us hl => match us, hl with | [_], _ => rfl
  refine ⟨d_law, fun s v => b s [v] rfl, fun base _ _ => ?_⟩
  have c_is_integer : Cl PySem.Challenge.pw_wherebase_k01_whole_fractions_and_names w K mg base 1 "is_integer" (sp_is_integer K) := ⟨⟨_, _, _, ok_is_integer F_is_integer g , m_is_integer, F_is_integer.kp, F_is_integer.bindsN fun _ _ _ _ _ _ us hl => match us, hl with | [_], _ => rfl⟩⟩
  have c_shared_of : Cl PySem.Challenge.pw_wherebase_k01_whole_fractions_and_names w K mg base 1 "shared_of" (sp_shared_of K) := ⟨⟨_, _, _, ok_shared_of F_shared_of g , m_shared_of, F_shared_of.kp, F_shared_of.bindsN fun _ _ _ _ _ _ us hl => match us, hl with | [_, _], _ => rfl⟩⟩
  have c_is_fraction : Cl PySem.Challenge.pw_wherebase_k01_whole_fractions_and_names w K mg base 2 "is_fraction" (sp_is_fraction K) := ⟨⟨_, _, _, ok_is_fraction F_is_fraction g c_is_integer c_shared_of, m_is_fraction, F_is_fraction.kp, F_is_fraction.bindsN fun _ _ _ _ _ _ us hl => match us, hl with | [_], _ => rfl⟩⟩
  have c_require_fraction : ClX PySem.Challenge.pw_wherebase_k01_whole_fractions_and_names w K mg base 3 "require_fraction" (sp_require_fraction K (He.ga K "InvalidNumber")) := ⟨⟨_, _, _, ok_require_fraction F_require_fraction g e c_is_fraction, m_require_fraction, F_require_fraction.kp, F_require_fraction.bindsN fun _ _ _ _ _ _ us hl => match us, hl with | [_], _ => rfl⟩⟩
  have c_reduced : Cl PySem.Challenge.pw_wherebase_k01_whole_fractions_and_names w K mg base 1 "reduced" (sp_reduced K) := ⟨⟨_, _, _, ok_reduced F_reduced g , m_reduced, F_reduced.kp, F_reduced.bindsN fun _ _ _ _ _ _ us hl => match us, hl with | [_, _], _ => rfl⟩⟩
  have c_sum_of : Cl PySem.Challenge.pw_wherebase_k01_whole_fractions_and_names w K mg base 2 "sum_of" (sp_sum_of K) := ⟨⟨_, _, _, ok_sum_of F_sum_of g c_reduced, m_sum_of, F_sum_of.kp, F_sum_of.bindsN fun _ _ _ _ _ _ us hl => match us, hl with | [_, _], _ => rfl⟩⟩
  have c_plus : ClX PySem.Challenge.pw_wherebase_k01_whole_fractions_and_names w K mg base 4 "plus" (sp_plus K (He.ga K "InvalidNumber")) := ⟨⟨_, _, _, ok_plus F_plus g e c_require_fraction c_sum_of, m_plus, F_plus.kp, F_plus.bindsN fun _ _ _ _ _ _ us hl => match us, hl with | [_, _], _ => rfl⟩⟩
  have c__law_is_whole : Cl PySem.Challenge.pw_wherebase_k01_whole_fractions_and_names w K mg base 1 "_law_is_whole" (sp__law_is_whole K) := ⟨⟨_, _, _, ok__law_is_whole F__law_is_whole g , m__law_is_whole, F__law_is_whole.kp, F__law_is_whole.bindsN fun _ _ _ _ _ _ us hl => match us, hl with | [_], _ => rfl⟩⟩
  have c__law_shared : Cl PySem.Challenge.pw_wherebase_k01_whole_fractions_and_names w K mg base 1 "_law_shared" (sp__law_shared K) := ⟨⟨_, _, _, ok__law_shared F__law_shared g , m__law_shared, F__law_shared.kp, F__law_shared.bindsN fun _ _ _ _ _ _ us hl => match us, hl with | [_, _], _ => rfl⟩⟩
  have c__law_is_just : Cl PySem.Challenge.pw_wherebase_k01_whole_fractions_and_names w K mg base 2 "_law_is_just" (sp__law_is_just K) := ⟨⟨_, _, _, ok__law_is_just F__law_is_just g c__law_is_whole c__law_shared, m__law_is_just, F__law_is_just.kp, F__law_is_just.bindsN fun _ _ _ _ _ _ us hl => match us, hl with | [_, _, _], _ => rfl⟩⟩
  have c__law_bag : Cl PySem.Challenge.pw_wherebase_k01_whole_fractions_and_names w K mg base 1 "_law_bag" (sp__law_bag K) := ⟨⟨_, _, _, ok__law_bag F__law_bag g , m__law_bag, F__law_bag.kp, F__law_bag.bindsN fun _ _ _ _ _ _ us hl => match us, hl with | [_, _], _ => rfl⟩⟩
  have c_require_integer : ClX PySem.Challenge.pw_wherebase_k01_whole_fractions_and_names w K mg base 2 "require_integer" (sp_require_integer K (He.ga K "InvalidNumber")) := ⟨⟨_, _, _, ok_require_integer F_require_integer g e c_is_integer, m_require_integer, F_require_integer.kp, F_require_integer.bindsN fun _ _ _ _ _ _ us hl => match us, hl with | [_], _ => rfl⟩⟩
  have c_lowest_of : ClX PySem.Challenge.pw_wherebase_k01_whole_fractions_and_names w K mg base 3 "lowest_of" (sp_lowest_of K (He.ga K "InvalidNumber")) := ⟨⟨_, _, _, ok_lowest_of F_lowest_of g e c_require_integer c_reduced c_is_integer, m_lowest_of, F_lowest_of.kp, F_lowest_of.bindsN fun _ _ _ _ _ _ us hl => match us, hl with | [_, _], _ => rfl⟩⟩
  have c__law_draw : Cl PySem.Challenge.pw_wherebase_k01_whole_fractions_and_names w K mg base 1 "_law_draw" (sp__law_draw K) := ⟨⟨_, _, _, ok__law_draw F__law_draw g , m__law_draw, F__law_draw.kp, F__law_draw.bindsN fun _ _ _ _ _ _ us hl => match us, hl with | [_, _], _ => rfl⟩⟩
  have c__law_one_of : Cl PySem.Challenge.pw_wherebase_k01_whole_fractions_and_names w K mg base 2 "_law_one_of" (sp__law_one_of K) := ⟨⟨_, _, _, ok__law_one_of F__law_one_of g c__law_draw, m__law_one_of, F__law_one_of.kp, F__law_one_of.bindsN fun _ _ _ _ _ _ us hl => match us, hl with | [_, _], _ => rfl⟩⟩
  have c__law_integer : Cl PySem.Challenge.pw_wherebase_k01_whole_fractions_and_names w K mg base 3 "_law_integer" (sp__law_integer K) := ⟨⟨_, _, _, ok__law_integer F__law_integer g c__law_one_of c__law_draw, m__law_integer, F__law_integer.kp, F__law_integer.bindsN fun _ _ _ _ _ _ us hl => match us, hl with | [_], _ => rfl⟩⟩
  have c__law_bottom : Cl PySem.Challenge.pw_wherebase_k01_whole_fractions_and_names w K mg base 4 "_law_bottom" (sp__law_bottom K) := ⟨⟨_, _, _, ok__law_bottom F__law_bottom g c__law_integer c__law_draw, m__law_bottom, F__law_bottom.kp, F__law_bottom.bindsN fun _ _ _ _ _ _ us hl => match us, hl with | [_], _ => rfl⟩⟩
  have c_floor_of : Cl PySem.Challenge.pw_wherebase_k01_whole_fractions_and_names w K mg base 1 "floor_of" (sp_floor_of K) := ⟨⟨_, _, _, ok_floor_of F_floor_of g , m_floor_of, F_floor_of.kp, F_floor_of.bindsN fun _ _ _ _ _ _ us hl => match us, hl with | [_], _ => rfl⟩⟩
  have c_whole_below : ClX PySem.Challenge.pw_wherebase_k01_whole_fractions_and_names w K mg base 4 "whole_below" (sp_whole_below K (He.ga K "InvalidNumber")) := ⟨⟨_, _, _, ok_whole_below F_whole_below g e c_require_fraction c_floor_of, m_whole_below, F_whole_below.kp, F_whole_below.bindsN fun _ _ _ _ _ _ us hl => match us, hl with | [_], _ => rfl⟩⟩
  have c_ceiling_of : Cl PySem.Challenge.pw_wherebase_k01_whole_fractions_and_names w K mg base 1 "ceiling_of" (sp_ceiling_of K) := ⟨⟨_, _, _, ok_ceiling_of F_ceiling_of g , m_ceiling_of, F_ceiling_of.kp, F_ceiling_of.bindsN fun _ _ _ _ _ _ us hl => match us, hl with | [_], _ => rfl⟩⟩
  have c_whole_above : ClX PySem.Challenge.pw_wherebase_k01_whole_fractions_and_names w K mg base 4 "whole_above" (sp_whole_above K (He.ga K "InvalidNumber")) := ⟨⟨_, _, _, ok_whole_above F_whole_above g e c_require_fraction c_ceiling_of, m_whole_above, F_whole_above.kp, F_whole_above.bindsN fun _ _ _ _ _ _ us hl => match us, hl with | [_], _ => rfl⟩⟩
  have c_is_below : Cl PySem.Challenge.pw_wherebase_k01_whole_fractions_and_names w K mg base 1 "is_below" (sp_is_below K) := ⟨⟨_, _, _, ok_is_below F_is_below g , m_is_below, F_is_below.kp, F_is_below.bindsN fun _ _ _ _ _ _ us hl => match us, hl with | [_, _], _ => rfl⟩⟩
  have c_is_less : ClX PySem.Challenge.pw_wherebase_k01_whole_fractions_and_names w K mg base 4 "is_less" (sp_is_less K (He.ga K "InvalidNumber")) := ⟨⟨_, _, _, ok_is_less F_is_less g e c_require_fraction c_is_below, m_is_less, F_is_less.kp, F_is_less.bindsN fun _ _ _ _ _ _ us hl => match us, hl with | [_, _], _ => rfl⟩⟩
  have c_difference_of : Cl PySem.Challenge.pw_wherebase_k01_whole_fractions_and_names w K mg base 3 "difference_of" (sp_difference_of K) := ⟨⟨_, _, _, ok_difference_of F_difference_of g c_sum_of, m_difference_of, F_difference_of.kp, F_difference_of.bindsN fun _ _ _ _ _ _ us hl => match us, hl with | [_, _], _ => rfl⟩⟩
  have c_minus : ClX PySem.Challenge.pw_wherebase_k01_whole_fractions_and_names w K mg base 4 "minus" (sp_minus K (He.ga K "InvalidNumber")) := ⟨⟨_, _, _, ok_minus F_minus g e c_require_fraction c_difference_of, m_minus, F_minus.kp, F_minus.bindsN fun _ _ _ _ _ _ us hl => match us, hl with | [_, _], _ => rfl⟩⟩
  have c_product_of : Cl PySem.Challenge.pw_wherebase_k01_whole_fractions_and_names w K mg base 2 "product_of" (sp_product_of K) := ⟨⟨_, _, _, ok_product_of F_product_of g c_reduced, m_product_of, F_product_of.kp, F_product_of.bindsN fun _ _ _ _ _ _ us hl => match us, hl with | [_, _], _ => rfl⟩⟩
  have c_times : ClX PySem.Challenge.pw_wherebase_k01_whole_fractions_and_names w K mg base 4 "times" (sp_times K (He.ga K "InvalidNumber")) := ⟨⟨_, _, _, ok_times F_times g e c_require_fraction c_product_of, m_times, F_times.kp, F_times.bindsN fun _ _ _ _ _ _ us hl => match us, hl with | [_, _], _ => rfl⟩⟩
  have c__law_are_right : Cl PySem.Challenge.pw_wherebase_k01_whole_fractions_and_names w K mg base 5 "_law_are_right" (sp__law_are_right K) := ⟨⟨_, _, _, ok__law_are_right F__law_are_right g c_whole_below c_whole_above c__law_is_just c_plus c_is_less c__law_is_whole c_minus c_times, m__law_are_right, F__law_are_right.kp, F__law_are_right.bindsN fun _ _ _ _ _ _ us hl => match us, hl with | [_, _, _, _, _, _], _ => rfl⟩⟩
  have c__law_odd_fraction : Cl PySem.Challenge.pw_wherebase_k01_whole_fractions_and_names w K mg base 3 "_law_odd_fraction" (sp__law_odd_fraction K) := ⟨⟨_, _, _, ok__law_odd_fraction F__law_odd_fraction g c__law_one_of c__law_draw, m__law_odd_fraction, F__law_odd_fraction.kp, F__law_odd_fraction.bindsN fun _ _ _ _ _ _ us hl => match us, hl with | [_], _ => rfl⟩⟩
  have c__law_asked : ClG PySem.Challenge.pw_wherebase_k01_whole_fractions_and_names w K mg base 5 "_law_asked" (sp__law_asked K) := ⟨⟨_, _, _, ok__law_asked F__law_asked g e c_lowest_of c_plus c_minus c_times c_is_less c_whole_below c_whole_above, m__law_asked, F__law_asked.kp, F__law_asked.bindsN fun _ _ _ _ _ _ us hl => match us, hl with | [_, _, _], _ => rfl⟩⟩
  have c__law_are_refused : ClG PySem.Challenge.pw_wherebase_k01_whole_fractions_and_names w K mg base 6 "_law_are_refused" (sp__law_are_refused K) := ⟨⟨_, _, _, ok__law_are_refused F__law_are_refused g c__law_one_of c__law_odd_fraction c__law_asked c_is_fraction c__law_integer, m__law_are_refused, F__law_are_refused.kp, F__law_are_refused.bindsN fun _ _ _ _ _ _ us hl => match us, hl with | [_, _], _ => rfl⟩⟩
  have c_is_name : Cl PySem.Challenge.pw_wherebase_k01_whole_fractions_and_names w K mg base 1 "is_name" (sp_is_name K) := ⟨⟨_, _, _, ok_is_name F_is_name g , m_is_name, F_is_name.kp, F_is_name.bindsN fun _ _ _ _ _ _ us hl => match us, hl with | [_], _ => rfl⟩⟩
  have c__law_are_names : Cl PySem.Challenge.pw_wherebase_k01_whole_fractions_and_names w K mg base 3 "_law_are_names" (sp__law_are_names K) := ⟨⟨_, _, _, ok__law_are_names F__law_are_names g (C := He.ga K "InvalidNumber") c__law_one_of c__law_draw c_is_name, m__law_are_names, F__law_are_names.kp, F__law_are_names.bindsN fun _ _ _ _ _ _ us hl => match us, hl with | [_], _ => rfl⟩⟩
  exact ok_law F_law g c_plus c__law_is_just c__law_bag c_lowest_of c__law_integer c__law_bottom c__law_draw c__law_are_right c__law_are_refused c__law_are_names
end Wb
open PySem PySem.W PySem.Calls PyProof.Rows
theorem PySem.Challenge.cw_wherebase_k01_whole_fractions_and_names_holds : PySem.Challenge.rw_wherebase_k01_whole_fractions_and_names.Holds := by
  w_on; o_law
  refine HandSHeadRun.head_imp (r := OpenLaw.row PySem.Challenge.rw_wherebase_k01_whole_fractions_and_names) (q := view (OpenLaw.row PySem.Challenge.rw_wherebase_k01_whole_fractions_and_names).prog [0, 39]) (H := Wb.hk) (ob := Wb.ob) (M := 4000) (loose := Wb.loose) (d := HandSHeadRun.topDef (OpenLaw.row PySem.Challenge.rw_wherebase_k01_whole_fractions_and_names).prog 39) (kwd := []) Wb.ob_eq
    Wb.run (by kernel_rfl) (by kernel_rfl) (by kernel_rfl) (by rfl) (by first | assumption | decide +kernel) (by decide +kernel) ⟨rfl, rfl, rfl, rfl, rfl, by decide +kernel⟩ ?hw ?hc
  case hw => w_witness2
  case hc =>
    refine Wb.walk_G (l := PySem.Challenge.rw_wherebase_k01_whole_fractions_and_names) (n := 63) (k := 7) (x := "_law_script") rfl (by decide) (by kernel_rfl) ⟨rfl, by decide, by decide⟩ ?F
    intro w mg fa h Y G hmg0
    obtain ⟨K, KX, c⟩ := Y
    have hmg : mg ("law" : PySem.Str) = some (.ref fa) := by
      have e : (HandSHeadRun.topDef (OpenLaw.row PySem.Challenge.rw_wherebase_k01_whole_fractions_and_names).prog 39).name = ("law" : PySem.Str) := by kernel_rfl
      rw [← e]
      exact hmg0
    obtain ⟨fd, hb, hF⟩ := Wb.facts (w := w) KX G hmg c
    exact ⟨K, fd, Wb.sp_law K, KX, hb, fun H a ns _ hS => ⟨.ref a, rfl, a, ns, rfl, hS, fun _ => rfl⟩, hF⟩

