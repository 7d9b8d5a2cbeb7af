import PyProof.Rows.All
import Wide.All
import OpenK.AllK
import Wide.FinOn
import Lean
import HandS.ForMost
import HandS.Defaults
import HandS.Head0
import HandS.Head1
import HandS.Head2
import HandS.Head3
import HandS.HeadEnd
import HandS.HeadHook1
import HandS.HeadHook2
import HandS.HeadHook3
import HandS.HeadHook4
import HandS.ExcField
import HandS.ExcIs
import KE.KIsAll
import KE.KStateDown
import HandS.Words
import KE.KExcSuper
import KE.KTryMore
import KE.KExcInit
import PySem.Challenge.RW_wherebase_k00_whole_errors
import HandS.Exc
import HandS.ExcOwn
import HandS.TryOnly
import HandS.WordsExc
import HandS.Star
import HandS.IsInst
import HandS.Gcd
import HandS.WideBits
import HandS.Wide
import HandS.Style
import HandS.TupLe
import HandS.TupAny
import HandS.Conv
import HandS.Flow
import HandS.Evl
import HandS.ExcInit
import HandS.TryMany
import HandS.HotCalls
import HandS.RaiseMore
set_option Elab.async false
set_option linter.all false
set_option maxRecDepth 100000
set_option maxHeartbeats 4000000
namespace Wb
open PySem PySem.Spec PyProof.Rows L2
def top (i : Nat) : Stmt := PySem.Challenge.pw_wherebase_k00_whole_errors.main.body.getD i (.Pass ⟨0, 0, 0, 0⟩)
def isC (i j : Nat) : Bool := i == j || (j == 0 && decide (i < 20))
def isB (i k : Nat) : Bool := match k with
  | 0 => decide (i < 20)
  | 1 => i == 20
  | 2 => i == 21
  | 3 => i == 20 || i == 21 || i == 23
  | 4 => i == 22
  | 5 => i == 22 || i == 25
  | _ => i == 24
def tyN : Nat → String
  | 0 => "ValueError"
  | 1 => "IndexError"
  | 2 => "KeyError"
  | 3 => "LookupError"
  | 4 => "OverflowError"
  | 5 => "ArithmeticError"
  | _ => "RuntimeError"
abbrev st18 : Stmt := inClass (top 19) 0
abbrev st19 : Stmt := inClass (top 20) 0
abbrev st20 : Stmt := inClass (top 21) 0
abbrev st21 : Stmt := inClass (top 22) 0
abbrev st22 : Stmt := inClass (top 23) 0
abbrev st23 : Stmt := inClass (top 24) 0
abbrev st24 : Stmt := inClass (top 25) 0
abbrev st25 : Stmt := inClass (top 26) 0
def allB (p : Nat → Addr → Bool) : Nat → List Addr → Bool
  | _, [] => true
  | j, a :: r => p j a && allB p (j + 1) r
def ecB (K : PySem.W.Frag) (D : Addr) : Bool := eqB (PySem.W.findIn K (.ref D) "__getattribute__") (.builtin "BaseException.__getattribute__") && (He.eqO (PySem.W.findIn K (.ref D) "__getattr__") (some none) && (PySem.W.hasDictIn K D && eqB (PySem.W.findIn K (.ref D) "__class__") (.builtin "object.__class__")))
  where eqB (a : Option (Option Value)) (b : Value) : Bool := He.eqO a (some (some b))
def mrB (as : List Addr) (i : Nat) (m : List Value) : Bool := !m.isEmpty && (allB (fun j a => m.contains (.ref a) == isC i j) 0 as && ((List.range 7).all (fun k => m.contains (.type (tyN k)) == isB i k) && (m.contains (.type "BaseException") && m.contains (.type "object"))))
def clB (K : PySem.W.Frag) (as : List Addr) (i : Nat) (C : Addr) : Bool := (match PySem.W.clsIn K C with
  | some cd => mrB as i cd.mro
  | none => false) && (decide (PySem.W.typeIn K (.ref C) = some (.type "type")) && ecB K C)
def clG (K : PySem.W.Frag) : Bool := He.eqO (PySem.W.specialIn K (.builtin "object.__class__") "__get__") (some (some (.builtin "getset_descriptor.__get__"))) && decide (PySem.W.takesIn K (.builtin "object.__class__") = some true)
def plB (K : PySem.W.Frag) (C : Addr) : Bool := PySem.W.excIn K C [.type "ValueError", .type "Exception", .type "BaseException", .type "object"] "ValueError.__new__" && PySem.W.keepIn K (.ref C)
def iniA (K : PySem.W.Frag) (C : Addr) : Addr := match PySem.W.findIn K (.ref C) "__init__" with
  | some (some (.ref a)) => a
  | _ => 0
def nB (K : PySem.W.Frag) (C : Addr) (n : Str) : Bool := He.eqO (PySem.W.takerIn K C n) (some none) && He.eqO (PySem.W.findIn K (.ref C) n) (some none)
def supB (K : PySem.W.Frag) (C fI : Addr) (B i newId : String) (bm : List Value) : Bool := He.eqO (PySem.W.findIn K (.ref C) "__init__") (some (some (.ref fI))) && (PySem.W.excInitIn K C bm newId && (PySem.W.excOver K C bm && (PySem.W.hasDictIn K C && (He.eqO (PySem.W.findIn K (.ref C) "__setattr__") (some (some (.builtin "object.__setattr__"))) && (decide (PySem.W.subIn K (.ref C) (.type B) = some true) && (decide (PySem.W.subIn K (.ref C) (.type "BaseException") = some true) && (decide (PySem.W.typeIn K (.ref C) = some (.type "type")) && (decide (PySem.W.typeIn K (.ref fI) = some (.type "function")) && (PySem.W.keepIn K (.ref C) && (He.eqO (PySem.W.ks_superIn K C C "__init__") (some (some (.builtin i))) && (decide (PySem.W.mroIn K C (.ref C) = some true) && He.eqO (PySem.W.nsIn K cStatics "thirdparty.any") (some none))))))))))))
def fnB (K : PySem.W.Frag) (C fI : Addr) (qual : Str) : Bool := match K.lookup fI with
  | some ⟨_, _, .func fd, _⟩ => (match fd.closure, fd.code, fd.defaults, fd.kwdefaults with
    | [(_, cc)], .ref cda, .none, .none => PySem.W.codeIn K (.ref cda) qual && ((match K.lookup cda with
      | some ⟨_, _, .fields vs, _⟩ => (match (vs[2]? : Option Value) with
        | some (.str file _) => ((PySem.Challenge.pw_wherebase_k00_whole_errors.main.file : Str) == file)
        | _ => false)
      | _ => false) && (match K.lookup cc with
      | some ⟨_, _, .cell (some (.ref C')), _⟩ => C' == C
      | _ => false))
    | _, _, _, _ => false)
  | _ => false
abbrev IniW : Type := Option (Str × Str × Arguments × FuncBody × Scope × Addr × List Str × Addr)
def iniW (K : PySem.W.Frag) (fI : Addr) : IniW := match K.lookup fI with
  | some ⟨_, _, .func fd, _⟩ => some (fd.name, fd.qualname, fd.params, fd.body, fd.scope, fd.globals, fd.closure.map (·.1), fd.builtins)
  | _ => none
def iniV (st : Stmt) (qual : Str) : IniW := some ("__init__", qual, defArgs st, .stmts (defBody st), defScope st, mainGlobals, ["__class__"], builtinsNs)
def mkD (x : Str) (i : Nat) (dv : List He.Dv) : He.DefD := ⟨(x, none), x, x, defArgs (top i), defBody (top i), defScope (top i), dv, []⟩
def fn : List He.DefD := [mkD "_law_bag" 28 [], mkD "_law_draw" 29 [], mkD "_law_one_of" 30 [], mkD "_law_shuffled" 31 [], mkD "_law_first" 32 [], mkD "_law_second" 33 [], mkD "_law_caught_second" 34 [], mkD "_law_classes" 35 [], mkD "_law_classes_of" 36 [], mkD "_law_due_classes" 37 [], mkD "_law_kept" 38 [], mkD "law" 39 []]
def fa0 : List He.Fa := [.glo "_law_bag", .glo "_law_draw", .glo "_law_one_of", .glo "_law_shuffled", .glo "_law_first", .glo "_law_second", .glo "_law_caught_second", .glo "_law_classes", .glo "_law_classes_of", .glo "_law_due_classes", .glo "_law_kept", .glo "law", .glo "WhereError", .glo "InvalidPoint", .glo "InvalidShape", .glo "InvalidCell", .glo "InvalidDrawing", .glo "InvalidMap", .glo "InvalidLayer", .glo "InvalidArcs", .glo "InvalidBox", .glo "InvalidName", .glo "InvalidTree", .glo "InvalidTable", .glo "InvalidRow"]
def fa1 : List He.Fa := [.glo "InvalidCondition", .glo "InvalidQuestion", .glo "InvalidPlan", .glo "InvalidRule", .glo "InvalidOperation", .glo "TakenName", .glo "ParseError", .glo "InvalidNumber", .glo "UnknownName", .glo "TooMany", .glo "NothingToUndo", .glo "Conflict", .glo "Broken", .free "len", .free "abs", .free "int", .free "tuple", .free "list", .free "isinstance", .free "max", .free "min", .free "sum", .free "range", .free "super", .free "ValueError"]
def fa2 : List He.Fa := [.free "IndexError", .free "KeyError", .free "LookupError", .free "OverflowError", .free "ArithmeticError", .free "RuntimeError"]
def fa : List He.Fa := fa0 ++ fa1 ++ fa2
def lo0 : List PySem.Str := ["WhereError", "InvalidPoint", "InvalidShape", "InvalidCell", "InvalidDrawing", "InvalidLayer", "InvalidArcs", "InvalidBox", "InvalidMap", "InvalidName", "InvalidTree", "InvalidTable", "InvalidRow", "InvalidCondition", "InvalidQuestion", "InvalidPlan", "InvalidRule", "InvalidOperation", "TakenName", "ParseError", "InvalidNumber", "UnknownName", "TooMany", "NothingToUndo", "Conflict"]
def lo1 : List PySem.Str := ["Broken", "_law_bag", "_law_draw", "_law_one_of", "_law_shuffled", "_law_first", "_law_second", "_law_caught_second", "_law_classes", "_law_classes_of", "_law_due_classes", "_law_kept"]
def loose : List PySem.Str := lo0 ++ lo1
def caL (K : PySem.W.Frag) : List Addr := [He.ga K "WhereError", He.ga K "InvalidPoint", He.ga K "InvalidShape", He.ga K "InvalidCell", He.ga K "InvalidDrawing", He.ga K "InvalidMap", He.ga K "InvalidLayer", He.ga K "InvalidArcs", He.ga K "InvalidBox", He.ga K "InvalidName", He.ga K "InvalidTree", He.ga K "InvalidTable", He.ga K "InvalidRow", He.ga K "InvalidCondition", He.ga K "InvalidQuestion", He.ga K "InvalidPlan", He.ga K "InvalidRule", He.ga K "InvalidOperation", He.ga K "TakenName", He.ga K "ParseError", He.ga K "InvalidNumber", He.ga K "UnknownName", He.ga K "TooMany", He.ga K "NothingToUndo", He.ga K "Conflict", He.ga K "Broken"]
def caF (K : PySem.W.Frag) (i : Nat) : Addr := (caL K).getD i 0
def sx18 (K : PySem.W.Frag) : Bool := supB K (He.ga K "TakenName") (iniA K (He.ga K "TakenName")) "ValueError" "ValueError.__init__" "ValueError.__new__" [.type "ValueError", .type "Exception", .type "BaseException", .type "object"] && fnB K (He.ga K "TakenName") (iniA K (He.ga K "TakenName")) "TakenName.__init__" && nB K (He.ga K "TakenName") "name" && xfB K (He.ga K "TakenName")
def sx19 (K : PySem.W.Frag) : Bool := supB K (He.ga K "ParseError") (iniA K (He.ga K "ParseError")) "ValueError" "ValueError.__init__" "ValueError.__new__" [.type "ValueError", .type "Exception", .type "BaseException", .type "object"] && fnB K (He.ga K "ParseError") (iniA K (He.ga K "ParseError")) "ParseError.__init__" && nB K (He.ga K "ParseError") "index" && xfB K (He.ga K "ParseError")
def sx20 (K : PySem.W.Frag) : Bool := supB K (He.ga K "InvalidNumber") (iniA K (He.ga K "InvalidNumber")) "IndexError" "IndexError.__init__" "IndexError.__new__" [.type "IndexError", .type "LookupError", .type "Exception", .type "BaseException", .type "object"] && fnB K (He.ga K "InvalidNumber") (iniA K (He.ga K "InvalidNumber")) "InvalidNumber.__init__" && nB K (He.ga K "InvalidNumber") "value" && xfB K (He.ga K "InvalidNumber")
def sx21 (K : PySem.W.Frag) : Bool := supB K (He.ga K "UnknownName") (iniA K (He.ga K "UnknownName")) "KeyError" "KeyError.__init__" "LookupError.__new__" [.type "KeyError", .type "LookupError", .type "Exception", .type "BaseException", .type "object"] && fnB K (He.ga K "UnknownName") (iniA K (He.ga K "UnknownName")) "UnknownName.__init__" && nB K (He.ga K "UnknownName") "name" && xfB K (He.ga K "UnknownName")
def sx22 (K : PySem.W.Frag) : Bool := supB K (He.ga K "TooMany") (iniA K (He.ga K "TooMany")) "OverflowError" "OverflowError.__init__" "OverflowError.__new__" [.type "OverflowError", .type "ArithmeticError", .type "Exception", .type "BaseException", .type "object"] && fnB K (He.ga K "TooMany") (iniA K (He.ga K "TooMany")) "TooMany.__init__" && nB K (He.ga K "TooMany") "limit" && xfB K (He.ga K "TooMany")
def sx23 (K : PySem.W.Frag) : Bool := supB K (He.ga K "NothingToUndo") (iniA K (He.ga K "NothingToUndo")) "LookupError" "LookupError.__init__" "LookupError.__new__" [.type "LookupError", .type "Exception", .type "BaseException", .type "object"] && fnB K (He.ga K "NothingToUndo") (iniA K (He.ga K "NothingToUndo")) "NothingToUndo.__init__" && nB K (He.ga K "NothingToUndo") "many" && xfB K (He.ga K "NothingToUndo")
def sx24 (K : PySem.W.Frag) : Bool := supB K (He.ga K "Conflict") (iniA K (He.ga K "Conflict")) "RuntimeError" "RuntimeError.__init__" "RuntimeError.__new__" [.type "RuntimeError", .type "Exception", .type "BaseException", .type "object"] && fnB K (He.ga K "Conflict") (iniA K (He.ga K "Conflict")) "Conflict.__init__" && nB K (He.ga K "Conflict") "name" && xfB K (He.ga K "Conflict")
def sx25 (K : PySem.W.Frag) : Bool := supB K (He.ga K "Broken") (iniA K (He.ga K "Broken")) "ArithmeticError" "ArithmeticError.__init__" "ArithmeticError.__new__" [.type "ArithmeticError", .type "Exception", .type "BaseException", .type "object"] && fnB K (He.ga K "Broken") (iniA K (He.ga K "Broken")) "Broken.__init__" && nB K (He.ga K "Broken") "rule_label" && nB K (He.ga K "Broken") "row_numbers" && nB K (He.ga K "Broken") "point" && xfB K (He.ga K "Broken")
def exB (K : PySem.W.Frag) : Bool := allB (clB K (caL K)) 0 (caL K) && allB (fun _ C => plB K C) 0 [He.ga K "WhereError", He.ga K "InvalidPoint", He.ga K "InvalidShape", He.ga K "InvalidCell", He.ga K "InvalidDrawing", He.ga K "InvalidMap", He.ga K "InvalidLayer", He.ga K "InvalidArcs", He.ga K "InvalidBox", He.ga K "InvalidName", He.ga K "InvalidTree", He.ga K "InvalidTable", He.ga K "InvalidRow", He.ga K "InvalidCondition", He.ga K "InvalidQuestion", He.ga K "InvalidPlan", He.ga K "InvalidRule", He.ga K "InvalidOperation"] && clG K && (sx18 K && sx19 K && sx20 K && sx21 K && sx22 K && sx23 K && sx24 K && sx25 K)
def inis (K : PySem.W.Frag) : List IniW := [iniW K (iniA K (He.ga K "TakenName")), iniW K (iniA K (He.ga K "ParseError")), iniW K (iniA K (He.ga K "InvalidNumber")), iniW K (iniA K (He.ga K "UnknownName")), iniW K (iniA K (He.ga K "TooMany")), iniW K (iniA K (He.ga K "NothingToUndo")), iniW K (iniA K (He.ga K "Conflict")), iniW K (iniA K (He.ga K "Broken"))]
def iniVs : List IniW := [iniV st18 "TakenName.__init__", iniV st19 "ParseError.__init__", iniV st20 "InvalidNumber.__init__", iniV st21 "UnknownName.__init__", iniV st22 "TooMany.__init__", iniV st23 "NothingToUndo.__init__", iniV st24 "Conflict.__init__", iniV st25 "Broken.__init__"]
abbrev R : PySem.W.OpenRow := PySem.W.OpenLaw.row PySem.Challenge.rw_wherebase_k00_whole_errors
abbrev AlY : Type := He.AlD × Bool × List IniW
structure SaysY (K : PySem.W.Frag) : Prop where
  d : He.SaysD fa fn K
  more : exB K = true
  ini : inis K = iniVs
def obsK (K : PySem.W.Frag) : AlY := (He.obsD fa fn K, exB K, inis K)
def obsY (g : Addr → Option Obj) : AlY := obsK (He.frG g (He.asD g 5 ++ [cStatics]))
def valY : AlY := (He.valD fn, true, iniVs)
theorem saysY_of {K : PySem.W.Frag} (e : obsK K = valY) : SaysY K :=
  ⟨congrArg (fun z : AlY => z.1) e, congrArg (fun z : AlY => z.2.1) e, congrArg (fun z : AlY => z.2.2) e⟩
abbrev hk : PySem.W.Hook where
  α := AlY
  obs := fun s => obsY s.heap.get?
  val := fun _ => valY
  says := fun _ h => ∃ K : PySem.W.Frag, K.In h ∧ SaysY K
  of := fun _ _ e => ⟨_, He.frG_in, saysY_of e⟩
  keeps := fun _ _ _ ⟨K, hK, c⟩ k => ⟨K, PySem.W.Frag.In.keeps hK k, c⟩
def ob (s : PySem.W.SharedT) : AlY := obsY (HandSHeadRun.getT s)
theorem ob_eq (s : PySem.W.SharedT) : ob s = hk.obs s.abs := by
  have e : HandSHeadRun.getT s = s.abs.heap.get? := funext (HandSHeadRun.getT_eq s)
  unfold ob
  rw [e]
theorem run (w : World) : HandSHeadRun.RunEq R (PySem.W.view R.prog [39]) hk ob 20000 loose w := by
  intro os
  kernel_rfl
end Wb

namespace Wb
open PySem PySem.Spec PyProof.Rows L2
open Evl (Ex Ex.refl Ex.trans Ex.new)

/-! ### heaps and data -/
theorem ex_upd {H : Hp} {p : Addr} {o : HO} (h : H p = none) : Ex H (upd H p o) := Evl.Ex.new h
mutual
theorem dpMono {K : PySem.W.Frag} {H H' : Hp} (e : Ex H H') : ∀ {d : PyData} {v : V}, Dp K H v d → Dp K H' v d
  | .none, _, h => by cases h; exact .non
  | .bool _, _, h => by cases h; exact .bl _
  | .int _, _, h => by cases h; exact .int _
  | .str _, _, h => by cases h; exact .str _
  | .list ds, _, h => by
    cases h with
    | lst hs ha => exact .lst (Evl.ex_l e hs) (dpMonoA e ha)
  | .tuple ds, _, h => by
    cases h with
    | tup hs ha => exact .tup (Evl.ex_t e hs) (dpMonoA e ha)
  | .dict _, _, h => by cases h
theorem dpMonoA {K : PySem.W.Frag} {H H' : Hp} (e : Ex H H') : ∀ {ds : List PyData} {vs : List V}, DpAll K H vs ds → DpAll K H' vs ds
  | [], _, h => by cases h; exact .nil
  | d :: ds, _, h => by
    cases h with
    | cons h1 h2 => exact .cons (dpMono e h1) (dpMonoA e h2)
end
section
variable {K : PySem.W.Frag} {H H' : Hp} {v : V} {vs : List V} {d : PyData} {ds : List PyData}
theorem dpInt {i : Int} (h : Dp K H v (.int i)) : v = .int i := by cases h; rfl
theorem dpBl {b : Bool} (h : Dp K H v (.bool b)) : v = .bl b := by cases h; rfl
theorem dpStr {s : Str} (h : Dp K H v (.str s)) : v = .str s := by cases h; rfl
theorem dpNon (h : Dp K H v .none) : v = .non := by cases h; rfl
theorem dpTup (h : Dp K H v (.tuple ds)) : ∃ a vs, v = .ref a ∧ SqT K H a vs ∧ DpAll K H vs ds := by
  cases h with
  | tup hs ha => exact ⟨_, _, rfl, hs, ha⟩
theorem dpLst (h : Dp K H v (.list ds)) : ∃ a vs, v = .ref a ∧ SqL K H a vs ∧ DpAll K H vs ds := by
  cases h with
  | lst hs ha => exact ⟨_, _, rfl, hs, ha⟩
theorem dpLen : ∀ {ds : List PyData} {vs : List V}, DpAll K H vs ds → vs.length = ds.length
  | [], _, h => by cases h; rfl
  | d :: ds, _, h => by
    cases h with
    | cons h1 h2 => rw [List.length_cons, List.length_cons, dpLen h2]
theorem dpGet : ∀ {ds : List PyData} {vs : List V} {i : Nat} {d : PyData}, DpAll K H vs ds → ds[i]? = some d → ∃ v, vs[i]? = some v ∧ Dp K H v d
  | [], _, _, _, _, e => by simp at e
  | d :: ds, _, 0, _, h, e => by
    cases h with
    | cons h1 h2 =>
      have e2 : d = _ := Option.some.inj e
      subst e2
      exact ⟨_, rfl, h1⟩
  | d :: ds, _, i + 1, _, h, e => by
    cases h with
    | cons h1 h2 =>
      obtain ⟨v, q1, q2⟩ := dpGet (i := i) h2 (by simpa using e)
      exact ⟨v, by simpa using q1, q2⟩
theorem dpAt {i : Int} {d : PyData} (h : DpAll K H vs ds) (e : atI ds i = some d) : ∃ v, atI vs i = some v ∧ Dp K H v d := by
  unfold atI at e ⊢
  rw [dpLen h]
  cases q : ixN ds.length i with
  | none =>
    rw [q] at e
    cases e
  | some j =>
    rw [q] at e
    exact dpGet h e
def tyD : PyData → String
  | .none => "NoneType"
  | .bool _ => "bool"
  | .int _ => "int"
  | .str _ => "str"
  | .list _ => "list"
  | .tuple _ => "tuple"
  | .dict _ => "dict"
theorem dpTy (h : Dp K H v d) : TyX K H v (.type (tyD d)) := by
  cases h with
  | non => exact .base .non
  | bl b => exact .base (.bl b)
  | int i => exact .base (.int i)
  | str x => exact .base (.str x)
  | lst hs ha =>
    rcases hs with (h1 | ⟨o, h1⟩) | ⟨o, its, n, lk, hc, _⟩
    · exact .base (.lst h1)
    · exact .base (.frz h1)
    · exact .kList lk hc
  | tup hs ha =>
    rcases hs with (h1 | ⟨o, h1⟩) | ⟨o, its, n, lk, hc, _⟩
    · exact .base (.tup h1)
    · exact .fTuple h1
    · exact .kTuple lk hc
end
/-! ### sizes of ints -/
def Sz (n : Nat) (i : Int) : Prop := i.natAbs < 2 ^ n
theorem sz_mul {a b : Nat} {i j : Int} (ha : Sz a i) (hb : Sz b j) : Sz (a + b) (i * j) := by
  unfold Sz at *
  rw [Int.natAbs_mul, Nat.pow_add]
  exact Nat.mul_lt_mul'' ha hb
theorem sz_mono {a b : Nat} {i : Int} (h : Sz a i) (hab : a ≤ b) : Sz b i := Nat.lt_of_lt_of_le h (Nat.pow_le_pow_right (by decide) hab)
theorem sz_add {a b : Nat} {i j : Int} (ha : Sz a i) (hb : Sz b j) : Sz (a + b + 1) (i + j) := by
  have h1 := sz_mono ha (Nat.le_add_right a b)
  have h2 := sz_mono hb (Nat.le_add_left b a)
  unfold Sz at *
  rw [Nat.pow_succ]
  have := Int.natAbs_add_le i j
  omega
theorem sz_neg {a : Nat} {i : Int} (ha : Sz a i) : Sz a (-i) := by
  unfold Sz at *
  rw [Int.natAbs_neg]
  exact ha
theorem sz_sub {a b : Nat} {i j : Int} (ha : Sz a i) (hb : Sz b j) : Sz (a + b + 1) (i - j) := by
  rw [Int.sub_eq_add_neg]
  exact sz_add ha (sz_neg hb)
theorem sz_le {a : Nat} {i j : Int} (ha : Sz a j) (h : i.natAbs ≤ j.natAbs) : Sz a i := Nat.lt_of_le_of_lt h ha
theorem sz_div {a : Nat} {i j : Int} (ha : Sz a i) : Sz a (i / j) := sz_le ha (Int.natAbs_ediv_le_natAbs i j)
theorem fdiv_abs (i j : Int) : (i.fdiv j).natAbs ≤ i.natAbs := by
  rcases Int.lt_trichotomy j 0 with h | h | h
  · have e : i.fdiv j = (-i) / (-j) := by
      rw [← Int.fdiv_eq_ediv_of_nonneg (-i) (by omega), Int.neg_fdiv_neg]
    rw [e, ← Int.natAbs_neg i]
    exact Int.natAbs_ediv_le_natAbs _ _
  · subst h
    rw [Int.fdiv_zero]
    omega
  · rw [Int.fdiv_eq_ediv_of_nonneg i (by omega)]
    exact Int.natAbs_ediv_le_natAbs _ _
theorem sz_fdiv {a : Nat} {i j : Int} (ha : Sz a i) : Sz a (i.fdiv j) := sz_le ha (fdiv_abs i j)
theorem mulx {a b : Nat} {i j : Int} (ha : Sz a i) (hb : Sz b j) (h : a + b ≤ 134217728) : CMulX i j := mulx_ok ha hb h

theorem sz_lit {i : Int} (h : i.natAbs < 18446744073709551616) : Sz 64 i := h
theorem ex_at {H H' : Hp} {a : Addr} {o : HO} (e : Ex H H') (h : H a = some o) : H' a = some o := e a o h
def gd (a b : Int) : Int := ((Nat.gcd a.natAbs b.natAbs : Nat) : Int)
/-! ### own operators -/
section
variable {X : Cx}
def CPowX (i j : Int) : Prop := 0 ≤ j ∧ (Builtin.Int.intBits i : Int) * j ≤ 2 ^ 27
theorem op_powX : OpR X (binaryOp .Pow) (rI CPowX fun i j => .int (i ^ j.toNat)) := opI fun _ _ _ _ _ _ _ hc q => pow_int hc.1 hc.2 q
def CDivX (_ j : Int) : Prop := j ≠ 0 ∧ j.natAbs.log2 < 9000
theorem op_fdivX : OpR X (binaryOp .FloorDiv) (rI CDivX fun i j => .int (i.fdiv j)) := opI fun i j _ _ _ _ _ hc q =>
  floordiv_int hc.1 q (.inl (PyProof.noPylong_of_log2 hc.2))
/-- a def that may be called by its name -/
structure Cl (P : Program) (w : World) (K : PySem.W.Frag) (mg : Str → Option Value) (base : Heap) (k : Nat) (x : Str) (sp : Sp) : Prop where
  ex : ∃ (f : Addr) (fd : FuncData) (ps : List Str), FnOk P w K mg base CX0 k f fd ps sp ∧ mg x = some (.ref f) ∧ PySem.W.keepIn K (.ref f) = true ∧ Binds K fd ps []
def tCl (sp : Sp) (t : TA) : TE := fun σ H Q => t σ H fun vs H1 => sp vs H1 Q E0
theorem pc {k j : Nat} {x : Str} {sp : Sp} {p pos : Pos} {e : Expr} {es : List Expr} {t : TA} (c : Cl X.prog X.w X.K X.mg X.base k x sp) (hr : Room j X.A) (hk : k ≤ j) (hg : Gl X x) (ha : PA X (e :: es) t)
    (hdb : (x == ("__debug__" : Str)) = false := by decide) (he : starEach (e :: es) X.env = (false, eval e X.env) :: starEach es X.env := by rfl) (hpl : (backTo pos (starEach es X.env)).any (·.1) = false := by rfl) :
    PE X (.Call (.Name x p) (e :: es) [] pos) (tCl sp t) := by
  obtain ⟨f, fd, ps, F, hm, kp, b⟩ := c.ex
  have h := pe_call (p := p) F (hr.mono hk) hg hm kp b (.nil : Vals [] []) pass0 ha hdb he hpl
  have e1 : tCall sp [] E0 t = tCl sp t := by
    funext σ H Q
    show (t σ H fun vs H1 => sp (vs ++ []) H1 Q E0) = t σ H fun vs H1 => sp vs H1 Q E0
    congr 1
    funext vs H1
    rw [List.append_nil]
  rw [← e1]
  exact h
end
/-- a def with a star parameter -/
structure ClR (P : Program) (w : World) (K : PySem.W.Frag) (mg : Str → Option Value) (base : Heap) (k : Nat) (x : Str) (sp : Sp) : Prop where
  ex : ∃ (f : Addr), FnR P w K mg base CX0 k f sp ∧ mg x = some (.ref f) ∧ PySem.W.keepIn K (.ref f) = true
section
variable {X : Cx}
theorem pcR {k j : Nat} {x : Str} {sp : Sp} {p pos : Pos} {e : Expr} {es : List Expr} {t : TA} (c : ClR X.prog X.w X.K X.mg X.base k x sp) (hr : Room j X.A) (hk : k ≤ j) (hg : Gl X x) (ha : PA X (e :: es) t)
    (hdb : (x == ("__debug__" : Str)) = false := by decide) (he : starEach (e :: es) X.env = (false, eval e X.env) :: starEach es X.env := by rfl) (hpl : (backTo pos (starEach es X.env)).any (·.1) = false := by rfl) :
    PE X (.Call (.Name x p) (e :: es) [] pos) (tCl sp t) := by
  obtain ⟨f, F, hm, kp⟩ := c.ex
  refine ⟨fun pins s σ H Q I h => ?_⟩
  refine wpAny_Call_Name_kw (ld_glob I hg hm ?_ hdb)
  refine PySem.W.callWith_K (h₀ := X.base) I.ok.mod.kin kp (thn (ha.run pos pins s σ H _ I h) fun us s1 ⟨vs, H1, I1, r, q⟩ => ⟨I1.kIn, ?_⟩) he hpl
  exact wpAny_call (run_fnR F (hr.mono hk) pass0 I1 r q)
end
theorem FnR.weak {P : Program} {w : World} {K : PySem.W.Frag} {mg : Str → Option Value} {base : Heap} {CX : CXT} {k : Nat} {f : Addr} {sp sp' : Sp} (F : FnR P w K mg base CX k f sp) (h : ∀ vs H Q E, sp' vs H Q E → sp vs H Q E) : FnR P w K mg base CX k f sp' :=
  fun A outer s H us vs Q E hr e0 r hs => F A outer s H us vs Q E hr e0 r (h vs H Q E hs)
/-! ### built-ins by names of their own -/
def qLen (K : PySem.W.Frag) : List V → Hp → VK → Prop := fun xs H Q => ∃ p ys, xs = [.ref p] ∧ (SqL K H p ys ∨ SqT K H p ys) ∧ Q (.int (ys.length : Int)) H
def qAbs : List V → Hp → VK → Prop := fun xs H Q => ∃ i, xs = [.int i] ∧ Q (.int (if i < 0 then -i else i)) H
def qMax2 : List V → Hp → VK → Prop := fun xs H Q => ∃ i j, xs = [.int i, .int j] ∧ Q (.int (if j > i then j else i)) H
def qMin2 : List V → Hp → VK → Prop := fun xs H Q => ∃ i j, xs = [.int i, .int j] ∧ Q (.int (if j < i then j else i)) H
def qInt1 : List V → Hp → VK → Prop := fun xs H Q => (∃ i, xs = [.int i] ∧ Q (.int i) H) ∨ ∃ k, xs = [.bl k] ∧ Q (.int (if k then 1 else 0)) H
def qListOf (K : PySem.W.Frag) : List V → Hp → VK → Prop := fun xs H Q => ∃ p ys, xs = [.ref p] ∧ (SqL K H p ys ∨ SqT K H p ys) ∧ ∀ l, H l = none → Q (.ref l) (upd H l (.lst ys))
def qTupleOf (K : PySem.W.Frag) : List V → Hp → VK → Prop := fun xs H Q => ∃ p ys, xs = [.ref p] ∧ ((SqL K H p ys ∧ ∀ l, H l = none → Q (.ref l) (upd H l (.tup ys))) ∨ (SqT K H p ys ∧ Q (.ref p) H))
def qIsN : R2 := fun x y H Q => y = .non ∧ Q (.bl (decide (x = .non))) H
def qNotN : R2 := fun x y H Q => y = .non ∧ Q (.bl (!decide (x = .non))) H
section
variable {X : Cx}
theorem call_qlen : CallR X (.builtin "len") (qLen X.K) := call_len_seq
theorem call_qabs : CallR X (.builtin "abs") qAbs := call_abs
theorem call_qmax2 (hc : X.calm = true) : CallR X (.builtin "max") qMax2 := call_max2 hc
theorem call_qmin2 (hc : X.calm = true) : CallR X (.builtin "min") qMin2 := call_min2 hc
theorem call_qint1 : CallR X (.type "int") qInt1 := call_int1
theorem call_qlist : CallR X (.type "list") (qListOf X.K) := call_list_of
theorem call_qtuple : CallR X (.type "tuple") (qTupleOf X.K) := call_tuple_of
theorem op_qisN : OpR X (compareOp .Is) qIsN := op_isN
theorem op_qnotN : OpR X (compareOp .IsNot) qNotN := op_notN
end
def MkT (xs : List V) (H : Hp) (Q : VK) : Prop := xs.length ≤ sizeLine ∧ ∀ p, H p = none → Q (.ref p) (upd H p (.tup xs))
def MkL (xs : List V) (H : Hp) (Q : VK) : Prop := xs.length ≤ sizeLine ∧ ∀ p, H p = none → Q (.ref p) (upd H p (.lst xs))
/-! ### readings, step by step -/
section
variable {K : PySem.W.Frag} {σ : L2.St} {H H' : Hp} {Q : VK} {D : Ends} {ta tb te : TE} {t u : TS} {c c' : TT} {v w : V} {i j : Int} {n m : Nat}
theorem i_seq (h : t { D with nx := u D } σ H) : tSeq t u D σ H := h
theorem i_asg {g : TG} (h : te σ H fun x H1 => g x σ H1 D.nx) : tAsg te g D σ H := h
theorem i_name {R : L2.St → Hp → Prop} (h : R (σ.set n (some v)) H) : gName n v σ H R := h
theorem i_nameN {σ' : L2.St} {R : L2.St → Hp → Prop} (e : σ.set n (some v) = σ') (h : R σ' H) : gName n v σ H R := by subst e; exact h
theorem i_ret (h : te σ H D.rt) : tRet te D σ H := h
theorem i_ifs (h : c σ H fun b H1 => if b = true then t D σ H1 else u D σ H1) : tIfS c t u D σ H := h
theorem i_drop (h : te σ H fun _ H1 => D.nx σ H1) : tDrop te D σ H := h
theorem i_next (h : D.nx σ H) : tNext D σ H := h
theorem i_var (h : σ[n]? = some (some v)) (q : Q v H) : tVar n σ H Q := ⟨v, h, q⟩
theorem i_c (q : Q v H) : tC v σ H Q := q
theorem i_op {r : R2} (q : ta σ H fun x H1 => tb σ H1 fun y H2 => r x y H2 Q) : tOp r ta tb σ H Q := q
theorem i_un {r : V → Hp → VK → Prop} (q : ta σ H fun x H1 => r x H1 Q) : tUn r ta σ H Q := q
theorem i_I0 {g : Int → Int → V} (q : Q (g i j) H) : rI0 g (.int i) (.int j) H Q := ⟨i, j, rfl, rfl, q⟩
theorem i_I {C : Int → Int → Prop} {g : Int → Int → V} (hc : C i j) (q : Q (g i j) H) : rI C g (.int i) (.int j) H Q := ⟨i, j, rfl, rfl, hc, q⟩
theorem i_mul {a b : Nat} (ha : Sz a i) (hb : Sz b j) (h : a + b ≤ 134217728) (q : Q (.int (i * j)) H) : rI CMulX (fun i j => .int (i * j)) (.int i) (.int j) H Q := ⟨i, j, rfl, rfl, mulx ha hb h, q⟩
theorem i_modN (h : j ≠ 0) (q : Q (.int (i.fmod j)) H) : rI (fun _ j => j ≠ 0) (fun i j => .int (i.fmod j)) (.int i) (.int j) H Q := ⟨i, j, rfl, rfl, h, q⟩
theorem i_fdX {b : Nat} (h : j ≠ 0) (hb : Sz b j) (h9 : b ≤ 9000) (q : Q (.int (i.fdiv j)) H) : rI CDivX (fun i j => .int (i.fdiv j)) (.int i) (.int j) H Q := by
  refine ⟨i, j, rfl, rfl, ⟨h, ?_⟩, q⟩
  have h2 : j.natAbs < 2 ^ (b + 1) := Nat.lt_of_lt_of_le hb (Nat.pow_le_pow_right (by decide) (Nat.le_succ b))
  have h3 : j.natAbs < 2 ^ 9000 := Nat.lt_of_lt_of_le hb (Nat.pow_le_pow_right (by decide) h9)
  exact PySem.Flt.log2_lt_of (by decide) h3
theorem i_pow (h : CPowX i j) (q : Q (.int (i ^ j.toNat)) H) : rI CPowX (fun i j => .int (i ^ j.toNat)) (.int i) (.int j) H Q := ⟨i, j, rfl, rfl, h, q⟩
theorem i_U {g : Int → V} (q : Q (g i) H) : rU g (.int i) H Q := ⟨i, rfl, q⟩
theorem i_test {R : Bool → Hp → Prop} (q : te σ H fun x H' => ∃ k, x = .bl k ∧ R k H') : tTest te σ H R := q
theorem i_B {R : Bool → Hp → Prop} (q : te σ H fun x H' => ∃ k, x = .bl k ∧ R k H') : tB te σ H R := q
theorem i_k {b : Bool} {R : Bool → Prop} (q : R b) : ∃ k, V.bl b = .bl k ∧ R k := ⟨b, rfl, q⟩
theorem i_and {R : Bool → Hp → Prop} (q : c σ H fun b H1 => if b = true then c' σ H1 R else R false H1) : tAnd c c' σ H R := q
theorem i_or {R : Bool → Hp → Prop} (q : c σ H fun b H1 => if b = true then R true H1 else c' σ H1 R) : tOr c c' σ H R := q
theorem i_not {R : Bool → Hp → Prop} (q : c σ H fun b H1 => R (!b) H1) : tNot c σ H R := q
theorem i_andV (q : ta σ H fun x H1 => ∃ k, x = .bl k ∧ if k = true then tb σ H1 Q else Q (.bl false) H1) : tAndV ta tb σ H Q := q
theorem i_orV (q : ta σ H fun x H1 => ∃ k, x = .bl k ∧ if k = true then Q (.bl true) H1 else tb σ H1 Q) : tOrV ta tb σ H Q := q
theorem i_notV (q : ta σ H fun x H1 => ∃ k, x = .bl k ∧ Q (.bl (!k)) H1) : tNotV ta σ H Q := q
theorem i_if (q : c σ H fun b H1 => if b = true then ta σ H1 Q else tb σ H1 Q) : tIf c ta tb σ H Q := q
theorem i_ite {p : Prop} [Decidable p] {A B : Prop} (h1 : p → A) (h2 : ¬ p → B) : if decide p = true then A else B := by
  by_cases h : p
  · rw [if_pos (decide_eq_true h)]
    exact h1 h
  · rw [if_neg (by rw [decide_eq_false h]; decide)]
    exact h2 h
theorem i_iteN {p : Prop} [Decidable p] {A B : Prop} (h1 : ¬ p → A) (h2 : p → B) : if (!decide p) = true then A else B := by
  by_cases h : p
  · rw [decide_eq_true h]
    exact h2 h
  · rw [decide_eq_false h]
    exact h1 h
theorem i_iteB {b : Bool} {A B : Prop} (h1 : b = true → A) (h2 : b = false → B) : if b = true then A else B := by
  cases b with
  | true => exact h1 rfl
  | false => exact h2 rfl
theorem i_iteBN {b : Bool} {A B : Prop} (h1 : b = false → A) (h2 : b = true → B) : if (!b) = true then A else B := by
  cases b with
  | true => exact h2 rfl
  | false => exact h1 rfl
theorem i_iteT {A B : Prop} (h : A) : if true = true then A else B := h
theorem i_iteF {A B : Prop} (h : B) : if false = true then A else B := h
theorem i_cl {sp : Sp} {ts : TA} (q : ts σ H fun vs H1 => sp vs H1 Q E0) : tCl sp ts σ H Q := q
theorem i_nil {R : List V → Hp → Prop} (q : R [] H) : tNil σ H R := q
theorem i_cons {ts : TA} {R : List V → Hp → Prop} (q : ta σ H fun x H1 => ts σ H1 fun xs H2 => R (x :: xs) H2) : tCons ta ts σ H R := q
theorem i_cb {r : List V → Hp → VK → Prop} {ts : TA} (q : ts σ H fun vs H1 => r vs H1 Q) : tCB r ts σ H Q := q
theorem i_tup {ts : TA} (q : ts σ H fun xs H1 => MkT xs H1 Q) : tTup ts σ H Q := q
theorem i_lst {ts : TA} (q : ts σ H fun xs H1 => MkL xs H1 Q) : tLst ts σ H Q := q
theorem i_mkT {xs : List V} (hl : xs.length ≤ 100000) (q : ∀ p H2, Ex H H2 → H2 p = some (.tup xs) → Q (.ref p) H2) : MkT xs H Q :=
  ⟨Evl.sz_of hl, fun p hp => q p _ (ex_upd hp) upd_same⟩
theorem i_mkL {xs : List V} (hl : xs.length ≤ 100000) (q : ∀ p H2, H p = none → Ex H H2 → H2 p = some (.lst xs) → Q (.ref p) H2) : MkL xs H Q :=
  ⟨Evl.sz_of hl, fun p hp => q p _ hp (ex_upd hp) upd_same⟩
theorem i_ixTI {H0 : Hp} {ds : List PyData} {k : Int} (h : Dp K H0 v (.tuple ds)) (he : Ex H0 H) (e : atI ds k = some (.int i)) (q : Q (.int i) H) : rIxT K v (.int k) H Q := by
  obtain ⟨a, vs, rfl, hs, ha⟩ := dpTup (dpMono he h)
  obtain ⟨u, e1, e2⟩ := dpAt ha e
  cases dpInt e2
  exact ⟨a, vs, k, _, rfl, rfl, hs, e1, q⟩
theorem i_ixT {H0 : Hp} {ds : List PyData} {k : Int} {d : PyData} (h : Dp K H0 v (.tuple ds)) (he : Ex H0 H) (e : atI ds k = some d) (q : ∀ u, Dp K H0 u d → Q u H) : rIxT K v (.int k) H Q := by
  obtain ⟨a, vs, rfl, hs, ha⟩ := dpTup h
  obtain ⟨u, e1, e2⟩ := dpAt ha e
  exact ⟨a, vs, k, _, rfl, rfl, Evl.ex_t he hs, e1, q u e2⟩
theorem i_ixLI {H0 : Hp} {ds : List PyData} {k : Int} (h : Dp K H0 v (.list ds)) (he : Ex H0 H) (e : atI ds k = some (.int i)) (q : Q (.int i) H) : rIxL K v (.int k) H Q := by
  obtain ⟨a, vs, rfl, hs, ha⟩ := dpLst (dpMono he h)
  obtain ⟨u, e1, e2⟩ := dpAt ha e
  cases dpInt e2
  exact ⟨a, vs, k, _, rfl, rfl, hs, e1, q⟩
theorem i_ixL {H0 : Hp} {ds : List PyData} {k : Int} {d : PyData} (h : Dp K H0 v (.list ds)) (he : Ex H0 H) (e : atI ds k = some d) (q : ∀ u, Dp K H0 u d → Q u H) : rIxL K v (.int k) H Q := by
  obtain ⟨a, vs, rfl, hs, ha⟩ := dpLst h
  obtain ⟨u, e1, e2⟩ := dpAt ha e
  exact ⟨a, vs, k, _, rfl, rfl, Evl.ex_l he hs, e1, q u e2⟩
theorem i_isi {d : PyData} {T : String} {b : Bool} (h : Dp K H v d) (e : kitB (tyD d) T = some b) (q : Q (.bl b) H) : rIsi K [v, .ty T] H Q :=
  ⟨v, .ty T, _, _, b, rfl, .ty T, dpTy h, kit_ty e, q⟩
@[reducible] def dIsInt : PyData → Bool
  | .int _ => true
  | .bool _ => true
  | _ => false
@[reducible] def dIsBool : PyData → Bool
  | .bool _ => true
  | _ => false
@[reducible] def dIsTup : PyData → Bool
  | .tuple _ => true
  | _ => false
@[reducible] def dIsStr : PyData → Bool
  | .str _ => true
  | _ => false
@[reducible] def dIsLst : PyData → Bool
  | .list _ => true
  | _ => false
theorem i_isiI {d : PyData} (h : Dp K H v d) (q : Q (.bl (dIsInt d)) H) : rIsi K [v, .ty "int"] H Q := i_isi h (by cases d <;> (dsimp only [tyD, dIsInt]; decide +kernel)) q
theorem i_isiB {d : PyData} (h : Dp K H v d) (q : Q (.bl (dIsBool d)) H) : rIsi K [v, .ty "bool"] H Q := i_isi h (by cases d <;> (dsimp only [tyD, dIsBool]; decide +kernel)) q
theorem i_isiT {d : PyData} (h : Dp K H v d) (q : Q (.bl (dIsTup d)) H) : rIsi K [v, .ty "tuple"] H Q := i_isi h (by cases d <;> (dsimp only [tyD, dIsTup]; decide +kernel)) q
theorem i_isiS {d : PyData} (h : Dp K H v d) (q : Q (.bl (dIsStr d)) H) : rIsi K [v, .ty "str"] H Q := i_isi h (by cases d <;> (dsimp only [tyD, dIsStr]; decide +kernel)) q
theorem i_isiL {d : PyData} (h : Dp K H v d) (q : Q (.bl (dIsLst d)) H) : rIsi K [v, .ty "list"] H Q := i_isi h (by cases d <;> (dsimp only [tyD, dIsLst]; decide +kernel)) q
theorem i_iteTr {b : Bool} {A B : Prop} (h : b = true) (q : A) : if b = true then A else B := by subst h; exact q
theorem i_iteFr {b : Bool} {A B : Prop} (h : b = false) (q : B) : if b = true then A else B := by subst h; exact q
/-- promises by the number of arguments -/
def A1 (P : V → Hp → VK → Prop) : Sp := fun vs H Q _ => ∃ v1, vs = [v1] ∧ P v1 H Q
def A2 (P : V → V → Hp → VK → Prop) : Sp := fun vs H Q _ => ∃ v1 v2, vs = [v1, v2] ∧ P v1 v2 H Q
def A3 (P : V → V → V → Hp → VK → Prop) : Sp := fun vs H Q _ => ∃ v1 v2 v3, vs = [v1, v2, v3] ∧ P v1 v2 v3 H Q
def A4 (P : V → V → V → V → Hp → VK → Prop) : Sp := fun vs H Q _ => ∃ v1 v2 v3 v4, vs = [v1, v2, v3, v4] ∧ P v1 v2 v3 v4 H Q
def A5 (P : V → V → V → V → V → Hp → VK → Prop) : Sp := fun vs H Q _ => ∃ v1 v2 v3 v4 v5, vs = [v1, v2, v3, v4, v5] ∧ P v1 v2 v3 v4 v5 H Q
def A6 (P : V → V → V → V → V → V → Hp → VK → Prop) : Sp := fun vs H Q _ => ∃ v1 v2 v3 v4 v5 v6, vs = [v1, v2, v3, v4, v5, v6] ∧ P v1 v2 v3 v4 v5 v6 H Q
theorem A1.len {P} {vs : List V} {E : XK} (h : A1 P vs H Q E) : vs.length = 1 := by obtain ⟨_, rfl, _⟩ := h; rfl
theorem A2.len {P} {vs : List V} {E : XK} (h : A2 P vs H Q E) : vs.length = 2 := by obtain ⟨_, _, rfl, _⟩ := h; rfl
theorem A3.len {P} {vs : List V} {E : XK} (h : A3 P vs H Q E) : vs.length = 3 := by obtain ⟨_, _, _, rfl, _⟩ := h; rfl
theorem A4.len {P} {vs : List V} {E : XK} (h : A4 P vs H Q E) : vs.length = 4 := by obtain ⟨_, _, _, _, rfl, _⟩ := h; rfl
theorem A5.len {P} {vs : List V} {E : XK} (h : A5 P vs H Q E) : vs.length = 5 := by obtain ⟨_, _, _, _, _, rfl, _⟩ := h; rfl
theorem A6.len {P} {vs : List V} {E : XK} (h : A6 P vs H Q E) : vs.length = 6 := by obtain ⟨_, _, _, _, _, _, rfl, _⟩ := h; rfl
/-- what a pure def gives back -/
def Ret (K : PySem.W.Frag) (d : PyData) (H : Hp) (Q : VK) : Prop := ∀ v H2, Ex H H2 → Dp K H2 v d → Q v H2
theorem Ret.int (r : Ret K (.int i) H Q) (e : Ex H H') : Q (.int i) H' := r _ _ e (.int i)
theorem Ret.bl {b : Bool} (r : Ret K (.bool b) H Q) (e : Ex H H') : Q (.bl b) H' := r _ _ e (.bl b)
theorem Ret.non (r : Ret K .none H Q) (e : Ex H H') : Q .non H' := r _ _ e .non
theorem ret_int (q : ∀ H2, Ex H H2 → Q (.int i) H2) : Ret K (.int i) H Q := fun v H2 e h => by cases h; exact q H2 e
theorem ret_bl {b : Bool} (q : ∀ H2, Ex H H2 → Q (.bl b) H2) : Ret K (.bool b) H Q := fun v H2 e h => by cases h; exact q H2 e
theorem ret_non (q : ∀ H2, Ex H H2 → Q .non H2) : Ret K .none H Q := fun v H2 e h => by cases h; exact q H2 e
theorem Ret.use {d : PyData} (r : Ret K d H Q) (e : Ex H H') (h : Dp K H' v d) : Q v H' := r v H' e h
theorem Ret.int' {k : Int} (r : Ret K (.int k) H Q) (e : Ex H H') (h : k = i) : Q (.int i) H' := by
  subst h
  exact r.int e
theorem Ret.bl' {b k : Bool} (r : Ret K (.bool k) H Q) (e : Ex H H') (h : k = b) : Q (.bl b) H' := by
  subst h
  exact r.bl e
theorem i_eq (hs : scal v w = true) (q : Q (.bl (decide (v = w))) H) : rEq v w H Q := ⟨hs, q⟩
theorem i_ne (hs : scal v w = true) (q : Q (.bl (!decide (v = w))) H) : rNe v w H Q := ⟨hs, q⟩
theorem i_eqI (q : Q (.bl (decide (i = j))) H) : rEq (.int i) (.int j) H Q := by
  refine ⟨rfl, ?_⟩
  have e : decide (V.int i = V.int j) = decide (i = j) := by
    by_cases h : i = j
    · subst h; simp
    · rw [decide_eq_false h, decide_eq_false (fun z => h (V.int.inj z))]
  rw [e]
  exact q
theorem i_neI (q : Q (.bl (!decide (i = j))) H) : rNe (.int i) (.int j) H Q := by
  refine ⟨rfl, ?_⟩
  have e : decide (V.int i = V.int j) = decide (i = j) := by
    by_cases h : i = j
    · subst h; simp
    · rw [decide_eq_false h, decide_eq_false (fun z => h (V.int.inj z))]
  rw [e]
  exact q
theorem i_gcd (q : Q (.int (gd i j)) H) : rGcd [.int i, .int j] H Q := ⟨i, j, rfl, q⟩
theorem i_qabs (q : Q (.int (if i < 0 then -i else i)) H) : qAbs [.int i] H Q := ⟨i, rfl, q⟩
theorem i_qmax2 (q : Q (.int (if j > i then j else i)) H) : qMax2 [.int i, .int j] H Q := ⟨i, j, rfl, q⟩
theorem i_qmin2 (q : Q (.int (if j < i then j else i)) H) : qMin2 [.int i, .int j] H Q := ⟨i, j, rfl, q⟩
theorem i_qint (q : Q (.int i) H) : qInt1 [.int i] H Q := .inl ⟨i, rfl, q⟩
theorem i_qintB {b : Bool} (q : Q (.int (if b then 1 else 0)) H) : qInt1 [.bl b] H Q := .inr ⟨b, rfl, q⟩
theorem i_qlenT {ds : List PyData} (h : Dp K H v (.tuple ds)) (q : Q (.int (ds.length : Int)) H) : qLen K [v] H Q := by
  obtain ⟨a, vs, rfl, hs, ha⟩ := dpTup h
  refine ⟨a, vs, rfl, .inr hs, ?_⟩
  rw [dpLen ha]
  exact q
theorem i_qlenL {ds : List PyData} (h : Dp K H v (.list ds)) (q : Q (.int (ds.length : Int)) H) : qLen K [v] H Q := by
  obtain ⟨a, vs, rfl, hs, ha⟩ := dpLst h
  refine ⟨a, vs, rfl, .inl hs, ?_⟩
  rw [dpLen ha]
  exact q
theorem i_qtupleL {ds : List PyData} (h : Dp K H v (.list ds)) (q : ∀ p H2, Ex H H2 → (∃ vs, H2 p = some (.tup vs) ∧ DpAll K H2 vs ds) → Q (.ref p) H2) : qTupleOf K [v] H Q := by
  obtain ⟨a, vs, rfl, hs, ha⟩ := dpLst h
  exact ⟨a, vs, rfl, .inl ⟨hs, fun l hl => q l _ (ex_upd hl) ⟨vs, upd_same, dpMonoA (ex_upd hl) ha⟩⟩⟩
theorem i_qlistT {ds : List PyData} (h : Dp K H v (.tuple ds)) (q : ∀ p H2, H p = none → Ex H H2 → (∃ vs, H2 p = some (.lst vs) ∧ DpAll K H2 vs ds) → Q (.ref p) H2) : qListOf K [v] H Q := by
  obtain ⟨a, vs, rfl, hs, ha⟩ := dpTup h
  exact ⟨a, vs, rfl, .inr hs, fun l hl => q l _ hl (ex_upd hl) ⟨vs, upd_same, dpMonoA (ex_upd hl) ha⟩⟩
theorem i_qisN (q : Q (.bl (decide (v = .non))) H) : qIsN v .non H Q := ⟨rfl, q⟩
theorem i_qnotN (q : Q (.bl (!decide (v = .non))) H) : qNotN v .non H Q := ⟨rfl, q⟩
def Par2 (n m : Nat) (σ : L2.St) (R : L2.St → Hp → Prop) (vs : List V) (H : Hp) : Prop := ∃ v w, vs = [v, w] ∧ R ((σ.set n (some v)).set m (some w)) H
def Par3 (n m k : Nat) (σ : L2.St) (R : L2.St → Hp → Prop) (vs : List V) (H : Hp) : Prop := ∃ u v w, vs = [u, v, w] ∧ R (((σ.set n (some u)).set m (some v)).set k (some w)) H
theorem i_par {ts : TA} (q : ts σ H fun vs H1 => Par2 n m σ D.nx vs H1) : tPar n m ts D σ H := q
theorem i_par2 {σ' : L2.St} {R : L2.St → Hp → Prop} (e : (σ.set n (some v)).set m (some w) = σ') (q : R σ' H) : Par2 n m σ R [v, w] H := by subst e; exact ⟨v, w, rfl, q⟩
theorem i_par3 {k : Nat} {ts : TA} (q : ts σ H fun vs H1 => Par3 n m k σ D.nx vs H1) : tPar3 n m k ts D σ H := q
theorem i_par33 {σ' : L2.St} {k : Nat} {u : V} {R : L2.St → Hp → Prop} (e : ((σ.set n (some u)).set m (some v)).set k (some w) = σ') (q : R σ' H) : Par3 n m k σ R [u, v, w] H := by subst e; exact ⟨u, v, w, rfl, q⟩
theorem i_gtup {H0 : Hp} {k : Nat} {ts : TGs} {R : L2.St → Hp → Prop} {ds : List PyData} (h : Dp K H0 v (.tuple ds)) (he : Ex H0 H) (hl : ds.length = k) (q : ∀ vs, DpAll K H0 vs ds → ts vs σ H R) : gTup K k ts v σ H R := by
  obtain ⟨a, vs, rfl, hs, ha⟩ := dpTup h
  exact ⟨a, vs, rfl, Evl.ex_t he hs, (dpLen ha).trans hl, q vs ha⟩
theorem i_glst {H0 : Hp} {k : Nat} {ts : TGs} {R : L2.St → Hp → Prop} {ds : List PyData} (h : Dp K H0 v (.list ds)) (he : Ex H0 H) (hl : ds.length = k) (q : ∀ vs, DpAll K H0 vs ds → ts vs σ H R) : gLst K k ts v σ H R := by
  obtain ⟨a, vs, rfl, hs, ha⟩ := dpLst h
  exact ⟨a, vs, rfl, Evl.ex_l he hs, (dpLen ha).trans hl, q vs ha⟩
theorem i_gcons {g : TG} {ts : TGs} {vs : List V} {R : L2.St → Hp → Prop} (q : g v σ H fun σ' H' => ts vs σ' H' R) : gCons g ts (v :: vs) σ H R := ⟨v, vs, rfl, q⟩
theorem i_gnil {R : L2.St → Hp → Prop} (q : R σ H) : gNil [] σ H R := ⟨rfl, q⟩
theorem i_gconsA {H0 : Hp} {g : TG} {ts : TGs} {vs : List V} {d : PyData} {ds : List PyData} {R : L2.St → Hp → Prop} (h : DpAll K H0 vs (d :: ds)) (q : ∀ v r, Dp K H0 v d → DpAll K H0 r ds → g v σ H fun σ' H' => ts r σ' H' R) : gCons g ts vs σ H R := by
  cases h with
  | cons h1 h2 => exact ⟨_, _, rfl, q _ _ h1 h2⟩
theorem i_gconsI {H0 : Hp} {g : TG} {ts : TGs} {vs : List V} {ds : List PyData} {R : L2.St → Hp → Prop} (h : DpAll K H0 vs (.int i :: ds)) (q : ∀ r, DpAll K H0 r ds → g (.int i) σ H fun σ' H' => ts r σ' H' R) : gCons g ts vs σ H R := by
  cases h with
  | cons h1 h2 => cases dpInt h1; exact ⟨_, _, rfl, q _ h2⟩
theorem i_gnilA {H0 : Hp} {vs : List V} {R : L2.St → Hp → Prop} (h : DpAll K H0 vs []) (q : R σ H) : gNil vs σ H R := by
  cases h
  exact ⟨rfl, q⟩
theorem i_eqD {d e : PyData} (h1 : Dp K H v d) (h2 : Dp K H w e) (s1 : SeqAt.shaped d = true) (s2 : SeqAt.shaped e = true) (q : Q (.bl (PyData.eqv d e)) H) : rEqD K v w H Q := ⟨d, e, h1, h2, s1, s2, q⟩
theorem i_neD {d e : PyData} (h1 : Dp K H v d) (h2 : Dp K H w e) (s1 : SeqAt.shaped d = true) (s2 : SeqAt.shaped e = true) (q : Q (.bl (!PyData.eqv d e)) H) : rNeD K v w H Q := ⟨d, e, h1, h2, s1, s2, q⟩
theorem dpInts : ∀ {ns : List Int} {vs : List V}, DpAll K H vs (ns.map PyData.int) → vs = ns.map V.int
  | [], _, h => by cases h; rfl
  | n :: ns, _, h => by
    cases h with
    | cons h1 h2 => rw [dpInt h1, dpInts h2]; rfl
theorem i_ltT {ns ms : List Int} {ds es : List PyData} (h1 : Dp K H v (.tuple ds)) (h2 : Dp K H w (.tuple es)) (e1 : ds = ns.map PyData.int) (e2 : es = ms.map PyData.int) (q : Q (.bl (HT.lexLt ns ms)) H) : rLtT K v w H Q := by
  subst e1 e2
  obtain ⟨a, vs, rfl, hs, ha⟩ := dpTup h1
  obtain ⟨b, ws, rfl, ks, ka⟩ := dpTup h2
  rw [dpInts ha] at hs
  rw [dpInts ka] at ks
  exact ⟨a, b, ns, ms, rfl, rfl, hs, ks, q⟩
/-- a loop over a tuple whose turns only add to the heap and set the loop's name -/
theorem i_forT {tb : TS} {ds : List PyData} {j : Nat} (h : Dp K H v (.tuple ds)) (hσ : ∀ u : V, (σ.set j (some u)).set j (some u) = σ.set j (some u))
    (hs : ∀ (u : V) (d : PyData) (H2 : Hp) (y : Option V) (N : L2.St → Hp → Prop), Ex H H2 → d ∈ ds → Dp K H2 u d → (∀ H3, Ex H2 H3 → N (σ.set j (some u)) H3) → tb { D with nx := N, ct := N, bk := D.nx } (σ.set j (some u)) H2)
    (hd : ∀ (y : Option V) (H2 : Hp), Ex H H2 → D.nx (σ.set j y) H2) (h0 : σ.set j none = σ) : tFor (iTup K (tC v)) (gName j) tb D σ H := by
  obtain ⟨a, xs, rfl, hq, ha⟩ := dpTup h
  refine ⟨a, rfl, ⟨xs, hq⟩, for_tup (xs := xs) (fun i σ' H' => (∃ y, σ' = σ.set j y) ∧ Ex H H') ⟨⟨none, h0.symm⟩, Ex.refl H⟩ (fun i σ' H' _ p => Evl.ex_t p.2 hq) (fun i x σ' H' hi p => ?_) (fun σ' H' p => ?_)⟩
  · obtain ⟨⟨y, rfl⟩, e⟩ := p
    have hm : ∃ d, ds[i]? = some d ∧ Dp K H x d := by
      have hj : i < ds.length := by rw [← dpLen ha]; exact (List.getElem?_eq_some_iff.mp hi).1
      obtain ⟨u, h1, h2⟩ := dpGet ha (List.getElem?_eq_getElem hj)
      rw [hi] at h1
      cases h1
      exact ⟨_, List.getElem?_eq_getElem hj, h2⟩
    obtain ⟨d, hd1, hd2⟩ := hm
    show tb _ ((σ.set j y).set j (some x)) H'
    rw [List.set_set]
    exact hs x d H' y _ e (List.mem_of_getElem? hd1) (dpMono e hd2) fun H3 e3 => ⟨⟨some x, rfl⟩, e.trans e3⟩
  · obtain ⟨⟨y, rfl⟩, e⟩ := p
    exact hd y H' e
theorem i_forU {tb : TS} {tl : TE} {j : Nat} (q : tl σ H fun x H1 => tFor (iTup K (tC x)) (gName j) tb D σ H1) : tFor (iTup K tl) (gName j) tb D σ H := q
theorem i_forV {tb : TS} {tl : TE} {j : Nat} (q : tl σ H fun x H1 => tFor (iList K (tC x)) (gName j) tb D σ H1) : tFor (iList K tl) (gName j) tb D σ H := q
theorem i_isB {a b : Bool} (q : Q (.bl (decide (a = b))) H) : rIsB (.bl a) (.bl b) H Q := ⟨a, b, rfl, rfl, q⟩
theorem i_notB {a b : Bool} (q : Q (.bl (!decide (a = b))) H) : rNotB (.bl a) (.bl b) H Q := ⟨a, b, rfl, rfl, q⟩
theorem i_chain {r r' : R2} {tc : TE} (q : ta σ H fun x H1 => tb σ H1 fun y H2 => r x y H2 fun z H3 => ∃ k, z = .bl k ∧ (if k = true then tc σ H3 fun w' H4 => r' y w' H4 Q else Q (.bl false) H3)) : tChain r r' ta tb tc σ H Q := q
theorem i_tw (W : Nat → L2.St → Hp → Prop) (m0 : Nat) (h0 : W m0 σ H) {tb : TS}
    (hs : ∀ m σ' H', W m σ' H' → c σ' H' fun b H1 => if b = true then ∃ N : L2.St → Hp → Prop, (∀ σ2 H2, N σ2 H2 → ∃ m', m' < m ∧ W m' σ2 H2) ∧ tb { D with nx := N, ct := N, bk := D.nx } σ' H1 else D.nx σ' H1) : tWhile c tb D σ H := ⟨W, ⟨m0, h0⟩, hs⟩
theorem ret_any {d : PyData} (q : ∀ v H2, Ex H H2 → Dp K H2 v d → Q v H2) : Ret K d H Q := q
end

/-! ### comprehensions over pure data -/
mutual
/-- no list within -/
def noL : PyData → Bool
  | .list _ => false
  | .dict _ => false
  | .tuple ds => noLs ds
  | _ => true
def noLs : List PyData → Bool
  | [] => true
  | d :: ds => noL d && noLs ds
end
section
variable {K : PySem.W.Frag} {H : Hp} {D : Addr} {xs ys : List V}
theorem sqt_upd {a : Addr} {zs : List V} (hD : H D = some (.lst xs)) (h : SqT K H a zs) : SqT K (upd H D (.lst ys)) a zs := by
  rcases h with (h | ⟨o, h⟩) | h
  · exact .inl (.inl (by rw [upd_ne (ne_of h hD (by intro z; cases z))]; exact h))
  · exact .inl (.inr ⟨o, by rw [upd_ne (ne_of h hD (by intro z; cases z))]; exact h⟩)
  · exact .inr h
mutual
theorem dpUpd (hD : H D = some (.lst xs)) : ∀ {d : PyData} {v : V}, noL d = true → Dp K H v d → Dp K (upd H D (.lst ys)) v d
  | .none, _, _, h => by cases h; exact .non
  | .bool _, _, _, h => by cases h; exact .bl _
  | .int _, _, _, h => by cases h; exact .int _
  | .str _, _, _, h => by cases h; exact .str _
  | .list ds, _, n, h => by cases n
  | .tuple ds, _, n, h => by
    cases h with
    | tup hs ha => exact .tup (sqt_upd hD hs) (dpUpdA hD n ha)
  | .dict _, _, _, h => by cases h
theorem dpUpdA (hD : H D = some (.lst xs)) : ∀ {ds : List PyData} {vs : List V}, noLs ds = true → DpAll K H vs ds → DpAll K (upd H D (.lst ys)) vs ds
  | [], _, _, h => by cases h; exact .nil
  | d :: ds, _, n, h => by
    cases h with
    | cons h1 h2 =>
      have n2 := Bool.and_eq_true_iff.mp (show (noL d && noLs ds) = true from n)
      exact .cons (dpUpd hD n2.1 h1) (dpUpdA hD n2.2 h2)
end
theorem noLs_all : ∀ {ds : List PyData}, (∀ d ∈ ds, noL d = true) → noLs ds = true
  | [], _ => rfl
  | d :: ds, h => by
    show (noL d && noLs ds) = true
    rw [h d List.mem_cons_self, noLs_all fun e he => h e (List.mem_cons_of_mem _ he)]
    rfl
theorem dpAllApp : ∀ {ds es : List PyData} {vs ws : List V}, DpAll K H vs ds → DpAll K H ws es → DpAll K H (vs ++ ws) (ds ++ es)
  | [], _, _, _, h, k => by cases h; exact k
  | d :: ds, _, _, _, h, k => by
    cases h with
    | cons h1 h2 => exact .cons h1 (dpAllApp h2 k)
end
section
variable {K : PySem.W.Frag} {σ : L2.St} {H : Hp} {Q : VK} {j : Nat} {te tl : TE} {tt : TT} {vs : List Nat} {v : V}
theorem i_lcU (q : tl σ H fun x H1 => tLc (iTup K (tC x)) (gName j) tt te vs σ H1 Q) : tLc (iTup K tl) (gName j) tt te vs σ H Q := q
theorem i_lcM (q : tl σ H fun x H1 => tLc (iList K (tC x)) (gName j) tt te vs σ H1 Q) : tLc (iList K tl) (gName j) tt te vs σ H Q := q
/-- one turn of a pure comprehension keeps what it made so far -/
def Lcv (K : PySem.W.Frag) (H1 : Hp) (D : Addr) (ds : List PyData) (c : PyData → Bool) (f : PyData → PyData) (i : Nat) (H' : Hp) : Prop :=
  H1 D = none ∧ Ex H1 H' ∧ ∃ acc, H' D = some (.lst acc) ∧ DpAll K H' acc (((ds.take i).filter c).map f)
theorem lcv_turn {H1 H' : Hp} {D : Addr} {ds : List PyData} {c : PyData → Bool} {f : PyData → PyData} {i : Nat} {d : PyData} {σ2 : L2.St} (p : Lcv K H1 D ds c f i H') (hd : ds[i]? = some d) (hl : ds.length ≤ 100000) (hn : ∀ d ∈ ds, noL (f d) = true)
    (ht : ∀ (H2 : Hp) (R : Bool → Hp → Prop), Ex H1 H2 → (∀ H3, Ex H2 H3 → R (c d) H3) → tt σ2 H2 R)
    (he : c d = true → ∀ (H2 : Hp) (R : VK), Ex H1 H2 → (∀ w H3, Ex H2 H3 → Dp K H3 w (f d) → R w H3) → te σ2 H2 R) :
    tt σ2 H' fun b H3 => if b = true then te σ2 H3 fun y H4 => ∃ acc, H4 D = some (.lst acc) ∧ acc.length < sizeLine ∧ Lcv K H1 D ds c f (i + 1) (upd H4 D (.lst (acc ++ [y]))) else Lcv K H1 D ds c f (i + 1) H3 := by
  obtain ⟨p1, p2, acc, p3, p4⟩ := p
  have ht1 : ds.take (i + 1) = ds.take i ++ [d] := by rw [List.take_add_one, hd]; rfl
  refine ht H' _ p2 fun H3 e3 => ?_
  cases hc : c d with
  | true =>
    refine he hc H3 _ (p2.trans e3) fun y H4 e4 hy => ?_
    have hD4 : H4 D = some (.lst acc) := e4 _ _ (e3 _ _ p3)
    have hlen : acc.length ≤ ds.length := by
      rw [dpLen p4, List.length_map]
      exact Nat.le_trans (List.length_filter_le _ _) (by rw [List.length_take]; omega)
    refine ⟨acc, hD4, Evl.sz_lt (by
      have hi : i < ds.length := (List.getElem?_eq_some_iff.mp hd).1
      have : acc.length ≤ i := by
        rw [dpLen p4, List.length_map]
        exact Nat.le_trans (List.length_filter_le _ _) (by rw [List.length_take]; omega)
      omega), p1, Evl.Ex.mut ((p2.trans e3).trans e4) p1, acc ++ [y], upd_same, ?_⟩
    rw [ht1, List.filter_append, List.map_append, List.filter_cons, if_pos hc]
    refine dpUpdA hD4 (noLs_all fun z hz => ?_) (dpAllApp (dpMonoA (e3.trans e4) p4) (.cons hy .nil))
    rcases List.mem_append.mp hz with h | h
    · obtain ⟨z0, h1, rfl⟩ := List.mem_map.mp h
      exact hn z0 (List.mem_of_mem_take (List.mem_filter.mp h1).1)
    · rcases List.mem_singleton.mp h with rfl
      exact hn d (List.mem_of_getElem? hd)
  | false =>
    refine ⟨p1, p2.trans e3, acc, e3 _ _ p3, ?_⟩
    rw [ht1, List.filter_append, List.filter_cons, if_neg (by rw [hc]; decide), List.filter_nil, List.append_nil]
    exact dpMonoA e3 p4
theorem dpIdx {H : Hp} {xs : List V} {ds : List PyData} {i : Nat} {x : V} (h : DpAll K H xs ds) (e : xs[i]? = some x) : ∃ d, ds[i]? = some d ∧ Dp K H x d := by
  have hi : i < xs.length := (List.getElem?_eq_some_iff.mp e).1
  have hj : i < ds.length := by rw [← dpLen h]; exact hi
  obtain ⟨u, h1, h2⟩ := dpGet h (List.getElem?_eq_getElem hj)
  rw [e] at h1
  cases h1
  exact ⟨_, List.getElem?_eq_getElem hj, h2⟩
theorem i_lcT {ds : List PyData} (c : PyData → Bool) (f : PyData → PyData) (h : Dp K H v (.tuple ds)) (hl : ds.length ≤ 100000) (hn : ∀ d ∈ ds, noL (f d) = true) (hw : ∀ x, wipe ((wipe σ vs).set j (some x)) vs = wipe σ vs)
    (ht : ∀ (u : V) (d : PyData) (H2 : Hp) (R : Bool → Hp → Prop), Ex H H2 → d ∈ ds → Dp K H2 u d → (∀ H3, Ex H2 H3 → R (c d) H3) → tt ((wipe σ vs).set j (some u)) H2 R)
    (he : ∀ (u : V) (d : PyData) (H2 : Hp) (R : VK), Ex H H2 → d ∈ ds → c d = true → Dp K H2 u d → (∀ w H3, Ex H2 H3 → Dp K H3 w (f d) → R w H3) → te ((wipe σ vs).set j (some u)) H2 R)
    (q : ∀ p H2, H p = none → Ex H H2 → (∃ acc, H2 p = some (.lst acc) ∧ DpAll K H2 acc ((ds.filter c).map f)) → Q (.ref p) H2) : tLc (iTup K (tC v)) (gName j) tt te vs σ H Q := by
  obtain ⟨a, xs, rfl, hs, ha⟩ := dpTup h
  refine ⟨a, rfl, ⟨xs, hs⟩, fun D hD => lc_tup (xs := xs) (Lcv K H D ds c f) ⟨hD, Ex.new hD, [], upd_same, .nil⟩ (fun i H' _ p => Evl.ex_t p.2.1 hs) (fun i x H' hi p => ⟨hw x, ?_⟩) (fun H' p => ?_)⟩
  · obtain ⟨d, hd, hx⟩ := dpIdx ha hi
    have hm := List.mem_of_getElem? hd
    exact lcv_turn p hd hl hn (fun H2 R e2 r => ht x d H2 R e2 hm (dpMono e2 hx) r) (fun hc H2 R e2 r => he x d H2 R e2 hm hc (dpMono e2 hx) r)
  · obtain ⟨p1, p2, acc, p3, p4⟩ := p
    rw [dpLen ha, List.take_length] at p4
    exact q D H' p1 p2 ⟨acc, p3, p4⟩
theorem i_lcL {ds : List PyData} (c : PyData → Bool) (f : PyData → PyData) (h : Dp K H v (.list ds)) (hl : ds.length ≤ 100000) (hn : ∀ d ∈ ds, noL (f d) = true) (hw : ∀ x, wipe ((wipe σ vs).set j (some x)) vs = wipe σ vs)
    (ht : ∀ (u : V) (d : PyData) (H2 : Hp) (R : Bool → Hp → Prop), Ex H H2 → d ∈ ds → Dp K H2 u d → (∀ H3, Ex H2 H3 → R (c d) H3) → tt ((wipe σ vs).set j (some u)) H2 R)
    (he : ∀ (u : V) (d : PyData) (H2 : Hp) (R : VK), Ex H H2 → d ∈ ds → c d = true → Dp K H2 u d → (∀ w H3, Ex H2 H3 → Dp K H3 w (f d) → R w H3) → te ((wipe σ vs).set j (some u)) H2 R)
    (q : ∀ p H2, H p = none → Ex H H2 → (∃ acc, H2 p = some (.lst acc) ∧ DpAll K H2 acc ((ds.filter c).map f)) → Q (.ref p) H2) : tLc (iList K (tC v)) (gName j) tt te vs σ H Q := by
  obtain ⟨a, xs, rfl, hs, ha⟩ := dpLst h
  refine ⟨a, rfl, ⟨xs, hs⟩, fun D hD => lc_list (xs := xs) (Lcv K H D ds c f) ⟨hD, Ex.new hD, [], upd_same, .nil⟩ (fun i H' _ p => Evl.ex_l p.2.1 hs) (fun i x H' hi p => ⟨hw x, ?_⟩) (fun H' p => ?_)⟩
  · obtain ⟨d, hd, hx⟩ := dpIdx ha hi
    have hm := List.mem_of_getElem? hd
    exact lcv_turn p hd hl hn (fun H2 R e2 r => ht x d H2 R e2 hm (dpMono e2 hx) r) (fun hc H2 R e2 r => he x d H2 R e2 hm hc (dpMono e2 hx) r)
  · obtain ⟨p1, p2, acc, p3, p4⟩ := p
    rw [dpLen ha, List.take_length] at p4
    exact q D H' p1 p2 ⟨acc, p3, p4⟩
theorem i_yes {R : Bool → Hp → Prop} (q : R true H) : tYes σ H R := q
theorem i_all {ds : List PyData} {bs : List Bool} (h : Dp K H v (.list ds)) (e : ds = bs.map PyData.bool) (q : Q (.bl (bs.all id)) H) : rAll K [v] H Q := by
  obtain ⟨a, xs, rfl, hs, ha⟩ := dpLst h
  subst e
  have ex : ∀ {bs : List Bool} {xs : List V}, DpAll K H xs (bs.map PyData.bool) → xs = bs.map V.bl := by
    intro bs
    induction bs with
    | nil => intro xs h; cases h; rfl
    | cons b bs ih =>
      intro xs h
      cases h with
      | cons h1 h2 => rw [dpBl h1, ih h2]; rfl
  rw [ex ha] at hs
  exact ⟨a, bs, rfl, hs, q⟩
theorem wipe1 (x : V) : wipe ((wipe σ [j]).set j (some x)) [j] = wipe σ [j] := by
  show ((σ.set j none).set j (some x)).set j none = σ.set j none
  rw [List.set_set, List.set_set]
end
end Wb

namespace Wb
open PySem PySem.Spec PyProof.Rows L2
open Evl (Ex Ex.refl Ex.trans Ex.new)
/-! ### the bag of draws: a list of three ints that is changed by each draw; all else is told of the heap without it -/
def hid (b : Addr) (H : Hp) : Hp := fun a => if a = b then none else H a
theorem hid_of {b a : Addr} {H : Hp} {o : HO} (h : H a = some o) (hn : a ≠ b) : hid b H a = some o := by
  unfold hid
  rw [if_neg hn]
  exact h
theorem of_hid {b a : Addr} {H : Hp} {o : HO} (h : hid b H a = some o) : a ≠ b ∧ H a = some o := by
  unfold hid at h
  by_cases e : a = b
  · rw [if_pos e] at h
    cases h
  · rw [if_neg e] at h
    exact ⟨e, h⟩
theorem ex_hid {b : Addr} {H : Hp} : Ex (hid b H) H := fun _ _ h => (of_hid h).2
theorem hid_ex {b : Addr} {H H' : Hp} (e : Ex H H') : Ex (hid b H) (hid b H') := fun a o h => hid_of (e a o (of_hid h).2) (of_hid h).1
theorem hid_upd {b : Addr} {H : Hp} {o : HO} : Ex (hid b H) (hid b (upd H b o)) := fun a u h => hid_of (by rw [upd_ne (of_hid h).1]; exact (of_hid h).2) (of_hid h).1
/-- what did not know the bag stays known -/
theorem ex_unhid {b : Addr} {H0 H H' : Hp} (h0 : H0 b = none) (e : Ex H0 H) (e2 : Ex (hid b H) (hid b H')) : Ex H0 H' := fun a o h => (of_hid (e2 a o (hid_of (e a o h) (ne_of_none h h0)))).2
theorem ex_tohid {b : Addr} {H0 H : Hp} (h0 : H0 b = none) (e : Ex H0 H) : Ex H0 (hid b H) := fun a o h => hid_of (e a o h) (ne_of_none h h0)
structure Bag (b : Addr) (H : Hp) : Prop where
  ex : ∃ x y z : Int, H b = some (.lst [.int x, .int y, .int z]) ∧ 0 ≤ x ∧ Sz 2100 x
theorem Bag.mono {b : Addr} {H H' : Hp} (h : Bag b H) (e : Ex H H') : Bag b H' := by
  obtain ⟨x, y, z, h1, h2, h3⟩ := h.ex
  exact ⟨x, y, z, e _ _ h1, h2, h3⟩
theorem Bag.ne {b p : Addr} {H : Hp} (h : Bag b H) (hp : H p = none) : p ≠ b := by
  obtain ⟨x, y, z, h1, _⟩ := h.ex
  exact (ne_of_none h1 hp).symm
theorem hid_tup {b p : Addr} {H : Hp} {xs : List V} (h : Bag b H) (hp : H p = some (.tup xs)) : hid b H p = some (.tup xs) := by
  obtain ⟨x, y, z, h1, _⟩ := h.ex
  exact hid_of hp (ne_of hp h1 (by intro z; cases z))
theorem hid_new {b p : Addr} {H H' : Hp} {o : HO} (h : Bag b H) (hn : H p = none) (hp : H' p = some o) : hid b H' p = some o := hid_of hp (h.ne hn)
section
variable {K : PySem.W.Frag} {σ : L2.St} {H H' : Hp} {Q : VK} {D : Ends} {ta tb te : TE} {v : V} {i j : Int} {b : Addr}
theorem i_mkTB {xs : List V} (hl : xs.length ≤ 100000) (hb : Bag b H) (q : ∀ p H2, Ex H H2 → Bag b H2 → hid b H2 p = some (.tup xs) → Q (.ref p) H2) : MkT xs H Q :=
  i_mkT hl fun p H2 e hp => q p H2 e (hb.mono e) (hid_tup (hb.mono e) hp)
theorem i_mkLB {xs : List V} (hl : xs.length ≤ 100000) (hb : Bag b H) (q : ∀ p H2, H p = none → Ex H H2 → Bag b H2 → hid b H2 p = some (.lst xs) → Q (.ref p) H2) : MkL xs H Q :=
  i_mkL hl fun p H2 hn e hp => q p H2 hn e (hb.mono e) (hid_new hb hn hp)
theorem i_mulC (h : CMul i j) (q : Q (.int (i * j)) H) : rI CMul (fun i j => .int (i * j)) (.int i) (.int j) H Q := ⟨i, j, rfl, rfl, h, q⟩
theorem cmul_l (h : i.natAbs < 18446744073709551616) : CMul i j := .inl ⟨by omega, by omega⟩
theorem cmul_r (h : j.natAbs < 18446744073709551616) : CMul i j := .inr ⟨by omega, by omega⟩
theorem i_ixLr {xs : List V} {k : Int} (h : H b = some (.lst xs)) (e : atI xs k = some v) (q : Q v H) : rIxL K (.ref b) (.int k) H Q := ⟨b, xs, k, v, rfl, rfl, .inl (.inl h), e, q⟩
theorem i_sub {to ti : TE} {ts : TSet} {R : L2.St → Hp → Prop} (q : to σ H fun o H1 => ti σ H1 fun i H2 => ts o i v H2 fun H3 => R σ H3) : gSub to ti ts v σ H R := q
theorem i_setL {xs : List V} {k : Int} {n : Nat} {R : Hp → Prop} (h : H b = some (.lst xs)) (e : ixN xs.length k = some n) (q : ∀ H2, H2 b = some (.lst (xs.set n v)) → Ex (hid b H) (hid b H2) → R H2) : rSetL (.ref b) (.int k) v H R :=
  ⟨b, xs, k, n, rfl, rfl, h, e, q _ upd_same hid_upd⟩
theorem fmod_lt (a : Int) {b : Int} (hb : b ≠ 0) : (a.fmod b).natAbs < b.natAbs := by
  rcases Int.lt_or_gt_of_ne hb with h | h
  · rw [Int.fmod_eq_emod]
    have h1 := Int.emod_nonneg a hb
    have h2 := Int.emod_lt a hb
    have h3 : b ∣ a → a % b = 0 := Int.emod_eq_zero_of_dvd
    by_cases hd : b ∣ a
    · rw [if_pos (Or.inr hd), h3 hd]
      omega
    · rw [if_neg (by omega)]
      have h4 : a % b ≠ 0 := fun z => hd (Int.dvd_of_emod_eq_zero z)
      omega
  · have h1 := Int.fmod_nonneg_of_pos a h
    have h2 := Int.fmod_lt_of_pos a h
    omega
theorem sz_fmod {a : Nat} {i j : Int} (hj : j ≠ 0) (ha : Sz a j) : Sz a (i.fmod j) := sz_le ha (Nat.le_of_lt (fmod_lt i hj))
theorem i_qlenS {xs : List V} (h : SqL K H b xs) (q : Q (.int (xs.length : Int)) H) : qLen K [.ref b] H Q := ⟨b, xs, rfl, .inl h, q⟩
theorem i_sl {r : V → Option Int → Option Int → Hp → VK → Prop} {tl th : TO} (q : te σ H fun x H1 => tl σ H1 fun l H2 => th σ H2 fun u H3 => r x l u H3 Q) : tSl r te tl th σ H Q := q
theorem i_nopart {R : Option Int → Hp → Prop} (q : R none H) : tNoPart σ H R := q
theorem i_part {R : Option Int → Hp → Prop} (q : te σ H fun x H1 => ∃ i, x = .int i ∧ R (some i) H1) : tPart te σ H R := q
theorem i_part1 {R : Int → Prop} (q : R i) : ∃ k, V.int i = .int k ∧ R k := ⟨i, rfl, q⟩
theorem i_slL {xs : List V} {lo hi : Option Int} (h : SqL K H b xs) (q : ∀ p H2, H p = none → Ex H H2 → H2 p = some (.lst (cutV xs lo hi)) → Q (.ref p) H2) : rSlL K (.ref b) lo hi H Q := ⟨b, xs, rfl, h, fun p hp => q p _ hp (ex_upd hp) upd_same⟩
theorem i_sum {ns : List Int} (h : SqL K H b (ns.map V.int)) (q : Q (.int ns.sum) H) : rSum K [.ref b] H Q := ⟨b, ns, rfl, h, q⟩
theorem i_ixLs {xs : List V} {k : Int} (h : SqL K H b xs) (e : atI xs k = some v) (q : Q v H) : rIxL K (.ref b) (.int k) H Q := ⟨b, xs, k, v, rfl, rfl, h, e, q⟩
end
end Wb

namespace Wb
open PySem PySem.W PySem.Calls PyProof.Rows PyProof.V PySem.Spec
/-- what the built-in base says: Bn makes the object, B's own __init__ lays the args -/
structure BaseF (B i newId : String) (bmB : List Value) : Prop where
  nw : ∃ Bn iN bmN, ExcBaseFacts Bn newId iN bmN ∧ bmB.contains (.type Bn) = true
  nA : bmB.contains (.type "AttributeError") = false
  nN : bmB.contains (.type "NameError") = false
  plain : plainId i = true
  entry : entryFor table i = some Builtin.«BaseException.__init__»
  kind : builtinKind i = some .slot
  row : Manifest.signature? i = some ⟨.positional, "*", B, .self, [⟨"args", .varPos, false⟩]⟩
  star : (B != "*") = true
theorem BaseF.of {B i newId : String} {bmB : List Value} (F : ExcBaseFacts B newId i bmB) : BaseF B i newId bmB :=
  ⟨⟨B, i, bmB, F, F.hasB⟩, F.noAttr, F.noName, F.init.plain, F.initEntry, F.initKind, F.initRow, F.noStar⟩

section
variable {M : Model} {prog : Program} {w : World} {A : Around} {R : Result → Shared → Prop} {E : Value → Shared → Prop} {h : Heap} {g : Array GenState} {d : Drawn} {t : Nat} {os : OsState}
variable {nm q : Str} {C N : Addr} {bs bm : List Value} {hdct : Bool} {sn : List Str} {sub : List Value} {ab : Bool} {col : Option Bool} {dd : Option Addr} {k0 k1 k2 k3 k5 : Option Value}
variable {B i newId iN Bn : String} {bmN : List Value}
/-- the wrapper's own check of its call -/
theorem bx_init {x : Addr} {ox : Obj} {rest : List Value} {Q : Unit → Shared → Prop} (hk : builtinKind i = some .slot) (hr : Manifest.signature? i = some ⟨.positional, "*", B, .self, [⟨"args", .varPos, false⟩]⟩) (hs : (B != "*") = true)
    (cC : h.get? C = some (excClassObj nm q C N bs bm hdct sn sub ab col dd k0 k1 k2 k3 k5 newId)) (cx : h.get? x = some ox) (cl : ox.cls = .ref C) (hq : Q () ⟨h, g, d, t, os⟩) : wpAny M A (checkBoundCall i ⟨.ref x :: rest, []⟩) Q E ⟨h, g, d, t, os⟩ := by
  simp only [checkBoundCall, hk, hr]
  repeat (first
    | (with_reducible refine wpAny_loadPart_at cx ?_
       rw [cl])
    | with_reducible refine wpAny_loadPart_at cC ?_
    | wp_step)
  refine wpAny_onRaise ?_
  have z : ∀ (u v : String) (n : Nat), Bind.check ⟨.positional, "*", B, .self, [⟨"args", .varPos, false⟩]⟩ u v n (List.map (fun y => y.fst) ({ pos := Value.ref x :: rest } : Args).kw) = pure () := fun u v n => check_star_args _ _ _ _ _ _
  rw [z]
  exact wpAny_pure hq
/-- the new object, laid by a base further up -/
theorem bx_new (F : ExcBaseFacts Bn newId iN bmN) {rest : List Value} (yB : (Value.ref C :: bm).contains (.type Bn) = true) (yA : (Value.ref C :: bm).contains (.type "AttributeError") = false) (yN : (Value.ref C :: bm).contains (.type "NameError") = false)
    (cC : h.get? C = some (excClassObj nm q C N bs bm hdct sn sub ab col dd k0 k1 k2 k3 k5 newId)) (hz : rest.length ≤ sizeLine)
    (hq : R (.ok (.ret (.ref (h.objs.size + 1)))) ⟨(h.push (PySem.W.kdv_tup rest)).push (PySem.HandSPX.excO C h.objs.size), g, d, t, os⟩) : codeAny (model prog w) A (.builtin newId ⟨.ref C :: rest, []⟩) R ⟨h, g, d, t, os⟩ := by
  have ze := F.ends
  refine codeAny_builtinAt F.entry ?_
  unfold Builtin.«BaseException.__new__»
  refine _root_.PySem.wpAt_bind ?_
  show _root_.PySem.wpAt _ _ _ (stack >>= _) _ _ _
  refine _root_.PySem.wpAt_bind (_root_.PySem.wpAt_stack fun p below => _root_.PySem.wpAt_of_wpAny ?_)
  wp_walk
  refine _root_.PySem.wpAt_of_wpAny ?_
  rw [F.owner]
  repeat (first
    | with_reducible refine wpAny_madeHere_exc F.canon cC ?_
    | with_reducible refine wpAny_loadPart_at cC ?_
    | (with_reducible refine wpAny_isSubtype_exc cC ?_
       first | rw [yB] | rw [yA] | rw [yN])
    | wp_step)
  show R _ _
  rw [Heap.size_push]
  exact hq
theorem bx_check (F : ExcBaseFacts Bn newId iN bmN) {rest : List Value} {Q : Unit → Shared → Prop} (yB : (Value.ref C :: bm).contains (.type Bn) = true) (cC : h.get? C = some (excClassObj nm q C N bs bm hdct sn sub ab col dd k0 k1 k2 k3 k5 newId)) (hq : Q () ⟨h, g, d, t, os⟩) :
    wpAny M A (checkBuiltinCall newId ⟨.ref C :: rest, []⟩) Q E ⟨h, g, d, t, os⟩ := by
  have ys := F.noStar
  simp only [checkBuiltinCall, F.newKind, F.newSplit, F.newRow]
  repeat (first
    | refine wpAny_loadPart_at cC ?_
    | (refine wpAny_isSubtype_exc cC ?_
       rw [yB])
    | refine wpAny_staticBase_exc cC ?_
    | refine wpAny_madeBy_exc cC ?_
    | simp only [bne_self_eq_false, Bool.false_eq_true, if_false]
    | wp_step)
  exact hq
theorem bx_type (F : ExcBaseFacts Bn newId iN bmN) {rest : List Value} {fI : Addr} {Q : Fin → Shared → Prop} (yB : (Value.ref C :: bm).contains (.type Bn) = true) (yA : (Value.ref C :: bm).contains (.type "AttributeError") = false) (yN : (Value.ref C :: bm).contains (.type "NameError") = false)
    (cC : h.get? C = some (excClassObj nm q C N bs bm hdct sn sub ab col dd k0 k1 k2 k3 k5 newId)) (li : Looks (model prog w) h (typeLookup (.ref C) "__init__") (some (.ref fI))) (lb : ∀ self, Looks (model prog w) h (bindSpecial (.ref fI) self) (.ref fI, [self])) (hz : rest.length ≤ sizeLine)
    (hq : codeAny (model prog w) A (.call (.ref fI) ⟨.ref (h.objs.size + 1) :: rest, []⟩) (fun r s' => match r with | .ok (.ret v) => v = .none ∧ Q (.done (.ret (.ref (h.objs.size + 1)))) s' | .ok _ => False | .error e => E e s') ⟨(h.push (PySem.W.kdv_tup rest)).push (PySem.HandSPX.excO C h.objs.size), g, d, t, os⟩) :
    wpAny (model prog w) A (Builtin.«type.__call__» ⟨.ref C :: rest, []⟩) Q E ⟨h, g, d, t, os⟩ := by
  repeat (first
    | with_reducible refine wpAny_loadPart_at cC ?_
    | with_reducible refine wpAny_madeBy_exc cC ?_
    | wp_step)
  refine codeAny_call_builtin_code (Code.quiet_builtin _ F.quiet) (bx_check F yB cC ?_)
  refine bx_new F yB yA yN cC hz ?_
  show wpAny _ _ _ _ _ _
  have kk : ∀ b o, h.get? b = some o → ((h.push (PySem.W.kdv_tup rest)).push (PySem.HandSPX.excO C h.objs.size)).get? b = some o := fun b o e => Heap.get?_push_of_some _ (Heap.get?_push_of_some _ e)
  have cC2 := kk _ _ cC
  have cx : ((h.push (PySem.W.kdv_tup rest)).push (PySem.HandSPX.excO C h.objs.size)).get? (h.objs.size + 1) = some (PySem.HandSPX.excO C h.objs.size) := by heap_get
  have yC : (Value.ref C :: bm).contains (.ref C) = true := by simp
  have li2 := li.keeps kk
  have lb2 := (lb (.ref (h.objs.size + 1))).keeps kk
  unfold isInstance
  repeat (first
    | with_reducible refine wpAny_loadPart_at cx ?_
    | (with_reducible refine wpAny_isSubtype_exc cC2 ?_
       rw [yC])
    | wp_step)
  show wpAny _ _ (typeLookup (.ref C) _) _ _ _
  refine li2.at ?_
  refine wpAny_holding (wpAny_bind (lb2.at ?_))
  refine wpAny_bind (wpAny_call (codeAny_mono hq fun r s' z => ?_))
  rcases r with e | (v | _ | _ | _)
  · exact z
  · exact z.elim
  · exact z.elim
  · exact z.elim
  · obtain ⟨rfl, z⟩ := z
    first
      | exact wpAny_pure (wpAny_pure z)
      | (wp_walk; exact z)
end
section
variable {prog : Program} {w : World} {A : Around} {R : Result → Shared → Prop} {h : Heap} {g : Array GenState} {d : Drawn} {t : Nat} {os : OsState}
variable {nm q : Str} {C N : Addr} {bs bm bmB : List Value} {hdct : Bool} {sn : List Str} {sub : List Value} {ab : Bool} {col : Option Bool} {dd : Option Addr} {k0 k1 k2 k3 k5 : Option Value} {B i newId : String}
theorem bx_call (FB : BaseF B i newId bmB) (hT : ∀ X : String, bm.contains (.type X) = bmB.contains (.type X)) {rest : List Value} {fI : Addr} (cC : h.get? C = some (excClassObj nm q C N bs bm hdct sn sub ab col dd k0 k1 k2 k3 k5 newId))
    (li : Looks (model prog w) h (typeLookup (.ref C) "__init__") (some (.ref fI))) (lb : ∀ self, Looks (model prog w) h (bindSpecial (.ref fI) self) (.ref fI, [self])) (hz : rest.length ≤ sizeLine)
    (hq : codeAny (model prog w) (A.under (.builtin "type.__call__" ⟨.ref C :: rest, []⟩)) (.call (.ref fI) ⟨.ref (h.objs.size + 1) :: rest, []⟩) (InitBack (h.objs.size + 1) R) ⟨(h.push (PySem.W.kdv_tup rest)).push (PySem.HandSPX.excO C h.objs.size), g, d, t, os⟩) :
    codeAny (model prog w) A (.call (.ref C) ⟨rest, []⟩) R ⟨h, g, d, t, os⟩ := by
  obtain ⟨Bn, iN, bmN, F, hb⟩ := FB.nw
  have yB : (Value.ref C :: bm).contains (.type Bn) = true := by rw [List.contains_cons, hT, hb, Bool.or_true]
  have yA : (Value.ref C :: bm).contains (.type "AttributeError") = false := by
    rw [List.contains_cons, hT, FB.nA]
    rfl
  have yN : (Value.ref C :: bm).contains (.type "NameError") = false := by
    rw [List.contains_cons, hT, FB.nN]
    rfl
  have z1 := tc_lookup
  have z2 := tc_bind (.ref C)
  have zT : (⟨h, g, d, t, os⟩ : Shared).TypeIs (.ref C) "type" := ⟨_, cC, rfl⟩
  refine codeAny_of_tree ?_
  show wpAny _ _ (callAny (.ref C) _) _ _ _
  repeat (any_goals (first
    | assumption
    | with_reducible refine wpAny_loadPart_at cC ?_
    | wp_step))
  refine ⟨rfl, ?_⟩
  refine codeAny_call_builtin_at (Code.quiet_builtin _ (by decide +kernel)) entry_typeCall (wpAny_check_type_call_sub cC (bx_type F yB yA yN cC li lb hz ?_))
  refine codeAny_mono hq fun r s' z => ?_
  rcases r with e | (v | _ | _ | _) <;> exact z
end
section
variable {P : Program} {w : World} {A : Around} {K : PySem.W.Frag} {B i newId : String} {bmB : List Value}
/-- the wrapper's call: the args are laid anew -/
theorem mw_call {h : Heap} {g : Array GenState} {d : Drawn} {t : Nat} {os : OsState} {E : Value → Shared → Prop} {Q : Value → Shared → Prop} {C u x t0 : Addr} {rest : List Value} (FB : BaseF B i newId bmB) (X : K.In h) (q : excInitIn K C bmB newId = true) (hu : h.get? u = some (kxs_mw i x))
    (he : h.get? x = some (HandSPX.excO C t0)) (hz : rest.length ≤ sizeLine)
    (hq : ∀ h' t1, (∀ b o, b ≠ x → h.get? b = some o → h'.get? b = some o) → h'.get? x = some (HandSPX.excO C t1) → Q .none ⟨h', g, d, t, os⟩) :
    wpAny (model P w) A (call (.ref u) rest) Q E ⟨h, g, d, t, os⟩ := by
  obtain ⟨nm, N', qn, bs, bm, hdct, sn, sub, ab, col, dd, k0, k1, k2, k3, k5, hC, hT⟩ := excInit_of X q
  refine wpAny_call (codeAny_of_tree ?_)
  show wpAny _ A.in1 (callAny (.ref u) ⟨rest, []⟩) _ _ _
  simp only [callAny]
  refine wpAny_bind (wpAny_load hu ?_)
  simp only [kxs_mw, show (Value.type "method-wrapper" == Value.type "method" || Value.type "method-wrapper" == Value.type "builtin_function_or_method" || Value.type "method-wrapper" == Value.type "method-wrapper") = true by decide, if_true]
  refine KFB.if_so (by decide) ?_
  refine wpAny_bind (bx_init FB.kind FB.row FB.star hC he rfl ?_)
  refine wpAny_bind (wpAny_pure (wpAny_pure ?_))
  refine ⟨plainId_quiet FB.plain _, codeAny_builtin FB.entry ?_⟩
  exact exc_init_tree (cls := .ref C) (t0 := t0) (dv := none) (c2 := .none) (c3 := .none) (b4 := .bool false) he hz fun h' a b _ => hq h' _ a b
/-- what the written part says of a class over the built-in B whose __init__ says super().__init__(..) -/
structure SupC (P : Program) (K : PySem.W.Frag) (C fI : Addr) (B i newId : String) (bmB : List Value) (st : Stmt) (qual : Str) : Prop where
  init : findIn K (.ref C) "__init__" = some (some (.ref fI))
  ini : excInitIn K C bmB newId = true
  over : excOver K C bmB = true
  hd : hasDictIn K C = true
  sa : findIn K (.ref C) "__setattr__" = some (some (.builtin "object.__setattr__"))
  subB : subIn K (.ref C) (.type B) = some true
  subE : subIn K (.ref C) (.type "BaseException") = some true
  ty : typeIn K (.ref C) = some (.type "type")
  tyI : typeIn K (.ref fI) = some (.type "function")
  kp : keepIn K (.ref C) = true
  sup : ks_superIn K C C "__init__" = some (some (.builtin i))
  mro : mroIn K C (.ref C) = some true
  op : nsIn K cStatics "thirdparty.any" = some none
  fn : ∃ (oc : Value) (od : Option Addr) (osl : Array (Option Value)) (doc pm : Value) (an : Option Addr) (cda : Addr) (ct : Value) (cc : Addr),
    K.lookup fI = some ⟨oc, od, .func (fnX "__init__" qual (L2.defArgs st) (L2.defBody st) (L2.defScope st) [("__class__", cc)] .none .none doc pm an (.ref cda) ct), osl⟩ ∧ codeIn K (.ref cda) qual = true ∧
    (∃ ccl cdd vs ccs file tf, K.lookup cda = some ⟨ccl, cdd, .fields vs, ccs⟩ ∧ vs[2]? = some (.str file tf) ∧ ((P.main.file : Str) == file) = true) ∧ ∃ cl cld csl, K.lookup cc = some ⟨cl, cld, .cell (some (.ref C)), csl⟩
end

section
variable {P : Program} {w : World} {A : Around} {K : PySem.W.Frag} {B i newId : String} {bmB : List Value}
theorem cls_at {h : Heap} {D : Addr} {cd : ClassData} (X : K.In h) (hD : clsIn K D = some cd) : ∃ oD, h.get? D = some oD ∧ oD.data = .cls cd := by
  unfold clsIn at hD
  split at hD
  · rename_i c d cd' sl ho
    cases hD
    exact ⟨_, X _ _ ho, rfl⟩
  · cases hD
theorem sup_first {h base : Heap} {g : Array GenState} {d : Drawn} {t : Nat} {os : OsState} {mg : Str → Option Value} {E : Value → Shared → Prop} {Q : Flow → Shared → Prop} {C fI x t0 L cda cc : Addr} {qual m : Str} {scope : Scope} {body rest : List Stmt} {p0 p1 p2 p3 p4 p5 : Pos} {j : Nat} {ar : Arg} {ml : Str → Option Value}
    {oc ccl cl : Value} {od cdd cld : Option Addr} {osl ccs csl : Array (Option Value)} {fd : FuncData} {vs : Array Value} {file : Str} {tf : Tok}
    (FB : BaseF B i newId bmB) (KF : KxsFacts B i) (M : L2.Mod K mg base) (hb : ∀ b o, base.get? b = some o → h.get? b = some o) (ini : excInitIn K C bmB newId = true) (subB : subIn K (.ref C) (.type B) = some true) (sup : ks_superIn K C C "__init__" = some (some (.builtin i))) (mro : mroIn K C (.ref C) = some true) (op : nsIn K cStatics "thirdparty.any" = some none)
    (hf : K.lookup fI = some ⟨oc, od, .func fd, osl⟩) (hp : (fd.params.posonlyargs ++ fd.params.args).head? = some ar) (hcode : K.lookup cda = some ⟨ccl, cdd, .fields vs, ccs⟩) (hvs : vs[2]? = some (.str file tf)) (hfile : ((P.main.file : Str) == file) = true)
    (hcell : K.lookup cc = some ⟨cl, cld, .cell (some (.ref C)), csl⟩) (hmg : mg "super" = none) (hks : scope.names.lookup ("super" : Str) = some .globalImplicit) (hkc : scope.names.lookup ("__class__" : Str) = some .free) (hka : scope.names.lookup ar.arg = some .local) (hk : scope.kind = .function)
    (htop : (P.main.scope.names.lookup ("super" : Str)).isSome = false) {pl : Sem Bool} (hi : interactive (envX qual scope L fI (.ref cda) [("__class__", cc)]) = false) (hsw : swapsWith (.Call (.Attribute (.Call (.Name "super" p0) [] [] p1) "__init__" p2) [.Constant (.str m) j p3] [] p4) none p5.line (envX qual scope L fI (.ref cda) [("__class__", cc)]) = pure false)
    (he : eval (.Call (.Attribute (.Call (.Name "super" p0) [] [] p1) "__init__" p2) [.Constant (.str m) j p3] [] p4) (envX qual scope L fI (.ref cda) [("__class__", cc)]) = (do
      let ov ← attributeBase (.Call (.Name "super" p0) [] [] p1) "__init__" (envX qual scope L fI (.ref cda) [("__class__", cc)]) (eval (.Call (.Name "super" p0) [] [] p1) (envX qual scope L fI (.ref cda) [("__class__", cc)]))
      standAt p2.atName
      let (f, first) ← holding [ov] (getMethod ov "__init__" pl)
      callWith p4 f first (backTo p4 (starEach [.Constant (.str m) j p3] (envX qual scope L fI (.ref cda) [("__class__", cc)]))) []))
    (hns : h.Ns L ml) (hv : ml ar.arg = some (.ref x)) (hx : h.get? x = some (HandSPX.excO C t0))
    (hq : ∀ h' t' t1, (∀ b o, b ≠ x → h.get? b = some o → h'.get? b = some o) → h'.get? x = some (HandSPX.excO C t1) → wpAny (model P w) A (execs rest (envX qual scope L fI (.ref cda) [("__class__", cc)])) Q E ⟨h', g, d, t', os⟩) :
    _root_.PySem.wpAt (model P w) A (.func body (envX qual scope L fI (.ref cda) [("__class__", cc)])) (execs (.Expr (.Call (.Attribute (.Call (.Name "super" p0) [] [] p1) "__init__" p2) [.Constant (.str m) j p3] [] p4) p5 :: rest) (envX qual scope L fI (.ref cda) [("__class__", cc)])) Q E ⟨h, g, d, t, os⟩ := by
  have X : K.In h := M.kin.keeps hb
  obtain ⟨cd, hcd⟩ : ∃ cd, clsIn K C = some cd := by
    cases hc : clsIn K C with
    | none => unfold ks_superIn at sup; rw [hc] at sup; cases sup
    | some cd => exact ⟨cd, rfl⟩
  obtain ⟨oD, hD1, hD2⟩ := cls_at X hcd
  obtain ⟨mb, hb1, hb2⟩ := M.blt
  have I : InstAt h x (HandSPX.excO C t0) C none := ⟨hx, rfl, rfl, trivial⟩
  have hxC : x ≠ C := ks_ne X I hcd
  refine ks_wpAt_execs_cons (ks_wpAt_Expr_any (ks_wpAt_MethodCall (pl := pl) ?_ he) hi hsw)
  refine ks_wpAt_super_base (env := envX qual scope L fI (.ref cda) [("__class__", cc)]) hks hkc (by decide) rfl (X _ _ hf) rfl hp rfl (X _ _ hcode) rfl hvs hfile htop ?_
  refine ks_loadName_global hk hks (loadGlobal_builtin (env := envX qual scope L fI (.ref cda) [("__class__", cc)]) (M.glob.keeps hb) hmg (hb1.keeps hb) ((hb2 "super" (by decide)).trans (show bootBuiltins "super" = some (.type "super") by first | kernel_rfl | decide +kernel)) ⟨rfl, ?_⟩)
  refine wpAny_loadName_free hk hkc rfl ⟨_, X _ _ hcell, rfl⟩ ?_
  refine wpAny_loadName_local hk hka hns hv ?_
  refine ks_wpAny_isType_cls hD1 hD2 ⟨rfl, ?_⟩
  refine ks_wpAny_call_super hD1 hD2 hx rfl (fun c e => by cases e) (looks_mroIn X mro) (fun h1 e1 k1 => ?_)
  have X1 : K.In h1 := X.keeps k1
  have hx1 := k1 _ _ hx
  have I1 : InstAt h1 x (HandSPX.excO C t0) C none := ⟨hx1, rfl, rfl, trivial⟩
  have hI : Looks (model P w) h1 (isInstance (.ref x) (.type B)) true := I1.type.andThen (looks_subIn X1 subB)
  have hsup : alongIn K "__init__" ((cd.mro.dropWhile (· != .ref C)).drop 1) = some (some (.builtin i)) := by
    unfold ks_superIn at sup
    rw [hcd] at sup
    exact sup
  refine kxs_getMethod KF e1 (looks_opaque X1 op) (l₀ := cd.mro) (fun A Q E s k q => wpAny_bind ((looks_clsIn X1 hcd) A _ E s k (wpAny_pure q))) rfl X1 hsup hI hxC (by decide) ?_
  have k2 : ∀ b o, h1.get? b = some o → (h1.push (kxs_mw i x)).get? b = some o := fun b o e => Heap.get?_push_of_some _ e
  refine kxs_callWith (i := i) (x := x) rfl (evalArgs_plain ?_)
  refine Calls.spliced_cons (Calls.Constant_str (k := j) (pos := p3) (Calls.spliced_nil ?_))
  refine ⟨Heap.get?_push_size _ rfl, ?_⟩
  refine mw_call FB (X1.keeps k2) ini (Heap.get?_push_size _ rfl) (k2 _ _ hx1) (by show 1 ≤ sizeLine; rw [sizeLine_eq]; omega) fun h' t1 k3 e3 => ?_
  exact wpAt_of_wpAny (hq h' _ t1 (fun b o hb2 e => k3 b o hb2 (k2 b o (k1 b o e))) e3)
end

section
open Builtin Builtin.ObjectAttr
variable {P : Program} {w : World} {A : Around} {K : PySem.W.Frag} {B i newId : String} {bmB : List Value}
/-- self.f = v, the first one -/
theorem osa_first {hp : Heap} {g : Array GenState} {d : Drawn} {t : Nat} {os : OsState} {R : Result → Shared → Prop} {name : Str} {tk : Tok} {v : Value} {x C t0 : Addr} (SF : StoreFacts B bmB "object.__setattr__" "object")
    (X : K.In hp) (hx : hp.get? x = some (HandSPX.excO C t0)) (over : excOver K C bmB = true) (hh : hasDictIn K C = true) (ht : takerIn K C name = some none)
    (hq : ∀ h' tk' dx, (∀ b o, b ≠ x → hp.get? b = some o → h'.get? b = some o) → hp.objs.size ≤ dx → dx ≠ x → h'.get? x = some { cls := .ref C, dict := some dx, data := .fields #[.ref t0, .none, .none, .none, .bool false, .none] } →
      h'.Ns1 dx (fun y => if y = name then some v else none) → R (.ok (.ret .none)) ⟨h', g, d, tk', os⟩) :
    codeAny (model P w) A (.call (.builtin "object.__setattr__") ⟨[.ref x, .str name tk, v], []⟩) R ⟨hp, g, d, t, os⟩ := by
  have I : InstAt hp x (HandSPX.excO C t0) C none := ⟨hx, rfl, rfl, trivial⟩
  have hxs : x ≠ hp.objs.size := Nat.ne_of_lt (Heap.lt_size hx)
  refine osa_openX (s := ⟨hp, g, d, t, os⟩) SF X I over ht fun b => ?_
  obtain ⟨cd, hcd, hd⟩ := any_some hh
  have hcls : Looks (model P w) hp (classData C) cd := looks_clsIn X hcd
  obtain ⟨nm, bs, mro, ns, qn, hd', sn, sb, ab, col, del⟩ := cd
  dsimp only at hd
  subst hd
  show wpAny _ _ (storeInOwnDict (.ref x) (.ref C) (.str name tk) name v b) _ _ _
  unfold storeInOwnDict ownDictForStores
  repeat (first | with_reducible refine HandSPX.store_in_new ?_ ?_ | with_reducible refine wpAny_loadPart_at hx ?_ | with_reducible refine hcls.at ?_ | wp_step)
  · exact ⟨_, #[], _, (Heap.get?_update_ne _ _ _ _ hxs.symm).trans (Heap.get?_push_at rfl rfl), rfl, fun e he => absurd he (by simp), fun _ => rfl⟩
  · intro h' tk' hn' hs
    have hx₁ : (hp.push { cls := .type "dict", data := .dict #[] }).get? x = some (HandSPX.excO C t0) := Heap.get?_push_of_some _ hx
    refine hq h' tk' hp.objs.size (fun b o hb ho => ?_) (Nat.le_refl _) hxs.symm ?_ hn'
    · exact (hs.2 b (Nat.ne_of_lt (Heap.lt_size ho))).trans ((Heap.get?_update_ne _ _ _ _ hb).trans (Heap.get?_push_of_some _ ho))
    · exact (hs.2 x hxs).trans (Heap.get?_update_self _ hx₁ rfl)
end

/-- what the text says of such an __init__(self, a): super().__init__('..'); self.f = a -/
structure Init1 (P : Program) (st : Stmt) (qual sf a f : Str) : Prop where
  body : ∃ (m : Str) (j : Nat) (p0 p1 p2 p3 p4 p5 q0 q1 q2 q3 : Pos), L2.defBody st = [.Expr (.Call (.Attribute (.Call (.Name "super" p0) [] [] p1) "__init__" p2) [.Constant (.str m) j p3] [] p4) p5, .Assign [.Attribute (.Name sf q0) f q1] (.Name a q2) q3] ∧
    (∀ (L fI cda cc : Addr), swapsWith (.Call (.Attribute (.Call (.Name "super" p0) [] [] p1) "__init__" p2) [.Constant (.str m) j p3] [] p4) none p5.line (envX qual (L2.defScope st) L fI (.ref cda) [("__class__", cc)]) = pure false) ∧
    (∀ (L fI cda cc : Addr), swapsWith (.Name a q2) (some (.Attribute (.Name sf q0) f q1)) q3.line (envX qual (L2.defScope st) L fI (.ref cda) [("__class__", cc)]) = pure false) ∧
    (∀ (L fI cda cc : Addr), ∃ pl : Sem Bool, eval (.Call (.Attribute (.Call (.Name "super" p0) [] [] p1) "__init__" p2) [.Constant (.str m) j p3] [] p4) (envX qual (L2.defScope st) L fI (.ref cda) [("__class__", cc)]) = (do
      let ov ← attributeBase (.Call (.Name "super" p0) [] [] p1) "__init__" (envX qual (L2.defScope st) L fI (.ref cda) [("__class__", cc)]) (eval (.Call (.Name "super" p0) [] [] p1) (envX qual (L2.defScope st) L fI (.ref cda) [("__class__", cc)]))
      standAt p2.atName
      let (f, first) ← holding [ov] (getMethod ov "__init__" pl)
      callWith p4 f first (backTo p4 (starEach [.Constant (.str m) j p3] (envX qual (L2.defScope st) L fI (.ref cda) [("__class__", cc)]))) []))
  inter : ∀ (L fI cda cc : Addr), interactive (envX qual (L2.defScope st) L fI (.ref cda) [("__class__", cc)]) = false
  kind : (L2.defScope st).kind = .function
  co : (L2.defScope st).isCoroutine = false
  gen : (L2.defScope st).isGenerator = false
  nocell : ∀ x ∈ (L2.defScope st).names, x.2 ≠ .cell
  sup : (L2.defScope st).names.lookup ("super" : Str) = some .globalImplicit
  cls : (L2.defScope st).names.lookup ("__class__" : Str) = some .free
  self : (L2.defScope st).names.lookup sf = some .local
  arg : (L2.defScope st).names.lookup a = some .local
  ne : (sf == a) = false
  sd : (sf == ("__debug__" : Str)) = false
  ad : (a == ("__debug__" : Str)) = false
  first : ∃ ar : Arg, ((L2.defArgs st).posonlyargs ++ (L2.defArgs st).args).head? = some ar ∧ ar.arg = sf
  binds : ∀ (s : Shared) (doc pm : Value) (an : Option Addr) (cda : Addr) (ct : Value) (cc : Addr) (u v : Value), BindsTo s (fnX "__init__" qual (L2.defArgs st) (L2.defBody st) (L2.defScope st) [("__class__", cc)] .none .none doc pm an (.ref cda) ct) ⟨[u, v], []⟩ [(sf, u), (a, v)]
  top : (P.main.scope.names.lookup ("super" : Str)).isSome = false
section
variable {P : Program} {w : World} {A : Around} {K : PySem.W.Frag} {B i newId : String} {bmB : List Value}
theorem sup_run1 {h base : Heap} {g : Array GenState} {d : Drawn} {t : Nat} {os : OsState} {mg : Str → Option Value} {R : Result → Shared → Prop} {C fI x t0 : Addr} {qual sf a f : Str} {st : Stmt} {u : Value}
    (S : SupC P K C fI B i newId bmB st qual) (T : Init1 P st qual sf a f) (FB : BaseF B i newId bmB) (KF : KxsFacts B i) (SF : StoreFacts B bmB "object.__setattr__" "object") (M : L2.Mod K mg base) (hb : ∀ b o, base.get? b = some o → h.get? b = some o)
    (hmg : mg "super" = none) (ht : takerIn K C f = some none) (hroom : A.depth < recursionLimit) (hx : h.get? x = some (HandSPX.excO C t0)) (hxb : base.get? x = none)
    (hq : ∀ h' t' dx t1, (∀ b o, b ≠ x → h.get? b = some o → h'.get? b = some o) → h.objs.size ≤ dx → dx ≠ x → h'.get? x = some { cls := .ref C, dict := some dx, data := .fields #[.ref t1, .none, .none, .none, .bool false, .none] } →
      h'.Ns1 dx (fun y => if y = f then some u else none) → R (.ok (.ret .none)) ⟨h', g, d, t', os⟩) :
    codeAny (model P w) A (.call (.ref fI) ⟨[.ref x, u], []⟩) R ⟨h, g, d, t, os⟩ := by
  have X : K.In h := M.kin.keeps hb
  obtain ⟨oc, od, osl, doc, pm, an, cda, ct, cc, lk, hcd, ⟨ccl, cdd, vs, ccs, file, tf, hcode, hvs, hfile⟩, cl, cld, csl, hcell⟩ := S.fn
  obtain ⟨m, j, p0, p1, p2, p3, p4, p5, q0, q1, q2, q3, hbody, hsw, hsw2, he⟩ := T.body
  obtain ⟨ar, har, hae⟩ := T.first
  subst hae
  refine ks_codeAny_call_defAt (fd := fnX "__init__" qual (L2.defArgs st) (L2.defBody st) (L2.defScope st) [("__class__", cc)] .none .none doc pm an (.ref cda) ct) (body := L2.defBody st) (binds := [(ar.arg, .ref x), (a, u)]) hroom (X _ _ lk) rfl (M.nolimit.keeps hb) (codeRec_of X hcd) rfl (T.binds _ _ _ _ _ _ _ _ _) T.nocell (fun y hy => ?_) (fun h₁ hns hk₁ => ?_) T.co T.gen T.kind
  · simp only [List.mem_cons, List.not_mem_nil, or_false] at hy
    rcases hy with rfl | rfl
    · exact T.self
    · exact T.arg
  show _root_.PySem.wpAt (model P w) _ (.func _ (envX qual (L2.defScope st) h.objs.size fI (.ref cda) [("__class__", cc)])) (execs (L2.defBody st) (envX qual (L2.defScope st) h.objs.size fI (.ref cda) [("__class__", cc)])) _ _ _
  obtain ⟨pl, hev⟩ := he h.objs.size fI cda cc
  have hL : h.objs.size ≠ x := Nat.ne_of_gt (Heap.lt_size hx)
  have l1 : ([(ar.arg, Value.ref x), (a, u)].reverse).lookup ar.arg = some (.ref x) := by
    show List.lookup ar.arg [(a, u), (ar.arg, Value.ref x)] = _
    rw [List.lookup_cons, T.ne, List.lookup_cons, beq_self_eq_true]
  have l2 : ([(ar.arg, Value.ref x), (a, u)].reverse).lookup a = some u := by
    show List.lookup a [(a, u), (ar.arg, Value.ref x)] = _
    rw [List.lookup_cons, beq_self_eq_true]
  rw [hbody]
  refine sup_first FB KF M (fun b o e => hk₁ b o (hb b o e)) S.ini S.subB S.sup S.mro S.op lk har hcode hvs hfile hcell hmg T.sup T.cls T.self T.kind T.top (T.inter _ _ _ _) (hsw _ _ _ _) hev hns l1 (hk₁ _ _ hx) fun h2 t2 t1 k2 hx2 => ?_
  have hb2 : ∀ b o, base.get? b = some o → h2.get? b = some o := fun b o e => k2 b o (fun z => by rw [z, hxb] at e; cases e) (hk₁ b o (hb b o e))
  have hns2 : h2.Ns h.objs.size fun y => ([(ar.arg, Value.ref x), (a, u)].reverse).lookup y := by
    obtain ⟨oL, es, ep, hoL, r⟩ := hns
    exact ⟨oL, es, ep, k2 _ _ hL hoL, r⟩
  have X2 : K.In h2 := M.kin.keeps hb2
  refine wpAny_execs_cons (plainObj_wpAny_Assign_Attribute (wpAny_Name (wpAny_loadName_local T.kind T.arg hns2 l2 (wpAny_Name (wpAny_loadName_local T.kind T.self hns2 l1 ?_) T.sd)) T.ad) (hsw2 _ _ _ _))
  refine set_plain X2 (ox := HandSPX.excO C t1) (od := none) ⟨hx2, rfl, rfl, trivial⟩ S.sa ?_
  refine osa_first SF X2 hx2 S.over S.hd ht fun h3 t3 dx k3 dn dne hx3 hn3 => ?_
  refine wpAny_execs_nil ?_
  have hs : h.objs.size ≤ dx := by
    have := Nat.lt_of_lt_of_le (Heap.lt_size (k2 _ _ hL (hns.choose_spec.choose_spec.choose_spec.1))) dn
    omega
  exact hq h3 t3 dx t1 (fun b o hb e => k3 b o hb (k2 b o hb (hk₁ b o e))) hs dne hx3 hn3
end

section
open L2
variable {X : Cx} {B i newId : String} {bmB : List Value}
/-- C(e): the exception and its dict -/
def tMk1 (C : Addr) (f : Str) (te : TE) : L2.St → Hp → XK → Prop := fun σ H Q => te σ H fun v H1 => ∀ dx, H1 dx = none → Q (.ref C) (some dx) (upd H1 dx (.xd [(f, v)]))
theorem pmk_sup1 {k : Nat} {C fI : Addr} {qual sf a f x : Str} {st : Stmt} {e : Expr} {te : TE} {p pos : Pos} (S : SupC X.prog X.K C fI B i newId bmB st qual) (T : Init1 X.prog st qual sf a f) (FB : BaseF B i newId bmB) (KF : KxsFacts B i) (SF : StoreFacts B bmB "object.__setattr__" "object")
    (hmg : X.mg "super" = none) (ht : takerIn X.K C f = some none) (hr : Room (k + 1) X.A) (hg : Gl X x) (hm : X.mg x = some (.ref C)) (he : PE X e te)
    (hdb : (x == ("__debug__" : Str)) = false := by decide) (hst : starEach [e] X.env = (false, eval e X.env) :: starEach [] X.env := by rfl) : PMk X (.Call (.Name x p) [e] [] pos) (tMk1 C f te) := by
  intro pins s σ H Q I h
  have ha : PA X [e] (tCons te tNil) := pa_cons he pa_nil hst
  refine wpAny_Call_Name_kw (ld_glob I hg hm ?_ hdb)
  refine PySem.W.callWith_K (h₀ := X.base) I.ok.mod.kin S.kp (thn (ha.run pos pins s σ H (fun vs H1 => ∃ v, vs = [v] ∧ ∀ dx, H1 dx = none → Q (.ref C) (some dx) (upd H1 dx (.xd [(f, v)]))) I ?_) fun us s1 ⟨vs, H1, I1, r1, v, ev, q1⟩ => ⟨I1.kIn, ?_⟩) hst rfl
  · refine (show te σ H _ from ?_)
    have h' : te σ H fun v H1 => ∀ dx, H1 dx = none → Q (.ref C) (some dx) (upd H1 dx (.xd [(f, v)])) := h
    have e : (fun v H1 => ∀ dx, H1 dx = none → Q (.ref C) (some dx) (upd H1 dx (.xd [(f, v)]))) = fun (x : V) (H1 : Hp) => tNil σ H1 fun xs H2 => (∃ v, x :: xs = [v] ∧ ∀ dx, H2 dx = none → Q (.ref C) (some dx) (upd H2 dx (.xd [(f, v)]))) := by
      funext x H1
      refine propext ⟨fun z => ⟨x, rfl, z⟩, fun ⟨v, e, z⟩ => ?_⟩
      cases e
      exact z
    rw [← e]
    exact h'
  subst ev
  cases r1 with
  | @cons _ u _ ur ru rn =>
  cases rn
  show wpAny _ _ (call (.ref C) [u]) _ _ _
  obtain ⟨hp, g, dr, tk, os⟩ := s1
  obtain ⟨nm, N', qn, bs, bm, hdct, sn, sub, ab, col, dd, k0, k1, k2, k3, k5, hC, hT⟩ := excInit_of I1.kIn S.ini
  have hus : [u].length ≤ sizeLine := by show 1 ≤ sizeLine; rw [sizeLine_eq]; omega
  have kk : ∀ b o, hp.get? b = some o → ((hp.push (PySem.W.kdv_tup [u])).push (PySem.HandSPX.excO C hp.objs.size)).get? b = some o := fun b o e => Heap.get?_push_of_some _ (Heap.get?_push_of_some _ e)
  have hget : ((hp.push (PySem.W.kdv_tup [u])).push (PySem.HandSPX.excO C hp.objs.size)).get? (hp.objs.size + 1) = some (PySem.HandSPX.excO C hp.objs.size) := by heap_get
  have hsz : ((hp.push (PySem.W.kdv_tup [u])).push (PySem.HandSPX.excO C hp.objs.size)).objs.size = hp.objs.size + 2 := by rw [Heap.size_push, Heap.size_push]
  refine wpAny_call (bx_call FB hT hC (PySem.W.looks_findIn I1.kIn S.init) (fun self => PySem.W.bind_fn I1.kIn self S.tyI) hus ?_)
  refine sup_run1 S T FB KF SF I1.ok.mod (fun b o e => kk b o (I1.bk b o e)) hmg ht (hr.make C [u] []).depth hget ?_ fun h' t' dx t1 k4 dn dne hx' hn' => ⟨rfl, ?_⟩
  · cases z : X.base.get? (hp.objs.size + 1) with
    | none => rfl
    | some o => exact absurd (Heap.lt_size (I1.bk _ _ z)) (by show ¬ hp.objs.size + 1 < hp.objs.size; omega)
  obtain ⟨G, g1', g2'⟩ := restrict h' fun b => decide (b ≠ hp.objs.size + 1)
  have gk : ∀ b, b ≠ hp.objs.size + 1 → G.get? b = h'.get? b := fun b hb => g1' b (decide_eq_true hb)
  have ge : G.get? (hp.objs.size + 1) = none := g2' _ (by simp)
  have hdx : hp.objs.size ≤ dx := by rw [hsz] at dn; omega
  have nha : ∀ {b : Addr} {o : Obj}, hp.get? b = some o → b ≠ hp.objs.size + 1 := fun {b o} z => Nat.ne_of_lt (Nat.lt_succ_of_lt (Heap.lt_size z))
  have hnd : H1 dx = none := I1.hok.fresh hdx
  have hna : H1 (hp.objs.size + 1) = none := I1.hok.fresh (Nat.le_succ _)
  have J : Inv X pins σ (upd H1 dx (.xd [(f, v)])) ⟨G, g, dr, t', os⟩ := I1.laid (t' := t') (a := dx) (o := .xd [(f, v)]) (h' := G) (fun b o e => by rw [gk b (nha e)]; exact k4 b o (nha e) (kk b o e)) hdx
    ⟨_, hn'.at fun o y => (gk dx dne).trans y, relO_put (fs := []) ru fun g => True.intro⟩
  exact ⟨hp.objs.size + 1, _, _, ⟨G, g, dr, t', os⟩, upd H1 dx (.xd [(f, v)]), .ref C, some dx, rfl, J, (fun b o z => by
    by_cases hba : b = hp.objs.size + 1
    · rw [hba, ge] at z
      cases z
    · exact (gk b hba).symm.trans z), ge, hx', ⟨rfl, rfl⟩, rfl, rfl, by rw [upd_ne (Ne.symm dne)]; exact hna, rfl, I1.bare, raises_own S.subE S.ty, q1 dx hnd⟩
end
end Wb

/-! KeyError as a base: LookupError's __new__, its own __init__ -/
namespace Wb
open PySem PySem.W PySem.Calls PyProof.Rows PyProof.V PySem.Spec
abbrev keT : List Value := [.type "KeyError", .type "LookupError", .type "Exception", .type "BaseException", .type "object"]
theorem keBase : BaseF "KeyError" "KeyError.__init__" "LookupError.__new__" keT where
  nw := ⟨"LookupError", _, _, PySem.F.excBase_LookupError, by decide +kernel⟩
  nA := by decide +kernel
  nN := by decide +kernel
  plain := by decide +kernel
  entry := by
    refine entryFor_alias (id' := "BaseException.__init__") ?_ ?_ ?_ ?_
    · rw [fastTable_eq_tree]
      kernel_rfl
    · first | rfl | decide +kernel
    · decide +kernel
    · rw [fastTable_eq_tree]
      kernel_rfl
  kind := by kernel_rfl
  row := by kernel_rfl
  star := by decide +kernel
theorem keStore : StoreFacts "KeyError" keT "object.__setattr__" "object" where
  mro := by kernel_rfl
  slot := by
    refine .of (owner := "object") (n := "__setattr__") ?_ ?_ ?_ ?_ ?_ ?_
    · rw [typeLookup_type, builtinLookup_eq_fast]
      kernel_rfl
    · decide +kernel
    · decide +kernel
    · decide +kernel
    · first
        | exact .inl (by decide +kernel)
        | exact .inr (by decide +kernel)
    · rw [isSubtype_type]
      kernel_rfl
  entry := PySem.F.store_IndexError.entry
  kind := by decide +kernel
  split := by decide +kernel
  hasOwner := by decide +kernel
  args := PySem.F.store_IndexError.args
  passes := fun self => by kernel_rfl
theorem keKxs : KxsFacts "KeyError" "KeyError.__init__" := ⟨by
  show builtinType _ = _
  rw [builtinType_eq_fast]
  kernel_rfl, by first | kernel_rfl | rfl⟩
end Wb

/-! an __init__ of three arguments behind super().__init__(..) -/
namespace Wb
open PySem PySem.W PySem.Calls PyProof.Rows PyProof.V PySem.Spec
section
open Builtin Builtin.ObjectAttr
variable {P : Program} {w : World} {A : Around} {K : PySem.W.Frag} {B i newId : String} {bmB : List Value}
/-- self.f = v, a further one -/
theorem osa_more {hp : Heap} {g : Array GenState} {d : Drawn} {t : Nat} {os : OsState} {R : Result → Shared → Prop} {name : Str} {tk : Tok} {v : Value} {x C dx : Addr} {fv : Array Value} {m0 : Str → Option Value} {nl : List Str} (SF : StoreFacts B bmB "object.__setattr__" "object")
    (X : K.In hp) (hx : hp.get? x = some { cls := .ref C, dict := some dx, data := .fields fv }) (hns : hp.Ns1 dx m0) (hw : PySem.Within m0 nl) (hz : nl.length ≤ 1000) (over : excOver K C bmB = true) (hh : hasDictIn K C = true) (ht : takerIn K C name = some none)
    (hq : ∀ h' tk', (∀ b o, b ≠ dx → hp.get? b = some o → h'.get? b = some o) → h'.Ns1 dx (fun y => if y = name then some v else m0 y) → R (.ok (.ret .none)) ⟨h', g, d, tk', os⟩) :
    codeAny (model P w) A (.call (.builtin "object.__setattr__") ⟨[.ref x, .str name tk, v], []⟩) R ⟨hp, g, d, t, os⟩ := by
  obtain ⟨oD, esD, epD, hoD, hdD, _⟩ := hns.count hw
  have I : InstAt hp x { cls := .ref C, dict := some dx, data := .fields fv } C (some oD) := ⟨hx, rfl, rfl, hoD⟩
  refine osa_openX (s := ⟨hp, g, d, t, os⟩) SF X I over ht fun b => ?_
  obtain ⟨cd, hcd, hd⟩ := any_some hh
  have hcls : Looks (model P w) hp (classData C) cd := looks_clsIn X hcd
  obtain ⟨nm, bs, mro, ns, qn, hd', sn, sb, ab, col, del⟩ := cd
  dsimp only at hd
  subst hd
  show wpAny _ _ (storeInOwnDict (.ref x) (.ref C) (.str name tk) name v b) _ _ _
  unfold storeInOwnDict ownDictForStores
  repeat (first
    | with_reducible refine PySem.OEX.store_in_old hns hw hz ?_
    | with_reducible refine wpAny_loadPart_at hx ?_
    | with_reducible refine hcls.at ?_
    | wp_step)
  intro h' tk' hn' hs
  exact hq h' tk' (fun b o hb ho => (hs.2 b hb).trans ho) hn'
end
/-- __init__(self, label, rows, point): super().__init__('..'); self.rule_label = label; self.row_numbers = rows; self.point = point -/
structure Init3 (P : Program) (st : Stmt) (qual : Str) : Prop where
  body : ∃ (m : Str) (j : Nat) (p0 p1 p2 p3 p4 p5 q0 q1 q2 q3 r0 r1 r2 r3 t0 t1 t2 t3 : Pos), L2.defBody st = [.Expr (.Call (.Attribute (.Call (.Name "super" p0) [] [] p1) "__init__" p2) [.Constant (.str m) j p3] [] p4) p5, .Assign [.Attribute (.Name "self" q0) "rule_label" q1] (.Name "label" q2) q3, .Assign [.Attribute (.Name "self" r0) "row_numbers" r1] (.Name "rows" r2) r3, .Assign [.Attribute (.Name "self" t0) "point" t1] (.Name "point" t2) t3] ∧
    (∀ (L fI cda cc : Addr), swapsWith (.Call (.Attribute (.Call (.Name "super" p0) [] [] p1) "__init__" p2) [.Constant (.str m) j p3] [] p4) none p5.line (envX qual (L2.defScope st) L fI (.ref cda) [("__class__", cc)]) = pure false) ∧
    (∀ (L fI cda cc : Addr), swapsWith (.Name "label" q2) (some (.Attribute (.Name "self" q0) "rule_label" q1)) q3.line (envX qual (L2.defScope st) L fI (.ref cda) [("__class__", cc)]) = pure false) ∧
    (∀ (L fI cda cc : Addr), swapsWith (.Name "rows" r2) (some (.Attribute (.Name "self" r0) "row_numbers" r1)) r3.line (envX qual (L2.defScope st) L fI (.ref cda) [("__class__", cc)]) = pure false) ∧
    (∀ (L fI cda cc : Addr), swapsWith (.Name "point" t2) (some (.Attribute (.Name "self" t0) "point" t1)) t3.line (envX qual (L2.defScope st) L fI (.ref cda) [("__class__", cc)]) = pure false) ∧
    (∀ (L fI cda cc : Addr), ∃ pl : Sem Bool, eval (.Call (.Attribute (.Call (.Name "super" p0) [] [] p1) "__init__" p2) [.Constant (.str m) j p3] [] p4) (envX qual (L2.defScope st) L fI (.ref cda) [("__class__", cc)]) = (do
      let ov ← attributeBase (.Call (.Name "super" p0) [] [] p1) "__init__" (envX qual (L2.defScope st) L fI (.ref cda) [("__class__", cc)]) (eval (.Call (.Name "super" p0) [] [] p1) (envX qual (L2.defScope st) L fI (.ref cda) [("__class__", cc)]))
      standAt p2.atName
      let (f, first) ← holding [ov] (getMethod ov "__init__" pl)
      callWith p4 f first (backTo p4 (starEach [.Constant (.str m) j p3] (envX qual (L2.defScope st) L fI (.ref cda) [("__class__", cc)]))) []))
  inter : ∀ (L fI cda cc : Addr), interactive (envX qual (L2.defScope st) L fI (.ref cda) [("__class__", cc)]) = false
  kind : (L2.defScope st).kind = .function
  co : (L2.defScope st).isCoroutine = false
  gen : (L2.defScope st).isGenerator = false
  nocell : ∀ x ∈ (L2.defScope st).names, x.2 ≠ .cell
  sup : (L2.defScope st).names.lookup ("super" : Str) = some .globalImplicit
  cls : (L2.defScope st).names.lookup ("__class__" : Str) = some .free
  self : (L2.defScope st).names.lookup ("self" : Str) = some .local
  arg1 : (L2.defScope st).names.lookup ("label" : Str) = some .local
  arg2 : (L2.defScope st).names.lookup ("rows" : Str) = some .local
  arg3 : (L2.defScope st).names.lookup ("point" : Str) = some .local
  first : ∃ ar : Arg, ((L2.defArgs st).posonlyargs ++ (L2.defArgs st).args).head? = some ar ∧ ar.arg = "self"
  binds : ∀ (s : Shared) (doc pm : Value) (an : Option Addr) (cda : Addr) (ct : Value) (cc : Addr) (u v1 v2 v3 : Value), BindsTo s (fnX "__init__" qual (L2.defArgs st) (L2.defBody st) (L2.defScope st) [("__class__", cc)] .none .none doc pm an (.ref cda) ct) ⟨[u, v1, v2, v3], []⟩ [("self", u), ("label", v1), ("rows", v2), ("point", v3)]
  top : (P.main.scope.names.lookup ("super" : Str)).isSome = false
section
variable {P : Program} {w : World} {A : Around} {K : PySem.W.Frag} {B i newId : String} {bmB : List Value}
theorem sup_run3 {h base : Heap} {g : Array GenState} {d : Drawn} {t : Nat} {os : OsState} {mg : Str → Option Value} {R : Result → Shared → Prop} {C fI x t0 : Addr} {qual : Str} {st : Stmt} {u1 u2 u3 : Value}
    (S : SupC P K C fI B i newId bmB st qual) (T : Init3 P st qual) (FB : BaseF B i newId bmB) (KF : KxsFacts B i) (SF : StoreFacts B bmB "object.__setattr__" "object") (M : L2.Mod K mg base) (hb : ∀ b o, base.get? b = some o → h.get? b = some o)
    (hmg : mg "super" = none) (ht : takerIn K C "rule_label" = some none) (hroom : A.depth < recursionLimit) (hx : h.get? x = some (HandSPX.excO C t0)) (hxb : base.get? x = none)
    (ht2 : takerIn K C "row_numbers" = some none) (ht3 : takerIn K C "point" = some none)
    (hq : ∀ h' t' dx t1, (∀ b o, b ≠ x → h.get? b = some o → h'.get? b = some o) → h.objs.size ≤ dx → dx ≠ x → h'.get? x = some { cls := .ref C, dict := some dx, data := .fields #[.ref t1, .none, .none, .none, .bool false, .none] } →
      h'.Ns1 dx (fun y => if y = "point" then some u3 else if y = "row_numbers" then some u2 else if y = "rule_label" then some u1 else none) → R (.ok (.ret .none)) ⟨h', g, d, t', os⟩) :
    codeAny (model P w) A (.call (.ref fI) ⟨[.ref x, u1, u2, u3], []⟩) R ⟨h, g, d, t, os⟩ := by
  have X : K.In h := M.kin.keeps hb
  obtain ⟨oc, od, osl, doc, pm, an, cda, ct, cc, lk, hcd', ⟨ccl, cdd, vs, ccs, file, tf, hcode, hvs, hfile⟩, cl, cld, csl, hcell⟩ := S.fn
  obtain ⟨m, j, p0, p1, p2, p3, p4, p5, q0, q1, q2, q3, r0, r1, r2, r3, s0, s1, s2, s3, hbody, hsw, hsw1, hsw2, hsw3, he⟩ := T.body
  obtain ⟨ar, har, hae⟩ := T.first
  refine ks_codeAny_call_defAt (fd := fnX "__init__" qual (L2.defArgs st) (L2.defBody st) (L2.defScope st) [("__class__", cc)] .none .none doc pm an (.ref cda) ct) (body := L2.defBody st) (binds := [("self", .ref x), ("label", u1), ("rows", u2), ("point", u3)]) hroom (X _ _ lk) rfl (M.nolimit.keeps hb) (codeRec_of X hcd') rfl (T.binds _ _ _ _ _ _ _ _ _ _ _) T.nocell (fun y hy => ?_) (fun h₁ hns hk₁ => ?_) T.co T.gen T.kind
  · simp only [List.mem_cons, List.not_mem_nil, or_false] at hy
    rcases hy with rfl | rfl | rfl | rfl
    · exact T.self
    · exact T.arg1
    · exact T.arg2
    · exact T.arg3
  show _root_.PySem.wpAt (model P w) _ (.func _ (envX qual (L2.defScope st) h.objs.size fI (.ref cda) [("__class__", cc)])) (execs (L2.defBody st) (envX qual (L2.defScope st) h.objs.size fI (.ref cda) [("__class__", cc)])) _ _ _
  obtain ⟨pl, hev⟩ := he h.objs.size fI cda cc
  have hL : h.objs.size ≠ x := Nat.ne_of_gt (Heap.lt_size hx)
  have l0 : ([(("self" : Str), Value.ref x), ("label", u1), ("rows", u2), ("point", u3)].reverse).lookup ("self" : Str) = some (.ref x) := rfl
  have l1 : ([(("self" : Str), Value.ref x), ("label", u1), ("rows", u2), ("point", u3)].reverse).lookup ("label" : Str) = some u1 := rfl
  have l2 : ([(("self" : Str), Value.ref x), ("label", u1), ("rows", u2), ("point", u3)].reverse).lookup ("rows" : Str) = some u2 := rfl
  have l3 : ([(("self" : Str), Value.ref x), ("label", u1), ("rows", u2), ("point", u3)].reverse).lookup ("point" : Str) = some u3 := rfl
  rw [hbody]
  refine sup_first FB KF M (fun b o e => hk₁ b o (hb b o e)) S.ini S.subB S.sup S.mro S.op lk har hcode hvs hfile hcell hmg T.sup T.cls (by rw [hae]; exact T.self) T.kind T.top (T.inter _ _ _ _) (hsw _ _ _ _) hev hns (by rw [hae]; exact l0) (hk₁ _ _ hx) fun h2 t2 t1 k2 hx2 => ?_
  have nb : ∀ b o, base.get? b = some o → b ≠ x := fun b o e z => by rw [z, hxb] at e; cases e
  have hb2 : ∀ b o, base.get? b = some o → h2.get? b = some o := fun b o e => k2 b o (nb b o e) (hk₁ b o (hb b o e))
  have nsAt : ∀ {h' : Heap}, (∀ b o, b ≠ x → h₁.get? b = some o → h'.get? b = some o) → h'.Ns h.objs.size fun y => ([(("self" : Str), Value.ref x), ("label", u1), ("rows", u2), ("point", u3)].reverse).lookup y := fun {h'} k => by
    obtain ⟨oL, es, ep, hoL, r⟩ := hns
    exact ⟨oL, es, ep, k _ _ hL hoL, r⟩
  have X2 : K.In h2 := M.kin.keeps hb2
  refine wpAny_execs_cons (plainObj_wpAny_Assign_Attribute (wpAny_Name (wpAny_loadName_local T.kind T.arg1 (nsAt k2) l1 (wpAny_Name (wpAny_loadName_local T.kind T.self (nsAt k2) l0 ?_) (by decide))) (by decide)) (hsw1 _ _ _ _))
  refine set_plain X2 (ox := HandSPX.excO C t1) (od := none) ⟨hx2, rfl, rfl, trivial⟩ S.sa ?_
  refine osa_first SF X2 hx2 S.over S.hd ht fun h3 t3 dx k3 dn dne hx3 hn3 => ?_
  have hdx : h.objs.size ≤ dx ∧ h.objs.size ≠ dx := by
    obtain ⟨oL, es, ep, hoL, r⟩ := nsAt k2
    have := Nat.lt_of_lt_of_le (Heap.lt_size hoL) dn
    omega
  have k3' : ∀ b o, b ≠ x → h₁.get? b = some o → h3.get? b = some o := fun b o hb e => k3 b o hb (k2 b o hb e)
  have X3 : K.In h3 := M.kin.keeps fun b o e => k3' b o (nb b o e) (hk₁ b o (hb b o e))
  refine wpAny_execs_cons (plainObj_wpAny_Assign_Attribute (wpAny_Name (wpAny_loadName_local T.kind T.arg2 (nsAt k3') l2 (wpAny_Name (wpAny_loadName_local T.kind T.self (nsAt k3') l0 ?_) (by decide))) (by decide)) (hsw2 _ _ _ _))
  obtain ⟨oD, esD, epD, hoD, rD⟩ := id hn3
  refine set_plain X3 (od := some oD) ⟨hx3, rfl, rfl, hoD⟩ S.sa ?_
  have w3 : PySem.Within (fun y => if y = ("rule_label" : Str) then some u1 else none) [("rule_label" : Str)] := fun y hy => by
    by_cases e : y = ("rule_label" : Str)
    · rw [e]
      exact List.mem_singleton.mpr rfl
    · exact absurd (if_neg e) hy
  refine osa_more SF X3 hx3 hn3 w3 (by decide) S.over S.hd ht2 fun h4 t4 k4 hn4 => ?_
  have k4' : ∀ b o, b ≠ x → h₁.get? b = some o → b ≠ dx → h4.get? b = some o := fun b o hb e hd => k4 b o hd (k3' b o hb e)
  have old : ∀ {b o}, h.get? b = some o → b ≠ dx := fun {b o} e => Nat.ne_of_lt (Nat.lt_of_lt_of_le (Heap.lt_size e) hdx.1)
  have nsAt4 : ∀ {h' : Heap}, (∀ b o, b ≠ dx → h3.get? b = some o → h'.get? b = some o) → h'.Ns h.objs.size fun y => ([(("self" : Str), Value.ref x), ("label", u1), ("rows", u2), ("point", u3)].reverse).lookup y := fun {h'} k => by
    obtain ⟨oL, es, ep, hoL, r⟩ := nsAt k3'
    exact ⟨oL, es, ep, k _ _ hdx.2 hoL, r⟩
  have X4 : K.In h4 := M.kin.keeps fun b o e => k4' b o (nb b o e) (hk₁ b o (hb b o e)) (old (hb b o e))
  have hx4 := k4 _ _ (Ne.symm dne) hx3
  refine wpAny_execs_cons (plainObj_wpAny_Assign_Attribute (wpAny_Name (wpAny_loadName_local T.kind T.arg3 (nsAt4 k4) l3 (wpAny_Name (wpAny_loadName_local T.kind T.self (nsAt4 k4) l0 ?_) (by decide))) (by decide)) (hsw3 _ _ _ _))
  obtain ⟨oD4, esD4, epD4, hoD4, rD4⟩ := id hn4
  refine set_plain X4 (od := some oD4) ⟨hx4, rfl, rfl, hoD4⟩ S.sa ?_
  have w4 : PySem.Within (fun y => if y = ("row_numbers" : Str) then some u2 else if y = ("rule_label" : Str) then some u1 else none) [("row_numbers" : Str), "rule_label"] := fun y hy => by
    by_cases e : y = ("row_numbers" : Str)
    · rw [e]
      exact List.mem_cons_self
    · refine List.mem_cons_of_mem _ (w3 y ?_)
      intro z
      exact hy ((if_neg e).trans z)
  refine osa_more SF X4 hx4 hn4 w4 (by decide) S.over S.hd ht3 fun h5 t5 k5 hn5 => ?_
  refine wpAny_execs_nil ?_
  exact hq h5 t5 dx t1 (fun b o hb e => k5 b o (old e) (k4' b o hb (hk₁ b o e) (old e))) hdx.1 dne (k5 _ _ (Ne.symm dne) hx4) hn5
end
section
open L2
variable {X : Cx} {B i newId : String} {bmB : List Value}
/-- C(e1, e2, e3): the exception and its dict -/
def tMk3 (C : Addr) (ts : TA) : L2.St → Hp → XK → Prop := fun σ H Q => ts σ H fun vs H1 => ∃ v1 v2 v3, vs = [v1, v2, v3] ∧ ∀ dx, H1 dx = none → Q (.ref C) (some dx) (upd H1 dx (.xd [("point", v3), ("row_numbers", v2), ("rule_label", v1)]))
theorem pmk_sup3 {k : Nat} {C fI : Addr} {qual x : Str} {st : Stmt} {e1 : Expr} {es : List Expr} {ts : TA} {p pos : Pos} (S : SupC X.prog X.K C fI B i newId bmB st qual) (T : Init3 X.prog st qual) (FB : BaseF B i newId bmB) (KF : KxsFacts B i) (SF : StoreFacts B bmB "object.__setattr__" "object")
    (hmg : X.mg "super" = none) (ht : takerIn X.K C "rule_label" = some none) (ht2 : takerIn X.K C "row_numbers" = some none) (ht3 : takerIn X.K C "point" = some none) (hr : Room (k + 1) X.A) (hg : Gl X x) (hm : X.mg x = some (.ref C)) (ha : PA X (e1 :: es) ts)
    (hdb : (x == ("__debug__" : Str)) = false := by decide) (hst : starEach (e1 :: es) X.env = (false, eval e1 X.env) :: starEach es X.env := by rfl) (hpl : (backTo pos (starEach es X.env)).any (·.1) = false := by rfl) : PMk X (.Call (.Name x p) (e1 :: es) [] pos) (tMk3 C ts) := by
  intro pins s σ H Q I h
  refine wpAny_Call_Name_kw (ld_glob I hg hm ?_ hdb)
  refine PySem.W.callWith_K (h₀ := X.base) I.ok.mod.kin S.kp (thn (ha.run pos pins s σ H _ I h) fun us s1 ⟨vs, H1, I1, r1, v1, v2, v3, ev, q1⟩ => ⟨I1.kIn, ?_⟩) hst hpl
  subst ev
  cases r1 with
  | @cons _ u1 _ _ ru1 r1 =>
  cases r1 with
  | @cons _ u2 _ _ ru2 r1 =>
  cases r1 with
  | @cons _ u3 _ _ ru3 r1 =>
  cases r1
  show wpAny _ _ (call (.ref C) [u1, u2, u3]) _ _ _
  obtain ⟨hp, g, dr, tk, os⟩ := s1
  obtain ⟨nm, N', qn, bs, bm, hdct, sn, sub, ab, col, dd, k0, k1, k2, k3, k5, hC, hT⟩ := excInit_of I1.kIn S.ini
  have hus : [u1, u2, u3].length ≤ sizeLine := by show 3 ≤ sizeLine; rw [sizeLine_eq]; omega
  have kk : ∀ b o, hp.get? b = some o → ((hp.push (PySem.W.kdv_tup [u1, u2, u3])).push (PySem.HandSPX.excO C hp.objs.size)).get? b = some o := fun b o e => Heap.get?_push_of_some _ (Heap.get?_push_of_some _ e)
  have hget : ((hp.push (PySem.W.kdv_tup [u1, u2, u3])).push (PySem.HandSPX.excO C hp.objs.size)).get? (hp.objs.size + 1) = some (PySem.HandSPX.excO C hp.objs.size) := by heap_get
  have hsz : ((hp.push (PySem.W.kdv_tup [u1, u2, u3])).push (PySem.HandSPX.excO C hp.objs.size)).objs.size = hp.objs.size + 2 := by rw [Heap.size_push, Heap.size_push]
  refine wpAny_call (bx_call FB hT hC (PySem.W.looks_findIn I1.kIn S.init) (fun self => PySem.W.bind_fn I1.kIn self S.tyI) hus ?_)
  refine sup_run3 S T FB KF SF I1.ok.mod (fun b o e => kk b o (I1.bk b o e)) hmg ht (hr.make C [u1, u2, u3] []).depth hget ?_ ht2 ht3 fun h' t' dx t1 k4 dn dne hx' hn' => ⟨rfl, ?_⟩
  · cases z : X.base.get? (hp.objs.size + 1) with
    | none => rfl
    | some o => exact absurd (Heap.lt_size (I1.bk _ _ z)) (by show ¬ hp.objs.size + 1 < hp.objs.size; omega)
  obtain ⟨G, g1', g2'⟩ := restrict h' fun b => decide (b ≠ hp.objs.size + 1)
  have gk : ∀ b, b ≠ hp.objs.size + 1 → G.get? b = h'.get? b := fun b hb => g1' b (decide_eq_true hb)
  have ge : G.get? (hp.objs.size + 1) = none := g2' _ (by simp)
  have hdx : hp.objs.size ≤ dx := by rw [hsz] at dn; omega
  have nha : ∀ {b : Addr} {o : Obj}, hp.get? b = some o → b ≠ hp.objs.size + 1 := fun {b o} z => Nat.ne_of_lt (Nat.lt_succ_of_lt (Heap.lt_size z))
  have hnd : H1 dx = none := I1.hok.fresh hdx
  have hna : H1 (hp.objs.size + 1) = none := I1.hok.fresh (Nat.le_succ _)
  have J : Inv X pins σ (upd H1 dx (.xd [("point", v3), ("row_numbers", v2), ("rule_label", v1)])) ⟨G, g, dr, t', os⟩ := I1.laid (t' := t') (a := dx) (o := .xd [("point", v3), ("row_numbers", v2), ("rule_label", v1)]) (h' := G) (fun b o e => by rw [gk b (nha e)]; exact k4 b o (nha e) (kk b o e)) hdx
    ⟨_, hn'.at fun o y => (gk dx dne).trans y, relO_put ru3 (relO_put ru2 (relO_put (fs := []) ru1 fun g => True.intro))⟩
  exact ⟨hp.objs.size + 1, _, _, ⟨G, g, dr, t', os⟩, upd H1 dx (.xd [("point", v3), ("row_numbers", v2), ("rule_label", v1)]), .ref C, some dx, rfl, J, (fun b o z => by
    by_cases hba : b = hp.objs.size + 1
    · rw [hba, ge] at z
      cases z
    · exact (gk b hba).symm.trans z), ge, hx', ⟨rfl, rfl⟩, rfl, rfl, by rw [upd_ne (Ne.symm dne)]; exact hna, rfl, I1.bare, raises_own S.subE S.ty, q1 dx hnd⟩
end
end Wb

/-! try: several clauses, with names or without, of one class or of several -/
namespace Wb
open PySem PySem.Spec PyProof.Rows L2
theorem flyZ_keeps {B : Heap} {l : List Env} {e : Addr} {Z : Obj → Prop} {h h' : Heap} (R : HandSPX.FlyingZ B l e Z h) (k : ∀ b o, h.get? b = some o → h'.get? b = some o) : HandSPX.FlyingZ B l e Z h' := by
  obtain ⟨f1, f2, f3, oe, vs, T, oT, ts, he, hz, hd, h1, hb, hn, hT, hdT, h3⟩ := R
  exact ⟨fun b o q => k b o (f1 b o q), f2, f3.of_keeps fun b o q _ => ⟨o, k b o q, rfl⟩, oe, vs, T, oT, ts, k _ _ he, hz, hd, h1, hb, hn, k _ _ hT, hdT, h3⟩
/-- what a clause's class (or tuple of classes) says of an exception's class -/
def ClT (X : Cx) (ty : Expr) (tst : Value → Option Bool) : Prop := ∀ {a : Addr} {oe : Obj} {pn pins : List (Addr × Obj)} {σ : L2.St} {H : Hp} {s : Shared} {cls : Value} {b : Bool} {Q : Bool → Shared → Prop} {E : Value → Shared → Prop}, Inv (X.suite a ((a, oe) :: pn)) pins σ H s →
  PySem.W.Looks (model X.prog X.w) s.heap (typeOf (.ref a)) cls → tst cls = some b → (∀ h', (∀ q o, s.heap.get? q = some o → h'.get? q = some o) → Q b { s with heap := h' }) →
  wpAny (model X.prog X.w) (X.A.mark (some (.ref a))) (eval ty X.env) (fun c s1 => wpAny (model X.prog X.w) (X.A.mark (some (.ref a))) (excMatches (.ref a) c) Q E s1) E s
theorem clt_one {X : Cx} {x : Str} {c : Value} {np : Pos} (hc : Names X x c) : ClT X (.Name x np) (fun cls => PySem.W.exmOne X.K cls c) := by
  intro a oe pn pins σ H s cls b Q E S LT hb q
  have LM := PySem.W.exm_one (M := model X.prog X.w) S.kIn LT hb
  have fin : wpAny (model X.prog X.w) (X.A.mark (some (.ref a))) (excMatches (.ref a) c) Q E s := LM.here (q s.heap fun _ _ z => z)
  obtain ⟨hg, hdbg, hm | ⟨hm, hv, hnn⟩⟩ := hc
  · exact ld_glob (X := X.suite a ((a, oe) :: pn)) S hg hm fin hdbg
  · exact ld_blt (X := X.suite a ((a, oe) :: pn)) S hg hm hv fin hnn hdbg
/-- one clause: its class's word, its name's slot (if it has a name), its suite -/
structure Cla where
  tst : Value → Option Bool
  slot : Option Nat
  ts : Addr → Value → Option Addr → TS
def Cla.ends (c : Cla) (D : Ends) : Ends := match c.slot with
  | none => D
  | some i => { nx := fun σ' H' => D.nx (σ'.set i none) H', rt := D.rt, bk := fun σ' H' => D.bk (σ'.set i none) H', ct := fun σ' H' => D.ct (σ'.set i none) H' }
def Cla.st (c : Cla) (a : Addr) (σ : L2.St) : L2.St := match c.slot with
  | none => σ
  | some i => σ.set i (some (.ref a))
def wCla (Wout : WX) (D : Ends) : List Cla → WX
  | [] => Wout
  | c :: r => fun cls d σ H => ∃ b, c.tst cls = some b ∧ (b = true → ∀ a, H a = none → c.ts a cls d (c.ends D) (c.st a σ) H) ∧ (b = false → wCla Wout D r cls d σ H)
inductive ClaOk (X : Cx) : List ExceptHandler → List Cla → Prop
  | nil : ClaOk X [] []
  | plain {ty : Expr} {tst : Value → Option Bool} {ts : Addr → Value → Option Addr → TS} {b₀ : Stmt} {suite : List Stmt} {pos' : Pos} {hds : List ExceptHandler} {l : List Cla} (hc : ClT X ty tst)
      (hsu : ∀ (a : Addr) (oe : Obj) (cls : Value) (d : Option Addr) (pn : List (Addr × Obj)), Zc cls d oe → (∃ vs, oe.data = .fields vs) → X.base.get? a = none → PSs (X.suite a ((a, oe) :: pn)) (b₀ :: suite) (ts a cls d)) (r : ClaOk X hds l) :
      ClaOk X (.ExceptHandler (some ty) none (b₀ :: suite) pos' :: hds) (⟨tst, none, ts⟩ :: l)
  | named {ty : Expr} {tst : Value → Option Bool} {ts : Addr → Value → Option Addr → TS} {n : Str} {i : Nat} {b₀ : Stmt} {suite : List Stmt} {pos' : Pos} {hds : List ExceptHandler} {l : List Cla} (hc : ClT X ty tst) (hi : X.N[i]? = some n) (hln : X.env.kindOf n = some .local)
      (hsu : ∀ (a : Addr) (oe : Obj) (cls : Value) (d : Option Addr) (pn : List (Addr × Obj)), Zc cls d oe → (∃ vs, oe.data = .fields vs) → X.base.get? a = none → PSs (X.suite a ((a, oe) :: pn)) (b₀ :: suite) (ts a cls d)) (r : ClaOk X hds l) :
      ClaOk X (.ExceptHandler (some ty) (some n) (b₀ :: suite) pos' :: hds) (⟨tst, some i, ts⟩ :: l)
section
variable {X : Cx} {body : List Stmt} {h₀ : ExceptHandler} {hds : List ExceptHandler} {l : List Cla} {pos : Pos} {tb : WX → TS} {Wout : WX}
theorem ps_try_cla (hs : X.stack = X.env :: X.outer) (hf : X.env.frame = some X.env.locals) (hN : X.N.Nodup) (tk : Takes X Wout)
    (hb : ∀ (W : WX) (pn : List (Addr × Obj)) (xe : Value → Shared → Prop), Takes (X.tr pn xe) W → PassesOwn (model X.prog X.w) X.A X.env xe → PSs (X.tr pn xe) body (tb W))
    (hh : ClaOk X (h₀ :: hds) l) : PS X (.Try body (h₀ :: hds) [] [] pos) (fun D σ H => tb (wCla Wout D l) D σ H) := by
  refine ⟨fun pins s σ H D I h => ?_⟩
  have ok := I.ok
  have yfr : X.A.frames = some (X.env :: X.outer) := by rw [ok.frames, hs]
  refine wpAny_Try_except ?_
  have hbody := hb (wCla Wout D l) (X.pn ++ pins) (fun e s₁ => wpAny (model X.prog X.w) X.A (noteFrame e X.env) (fun _ s₂ => wpAny (model X.prog X.w) X.A (setFlight e none) (fun _ s₃ => wpAny (model X.prog X.w) X.A (handleBy e X.env (h₀ :: hds)) (SP X pins D) X.xe s₃) X.xe s₂) X.xe s₁)
  refine wpAny_mono ((hbody (fun u s' xx => ?_) PassesOwn.looking).run [] s σ H D (I.toTry _) h) (fun f s1 hsp => ?_) (fun e s1 he => he)
  · obtain ⟨a, B, sI, pins', σ', H', cls, d, rfl, J', nb, up, sky, na, os, ag, w⟩ := xx
    have J : Inv X pins σ' H' sI := J'.ofTry ok
    rw [hs] at sky
    show wpAny (model X.prog X.w) X.A (noteFrame (.ref a) X.env) _ _ _
    refine Sky.land Zc.steady yfr hf sky fun h3 fl3 up3 => ?_
    have abase : X.base.get? a = none := by
      cases z : X.base.get? a with
      | none => rfl
      | some o =>
        have z1 := nb a o (J.bk a o z) fun hm => by
          have := (J.stack.mem hm).1
          rw [z] at this
          cases this
        rw [fl3.2.1] at z1
        cases z1
    have go : ∀ {hs' : List ExceptHandler} {l' : List Cla}, ClaOk X hs' l' → ∀ h3, HandSPX.FlyingZ B (X.env :: X.outer) a (Zc cls d) h3 → sI.heap.UpToSlots h3 → wCla Wout D l' cls d σ' H' →
        wpAny (model X.prog X.w) X.A (handleBy (.ref a) X.env hs') (SP X pins D) X.xe { s' with heap := h3 } := by
      have land : ∀ {h4 : Heap}, HandSPX.FlyingZ B (X.env :: X.outer) a (Zc cls d) h4 → sI.heap.UpToSlots h4 → ∃ oe vs, h4.get? a = some oe ∧ Zc cls d oe ∧ oe.data = .fields vs ∧ Inv X pins σ' H' { s' with heap := h4 } ∧ Inv (X.suite a ((a, oe) :: (X.pn ++ pins))) [] σ' H' { s' with heap := h4 } := by
        intro h4 fl4 u4
        have J4 : Inv X pins σ' H' { s' with heap := h4 } := J.landed nb fl4.1 u4 os ag
        obtain ⟨oe4, vs4, he4, hz4, hd4⟩ := fl4.there
        have nfr : a ∉ frs (X.env :: X.outer) := fun hm => by
          obtain ⟨_, o', e', hnf⟩ := fl4.2.2.1.mem hm
          rw [he4] at e'
          cases e'
          exact hnf _ hd4
        have nL : a ≠ X.env.locals := fun z => nfr (List.mem_filterMap.mpr ⟨X.env, List.mem_cons_self, by rw [hf, z]⟩)
        have nF : a ∉ X.fs := fun hm => by
          obtain ⟨e, he, q⟩ := List.mem_filterMap.mp hm
          exact nfr (List.mem_filterMap.mpr ⟨e, List.mem_cons_of_mem _ he, q⟩)
        exact ⟨oe4, vs4, he4, hz4, hd4, J4, J4.suite he4 hd4 na nL nF⟩
      intro hs' l' hk
      induction hk with
      | nil =>
        intro h3 fl3 u3 w
        refine wpAny_handleBy_nil ?_
        obtain ⟨_, _, _, oe, vs, T, oT, ts', he, hz, hd, h1, _⟩ := id fl3
        unfold PySem.passOn
        refine wpAny_bind (wpAny_field he hd h1 ?_)
        rw [if_neg (by simp : ¬ ((Value.ref T == Value.none) = true))]
        have out : wpAny (model X.prog X.w) X.A (setFlight (.ref a) X.env.frame) (fun _ s4 => wpAny (model X.prog X.w) X.A (throw (.ref a) : Sem Flow) (SP X pins D) X.xe s4) X.xe { s' with heap := h3 } := by
          rw [hf]
          refine HandSPX.setFlight_upZ fl3 fun h4 hh4 up4 => wpAny_throw (tk _ _ ?_)
          exact ⟨a, B, sI, pins, σ', H', cls, d, rfl, J, nb, u3.trans up4, .inr (.inr (by rw [hs]; exact hh4)), na, os, ag, w⟩
        first
          | exact wpAny_bind (wpAny_pure (wpAny_bind out))
          | exact wpAny_bind out
      | plain hc hsu r ih =>
        intro h3 fl3 u3 w
        obtain ⟨b, hb1, hyes, hno⟩ := w
        obtain ⟨oe3, vs3, he3, hz3, hd3, J3, S3⟩ := land fl3 u3
        have LT : PySem.W.Looks (model X.prog X.w) h3 (typeOf (.ref a)) cls := fun A Q E s k q => wpAny_typeOf_ref (k _ _ he3) (by rw [hz3.1]; exact q)
        refine wpAny_handleBy_cons (codeAny_handlers_test (hc S3 LT hb1 fun h4 k4 => ?_)) (by intro q; cases q)
        have fl4 := flyZ_keeps fl3 k4
        have u4 := u3.trans (Heap.UpToSlots.of_keeps k4)
        cases b with
        | true =>
          refine codeAny_handlers_suite ?_
          refine HandSPX.lands_againZ fl4 fun h5 fl5 up5 => ?_
          obtain ⟨oe5, vs5, he5, hz5, hd5, J5, S5⟩ := land fl5 (u4.trans up5)
          refine wpAny_mono ((hsu a oe5 cls d (X.pn ++ pins) hz5 ⟨_, hd5⟩ abase).run [] _ _ H' _ S5 (hyes rfl a na)) (fun f s6 hsp => ?_) (fun _ _ z => False.elim z)
          cases f with
          | next =>
            obtain ⟨σ6, H6, S6, q6⟩ := hsp
            exact ⟨_, _, S6.unsuite ok, q6⟩
          | brk =>
            obtain ⟨σ6, H6, S6, q6⟩ := hsp
            exact ⟨_, _, S6.unsuite ok, q6⟩
          | cont =>
            obtain ⟨σ6, H6, S6, q6⟩ := hsp
            exact ⟨_, _, S6.unsuite ok, q6⟩
          | ret u =>
            obtain ⟨v6, σ6, H6, S6, r6, q6⟩ := hsp
            exact ⟨_, _, _, S6.unsuite ok, r6, q6⟩
        | false => exact ih h4 fl4 u4 (hno rfl)
      | @named ty tst ts n i b₀ suite pos' hds2 l2 hc hi hln hsu r ih =>
        intro h3 fl3 u3 w
        obtain ⟨b, hb1, hyes, hno⟩ := w
        obtain ⟨oe3, vs3, he3, hz3, hd3, J3, S3⟩ := land fl3 u3
        have LT : PySem.W.Looks (model X.prog X.w) h3 (typeOf (.ref a)) cls := fun A Q E s k q => wpAny_typeOf_ref (k _ _ he3) (by rw [hz3.1]; exact q)
        refine wpAny_handleBy_cons (codeAny_handlers_test (hc S3 LT hb1 fun h4 k4 => ?_)) (by intro q; cases q)
        have fl4 := flyZ_keeps fl3 k4
        have u4 := u3.trans (Heap.UpToSlots.of_keeps k4)
        cases b with
        | true =>
          refine codeAny_handlers_suite_as ?_
          refine HandSPX.lands_againZ fl4 fun h5 fl5 up5 => ?_
          obtain ⟨oe5, vs5, he5, hz5, hd5, J5, S5⟩ := land fl5 (u4.trans up5)
          refine store_ok (X := X.suite a ((a, oe5) :: (X.pn ++ pins))) (v := .ref a) S5 hN hi (.inl hln) rfl (fun s6 S6 => ?_) (.inr hln)
          refine wpAny_mono ((hsu a oe5 cls d (X.pn ++ pins) hz5 ⟨_, hd5⟩ abase).run [] s6 _ H' _ S6 (hyes rfl a na)) (fun f s7 hsp => ?_) (fun _ _ z => False.elim z)
          have back : ∀ {σ7 : L2.St} {H7 : Hp} {Q : Shared → Prop}, Inv (X.suite a ((a, oe5) :: (X.pn ++ pins))) [] σ7 H7 s7 → (∀ s8, Inv X pins (σ7.set i none) H7 s8 → Q s8) →
              wpAny (model X.prog X.w) X.A (do bindName X.env n .none; unbindBehindTheSuite X.env n pos') (fun _ s8 => Q s8) X.xe s7 := fun {σ7 H7 Q} S7 hq => gone_ok (S7.unsuite ok) hN hi hln hq
          cases f with
          | next =>
            obtain ⟨σ7, H7, S7, q7⟩ := hsp
            exact back S7 fun s8 J8 => ⟨_, _, J8, q7⟩
          | brk =>
            obtain ⟨σ7, H7, S7, q7⟩ := hsp
            exact back S7 fun s8 J8 => ⟨_, _, J8, q7⟩
          | cont =>
            obtain ⟨σ7, H7, S7, q7⟩ := hsp
            exact back S7 fun s8 J8 => ⟨_, _, J8, q7⟩
          | ret u =>
            obtain ⟨v7, σ7, H7, S7, r7, q7⟩ := hsp
            exact back S7 fun s8 J8 => ⟨_, _, _, J8, r7, q7⟩
        | false => exact ih h4 fl4 u4 (hno rfl)
    exact go hh h3 fl3 (up.trans up3) w
  · cases f with
    | next =>
      obtain ⟨σ', H', J', q⟩ := hsp
      exact wpAny_execs_nil ⟨σ', H', J'.ofTry ok, q⟩
    | brk =>
      obtain ⟨σ', H', J', q⟩ := hsp
      exact ⟨σ', H', J'.ofTry ok, q⟩
    | cont =>
      obtain ⟨σ', H', J', q⟩ := hsp
      exact ⟨σ', H', J'.ofTry ok, q⟩
    | ret u =>
      obtain ⟨v, σ', H', J', r, q⟩ := hsp
      exact ⟨v, σ', H', J'.ofTry ok, r, q⟩
end
end Wb

/-! except (A, B, C, D, E, F) as e -/
namespace Wb
open PySem PySem.W PySem.Calls PyProof.Rows PySem.Spec
section
variable {M : Model} {K : Frag}
theorem exm_six {c1 c2 c3 c4 c5 c6 cls : Value} {tp e : Addr} {b : Bool} {h : Heap} (X : K.In h) (LT : Looks M h (typeOf (.ref e)) cls) (hp : h.get? tp = some { cls := .type "tuple", data := .seq [c1, c2, c3, c4, c5, c6].toArray }) (hx : exmAny K cls [c1, c2, c3, c4, c5, c6] = some b) :
    Looks M h (excMatches (.ref e) (.ref tp)) b := by
  intro A Q E s k₀ q
  obtain ⟨hh, g, d, tk, os⟩ := s
  have k : ∀ b o, h.get? b = some o → hh.get? b = some o := k₀
  have isT : Looks M h (isInstance (.ref tp) (.type "tuple")) true := ((Looks.ld hp).andThen .now).andThen (Looks.of_pure isSubtype_tuple_tuple)
  obtain ⟨b1, d1, x1, y1, z1⟩ := exmAny_cons hx
  obtain ⟨b2, d2, x2, y2, z2⟩ := exmAny_cons y1
  obtain ⟨b3, d3, x3, y3, z3⟩ := exmAny_cons y2
  obtain ⟨b4, d4, x4, y4, z4⟩ := exmAny_cons y3
  obtain ⟨b5, d5, x5, y5, z5⟩ := exmAny_cons y4
  obtain ⟨b6, d6, x6, y6, z6⟩ := exmAny_cons y5
  have w6 : some false = some d6 := y6
  cases w6
  have E1 := (exm_cls (M := M) X x1).1.keeps k
  have S1 := (exm_cls (M := M) X x1).2.keeps k
  have E2 := (exm_cls (M := M) X x2).1.keeps k
  have S2 := (exm_cls (M := M) X x2).2.keeps k
  have E3 := (exm_cls (M := M) X x3).1.keeps k
  have S3 := (exm_cls (M := M) X x3).2.keeps k
  have E4 := (exm_cls (M := M) X x4).1.keeps k
  have S4 := (exm_cls (M := M) X x4).2.keeps k
  have E5 := (exm_cls (M := M) X x5).1.keeps k
  have S5 := (exm_cls (M := M) X x5).2.keeps k
  have E6 := (exm_cls (M := M) X x6).1.keeps k
  have S6 := (exm_cls (M := M) X x6).2.keeps k
  have LT := LT.keeps k
  have isT := isT.keeps k
  have hp' := k _ _ hp
  subst z1 z2 z3 z4 z5 z6
  unfold excMatches
  refine wpAny_bind (isT.at ?_)
  dsimp only
  rw [if_pos rfl]
  first
    | refine wpAny_bind (wpAny_seqItems hp' rfl ?_)
    | refine wpAny_bind (wpAny_bind (wpAny_seqItems hp' rfl (wpAny_pure ?_)))
  dsimp only [Option.getD_some, Option.getD]
  cases b1
  case true =>
    repeat (first
      | simp only [List.forIn_cons, List.forIn_nil, Bool.not_true, Bool.false_eq_true, if_false, if_true]
      | lk)
    exact q
  cases b2
  case true =>
    repeat (first
      | simp only [List.forIn_cons, List.forIn_nil, Bool.not_true, Bool.false_eq_true, if_false, if_true]
      | lk)
    exact q
  cases b3
  case true =>
    repeat (first
      | simp only [List.forIn_cons, List.forIn_nil, Bool.not_true, Bool.false_eq_true, if_false, if_true]
      | lk)
    exact q
  cases b4
  case true =>
    repeat (first
      | simp only [List.forIn_cons, List.forIn_nil, Bool.not_true, Bool.false_eq_true, if_false, if_true]
      | lk)
    exact q
  cases b5
  case true =>
    repeat (first
      | simp only [List.forIn_cons, List.forIn_nil, Bool.not_true, Bool.false_eq_true, if_false, if_true]
      | lk)
    exact q
  cases b6 <;>
    (repeat (first
      | simp only [List.forIn_cons, List.forIn_nil, Bool.not_true, Bool.false_eq_true, if_false, if_true]
      | lk)
     exact q)
end
open L2
theorem clt_six {X : Cx} {x1 x2 x3 x4 x5 x6 : Str} {c1 c2 c3 c4 c5 c6 : Value} {p1 p2 p3 p4 p5 p6 tp : Pos} {kk : Nat} (h1 : Names X x1 c1) (h2 : Names X x2 c2) (h3 : Names X x3 c3) (h4 : Names X x4 c4) (h5 : Names X x5 c5) (h6 : Names X x6 c6) :
    ClT X (.Tuple [.Name x1 p1, .Name x2 p2, .Name x3 p3, .Name x4 p4, .Name x5 p5, .Name x6 p6] kk tp) (fun cls => exmAny X.K cls [c1, c2, c3, c4, c5, c6]) := by
  intro a oe pn pins σ H s cls b Q E S LT hb q
  have nm : ∀ {x : Str} {c : Value} {np : Pos} {Q' : Value → Shared → Prop}, Names X x c → Q' c s → wpAny (model X.prog X.w) (X.A.mark (some (.ref a))) (eval (.Name x np) X.env) Q' E s := fun {x c np Q'} hc fin => by
    obtain ⟨hg, hdbg, hm | ⟨hm, hv, hnn⟩⟩ := hc
    · exact ld_glob (X := X.suite a ((a, oe) :: pn)) S hg hm fin hdbg
    · exact ld_blt (X := X.suite a ((a, oe) :: pn)) S hg hm hv fin hnn hdbg
  refine wpAny_Tuple ?_
  refine wpAny_items_cons (nm h1 ?_)
  refine wpAny_items_cons (nm h2 ?_)
  refine wpAny_items_cons (nm h3 ?_)
  refine wpAny_items_cons (nm h4 ?_)
  refine wpAny_items_cons (nm h5 ?_)
  refine wpAny_items_cons (nm h6 ?_)
  refine wpAny_items_nil ⟨by size_fits, ?_⟩
  have kp : ∀ q o, s.heap.get? q = some o → (s.heap.push { cls := .type "tuple", data := .seq [c1, c2, c3, c4, c5, c6].toArray }).get? q = some o := fun _ _ z => Heap.get?_push_of_some _ z
  exact (exm_six (S.kIn.keeps kp) (LT.keeps kp) (Heap.get?_push_size s.heap rfl) hb).here (q _ kp)
end Wb

/-! a caught error handed to a def; isinstance of it there -/
namespace Wb
open PySem PySem.W PySem.Calls PyProof.Rows PySem.Spec
section
variable {prog : Program} {w : World} {A : Around} {E : Value → Shared → Prop} {s : Shared} {K : Frag} {x D : Addr} {ox : Obj} {od : Option Obj}
theorem fnd_cls {name : Str} {a g : Value} (hc : (clsIn K D).isSome = true) (ha : findIn K (.ref D) name = some (some a)) (hg : specialIn K a "__get__" = some (some g)) (ht : takesIn K a = some true) : findObj K D od name = some (.bind g a) := by
  obtain ⟨cd, hc⟩ := Option.isSome_iff_exists.mp hc
  unfold findObj
  rw [hc, Option.bind_some, ha, Option.bind_some]
  simp [hg, ht]
theorem cls_read {Q : Option Value → Shared → Prop} (c : L2.ExcC K D) (X : K.In s.heap) (I : InstAt s.heap x ox D od) (h : Q (some (.ref D)) { s with toks := s.toks + 1 }) : wpAny (model prog w) A (getAttr? (.ref x) "__class__") Q E s := by
  have hf : findObj K D od "__class__" = some (.bind (.builtin "getset_descriptor.__get__") (.builtin "object.__class__")) := fnd_cls (by
    obtain ⟨cd, hc, _⟩ := any_some c.hd
    rw [hc]
    rfl) c.ha c.hn c.ht
  obtain ⟨hp, g, d, t, os⟩ := s
  have T0 := I.type (M := model prog w)
  have T1 := looks_findIn (M := model prog w) X c.hg
  have T2 := looks_findIn (M := model prog w) X c.hk
  have T3 := looks_find (M := model prog w) X I hf
  have sub : Looks (model prog w) hp (isInstance (.ref x) (.type "BaseException")) true := T0.andThen (looks_subIn X c.hs)
  have n1 : (Value.builtin "BaseException.__getattribute__" == Value.builtin "object.__getattribute__") = false := by decide +kernel
  have n2 : (onTheHeap (Value.ref D) && Value.builtin "BaseException.__getattribute__" == Value.builtin "object.__getattribute__") = false := by
    rw [n1]
    rfl
  have n3 : (false && onTheHeap (Value.builtin "BaseException.__getattribute__")) = false := rfl
  unfold getAttr? getAttrBy? getAttrBy
  refine wpAny_bind (wpAny_mkText (wpAny_bind (wpAny_attempt (wpAny_holding (wpAny_bind (T0.at (wpAny_bind (T1.at ?_))))))))
  show wpAny _ _ (if (onTheHeap (Value.ref D) && Value.builtin "BaseException.__getattribute__" == Value.builtin "object.__getattribute__") = true then _ else _) _ _ _
  rw [n2, if_neg Bool.false_ne_true]
  unfold getAttrByItsOwn hookBefore
  refine wpAny_bind ?_
  have n4 : onTheHeap (Value.ref D) = true := rfl
  rw [if_pos n4]
  refine T2.at ?_
  refine wpAny_bind (wpAny_attempt (wpAny_holding ?_))
  unfold callGetattribute
  rw [n3, if_neg Bool.false_ne_true]
  unfold boundAndCalled
  rw [PySem.F.excAttr_ValueError.ga.bind (.ref x)]
  refine wpAny_bind (wpAny_pure ?_)
  show wpAny _ _ (call (.builtin "BaseException.__getattribute__") [.ref x, .str "__class__" t]) _ _ _
  refine wpAny_call (codeAny_call_builtin PySem.F.excAttr_ValueError.ga.plain PySem.F.entry_bexc_ga ?_)
  refine @check_slot (model prog w) _ _ ⟨hp, g, d, t + 1, os⟩ "BaseException.__getattribute__" "BaseException" "__getattribute__" (.ref x) [.str "__class__" t] [] _ (by decide +kernel) (by decide +kernel) sub (PySem.F.args_bexc_ga (.ref x) (.str "__class__" t)) ?_
  unfold Builtin.«object.__getattribute__»
  refine wpAny_bind (wpAny_of_eq (a := ((Value.ref x : Value), [Value.str "__class__" t])) (by first | rfl | (simp only [slotArgs]; rfl)) ?_)
  refine wpAny_bind (wpAny_pure (wpAny_bind (T0.at (wpAny_bind (T3.at ?_)))))
  show wpAny _ _ (holding [Value.builtin "object.__class__"] (call (.builtin "getset_descriptor.__get__") [.builtin "object.__class__", .ref x, .ref D]) >>= ret) _ _ _
  refine wpAny_bind (wpAny_holding (wpAny_call (class_get (s := ⟨hp, g, d, t + 1, os⟩) (ox := ox) (od := od) X I c.hm ?_)))
  refine wpAny_pure ?_
  show wpAny _ _ (handedOut (.ref D)) _ _ _
  rw [handedOut_of (v := .ref D) rfl]
  first
    | exact wpAny_pure (wpAny_pure h)
    | exact wpAny_pure h
    | exact wpAny_pure (wpAny_bind (wpAny_pure (wpAny_pure h)))
theorem kitx_any (c : L2.ExcC K D) : KitX K (.ref x) (.ref D) (fun h => ∃ od, InstAt h x ox D od) where
  ty := fun _ _ _ ⟨_, I⟩ => I.type
  it := fun _ _ X _ => by
    obtain ⟨cdD, hcD, _⟩ := any_some c.hd
    unfold clsIn at hcD
    split at hcD
    · rename_i c' d' cd' sl' ho
      intro A' Q' E' s' k q
      unfold isType loadHead
      exact wpAny_bind (wpAny_loadPart (k _ _ (X _ _ ho)) (wpAny_pure q))
    · cases hcD
  ne := fun h tp dd its n sl X htp => by
    obtain ⟨cdD, hcD, _⟩ := any_some c.hd
    refine Bool.eq_false_iff.mpr fun q => ?_
    have e : D = tp := Value.ref.inj (beq_iff_eq.mp q)
    subst e
    unfold clsIn at hcD
    split at hcD
    · rename_i c' d' cd' sl' ho
      have z := (X _ _ ho).symm.trans htp
      cases z
    · cases hcD
  ca := fun X ⟨_, I⟩ k => cls_read c X I k
end
end Wb
namespace Wb
open PySem PySem.Spec PyProof.Rows L2 L2H
/-- isinstance(e, c), e the error that is handled (a pin of the context) -/
def rIsP (K : PySem.W.Frag) (p : Addr × Obj) : List V → Hp → VK → Prop := fun xs H Q => ∃ (D : Addr) (d : Option Addr) (c : V) (cv : Value) (b : Bool), xs = [.ref p.1, c] ∧ Zc (.ref D) d p.2 ∧ (∃ vs, p.2.data = .fields vs) ∧ (∀ dd, d = some dd → ∃ fs, H dd = some (.xd fs)) ∧ ExcC K D ∧ (∀ u, RelV c u → u = cv) ∧ PySem.W.kitOne K (.ref D) cv = some b ∧ Q (.bl b) H
theorem call_isP {X : Cx} {p : Addr × Obj} (hp : p ∈ X.pn) : CallR X (.builtin "isinstance") (rIsP X.K p) := by
  intro pins s σ H xs us Q I r h
  obtain ⟨D, d, c, cv, b, rfl, hz, ⟨vs, hv⟩, hd, C, hcv, e, q⟩ := h
  cases r with
  | cons rx rr =>
    cases rr with
    | cons rt rr =>
      cases rr
      cases rx
      have ec := hcv _ rt
      subst ec
      obtain ⟨a, oe⟩ := p
      have hget : s.heap.get? a = some oe := (I.pin (a, oe) (List.mem_append_left _ hp)).1
      have J : ∃ od, PySem.W.InstAt s.heap a oe D od := by
        obtain ⟨z1, z2⟩ := hz
        cases d with
        | none => exact ⟨none, hget, z1, by unfold PySem.W.notCls; rw [hv] <;> trivial, by rw [z2] <;> trivial⟩
        | some dd =>
          obtain ⟨fs, hfs⟩ := hd dd rfl
          have hx : ObjOk X.prog X.w H s.heap dd (.xd fs) := I.hok dd _ hfs
          obtain ⟨mA, hns, _⟩ := hx
          obtain ⟨od, ho, _⟩ := lookIn_ns hns
          exact ⟨some od, hget, z1, by unfold PySem.W.notCls; rw [hv] <;> trivial, by rw [z2] <;> exact ho⟩
      exact PySem.W.kia_one (kitx_any (ox := oe) C) I.kIn J e (fun z => nomatch z) fun tk => ⟨.bl b, H, I.kept (t' := tk) fun _ _ z => z, rfl, q⟩
/-- what a def promises that is called with the error that is handled -/
structure FnW (P : Program) (w : World) (K : PySem.W.Frag) (mg : Str → Option Value) (base : Heap) (k : Nat) (f : Addr) (fd : FuncData) (ps : List Str) (sp : Addr × Obj → Sp) : Prop where
  len : ∀ p vs H Q E, sp p vs H Q E → vs.length = ps.length
  run : ∀ (A : Around) (outer : List Env) (s : Shared) (H : Hp) (args : Args) (us : List Value) (vs : List V) (Q : VK) (E : XK) (p : Addr × Obj), RoomH k A → PinOk outer H s p → Env0 P w K mg base A outer s H → BindsTo s fd args (ps.zip us) → Vals vs us → sp p vs H Q E →
    codeAny (model P w) A (.call (.ref f) args) (CR CX0 outer P w H s Q E) s
theorem fnW_ok {P : Program} {w : World} {K : PySem.W.Frag} {mg : Str → Option Value} {base : Heap} {k : Nat} {f : Addr} {fd : FuncData} {x qual : Str} {params : Arguments} {body : List Stmt} {scope : Scope} {dvs : List V} {kws : List (Str × V)} {N ps : List Str} {sp : Addr × Obj → Sp}
    (F : FunD K x qual params body scope dvs kws f fd) (S : FnScope N ps scope) (len : ∀ p vs H Q E, sp p vs H Q E → vs.length = ps.length)
    (hbody : ∀ (cdv : Value) (A : Around) (outer : List Env) (s : Shared) (H : Hp) (vs : List V) (Q : VK) (E : XK) (p : Addr × Obj), RoomH k (A.deeper (envOfC qual scope s.heap.objs.size f cdv)) → sp p vs H Q E →
      ∃ t, PSs (cxH CX0 P w K mg base N qual scope f cdv A outer s H E p) body t ∧ t { nx := fun _ H' => Q .non H', rt := Q } (L2.start N vs) H) : FnW P w K mg base (k + 1) f fd ps sp := by
  obtain ⟨oc, od, dV, kV, doc, pm, an, cdv, ct, osl, rfl, lk, hcd, _, _⟩ := F.ex
  refine ⟨len, fun A outer s H args us vs Q E p hr hpin e0 hb r hsp => ?_⟩
  have KX : K.In s.heap := e0.mod.kin.keeps fun b o e => (e0.bs b o e).1
  have nl : s.heap.NoLimit := e0.mod.nolimit.keeps fun b o e => (e0.bs b o e).1
  have kinds : ∀ y ∈ ps.zip us, scope.names.lookup y.1 = some .local ∨ (scope.names.lookup y.1 = some .cell ∧ ((cellsFrom (s.heap.objs.size + 1) scope.names []).lookup y.1).isSome = true) := fun ⟨n, v⟩ hy => (S.par n (List.of_mem_zip hy).1).elim .inl fun q => .inr ⟨q, PySem.W.cellsFrom_some _ _ _ (.inl q)⟩
  refine codeAny_call_function hr.depth (KX _ _ lk) rfl S.co S.gen rfl (PySem.W.codeRec_of KX hcd) (hb _ _ _ _ ?_)
  refine wpAny_newFunctionEnv_cells S.kind kinds fun env he s1 z => ?_
  subst he
  refine ⟨nl.keeps z.toInCall.keep, codeAny_func ?_⟩
  obtain ⟨t, ht, hq⟩ := hbody cdv A outer s H vs Q E p (hr.deeper _) hsp
  have I := inv_startH (CX := CX0) (E := E) (qual := qual) (f := f) (cd := cdv) S hpin e0 (len _ _ _ _ _ hsp) r z
  refine wpAny_mono (ht.run [] s1 (L2.start N vs) H _ I hq) (fun fl s' hs => ?_) fun e s' hs => hs
  cases fl with
  | ret u =>
    obtain ⟨v, σ', H', J, rv, q⟩ := hs
    exact ⟨v, H', J.os, J.bare, J.base, J.hok, rv, q⟩
  | next =>
    obtain ⟨σ', H', J, q⟩ := hs
    exact ⟨V.non, H', J.os, J.bare, J.base, J.hok, rfl, q⟩
  | brk =>
    obtain ⟨_, _, _, q⟩ := hs
    exact q.elim
  | cont =>
    obtain ⟨_, _, _, q⟩ := hs
    exact q.elim
def tCW (sp : Sp) (t : TA) : TE := fun σ H Q => t σ H fun vs H1 => sp vs H1 Q E0
theorem pe_callW {X : Cx} {k : Nat} {f : Addr} {fd : FuncData} {ps : List Str} {sp : Addr × Obj → Sp} {x : Str} {q pos : Pos} {e : Expr} {es : List Expr} {t : TA} {p : Addr × Obj} (F : FnW X.prog X.w X.K X.mg X.base k f fd ps sp) (hr : RoomH k X.A) (hp : p ∈ X.pn) (hg : Gl X x) (hm : X.mg x = some (.ref f)) (hk : PySem.W.keepIn X.K (.ref f) = true) (hb : Binds X.K fd ps [])
    (ha : PA X (e :: es) t) (hdb : (x == ("__debug__" : Str)) = false := by decide) (he : starEach (e :: es) X.env = (false, eval e X.env) :: starEach es X.env := by rfl) (hpl : (backTo pos (starEach es X.env)).any (·.1) = false := by rfl) :
    PE X (.Call (.Name x q) (e :: es) [] pos) (tCW (sp p) t) := by
  refine ⟨fun pins s σ H Q I h => ?_⟩
  refine wpAny_Call_Name_kw (ld_glob I hg hm ?_ hdb)
  refine PySem.W.callWith_K (h₀ := X.base) I.ok.mod.kin hk (thn (ha.run pos pins s σ H _ I h) fun us s1 ⟨vs, H1, I1, r, z⟩ => ⟨I1.kIn, ?_⟩) he hpl
  have hl : us.length = ps.length := by rw [← r.length]; exact F.len _ _ _ _ _ z
  have b := hb s1 us I1.kIn (by rw [List.append_nil]; exact hl)
  rw [List.append_nil] at b
  have P1 := I1.pin p (List.mem_append_left _ hp)
  have hpin : PinOk X.stack H1 s1 p := ⟨P1.1, P1.2.1, fun hm => (List.mem_cons.mp (I1.stkSub p.1 hm)).elim P1.2.2.1 P1.2.2.2.1, P1.2.2.2.2⟩
  refine wpAny_call (codeAny_mono (F.run X.A X.stack s1 H1 ⟨us, []⟩ us vs Q E0 p hr hpin I1.env0 b r z) fun r s' hq => ?_)
  cases r with
  | error e => exact (show False from hq).elim
  | ok fl =>
    cases fl with
    | ret u => exact I1.after hq
    | next => exact False.elim hq
    | brk => exact False.elim hq
    | cont => exact False.elim hq
end Wb

namespace Wb
open PySem PySem.Spec PyProof.Rows L2
open Evl (Ex Ex.refl Ex.trans Ex.new)
local macro_rules | `(tactic| wtm_at "dp") => `(tactic| first | with_reducible assumption | with_reducible exact Dp.int _ | with_reducible exact Dp.bl _ | with_reducible exact Dp.str _ | with_reducible exact Dp.non | ((with_reducible refine' dpMono ?dme (by with_reducible assumption)); (case dme => wtm_at "ex")) | ((with_reducible refine' Dp.tup (Evl.st_of ?dph) ?dpa); (case dph => wtm_at "hs"); (case dpa => wtm_at "dpa")) | ((with_reducible refine' Dp.lst (Evl.sq_of ?dph) ?dpa); (case dph => wtm_at "hs"); (case dpa => wtm_at "dpa")))
local macro_rules | `(tactic| wtm_at "dpa") => `(tactic| first | with_reducible exact DpAll.nil | ((with_reducible refine' DpAll.cons ?dp1 ?dp2); (case dp1 => wtm_at "dp"); (case dp2 => wtm_at "dpa")) | with_reducible assumption | ((with_reducible refine' dpMonoA ?dme (by with_reducible assumption)); (case dme => wtm_at "ex")))
local macro_rules | `(tactic| wtm_at "sz") => `(tactic| first | with_reducible assumption | ((with_reducible refine' sz_mul ?sz1 ?sz2); (case sz1 => wtm_at "sz"); (case sz2 => wtm_at "sz")) | ((with_reducible refine' sz_add ?sz1 ?sz2); (case sz1 => wtm_at "sz"); (case sz2 => wtm_at "sz")) | ((with_reducible refine' sz_sub ?sz1 ?sz2); (case sz1 => wtm_at "sz"); (case sz2 => wtm_at "sz")) | ((with_reducible refine' sz_neg ?sz1); (case sz1 => wtm_at "sz")) | ((with_reducible refine' sz_div ?sz1); (case sz1 => wtm_at "sz")) | ((with_reducible refine' sz_fdiv ?sz1); (case sz1 => wtm_at "sz")) | exact sz_lit (by decide) | wtm_at "sz2")
local macro_rules | `(tactic| wtm_at "szb") => `(tactic| first | with_reducible assumption | ((with_reducible refine' sz_mono ?szb1 ?szb2); (case szb1 => wtm_at "sz"); (case szb2 => decide)))
local macro_rules | `(tactic| wtm_at "nz") => `(tactic| first | assumption | decide | omega)
local macro_rules | `(tactic| wtm_at "shaped") => `(tactic| first | rfl | decide)
local macro_rules | `(tactic| wtm_at "sset") => `(tactic| ((dsimp only [L2.wipe, List.set, List.set_cons_zero, List.set_cons_succ]) <;> exact rfl))
local macro_rules | `(tactic| wtm_at "nrm") => `(tactic| dsimp only [L2.start, L2.wipe, List.set, List.append, List.map, List.map_cons, List.map_nil, List.length_cons, List.length_nil, Nat.reduceAdd, Nat.reduceSub, List.reduceReplicate, List.replicate, List.cons_append, List.nil_append, List.set_cons_zero, List.set_cons_succ])
local macro_rules | `(tactic| wtm_at "st") => `(tactic| first
  | ((with_reducible refine' i_var (v := ?u0) ?u1 ?uq); (case u1 => exact rfl))
  | ((with_reducible refine' i_nameN ?u0 ?uq); (case u0 => wtm_at "sset"))
  | (with_reducible refine' i_op ?uq)
  | (with_reducible refine' i_c ?uq)
  | (with_reducible refine' i_I0 ?uq)
  | ((with_reducible refine' i_ixTI (i := ?u0) ?u1 ?u2 ?u3 ?uq); (case u1 => wtm_at "dp"); (case u2 => wtm_at "ex"); (case u3 => exact rfl))
  | ((with_reducible refine' i_ixT (d := ?u0) ?u1 ?u2 ?u3 (fun xu hxu => ?uq)); (case u1 => wtm_at "dp"); (case u2 => wtm_at "ex"); (case u3 => exact rfl))
  | ((with_reducible refine' i_mul ?u0 ?u1 ?u2 ?uq); (case u0 => wtm_at "sz"); (case u1 => wtm_at "sz"); (case u2 => first | decide | omega))
  | (with_reducible refine' i_seq ?uq)
  | (with_reducible refine' i_asg ?uq)
  | (with_reducible refine' i_ret ?uq)
  | (with_reducible refine' i_ifs ?uq)
  | (with_reducible refine' i_drop ?uq)
  | (with_reducible refine' i_next ?uq)
  | (with_reducible refine' i_cons ?uq)
  | (with_reducible refine' i_nil ?uq)
  | (with_reducible refine' i_cl ?uq)
  | (with_reducible refine' i_cb ?uq)
  | (with_reducible refine' i_tup ?uq)
  | (with_reducible refine' i_lst ?uq)
  | ((with_reducible refine' i_mkT ?u0 (fun np nH nhe nhp => ?uq)); (case u0 => exact Nat.le_of_ble_eq_true rfl))
  | (with_reducible refine' i_test ?uq)
  | (with_reducible refine' i_B ?uq)
  | (with_reducible refine' i_k ?uq)
  | (with_reducible refine' i_and ?uq)
  | (with_reducible refine' i_or ?uq)
  | (with_reducible refine' i_not ?uq)
  | (with_reducible refine' i_andV ?uq)
  | (with_reducible refine' i_orV ?uq)
  | (with_reducible refine' i_notV ?uq)
  | (with_reducible refine' i_if ?uq)
  | (with_reducible refine' i_un ?uq)
  | (with_reducible refine' i_U ?uq)
  | (with_reducible refine' i_iteT ?uq)
  | (with_reducible refine' i_iteF ?uq)
  | ((with_reducible refine' i_iteTr ?u0 ?uq); (case u0 => first | with_reducible rfl | decide | (simp only [dIsInt, dIsBool, dIsTup, dIsStr, dIsLst, Bool.not_true, Bool.not_false]; done)))
  | ((with_reducible refine' i_iteFr ?u0 ?uq); (case u0 => first | with_reducible rfl | decide | (simp only [dIsInt, dIsBool, dIsTup, dIsStr, dIsLst, Bool.not_true, Bool.not_false]; done)))
  | (with_reducible refine' i_ite (fun hif => ?uqa) (fun hif => ?uqb))
  | (with_reducible refine' i_iteN (fun hif => ?uqa) (fun hif => ?uqb))
  | (with_reducible refine' i_iteBN (fun hif => ?uqa) (fun hif => ?uqb))
  | (with_reducible refine' i_iteB (fun hif => ?uqa) (fun hif => ?uqb))
  | ((with_reducible refine' i_modN ?u0 ?uq); (case u0 => wtm_at "nz"))
  | ((with_reducible refine' i_fdX ?u0 ?u1 ?u2 ?uq); (case u0 => wtm_at "nz"); (case u1 => wtm_at "sz"); (case u2 => first | decide | omega))
  | ((with_reducible refine' i_pow ?u0 ?uq); (case u0 => exact ⟨by decide, by decide +kernel⟩))
  | (with_reducible refine' i_eqI ?uq)
  | (with_reducible refine' i_neI ?uq)
  | (with_reducible refine' i_gcd ?uq)
  | (with_reducible refine' i_qabs ?uq)
  | (with_reducible refine' i_qint ?uq)
  | (with_reducible refine' i_qintB ?uq)
  | (with_reducible refine' i_qmax2 ?uq)
  | (with_reducible refine' i_qmin2 ?uq)
  | (with_reducible refine' i_isB ?uq)
  | (with_reducible refine' i_notB ?uq)
  | (with_reducible refine' i_chain ?uq)
  | (with_reducible refine' i_qisN ?uq)
  | (with_reducible refine' i_qnotN ?uq)
  | (with_reducible refine' i_yes ?uq)
  | (with_reducible refine' i_par ?uq)
  | (with_reducible refine' i_par3 ?uq)
  | ((with_reducible refine' i_par2 ?u0 ?uq); (case u0 => wtm_at "sset"))
  | ((with_reducible refine' i_par33 ?u0 ?uq); (case u0 => wtm_at "sset"))
  | ((with_reducible refine' i_ixLI (i := ?u0) ?u1 ?u2 ?u3 ?uq); (case u1 => wtm_at "dp"); (case u2 => wtm_at "ex"); (case u3 => exact rfl))
  | ((with_reducible refine' i_ixL (d := ?u0) ?u1 ?u2 ?u3 (fun xu hxu => ?uq)); (case u1 => wtm_at "dp"); (case u2 => wtm_at "ex"); (case u3 => exact rfl))
  | ((with_reducible refine' i_qlenT ?u0 ?uq); (case u0 => wtm_at "dp"))
  | ((with_reducible refine' i_qlenL ?u0 ?uq); (case u0 => wtm_at "dp"))
  | ((with_reducible refine' i_gtup ?u0 ?u1 ?u2 (fun gvs gdp => ?uq)); (case u0 => wtm_at "dp"); (case u1 => wtm_at "ex"); (case u2 => exact rfl))
  | ((with_reducible refine' i_glst ?u0 ?u1 ?u2 (fun gvs gdp => ?uq)); (case u0 => wtm_at "dp"); (case u1 => wtm_at "ex"); (case u2 => exact rfl))
  | ((with_reducible refine' i_gconsI ?u0 (fun gr gh => ?uq)); (case u0 => with_reducible assumption))
  | ((with_reducible refine' i_gconsA ?u0 (fun gv gr gh1 gh2 => ?uq)); (case u0 => with_reducible assumption))
  | ((with_reducible refine' i_gnilA ?u0 ?uq); (case u0 => with_reducible assumption))
  | ((with_reducible refine' i_isiI ?u0 ?uq); (case u0 => wtm_at "dp"))
  | ((with_reducible refine' i_isiB ?u0 ?uq); (case u0 => wtm_at "dp"))
  | ((with_reducible refine' i_isiT ?u0 ?uq); (case u0 => wtm_at "dp"))
  | ((with_reducible refine' i_isiS ?u0 ?uq); (case u0 => wtm_at "dp"))
  | ((with_reducible refine' i_isiL ?u0 ?uq); (case u0 => wtm_at "dp"))
  | ((with_reducible refine' i_eqD ?u0 ?u1 ?u2 ?u3 ?uq); (case u0 => wtm_at "dp"); (case u1 => wtm_at "dp"); (case u2 => wtm_at "shaped"); (case u3 => wtm_at "shaped"))
  | ((with_reducible refine' i_neD ?u0 ?u1 ?u2 ?u3 ?uq); (case u0 => wtm_at "dp"); (case u1 => wtm_at "dp"); (case u2 => wtm_at "shaped"); (case u3 => wtm_at "shaped"))
  | wtm_at "st2"
  | wtm_at "use")
local macro_rules | `(tactic| wtm_at "go") => `(tactic| repeat' (wtm_at "st"))
local macro_rules | `(tactic| wtm_at "go0") => `(tactic| ((try dsimp only [L2.cxOf, L2.Cx.nox, L2.Cx.wish, L2.Cx.tr, L2.Cx.blk]); (try wtm_at "nrm"); wtm_at "go"))
local macro_rules | `(tactic| wtm_at "fin") => `(tactic| ((try dsimp only); first | with_reducible assumption | assumption | ((with_reducible refine' Ret.use ?rur ?rue ?rud); (case rur => with_reducible assumption); (case rue => wtm_at "ex"); (case rud => wtm_at "dp"))))
local macro_rules | `(tactic| wtm_at "exh") => `(tactic| first | with_reducible assumption | with_reducible exact Ex.refl _ | with_reducible exact ex_hid | ((with_reducible refine' Ex.trans ?exe (by with_reducible assumption)); (case exe => wtm_at "exh")) | ((with_reducible refine' Ex.trans ?exe (hid_ex (by with_reducible assumption))); (case exe => wtm_at "exh")))
local macro_rules | `(tactic| wtm_at "ex") => `(tactic| first | with_reducible assumption | with_reducible exact Ex.refl _ | with_reducible exact ex_hid | ((with_reducible refine' Ex.trans ?exe (by with_reducible assumption)); (case exe => wtm_at "ex")) | ((with_reducible refine' Ex.trans ?exe (hid_ex (by with_reducible assumption))); (case exe => wtm_at "ex")) | ((with_reducible refine' Ex.trans ?exe ex_hid); (case exe => wtm_at "exh")))
local macro_rules | `(tactic| wtm_at "bag") => `(tactic| first | with_reducible assumption | ((with_reducible refine' Bag.mono ?bgm (by with_reducible assumption)); (case bgm => wtm_at "bag")))
local macro_rules | `(tactic| wtm_at "hs") => `(tactic| first | with_reducible assumption | ((with_reducible refine' hid_tup ?hb ?hp); (case hp => with_reducible assumption); (case hb => wtm_at "bag")) | ((with_reducible refine' hid_new ?hb ?hn ?hp); (case hp => with_reducible assumption); (case hn => with_reducible assumption); (case hb => wtm_at "bag")) | ((with_reducible refine' ex_at ?exe (by with_reducible assumption)); (case exe => wtm_at "ex")))
local macro_rules | `(tactic| wtm_at "st2") => `(tactic| first
  | ((with_reducible refine' i_mulC ?u0 ?uq); (case u0 => first | exact cmul_l (by decide) | exact cmul_r (by decide)))
  | ((with_reducible refine' i_ixLr (v := ?u0) ?u1 ?u2 ?uq); (case u1 => with_reducible assumption); (case u2 => exact rfl))
  | (with_reducible refine' i_sub ?uq)
  | ((with_reducible refine' i_mkL ?u0 (fun np nH nfr nhe nhp => ?uq)); (case u0 => exact Nat.le_of_ble_eq_true rfl))
  | ((with_reducible refine' i_setL (n := ?u0) ?u1 ?u2 (fun sH sh se => ?uq)); (case u1 => with_reducible assumption); (case u2 => exact rfl))
  | (with_reducible refine' i_sl ?uq)
  | (with_reducible refine' i_nopart ?uq)
  | (with_reducible refine' i_part ?uq)
  | (with_reducible refine' i_part1 ?uq))
local macro_rules | `(tactic| wtm_at "sz2") => `(tactic| ((with_reducible refine' sz_fmod ?sz1 ?sz2); (case sz1 => wtm_at "nz"); (case sz2 => wtm_at "sz")))
local macro_rules | `(tactic| wtm_at "stb") => `(tactic| first
  | ((with_reducible refine' i_mkTB ?u0 ?u1 (fun np nH nhe nhb nhp => ?uq)); (case u0 => exact Nat.le_of_ble_eq_true rfl); (case u1 => wtm_at "bag"))
  | ((with_reducible refine' i_mkLB ?u0 ?u1 (fun np nH nfr nhe nhb nhp => ?uq)); (case u0 => exact Nat.le_of_ble_eq_true rfl); (case u1 => wtm_at "bag"))
  | wtm_at "st")
local macro_rules | `(tactic| wtm_at "gob") => `(tactic| repeat' (wtm_at "stb"))
local macro_rules | `(tactic| wtm_at "gob0") => `(tactic| ((try dsimp only [L2.cxOf, L2.Cx.nox, L2.Cx.wish, L2.Cx.tr, L2.Cx.blk]); (try wtm_at "nrm"); wtm_at "gob"))
structure G (mg : Str → Option Value) : Prop where
  f_len : mg "len" = none
  f_abs : mg "abs" = none
  f_int : mg "int" = none
  f_tuple : mg "tuple" = none
  f_list : mg "list" = none
  f_isinstance : mg "isinstance" = none
  f_max : mg "max" = none
  f_min : mg "min" = none
  f_sum : mg "sum" = none
  f_range : mg "range" = none
  f_super : mg "super" = none
  f_ValueError : mg "ValueError" = none
  f_IndexError : mg "IndexError" = none
  f_KeyError : mg "KeyError" = none
  f_LookupError : mg "LookupError" = none
  f_OverflowError : mg "OverflowError" = none
  f_ArithmeticError : mg "ArithmeticError" = none
  f_RuntimeError : mg "RuntimeError" = none
abbrev FnP (K : PySem.W.Frag) (x : Str) (st : Stmt) (f : Addr) (fd : FuncData) : Prop := FunD K x x (defArgs st) (defBody st) (defScope st) [] [] f fd
section
variable {P : Program} {w : World} {K : PySem.W.Frag} {mg : Str → Option Value} {base : Heap} {H H' : Hp} {Q : VK} {E : XK} {v1 v2 v3 v4 v5 : V}
def kA (vs : List V) : TA := fun _ H R => R vs H
section
variable {σ : L2.St} {tu : TS} {D : Ends} {j : Nat} {vs : List Nat} {te : TE} {tt : TT}
theorem i_forRU {ta : TA} (q : ta σ H fun vs H1 => tFor (iRng1 (kA vs)) (gName j) tu D σ H1) : tFor (iRng1 ta) (gName j) tu D σ H := q
theorem i_lcRU {ta : TA} (q : ta σ H fun us H1 => tLc (iRng1 (kA us)) (gName j) tt te vs σ H1 Q) : tLc (iRng1 ta) (gName j) tt te vs σ H Q := q
theorem i_forRK {n : Int} (hn : 0 ≤ n ∧ n ≤ 100000) (Pv : Nat → L2.St → Hp → Prop) (h0 : Pv 0 σ H)
    (hs : ∀ (i : Nat) σ' H', (i : Int) < n → Pv i σ' H' → tu { D with nx := Pv (i + 1), ct := Pv (i + 1), bk := D.nx } (σ'.set j (some (.int (i : Int)))) H') (hd : ∀ σ' H', Pv n.toNat σ' H' → D.nx σ' H') : tFor (iRng1 (kA [.int n])) (gName j) tu D σ H :=
  ⟨n, rfl, by omega, by omega, for_range (lo := 0) (n := n.toNat) Pv h0 (fun i σ' H' hi p => by
    have e0 : (0 : Int) + (i : Int) = (i : Int) := Int.zero_add _
    show tu { D with nx := Pv (i + 1), ct := Pv (i + 1), bk := D.nx } (σ'.set j (some (.int ((0 : Int) + (i : Int))))) H'
    rw [e0]
    exact hs i σ' H' (by omega) p) hd⟩
theorem ex_hidD {b D0 : Addr} {H H' : Hp} {o : HO} (hD : H D0 = none) (e : Ex (hid b H) (hid b H')) : Ex (hid b H) (hid b (upd H' D0 o)) := fun a u h => by
  have h1 := of_hid h
  have hne : a ≠ D0 := ne_of_none h1.2 hD
  have h2 := of_hid (e a u h)
  exact hid_of (by rw [upd_ne hne]; exact h2.2) h2.1
theorem bag_upd {b D0 : Addr} {H : Hp} {o : HO} (hne : D0 ≠ b) (h : Bag b H) : Bag b (upd H D0 o) := by
  obtain ⟨x, y, z, h1, h2, h3⟩ := h.ex
  exact ⟨x, y, z, by rw [upd_ne (Ne.symm hne)]; exact h1, h2, h3⟩
theorem i_lcRB {b : Addr} {P : Int → Prop} {n : Nat} (hb : Bag b H) (hn : n ≤ 1000) (hw : ∀ x, wipe ((wipe σ vs).set j (some x)) vs = wipe σ vs)
    (he : ∀ (i : Nat) (H2 : Hp) (R : VK), Ex (hid b H) (hid b H2) → Bag b H2 → (∀ m H3, P m → Ex (hid b H2) (hid b H3) → Bag b H3 → R (.int m) H3) → te ((wipe σ vs).set j (some (.int (i : Int)))) H2 R)
    (q : ∀ p (ms : List Int) H2, ms.length = n → (∀ m ∈ ms, P m) → Ex (hid b H) (hid b H2) → Bag b H2 → hid b H2 p = some (.lst (ms.map V.int)) → Q (.ref p) H2) : tLc (iRng1 (kA [.int (n : Int)])) (gName j) tYes te vs σ H Q := by
  refine ⟨(n : Int), rfl, by omega, by omega, fun D0 hD => ?_⟩
  have hne : D0 ≠ b := hb.ne hD
  refine lc_range (lo := 0) (n := ((n : Int)).toNat) (fun i H' => Ex (hid b H) (hid b H') ∧ Bag b H' ∧ ∃ ms : List Int, ms.length = i ∧ (∀ m ∈ ms, P m) ∧ H' D0 = some (.lst (ms.map V.int))) ⟨ex_hidD hD (Ex.refl _), bag_upd hne hb, [], rfl, by simp, upd_same⟩ (fun i H' hi p => ?_) (fun H' p => ?_)
  · obtain ⟨p1, p2, ms, p3, p4, p5⟩ := p
    have e0 : (0 : Int) + (i : Int) = (i : Int) := Int.zero_add _
    show wipe ((wipe σ vs).set j (some (.int ((0 : Int) + (i : Int))))) vs = wipe σ vs ∧ tYes ((wipe σ vs).set j (some (.int ((0 : Int) + (i : Int))))) H' fun b' H3 => _
    rw [e0]
    refine ⟨hw _, he i H' _ p1 p2 fun m H3 hm e3 b3 => ?_⟩
    have hD3 : H3 D0 = some (.lst (ms.map V.int)) := (of_hid (e3 _ _ (hid_of p5 hne))).2
    refine ⟨_, hD3, Evl.sz_lt (by rw [List.length_map]; omega), ex_hidD hD (p1.trans e3), bag_upd hne b3, ms ++ [m], by simp [p3], ?_, by rw [upd_same, List.map_append]; rfl⟩
    intro m' hm'
    rcases List.mem_append.mp hm' with h | h
    · exact p4 m' h
    · rcases List.mem_singleton.mp h with rfl
      exact hm
  · obtain ⟨p1, p2, ms, p3, p4, p5⟩ := p
    exact q D0 ms H' (by omega) p4 p1 p2 (hid_of p5 hne)
end
theorem len6 {ms : List Int} (h : ms.length = 6) : ∃ a b c d e f, ms = [a, b, c, d, e, f] := by
  match ms, h with
  | [a, b, c, d, e, f], _ => exact ⟨a, b, c, d, e, f, rfl⟩
theorem i_bm {T : String} {r : V → List V → Hp → VK → Prop} {to : TE} {t : TA} {σ : L2.St} (q : to σ H fun x H1 => tyV K T x H1 ∧ t σ H1 fun xs H2 => r x xs H2 Q) : tBM K T r to t σ H Q := q
theorem i_tyL {a : Addr} {xs : List V} {R : Prop} (h : SqL K H a xs) (q : R) : tyV K "list" (.ref a) H ∧ R := ⟨.inl ⟨rfl, xs, h⟩, q⟩
theorem dpTakeN : ∀ {n : Nat} {us : List V} {ds : List PyData}, DpAll K H us ds → DpAll K H (us.take n) (ds.take n)
  | 0, _, _, _ => by rw [List.take_zero, List.take_zero]; exact .nil
  | _ + 1, _, _, .nil => .nil
  | _ + 1, _, _, .cons h t => .cons h (dpTakeN t)
theorem dpDropN : ∀ {n : Nat} {us : List V} {ds : List PyData}, DpAll K H us ds → DpAll K H (us.drop n) (ds.drop n)
  | 0, _, _, h => h
  | _ + 1, _, _, .nil => .nil
  | n + 1, _ :: us, _ :: ds, .cons _ t => by
    rw [List.drop_succ_cons, List.drop_succ_cons]
    exact dpDropN t
theorem dpAppN : ∀ {us us' : List V} {ds ds' : List PyData}, DpAll K H us ds → DpAll K H us' ds' → DpAll K H (us ++ us') (ds ++ ds')
  | _, _, _, _, .nil, h => h
  | _, _, _, _, .cons h t, h' => .cons h (dpAppN t h')
def sp__law_draw (K : PySem.W.Frag) : Sp := A2 fun v1 v2 H Q => ∃ (b : Addr) (t : Int), v1 = .ref b ∧ v2 = .int t ∧ Bag b H ∧ 0 < t ∧ Sz 9000 t ∧ ∀ n H2, 0 ≤ n → n < t → Ex (hid b H) (hid b H2) → Bag b H2 → Q (.int n) H2
abbrev s__law_draw : Stmt := top 29
theorem sc__law_draw : FnScope ["_law_bag_here", "_law_total", "_law_found", "_law_one", "_law_two"] ["_law_bag_here", "_law_total"] (defScope s__law_draw) := ⟨rfl, rfl, rfl, by decide +kernel, rfl, by decide +kernel, by decide +kernel⟩
theorem ok__law_draw {f : Addr} {fd : FuncData} (F : FnP K "_law_draw" s__law_draw f fd) (g : G mg)   : FnOk P w K mg base CX0 1 f fd ["_law_bag_here", "_law_total"] (sp__law_draw K) := by
  have nd := sc__law_draw.nd
  refine F.ok sc__law_draw (fun vs H Q E h => h.len) (fun cdv A outer s H vs Q E hr h => ?_)
  obtain ⟨v1, v2, rfl, h⟩ := h
  refine ⟨_, PSs.nox (pss_cons (ps_if (pt_cmpR op_gt (pe_ix ix_list (pv 0) pe_int (fun _ _ => rfl)) pe_int (nomark _)) (pss_cons (ps_set (i := 2) nd rfl (Or.inl rfl) (pe_op op_modN (pe_callTy call_qint1 (by rfl) g.f_int boot_int (pa_cons (pe_ix ix_list (pv 0) pe_int (fun _ _ => rfl)) pa_nil)) (pv 1))) (pss_cons (ps_asg (pe_op op_fdivX (pe_ix ix_list (pv 0) pe_int (fun _ _ => rfl)) (pv 1)) (pg_sub (pv 0) pe_int set_list)) (pss_one (ps_ret (pv 2))))) pss_nil) (pss_cons (ps_asg (pe_op op_add (pe_ix ix_list (pv 0) pe_int (fun _ _ => rfl)) pe_int) (pg_sub (pv 0) pe_int set_list)) (pss_cons (ps_set (i := 3) nd rfl (Or.inl rfl) (pe_op op_modN (pe_callTy call_qint1 (by rfl) g.f_int boot_int (pa_cons (pe_op op_add (pe_ix ix_list (pv 0) pe_int (fun _ _ => rfl)) (pe_op op_mul pe_int (pe_ix ix_list (pv 0) pe_int (fun _ _ => rfl)))) pa_nil)) pe_int)) (pss_cons (ps_set (i := 4) nd rfl (Or.inl rfl) (pe_op op_add (pe_op op_mulX (pe_op op_modN (pe_callTy call_qint1 (by rfl) g.f_int boot_int (pa_cons (pe_op op_mulX (pv 3) (pv 3)) pa_nil)) pe_int) (pv 3)) (pe_op op_mul pe_int (pe_ix ix_list (pv 0) pe_int (fun _ _ => rfl))))) (pss_one (ps_ret (pe_op op_modN (pe_callTy call_qint1 (by rfl) g.f_int boot_int (pa_cons (pe_op op_fdivX (pe_op op_modN (pe_callTy call_qint1 (by rfl) g.f_int boot_int (pa_cons (pv 4) pa_nil)) pe_int) pe_int) pa_nil)) (pv 1)))))))), ?_⟩
  obtain ⟨b, t, rfl, rfl, hb, ht, st, q⟩ := h
  obtain ⟨x, y, z, hb1, hx, sx⟩ := hb.ex
  have nt : t ≠ 0 := by omega
  wtm_at "go0"
  · dsimp only
    rename_i H2 sh se
    refine q _ _ (Int.fmod_nonneg_of_pos _ ht) (Int.fmod_lt_of_pos _ ht) (by wtm_at "ex") ⟨_, _, _, sh, ?_, sz_fdiv sx⟩
    rw [Int.fdiv_eq_ediv_of_nonneg _ (by omega)]
    exact Int.ediv_nonneg hx (by omega)
  · dsimp only
    rename_i H2 sh se
    exact q _ _ (Int.fmod_nonneg_of_pos _ ht) (Int.fmod_lt_of_pos _ ht) (by wtm_at "ex") ⟨_, _, _, sh, hx, sx⟩
theorem use__law_draw {b : Addr} {t : Int} (hb : Bag b H) (ht : 0 < t) (st : Sz 9000 t) (q : ∀ n H2, 0 ≤ n → n < t → Ex (hid b H) (hid b H2) → Bag b H2 → Q (.int n) H2) : sp__law_draw K [.ref b, .int t] H Q E := ⟨_, _, rfl, _, _, rfl, rfl, hb, ht, st, q⟩
def sp__law_bag (K : PySem.W.Frag) : Sp := A2 fun v1 v2 H Q => ∃ (a : Addr) (ns : List Int) (k : Int), v1 = .ref a ∧ v2 = .int k ∧ SqL K H a (ns.map V.int) ∧ 0 ≤ k ∧ k < 100 ∧ ∀ b H2, H b = none → Ex H H2 → Bag b H2 → Q (.ref b) H2
theorem great_pos : (0 : Int) < ((10 : Int) ^ (47 : Int).toNat) ^ (13 : Int).toNat := by decide +kernel
theorem great_sz : Sz 2100 (((10 : Int) ^ (47 : Int).toNat) ^ (13 : Int).toNat) := by
  unfold Sz
  decide +kernel
theorem bag_x {g m : Int} (hm : 0 < m) (sm : Sz 2100 m) (c : Int) : 0 ≤ (if g.fmod m - c > 0 then g.fmod m - c else 0) ∧ (0 ≤ c → Sz 2100 (if g.fmod m - c > 0 then g.fmod m - c else 0)) := by
  have h0 := Int.fmod_nonneg_of_pos g hm
  have h1 := Int.fmod_lt_of_pos g hm
  refine ⟨by split <;> omega, fun hc => sz_le sm ?_⟩
  split <;> omega
theorem atI_ok {ns : List Int} {k : Int} (h0 : 0 ≤ k) (h : k < ((ns.map V.int).length : Int)) : ∃ c, atI (ns.map V.int) k = some (.int c) := by
  rw [List.length_map] at h
  obtain ⟨j, rfl⟩ : ∃ j : Nat, k = j := ⟨k.toNat, by omega⟩
  have hk : j < ns.length := by omega
  exact ⟨ns[j], atI_nat (by
    rw [List.getElem?_map, List.getElem?_eq_getElem hk]
    rfl)⟩
theorem cut_ints (ns : List Int) (lo hi : Option Int) : ∃ ms : List Int, cutV (ns.map V.int) lo hi = ms.map V.int := by
  unfold cutV
  exact ⟨_, by rw [← List.map_drop, ← List.map_take]⟩
theorem atD {ds : List PyData} {k : Int} (h0 : 0 ≤ k) (h : k < (ds.length : Int)) : ∃ d, d ∈ ds ∧ atI ds k = some d := by
  obtain ⟨j, rfl⟩ : ∃ j : Nat, k = j := ⟨k.toNat, by omega⟩
  have hk : j < ds.length := by omega
  refine ⟨ds[j], List.getElem_mem hk, ?_⟩
  exact atI_nat (List.getElem?_eq_getElem hk)
theorem i_ixLh {b : Addr} {v : V} {ds : List PyData} {k : Int} {d : PyData} (h : Dp K (hid b H) v (.list ds)) (e : atI ds k = some d) (q : ∀ u, Dp K (hid b H) u d → Q u H) : rIxL K v (.int k) H Q := by
  obtain ⟨a, vs, rfl, hs, ha⟩ := dpLst h
  obtain ⟨u, e1, e2⟩ := dpAt ha e
  exact ⟨a, vs, k, _, rfl, rfl, Evl.ex_l ex_hid hs, e1, q u e2⟩
abbrev s__law_bag : Stmt := top 28
theorem sc__law_bag : FnScope ["_law_script", "_law_at", "_law_cell", "_law_great", "_law_mixed"] ["_law_script", "_law_at"] (defScope s__law_bag) := ⟨rfl, rfl, rfl, by decide +kernel, rfl, by decide +kernel, by decide +kernel⟩
theorem ok__law_bag {f : Addr} {fd : FuncData} (F : FnP K "_law_bag" s__law_bag f fd) (g : G mg)   : FnOk P w K mg base CX0 1 f fd ["_law_script", "_law_at"] (sp__law_bag K) := by
  have nd := sc__law_bag.nd
  refine F.ok sc__law_bag (fun vs H Q E h => h.len) (fun cdv A outer s H vs Q E hr h => ?_)
  obtain ⟨v1, v2, rfl, h⟩ := h
  refine ⟨_, PSs.nox (pss_cons (ps_set (i := 2) nd rfl (Or.inl rfl) (pe_ifExp (pt_cmpR op_lt (pv 1) (pe_callB call_qlen (by rfl) g.f_len boot_len (pa_cons (pv 0) pa_nil)) (nomark _)) (pe_ix ix_list (pv 0) (pv 1) (fun _ _ => rfl)) (pe_op op_add (pe_op op_add (pe_callB (cr_sum rfl) (by rfl) g.f_sum boot_sum (pa_cons (pe_slice sl_list (pv 0) po_none (po_some pe_int)) pa_nil)) (pe_op op_mul pe_int (pv 1))) pe_int))) (pss_cons (ps_set (i := 3) nd rfl (Or.inl rfl) (pe_op op_modN (pe_callTy call_qint1 (by rfl) g.f_int boot_int (pa_cons (pe_callB call_qabs (by rfl) g.f_abs boot_abs (pa_cons (pv 2) pa_nil)) pa_nil)) (pe_op op_powX (pe_op op_powX pe_int pe_int) pe_int))) (pss_cons (ps_set (i := 4) nd rfl (Or.inl rfl) (pe_op op_add (pe_op op_add (pe_op op_add (pe_op op_mul (pe_op op_modN (pe_callTy call_qint1 (by rfl) g.f_int boot_int (pa_cons (pv 3) pa_nil)) pe_int) pe_int) (pe_op op_mul pe_int (pv 1))) (pe_op op_mul pe_int (pe_callTy call_qint1 (by rfl) g.f_int boot_int (pa_cons (pe_cmpR op_lt (pv 2) pe_int (nomark _)) pa_nil)))) pe_int)) (pss_one (ps_ret (pe_lst (pa_cons (pe_callB (call_qmax2 rfl) (by rfl) g.f_max boot_max (pa_cons pe_int (pa_cons (pe_op op_sub (pv 3) (pe_op op_powX pe_int pe_int)) pa_nil))) (pa_cons (pe_op op_modN (pe_callTy call_qint1 (by rfl) g.f_int boot_int (pa_cons (pv 4) pa_nil)) pe_int) (pa_cons pe_int pa_nil))))))))), ?_⟩
  obtain ⟨a, ns, k, rfl, rfl, hS, hk, hk2, q⟩ := h
  have hg := great_pos
  have hgn : ((10 : Int) ^ (47 : Int).toNat) ^ (13 : Int).toNat ≠ 0 := by omega
  wtm_at "go0"
  refine i_qlenS hS ?_
  wtm_at "go"
  · rename_i hlt
    obtain ⟨c, hc⟩ := atI_ok hk hlt
    refine i_ixLs hS hc ?_
    wtm_at "go"
    dsimp only
    rename_i b H2 hn he hb
    exact q b H2 hn (by wtm_at "ex") ⟨_, _, _, hb, (bag_x hg great_sz _).1, (bag_x hg great_sz _).2 (by decide)⟩
  · refine i_slL hS (fun p H2 hp e2 h2 => ?_)
    obtain ⟨ms, hms⟩ := cut_ints ns none (some 1)
    rw [hms] at h2
    wtm_at "go"
    refine i_sum (Evl.sq_of h2) ?_
    wtm_at "go"
    dsimp only
    rename_i b H2 hn he hb
    exact q b H2 (Evl.fresh_back e2 hn) (by wtm_at "ex") ⟨_, _, _, hb, (bag_x hg great_sz _).1, (bag_x hg great_sz _).2 (by decide)⟩
theorem use__law_bag {a : Addr} {ns : List Int} {k : Int} (hS : SqL K H a (ns.map V.int)) (h0 : 0 ≤ k) (h1 : k < 100) (q : ∀ b H2, H b = none → Ex H H2 → Bag b H2 → Q (.ref b) H2) : sp__law_bag K [.ref a, .int k] H Q E := ⟨_, _, rfl, _, _, _, rfl, rfl, hS, h0, h1, q⟩
def sp__law_one_of (K : PySem.W.Frag) : Sp := A2 fun v1 v2 H Q => ∃ (b : Addr) (ds : List PyData), v1 = .ref b ∧ Bag b H ∧ Dp K (hid b H) v2 (.list ds) ∧ 0 < ds.length ∧ ds.length ≤ 1000 ∧ ∀ d v H2, d ∈ ds → Ex (hid b H) (hid b H2) → Bag b H2 → Dp K (hid b H2) v d → Q v H2
local macro_rules | `(tactic| wtm_at "use") => `(tactic| ((with_reducible refine' use__law_draw ?u0 ?u1 ?u2 (fun dn dH dn0 dn1 de db => ?uq)); (case u0 => wtm_at "bag"); (case u1 => wtm_at "pos"); (case u2 => wtm_at "szb")))
local macro_rules | `(tactic| wtm_at "pos") => `(tactic| first | assumption | decide | omega)
abbrev s__law_one_of : Stmt := top 30
theorem sc__law_one_of : FnScope ["_law_bag_here", "_law_items"] ["_law_bag_here", "_law_items"] (defScope s__law_one_of) := ⟨rfl, rfl, rfl, by decide +kernel, rfl, by decide +kernel, by decide +kernel⟩
theorem ok__law_one_of {f : Addr} {fd : FuncData} (F : FnP K "_law_one_of" s__law_one_of f fd) (g : G mg) (c__law_draw : Cl P w K mg base 1 "_law_draw" (sp__law_draw K))  : FnOk P w K mg base CX0 2 f fd ["_law_bag_here", "_law_items"] (sp__law_one_of K) := by
  have nd := sc__law_one_of.nd
  refine F.ok sc__law_one_of (fun vs H Q E h => h.len) (fun cdv A outer s H vs Q E hr h => ?_)
  obtain ⟨v1, v2, rfl, h⟩ := h
  refine ⟨_, PSs.nox (pss_one (ps_ret (pe_ix ix_list (pv 1) (pc c__law_draw hr (by decide) (by rfl) (pa_cons (pv 0) (pa_cons (pe_callB call_qlen (by rfl) g.f_len boot_len (pa_cons (pv 1) pa_nil)) pa_nil))) (fun _ _ => rfl)))), ?_⟩
  obtain ⟨b, ds, rfl, hb, hd, h0, h1, q⟩ := h
  have hl : Sz 9000 (ds.length : Int) := sz_mono (sz_lit (by omega)) (by decide)
  wtm_at "go0"
  dsimp only
  rename_i n H2 n0 n1 de db
  obtain ⟨d, hm, hat⟩ := atD n0 n1
  exact i_ixLh (b := b) (dpMono de hd) hat fun u hu => q d u H2 hm de db hu
theorem use__law_one_of {b : Addr} {ds : List PyData} (hb : Bag b H) (hd : Dp K (hid b H) v2 (.list ds)) (h0 : 0 < ds.length) (h1 : ds.length ≤ 1000) (q : ∀ d v H2, d ∈ ds → Ex (hid b H) (hid b H2) → Bag b H2 → Dp K (hid b H2) v d → Q v H2) : sp__law_one_of K [.ref b, v2] H Q E := ⟨_, _, rfl, _, _, rfl, hb, hd, h0, h1, q⟩
local macro_rules | `(tactic| wtm_at "oneof") => `(tactic| ((with_reducible refine' use__law_one_of ?u0 ?u1 ?u2 ?u3 ?uq); (case u0 => wtm_at "bag"); (case u1 => wtm_at "dp"); (case u2 => exact Nat.le_of_ble_eq_true rfl); (case u3 => exact Nat.le_of_ble_eq_true rfl)))
def rPopA : V → List V → Hp → VK → Prop := fun x vs H Q => ∃ (l : Addr) (xs : List V) (i : Int) (k : Nat) (y : V), x = .ref l ∧ vs = [.int i] ∧ H l = some (.lst xs) ∧ -(2 ^ 63) ≤ i ∧ i < 2 ^ 63 ∧ seqIndex? i xs.length = some k ∧ xs[k]? = some y ∧ Q y (upd H l (.lst (xs.eraseIdx k)))
theorem mt_popA {X : Cx} : MtM X "list.pop" rPopA := mt_popAt
theorem pe_bmK {X : Cx} {K : PySem.W.Frag} {T : String} {name : Str} {id : String} {r : V → List V → Hp → VK → Prop} {o : Expr} {to : TE} {e : Expr} {es : List Expr} {t : TA} {apos cpos : Pos} (pa : PlainAttrs T) (slot : Slot T name id) (hty : typeOf (.builtin id) = pure (.type "method_descriptor")) (hm : MtM X id r) (ho : PE X o to) (ha : PA X (e :: es) t)
    (hbase : attributeBase o name X.env (eval o X.env) = eval o X.env := by rfl)
    (hfew : ((backTo cpos (starEach (e :: es) X.env)).all (fun x => !x.1) && (backToKw cpos (keywordEach [] X.env)).all (fun x => x.1.isSome)
      && decide ((e :: es).length + ([] : List Keyword).length + (if ([] : List Keyword).isEmpty then 0 else 1) < 30)) = true := by rfl)
    (hline : (apos.endLine == cpos.line) = true := by rfl) (hs : starEach (e :: es) X.env = (false, eval e X.env) :: starEach es X.env := by rfl) (hplain : (backTo cpos (starEach es X.env)).any (·.1) = false := by rfl) (hK : X.K = K := by rfl) :
    PE X (.Call (.Attribute o name apos) (e :: es) [] cpos) (tBM K T r to t) := by
  subst hK
  exact pe_bm pa slot hty hm ho ha hbase hfew hline hs hplain
local macro_rules | `(tactic| wtm_at "st2") => `(tactic| (first | ((with_reducible refine' i_qlenS ?u0 ?uq); (case u0 => with_reducible assumption)) | fail))
local macro_rules | `(tactic| wtm_at "st2") => `(tactic| (with_reducible refine' i_bm ?uq))
local macro_rules | `(tactic| wtm_at "st2") => `(tactic| (first | ((with_reducible refine' i_tyL ?u0 ?uq); (case u0 => with_reducible assumption)) | fail))
def sp__law_shuffled (K : PySem.W.Frag) : Sp := A2 fun v1 v2 H Q => ∃ (b : Addr) (ds : List PyData), v1 = .ref b ∧ Bag b H ∧ Dp K (hid b H) v2 (.list ds) ∧ ds.length ≤ 60 ∧ ∀ (es : List PyData) (a : Addr) (us : List V) H2, es.Perm ds → Ex (hid b H) (hid b H2) → Bag b H2 → hid b H2 a = some (.lst us) → DpAll K (hid b H2) us es → Q (.ref a) H2
theorem seqNat {k n : Nat} (h : k < n) : seqIndex? (k : Int) n = some k := by
  unfold seqIndex?
  have h1 : ¬ ((k : Int) < 0) := by omega
  simp only [h1, if_false]
  have h2 : (decide (0 ≤ (k : Int)) && decide ((k : Int) < (n : Int))) = true := by
    rw [decide_eq_true (by omega), decide_eq_true (by omega)]
    rfl
  rw [h2]
  rfl
theorem dpErase {G : Hp} {us : List V} {ds : List PyData} (k : Nat) (h : DpAll K G us ds) : DpAll K G (us.eraseIdx k) (ds.eraseIdx k) := by
  rw [List.eraseIdx_eq_take_drop_succ, List.eraseIdx_eq_take_drop_succ]
  exact dpAppN (dpTakeN h) (dpDropN h)
theorem perm_erase {l : List PyData} {k : Nat} (h : k < l.length) : ([l[k]] ++ l.eraseIdx k).Perm l := by
  rw [List.eraseIdx_eq_take_drop_succ]
  have e : l = l.take k ++ l[k] :: l.drop (k + 1) := by
    rw [List.getElem_cons_drop, List.take_append_drop]
  have h2 := (List.perm_middle (a := l[k]) (l₁ := l.take k) (l₂ := l.drop (k + 1))).symm
  rw [← e] at h2
  exact h2
def shW (K : PySem.W.Frag) (b wa D : Addr) (ds : List PyData) (H : Hp) : Nat → Hp → Prop := fun i H' => ∃ (ws acc : List V) (rest es : List PyData), H' wa = some (.lst ws) ∧ H' D = some (.lst acc) ∧ DpAll K (hid b H) ws rest ∧ DpAll K (hid b H) acc es ∧ (es ++ rest).Perm ds ∧ es.length = i ∧ Ex (hid b H) (hid b H') ∧ Bag b H'
abbrev s__law_shuffled : Stmt := top 31
theorem sc__law_shuffled : FnScope ["_law_bag_here", "_law_items", "_law_waits", "_law_turn"] ["_law_bag_here", "_law_items"] (defScope s__law_shuffled) := ⟨rfl, rfl, rfl, by decide +kernel, rfl, by decide +kernel, by decide +kernel⟩
theorem ok__law_shuffled {f : Addr} {fd : FuncData} (F : FnP K "_law_shuffled" s__law_shuffled f fd) (g : G mg) (c__law_draw : Cl P w K mg base 1 "_law_draw" (sp__law_draw K))  : FnOk P w K mg base CX0 2 f fd ["_law_bag_here", "_law_items"] (sp__law_shuffled K) := by
  have nd := sc__law_shuffled.nd
  refine F.ok sc__law_shuffled (fun vs H Q E h => h.len) (fun cdv A outer s H vs Q E hr h => ?_)
  obtain ⟨v1, v2, rfl, h⟩ := h
  refine ⟨_, PSs.nox (pss_cons (ps_set (i := 2) nd rfl (Or.inr rfl) (pe_callTy call_qlist (by rfl) g.f_list boot_list (pa_cons (pv 1) pa_nil))) (pss_one (ps_ret (pe_lc (own := [("_law_turn", 3)]) (g := gName 3) (by rfl) nd (pi_range1 (by rfl) g.f_range (pa_cons (pe_callB call_qlen (by rfl) g.f_len boot_len (pa_cons (pv 1) pa_nil)) pa_nil)) (blkOk_by (N := ["_law_bag_here", "_law_items", "_law_waits", "_law_turn"]) (sc := defScope s__law_shuffled) (own := [("_law_turn", 3)]) (by decide +kernel)) (fun _ _ _ _ _ => (pg_name (i := 3) nd rfl (Or.inl rfl))) (fun _ _ _ _ _ => pts_nil) (fun _ _ _ _ _ => (pe_bmK (K := K) PySem.F.plainAttrs_list PySem.F.slot_list_pop PySem.F.type_list_pop mt_popA (pv 2) (pa_cons (pc c__law_draw hr (by decide) (by rfl) (pa_cons (pv 0) (pa_cons (pe_callB (show CallR _ _ (qLen K) from call_qlen) (by rfl) g.f_len boot_len (pa_cons (pv 2) pa_nil)) pa_nil))) pa_nil))))))), ?_⟩
  obtain ⟨b, ds, rfl, hb, hd, hl, q⟩ := h
  obtain ⟨a, us, rfl, hs, ha⟩ := dpLst hd
  wtm_at "gob0"
  refine ⟨a, us, rfl, .inl (Evl.ex_l ex_hid hs), fun wa wn => ?_⟩
  have e1 : Ex H (upd H wa (.lst us)) := Ex.new wn
  have e1' := e1
  have hd1 : Dp K (upd H wa (.lst us)) (.ref a) (.list ds) := dpMono (ex_hid.trans e1) hd
  have hwb : wa ≠ b := hb.ne wn
  have b1 : Bag b (upd H wa (.lst us)) := hb.mono e1
  have hw1 : upd H wa (.lst us) wa = some (.lst us) := upd_same
  have ex1 : Ex (hid b H) (hid b (upd H wa (.lst us))) := hid_ex e1
  generalize upd H wa (.lst us) = H1 at *
  wtm_at "gob"
  refine i_lcRU ?_
  wtm_at "gob"
  refine ⟨_, rfl, by omega, by omega, fun D hD => lc_range (lo := 0) (n := ((ds.length : Int)).toNat) (shW K b wa D ds H) ?_ (fun i H' hi p => ?_) (fun H' p => ?_)⟩
  · have hDb : D ≠ b := b1.ne hD
    have hDw : D ≠ wa := fun z => by rw [z, hw1] at hD; cases hD
    exact ⟨us, [], ds, [], by rw [upd_ne (Ne.symm hDw)]; exact hw1, upd_same, ha, .nil, List.Perm.refl _, rfl, ex_hidD (Evl.fresh_back e1 hD) ex1, bag_upd hDb b1⟩
  · obtain ⟨ws, acc, rest, es, p1, p2, p3, p4, p5, p6, p7, p8⟩ := p
    have hDb : D ≠ b := b1.ne hD
    have hDw : D ≠ wa := fun z => by rw [z, hw1] at hD; cases hD
    have hlw : ws.length = rest.length := dpLen p3
    have hla : acc.length = es.length := dpLen p4
    have hlt : es.length + rest.length = ds.length := by rw [← p5.length_eq, List.length_append]
    have hsq : SqL K H' wa ws := Evl.sq_of p1
    have hpos : 0 < (rest.length : Int) := by omega
    have hsz : Sz 9000 (rest.length : Int) := sz_mono (sz_lit (by omega)) (by decide)
    refine ⟨rfl, i_yes (i_iteT ?_)⟩
    wtm_at "nrm"
    clear hd1 e1 ex1 b1
    wtm_at "gob"
    rename_i dn G dn0 dn1 de db
    obtain ⟨k, rfl⟩ : ∃ k : Nat, dn = k := ⟨dn.toNat, by omega⟩
    have hk : k < ws.length := by omega
    have hkr : k < rest.length := by omega
    have g1 : G wa = some (.lst ws) := (of_hid (de _ _ (hid_of p1 hwb))).2
    have g2 : G D = some (.lst acc) := (of_hid (de _ _ (hid_of p2 hDb))).2
    obtain ⟨y, hy, hyd⟩ := dpGet p3 (i := k) (List.getElem?_eq_getElem hkr)
    refine ⟨wa, ws, k, k, y, rfl, rfl, g1, by omega, by omega, seqNat hk, hy, acc, by rw [upd_ne hDw]; exact g2, Evl.sz_lt (by omega), ws.eraseIdx k, acc ++ [y], rest.eraseIdx k, es ++ [rest[k]], ?_, upd_same, dpErase k p3, dpAppN p4 (.cons hyd .nil), ?_, by simp [p6], ?_, bag_upd hDb (bag_upd hwb db)⟩
    · rw [upd_ne (Ne.symm hDw)]
      exact upd_same
    · rw [List.append_assoc]
      exact ((perm_erase hkr).append_left es).trans p5
    · exact ex_hidD (Evl.fresh_back e1' hD) (ex_hidD wn (p7.trans de))
  · obtain ⟨ws, acc, rest, es, p1, p2, p3, p4, p5, p6, p7, p8⟩ := p
    have hDb : D ≠ b := b1.ne hD
    have hlt : es.length + rest.length = ds.length := by rw [← p5.length_eq, List.length_append]
    have hr0 : rest = [] := List.eq_nil_of_length_eq_zero (by omega)
    subst hr0
    rw [List.append_nil] at p5
    dsimp only
    exact q es D acc _ p5 p7 p8 (hid_of p2 hDb) (dpMonoA p7 p4)
theorem use__law_shuffled {b : Addr} {ds : List PyData} {v2 : V} (hb : Bag b H) (hd : Dp K (hid b H) v2 (.list ds)) (hl : ds.length ≤ 60) (q : ∀ (es : List PyData) (a : Addr) (us : List V) H2, es.Perm ds → Ex (hid b H) (hid b H2) → Bag b H2 → hid b H2 a = some (.lst us) → DpAll K (hid b H2) us es → Q (.ref a) H2) : sp__law_shuffled K [.ref b, v2] H Q E := ⟨_, _, rfl, _, _, rfl, hb, hd, hl, q⟩
end
end Wb

namespace Wb
open PySem PySem.Spec PyProof.Rows L2
open Evl (Ex Ex.refl Ex.trans Ex.new)
local macro_rules | `(tactic| wtm_at "dp") => `(tactic| first | with_reducible assumption | with_reducible exact Dp.int _ | with_reducible exact Dp.bl _ | with_reducible exact Dp.str _ | with_reducible exact Dp.non | ((with_reducible refine' dpMono ?dme (by with_reducible assumption)); (case dme => wtm_at "ex")) | ((with_reducible refine' Dp.tup (Evl.st_of ?dph) ?dpa); (case dph => wtm_at "hs"); (case dpa => wtm_at "dpa")) | ((with_reducible refine' Dp.lst (Evl.sq_of ?dph) ?dpa); (case dph => wtm_at "hs"); (case dpa => wtm_at "dpa")))
local macro_rules | `(tactic| wtm_at "dpa") => `(tactic| first | with_reducible exact DpAll.nil | ((with_reducible refine' DpAll.cons ?dp1 ?dp2); (case dp1 => wtm_at "dp"); (case dp2 => wtm_at "dpa")) | with_reducible assumption | ((with_reducible refine' dpMonoA ?dme (by with_reducible assumption)); (case dme => wtm_at "ex")))
local macro_rules | `(tactic| wtm_at "sz") => `(tactic| first | with_reducible assumption | ((with_reducible refine' sz_mul ?sz1 ?sz2); (case sz1 => wtm_at "sz"); (case sz2 => wtm_at "sz")) | ((with_reducible refine' sz_add ?sz1 ?sz2); (case sz1 => wtm_at "sz"); (case sz2 => wtm_at "sz")) | ((with_reducible refine' sz_sub ?sz1 ?sz2); (case sz1 => wtm_at "sz"); (case sz2 => wtm_at "sz")) | ((with_reducible refine' sz_neg ?sz1); (case sz1 => wtm_at "sz")) | ((with_reducible refine' sz_div ?sz1); (case sz1 => wtm_at "sz")) | ((with_reducible refine' sz_fdiv ?sz1); (case sz1 => wtm_at "sz")) | exact sz_lit (by decide) | wtm_at "sz2")
local macro_rules | `(tactic| wtm_at "szb") => `(tactic| first | with_reducible assumption | ((with_reducible refine' sz_mono ?szb1 ?szb2); (case szb1 => wtm_at "sz"); (case szb2 => decide)))
local macro_rules | `(tactic| wtm_at "nz") => `(tactic| first | assumption | decide | omega)
local macro_rules | `(tactic| wtm_at "shaped") => `(tactic| first | rfl | decide)
local macro_rules | `(tactic| wtm_at "sset") => `(tactic| ((dsimp only [L2.wipe, List.set, List.set_cons_zero, List.set_cons_succ]) <;> exact rfl))
local macro_rules | `(tactic| wtm_at "nrm") => `(tactic| dsimp only [L2.start, L2.wipe, List.set, List.append, List.map, List.map_cons, List.map_nil, List.length_cons, List.length_nil, Nat.reduceAdd, Nat.reduceSub, List.reduceReplicate, List.replicate, List.cons_append, List.nil_append, List.set_cons_zero, List.set_cons_succ])
local macro_rules | `(tactic| wtm_at "st") => `(tactic| first
  | ((with_reducible refine' i_var (v := ?u0) ?u1 ?uq); (case u1 => exact rfl))
  | ((with_reducible refine' i_nameN ?u0 ?uq); (case u0 => wtm_at "sset"))
  | (with_reducible refine' i_op ?uq)
  | (with_reducible refine' i_c ?uq)
  | (with_reducible refine' i_I0 ?uq)
  | ((with_reducible refine' i_ixTI (i := ?u0) ?u1 ?u2 ?u3 ?uq); (case u1 => wtm_at "dp"); (case u2 => wtm_at "ex"); (case u3 => exact rfl))
  | ((with_reducible refine' i_ixT (d := ?u0) ?u1 ?u2 ?u3 (fun xu hxu => ?uq)); (case u1 => wtm_at "dp"); (case u2 => wtm_at "ex"); (case u3 => exact rfl))
  | ((with_reducible refine' i_mul ?u0 ?u1 ?u2 ?uq); (case u0 => wtm_at "sz"); (case u1 => wtm_at "sz"); (case u2 => first | decide | omega))
  | (with_reducible refine' i_seq ?uq)
  | (with_reducible refine' i_asg ?uq)
  | (with_reducible refine' i_ret ?uq)
  | (with_reducible refine' i_ifs ?uq)
  | (with_reducible refine' i_drop ?uq)
  | (with_reducible refine' i_next ?uq)
  | (with_reducible refine' i_cons ?uq)
  | (with_reducible refine' i_nil ?uq)
  | (with_reducible refine' i_cl ?uq)
  | (with_reducible refine' i_cb ?uq)
  | (with_reducible refine' i_tup ?uq)
  | (with_reducible refine' i_lst ?uq)
  | ((with_reducible refine' i_mkT ?u0 (fun np nH nhe nhp => ?uq)); (case u0 => exact Nat.le_of_ble_eq_true rfl))
  | (with_reducible refine' i_test ?uq)
  | (with_reducible refine' i_B ?uq)
  | (with_reducible refine' i_k ?uq)
  | (with_reducible refine' i_and ?uq)
  | (with_reducible refine' i_or ?uq)
  | (with_reducible refine' i_not ?uq)
  | (with_reducible refine' i_andV ?uq)
  | (with_reducible refine' i_orV ?uq)
  | (with_reducible refine' i_notV ?uq)
  | (with_reducible refine' i_if ?uq)
  | (with_reducible refine' i_un ?uq)
  | (with_reducible refine' i_U ?uq)
  | (with_reducible refine' i_iteT ?uq)
  | (with_reducible refine' i_iteF ?uq)
  | ((with_reducible refine' i_iteTr ?u0 ?uq); (case u0 => first | with_reducible rfl | decide | (simp only [dIsInt, dIsBool, dIsTup, dIsStr, dIsLst, Bool.not_true, Bool.not_false]; done)))
  | ((with_reducible refine' i_iteFr ?u0 ?uq); (case u0 => first | with_reducible rfl | decide | (simp only [dIsInt, dIsBool, dIsTup, dIsStr, dIsLst, Bool.not_true, Bool.not_false]; done)))
  | (with_reducible refine' i_ite (fun hif => ?uqa) (fun hif => ?uqb))
  | (with_reducible refine' i_iteN (fun hif => ?uqa) (fun hif => ?uqb))
  | (with_reducible refine' i_iteBN (fun hif => ?uqa) (fun hif => ?uqb))
  | (with_reducible refine' i_iteB (fun hif => ?uqa) (fun hif => ?uqb))
  | ((with_reducible refine' i_modN ?u0 ?uq); (case u0 => wtm_at "nz"))
  | ((with_reducible refine' i_fdX ?u0 ?u1 ?u2 ?uq); (case u0 => wtm_at "nz"); (case u1 => wtm_at "sz"); (case u2 => first | decide | omega))
  | ((with_reducible refine' i_pow ?u0 ?uq); (case u0 => exact ⟨by decide, by decide +kernel⟩))
  | (with_reducible refine' i_eqI ?uq)
  | (with_reducible refine' i_neI ?uq)
  | (with_reducible refine' i_gcd ?uq)
  | (with_reducible refine' i_qabs ?uq)
  | (with_reducible refine' i_qint ?uq)
  | (with_reducible refine' i_qintB ?uq)
  | (with_reducible refine' i_qmax2 ?uq)
  | (with_reducible refine' i_qmin2 ?uq)
  | (with_reducible refine' i_isB ?uq)
  | (with_reducible refine' i_notB ?uq)
  | (with_reducible refine' i_chain ?uq)
  | (with_reducible refine' i_qisN ?uq)
  | (with_reducible refine' i_qnotN ?uq)
  | (with_reducible refine' i_yes ?uq)
  | (with_reducible refine' i_par ?uq)
  | (with_reducible refine' i_par3 ?uq)
  | ((with_reducible refine' i_par2 ?u0 ?uq); (case u0 => wtm_at "sset"))
  | ((with_reducible refine' i_par33 ?u0 ?uq); (case u0 => wtm_at "sset"))
  | ((with_reducible refine' i_ixLI (i := ?u0) ?u1 ?u2 ?u3 ?uq); (case u1 => wtm_at "dp"); (case u2 => wtm_at "ex"); (case u3 => exact rfl))
  | ((with_reducible refine' i_ixL (d := ?u0) ?u1 ?u2 ?u3 (fun xu hxu => ?uq)); (case u1 => wtm_at "dp"); (case u2 => wtm_at "ex"); (case u3 => exact rfl))
  | ((with_reducible refine' i_qlenT ?u0 ?uq); (case u0 => wtm_at "dp"))
  | ((with_reducible refine' i_qlenL ?u0 ?uq); (case u0 => wtm_at "dp"))
  | ((with_reducible refine' i_gtup ?u0 ?u1 ?u2 (fun gvs gdp => ?uq)); (case u0 => wtm_at "dp"); (case u1 => wtm_at "ex"); (case u2 => exact rfl))
  | ((with_reducible refine' i_glst ?u0 ?u1 ?u2 (fun gvs gdp => ?uq)); (case u0 => wtm_at "dp"); (case u1 => wtm_at "ex"); (case u2 => exact rfl))
  | ((with_reducible refine' i_gconsI ?u0 (fun gr gh => ?uq)); (case u0 => with_reducible assumption))
  | ((with_reducible refine' i_gconsA ?u0 (fun gv gr gh1 gh2 => ?uq)); (case u0 => with_reducible assumption))
  | ((with_reducible refine' i_gnilA ?u0 ?uq); (case u0 => with_reducible assumption))
  | ((with_reducible refine' i_isiI ?u0 ?uq); (case u0 => wtm_at "dp"))
  | ((with_reducible refine' i_isiB ?u0 ?uq); (case u0 => wtm_at "dp"))
  | ((with_reducible refine' i_isiT ?u0 ?uq); (case u0 => wtm_at "dp"))
  | ((with_reducible refine' i_isiS ?u0 ?uq); (case u0 => wtm_at "dp"))
  | ((with_reducible refine' i_isiL ?u0 ?uq); (case u0 => wtm_at "dp"))
  | ((with_reducible refine' i_eqD ?u0 ?u1 ?u2 ?u3 ?uq); (case u0 => wtm_at "dp"); (case u1 => wtm_at "dp"); (case u2 => wtm_at "shaped"); (case u3 => wtm_at "shaped"))
  | ((with_reducible refine' i_neD ?u0 ?u1 ?u2 ?u3 ?uq); (case u0 => wtm_at "dp"); (case u1 => wtm_at "dp"); (case u2 => wtm_at "shaped"); (case u3 => wtm_at "shaped"))
  | wtm_at "st2"
  | wtm_at "use")
local macro_rules | `(tactic| wtm_at "go") => `(tactic| repeat' (wtm_at "st"))
local macro_rules | `(tactic| wtm_at "go0") => `(tactic| ((try dsimp only [L2.cxOf, L2.Cx.nox, L2.Cx.wish, L2.Cx.tr, L2.Cx.blk]); (try wtm_at "nrm"); wtm_at "go"))
local macro_rules | `(tactic| wtm_at "fin") => `(tactic| ((try dsimp only); first | with_reducible assumption | assumption | ((with_reducible refine' Ret.use ?rur ?rue ?rud); (case rur => with_reducible assumption); (case rue => wtm_at "ex"); (case rud => wtm_at "dp"))))
local macro_rules | `(tactic| wtm_at "exh") => `(tactic| first | with_reducible assumption | with_reducible exact Ex.refl _ | with_reducible exact ex_hid | ((with_reducible refine' Ex.trans ?exe (by with_reducible assumption)); (case exe => wtm_at "exh")) | ((with_reducible refine' Ex.trans ?exe (hid_ex (by with_reducible assumption))); (case exe => wtm_at "exh")))
local macro_rules | `(tactic| wtm_at "ex") => `(tactic| first | with_reducible assumption | with_reducible exact Ex.refl _ | with_reducible exact ex_hid | ((with_reducible refine' Ex.trans ?exe (by with_reducible assumption)); (case exe => wtm_at "ex")) | ((with_reducible refine' Ex.trans ?exe (hid_ex (by with_reducible assumption))); (case exe => wtm_at "ex")) | ((with_reducible refine' Ex.trans ?exe ex_hid); (case exe => wtm_at "exh")))
local macro_rules | `(tactic| wtm_at "bag") => `(tactic| first | with_reducible assumption | ((with_reducible refine' Bag.mono ?bgm (by with_reducible assumption)); (case bgm => wtm_at "bag")))
local macro_rules | `(tactic| wtm_at "hs") => `(tactic| first | with_reducible assumption | ((with_reducible refine' hid_tup ?hb ?hp); (case hp => with_reducible assumption); (case hb => wtm_at "bag")) | ((with_reducible refine' hid_new ?hb ?hn ?hp); (case hp => with_reducible assumption); (case hn => with_reducible assumption); (case hb => wtm_at "bag")) | ((with_reducible refine' ex_at ?exe (by with_reducible assumption)); (case exe => wtm_at "ex")))
local macro_rules | `(tactic| wtm_at "st2") => `(tactic| first
  | ((with_reducible refine' i_mulC ?u0 ?uq); (case u0 => first | exact cmul_l (by decide) | exact cmul_r (by decide)))
  | ((with_reducible refine' i_ixLr (v := ?u0) ?u1 ?u2 ?uq); (case u1 => with_reducible assumption); (case u2 => exact rfl))
  | (with_reducible refine' i_sub ?uq)
  | ((with_reducible refine' i_mkL ?u0 (fun np nH nfr nhe nhp => ?uq)); (case u0 => exact Nat.le_of_ble_eq_true rfl))
  | ((with_reducible refine' i_setL (n := ?u0) ?u1 ?u2 (fun sH sh se => ?uq)); (case u1 => with_reducible assumption); (case u2 => exact rfl))
  | (with_reducible refine' i_sl ?uq)
  | (with_reducible refine' i_nopart ?uq)
  | (with_reducible refine' i_part ?uq)
  | (with_reducible refine' i_part1 ?uq))
local macro_rules | `(tactic| wtm_at "sz2") => `(tactic| ((with_reducible refine' sz_fmod ?sz1 ?sz2); (case sz1 => wtm_at "nz"); (case sz2 => wtm_at "sz")))
local macro_rules | `(tactic| wtm_at "stb") => `(tactic| first
  | ((with_reducible refine' i_mkTB ?u0 ?u1 (fun np nH nhe nhb nhp => ?uq)); (case u0 => exact Nat.le_of_ble_eq_true rfl); (case u1 => wtm_at "bag"))
  | ((with_reducible refine' i_mkLB ?u0 ?u1 (fun np nH nfr nhe nhb nhp => ?uq)); (case u0 => exact Nat.le_of_ble_eq_true rfl); (case u1 => wtm_at "bag"))
  | wtm_at "st")
local macro_rules | `(tactic| wtm_at "gob") => `(tactic| repeat' (wtm_at "stb"))
local macro_rules | `(tactic| wtm_at "gob0") => `(tactic| ((try dsimp only [L2.cxOf, L2.Cx.nox, L2.Cx.wish, L2.Cx.tr, L2.Cx.blk]); (try wtm_at "nrm"); wtm_at "gob"))
section
variable {P : Program} {w : World} {K : PySem.W.Frag} {mg : Str → Option Value} {base : Heap} {H H' : Hp} {Q : VK} {E : XK} {v1 v2 v3 v4 v5 : V}
def dueL (w : Nat) : List Bool := [isC w 0, isC w 1, isC w 2, isC w 3, isC w 4, isC w 5, isC w 6, isC w 7, isC w 8, isC w 9, isC w 10, isC w 11, isC w 12, isC w 13, isC w 14, isC w 15, isC w 16, isC w 17, isC w 18, isC w 19, isC w 20, isC w 21, isC w 22, isC w 23, isC w 24, isC w 25, isB w 0, isB w 1, isB w 2, isB w 3, isB w 4, isB w 5, isB w 6]
theorem i_inL {a : Addr} {xs : List V} {x : V} {b : Bool} (h : H a = some (.lst xs)) (hx : flatV x = true) (hs : xs.all flatV = true) (e : inV x xs = b) (q : Q (.bl b) H) : rIn K false x (.ref a) H Q := by
  subst e
  exact ⟨a, xs, rfl, .inl (Evl.sq_of h), hx, hs, q⟩
theorem i_inT {a : Addr} {xs : List V} {x : V} {b : Bool} (h : H a = some (.tup xs)) (hx : flatV x = true) (hs : xs.all flatV = true) (e : inV x xs = b) (q : Q (.bl b) H) : rIn K false x (.ref a) H Q := by
  subst e
  exact ⟨a, xs, rfl, .inr (Evl.st_of h), hx, hs, q⟩
theorem i_cat {l b : Addr} {xs zs ys : List V} (h1 : H l = some (.lst xs)) (h2 : H b = some (.lst zs)) (hl : xs.length + zs.length ≤ 100000) (e : xs ++ zs = ys) (q : ∀ p H2, H p = none → Ex H H2 → H2 p = some (.lst ys) → Q (.ref p) H2) : rCat (.ref l) (.ref b) H Q := by
  subst e
  exact ⟨l, b, xs, zs, rfl, rfl, h1, h2, Evl.sz_of hl, fun p hp => q p _ hp (ex_upd hp) upd_same⟩
local macro_rules | `(tactic| wtm_at "st") => `(tactic| (first | ((with_reducible refine' i_mkL ?u0 (fun np nH nfr nhe nhp => ?uq)); (case u0 => exact Nat.le_of_ble_eq_true rfl)) | fail))
local macro_rules | `(tactic| wtm_at "st2") => `(tactic| (first | ((with_reducible refine' i_cat ?u0 ?u1 ?u2 ?u3 (fun np nH nfr nhe nhp => ?uq)); (case u0 => wtm_at "hs"); (case u1 => wtm_at "hs"); (case u2 => exact Nat.le_of_ble_eq_true rfl); (case u3 => ((dsimp only [List.cons_append, List.nil_append]) <;> exact rfl))) | fail))
def keptD (w : Nat) (t : Str) (n : Int) (rows : List PyData) (pd : PyData) : PyData := if w < 18 then .none else if w = 18 ∨ w = 21 ∨ w = 24 then .str t else if w = 25 then .tuple [.str t, .tuple rows, pd] else .int n
def sp__law_kept (K : PySem.W.Frag) : Sp := A5 fun v1 v2 v3 v4 v5 H Q => ∃ (w : Nat) (t : Str) (n : Int) (rows : List PyData) (pd : PyData), v1 = .int w ∧ v2 = .str t ∧ v3 = .int n ∧ Dp K H v4 (.tuple rows) ∧ Dp K H v5 pd ∧ Ret K (keptD w t n rows pd) H Q
abbrev s__law_kept : Stmt := top 38
theorem sc__law_kept : FnScope ["_law_which", "_law_text", "_law_number", "_law_rows", "_law_point"] ["_law_which", "_law_text", "_law_number", "_law_rows", "_law_point"] (defScope s__law_kept) := ⟨rfl, rfl, rfl, by decide +kernel, rfl, by decide +kernel, by decide +kernel⟩
theorem ok__law_kept {f : Addr} {fd : FuncData} (F : FnP K "_law_kept" s__law_kept f fd) (g : G mg)   : FnOk P w K mg base CX0 1 f fd ["_law_which", "_law_text", "_law_number", "_law_rows", "_law_point"] (sp__law_kept K) := by
  have nd := sc__law_kept.nd
  refine F.ok sc__law_kept (fun vs H Q E h => h.len) (fun cdv A outer s H vs Q E hr h => ?_)
  obtain ⟨v1, v2, v3, v4, v5, rfl, h⟩ := h
  refine ⟨_, PSs.nox (pss_cons (ps_if (pt_cmpR op_lt (pv 0) pe_int (nomark _)) (pss_one (ps_ret pe_non)) pss_nil) (pss_cons (ps_if (pt_cmpR op_in_seq (pv 0) (pe_tup (pa_cons pe_int (pa_cons pe_int (pa_cons pe_int pa_nil)))) (by rfl)) (pss_one (ps_ret (pv 1))) pss_nil) (pss_one (ps_ret (pe_ifExp (pt_cmpR op_eq (pv 0) pe_int (nomark _)) (pe_tup (pa_cons (pv 1) (pa_cons (pv 3) (pa_cons (pv 4) pa_nil)))) (pv 2)))))), ?_⟩
  obtain ⟨w, t, n, rows, pd, rfl, rfl, rfl, h4, h5, q⟩ := h
  wtm_at "go0"
  · rename_i hif
    dsimp only
    refine q _ _ (Ex.refl _) ?_
    unfold keptD
    rw [if_pos (by omega)]
    exact .non
  · rename_i hif np J nhe nhp
    have nw : ¬ w < 18 := by omega
    refine i_inT (b := decide (w = 18 ∨ w = 21 ∨ w = 24)) nhp rfl (by decide) ?_ ?_
    · rw [Bool.eq_iff_iff]
      simp [inV, eqV]
      omega
    refine i_k ?_
    refine i_ite (fun hz => ?_) (fun hz => ?_)
    · wtm_at "go"
      dsimp only
      refine q _ _ (by wtm_at "ex") ?_
      unfold keptD
      rw [if_neg nw, if_pos hz]
      exact .str _
    · wtm_at "go"
      · rename_i h25 np2 J2 nhe2 nhp2
        dsimp only
        refine q _ _ (by wtm_at "ex") ?_
        unfold keptD
        rw [if_neg nw, if_neg hz, if_pos (by omega)]
        wtm_at "dp"
      · rename_i h25
        dsimp only
        refine q _ _ (by wtm_at "ex") ?_
        unfold keptD
        rw [if_neg nw, if_neg hz, if_neg (by omega)]
        exact .int _
theorem i_lcRng {σ : L2.St} {te : TE} {j : Nat} {vs : List Nat} {n : Nat} (f : Nat → V) (hn : n ≤ 1000) (hw : ∀ x, wipe ((wipe σ vs).set j (some x)) vs = wipe σ vs)
    (he : ∀ (i : Nat) (H2 : Hp) (R : VK), i < n → Ex H H2 → (∀ H3, Ex H2 H3 → R (f i) H3) → te ((wipe σ vs).set j (some (.int (i : Int)))) H2 R)
    (q : ∀ p H2, H p = none → Ex H H2 → H2 p = some (.lst ((List.range n).map f)) → Q (.ref p) H2) : tLc (iRng1 (kA [.int (n : Int)])) (gName j) tYes te vs σ H Q := by
  refine ⟨(n : Int), rfl, by omega, by omega, fun D0 hD => ?_⟩
  refine lc_range (lo := 0) (n := ((n : Int)).toNat) (fun i H' => i ≤ n ∧ Ex H H' ∧ H' D0 = some (.lst ((List.range i).map f))) ⟨Nat.zero_le _, Ex.new hD, upd_same⟩ (fun i H' hi p => ?_) (fun H' p => ?_)
  · obtain ⟨p1, p2, p3⟩ := p
    have e0 : (0 : Int) + (i : Int) = (i : Int) := Int.zero_add _
    have hi' : i < n := by omega
    show wipe ((wipe σ vs).set j (some (.int ((0 : Int) + (i : Int))))) vs = wipe σ vs ∧ tYes ((wipe σ vs).set j (some (.int ((0 : Int) + (i : Int))))) H' fun b' H3 => _
    rw [e0]
    refine ⟨hw _, he i H' _ hi' p2 fun H3 e3 => ?_⟩
    refine ⟨_, e3 _ _ p3, Evl.sz_lt (by rw [List.length_map, List.length_range]; omega), hi', Evl.Ex.mut (p2.trans e3) hD, ?_⟩
    rw [upd_same, List.range_succ, List.map_append]
    rfl
  · obtain ⟨p1, p2, p3⟩ := p
    have e1 : ((n : Int)).toNat = n := Int.toNat_natCast n
    rw [e1] at p3
    exact q D0 H' hD p2 p3
theorem dp_bls : ∀ bs : List Bool, DpAll K H (bs.map V.bl) (bs.map PyData.bool)
  | [] => .nil
  | b :: bs => .cons (.bl b) (dp_bls bs)
def sp__law_due_classes (K : PySem.W.Frag) : Sp := A1 fun v1 H Q => ∃ (w : Nat), v1 = .int w ∧ w < 26 ∧ ∀ v H2, Ex H H2 → Dp K H2 v (.list ((dueL w).map .bool)) → Q v H2
theorem due_lo : ∀ w : Nat, w < 20 → (List.range 33).map (fun i : Nat => inV (.int (i : Int)) [.int 0, .int (w : Int), .int 26]) = dueL w := by decide +kernel
theorem due20 : (List.range 33).map (fun i : Nat => inV (.int (i : Int)) [.int ((20 : Nat) : Int), .int 27, .int 29]) = dueL 20 := by decide +kernel
theorem due21 : (List.range 33).map (fun i : Nat => inV (.int (i : Int)) [.int ((21 : Nat) : Int), .int 28, .int 29]) = dueL 21 := by decide +kernel
theorem due22 : (List.range 33).map (fun i : Nat => inV (.int (i : Int)) [.int ((22 : Nat) : Int), .int 30, .int 31]) = dueL 22 := by decide +kernel
theorem due23 : (List.range 33).map (fun i : Nat => inV (.int (i : Int)) [.int ((23 : Nat) : Int), .int 29]) = dueL 23 := by decide +kernel
theorem due24 : (List.range 33).map (fun i : Nat => inV (.int (i : Int)) [.int ((24 : Nat) : Int), .int 32]) = dueL 24 := by decide +kernel
theorem due25 : (List.range 33).map (fun i : Nat => inV (.int (i : Int)) [.int ((25 : Nat) : Int), .int 31]) = dueL 25 := by decide +kernel
/-- the comprehension over a list of numbers -/
theorem due_lc {w : Nat} {a : Addr} {xs : List V} {σ : L2.St} (h : H a = some (.lst xs)) (hs : xs.all flatV = true) (e : (List.range 33).map (fun i : Nat => inV (.int (i : Int)) xs) = dueL w) (h1 : ∀ v : V, (((wipe σ [2]).set 2 (some v))[1]? = some (some (.ref a)) ∧ ((wipe σ [2]).set 2 (some v))[2]? = some (some v)))
    (q : ∀ v H2, Ex H H2 → Dp K H2 v (.list ((dueL w).map .bool)) → Q v H2) : tLc (iRng1 (kA [.int 33])) (gName 2) tYes (tOp (rIn K false) (tVar 2) (tVar 1)) [2] σ H Q := by
  refine i_lcRng (n := 33) (fun i => .bl (inV (.int (i : Int)) xs)) (by decide) (fun x => wipe1 x) ?_ ?_
  · intro i H2 R hi e2 r
    refine i_op (i_var (h1 _).2 (i_var (h1 _).1 ?_))
    exact i_inL (e2 _ _ h) rfl hs rfl (r _ (Ex.refl _))
  · intro p H2 hp e2 h2
    refine q _ _ e2 (.lst (Evl.sq_of h2) ?_)
    have e3 : (List.range 33).map (fun i : Nat => V.bl (inV (.int (i : Int)) xs)) = (dueL w).map V.bl := by
      rw [← e, List.map_map]
      rfl
    rw [e3]
    exact dp_bls _
abbrev s__law_due_classes : Stmt := top 37
theorem sc__law_due_classes : FnScope ["_law_which", "_law_due", "_law_at"] ["_law_which"] (defScope s__law_due_classes) := ⟨rfl, rfl, rfl, by decide +kernel, rfl, by decide +kernel, by decide +kernel⟩
theorem ok__law_due_classes {f : Addr} {fd : FuncData} (F : FnP K "_law_due_classes" s__law_due_classes f fd) (g : G mg)   : FnOk P w K mg base CX0 1 f fd ["_law_which"] (sp__law_due_classes K) := by
  have nd := sc__law_due_classes.nd
  refine F.ok sc__law_due_classes (fun vs H Q E h => h.len) (fun cdv A outer s H vs Q E hr h => ?_)
  obtain ⟨v1, rfl, h⟩ := h
  refine ⟨_, PSs.nox (pss_cons (ps_set (i := 1) nd rfl (Or.inr rfl) (pe_lst (pa_cons pe_int (pa_cons (pv 0) (pa_cons pe_int pa_nil))))) (pss_cons (ps_if (pt_cmpR op_ge (pv 0) pe_int (nomark _)) (pss_one (ps_set (i := 1) nd rfl (Or.inr rfl) (pe_op op_cat (pe_lst (pa_cons (pv 0) pa_nil)) (pe_ix ix_list (pe_lst (pa_cons (pe_lst (pa_cons pe_int (pa_cons pe_int pa_nil))) (pa_cons (pe_lst (pa_cons pe_int (pa_cons pe_int pa_nil))) (pa_cons (pe_lst (pa_cons pe_int (pa_cons pe_int pa_nil))) (pa_cons (pe_lst (pa_cons pe_int pa_nil)) (pa_cons (pe_lst (pa_cons pe_int pa_nil)) (pa_cons (pe_lst (pa_cons pe_int pa_nil)) pa_nil))))))) (pe_op op_sub (pv 0) pe_int) (fun _ _ => rfl))))) pss_nil) (pss_one (ps_ret (pe_lc (own := [("_law_at", 2)]) (g := gName 2) (by rfl) nd (pi_range1 (by rfl) g.f_range (pa_cons pe_int pa_nil)) (blkOk_by (N := ["_law_which", "_law_due", "_law_at"]) (sc := defScope s__law_due_classes) (own := [("_law_at", 2)]) (by decide +kernel)) (fun _ _ _ _ _ => (pg_name (i := 2) nd rfl (Or.inl rfl))) (fun _ _ _ _ _ => pts_nil) (fun _ _ _ _ _ => (pe_cmpR (show OpR _ _ (rIn K false) from op_in_seq) (pv 2) (pv 1) (by rfl)))))))), ?_⟩
  obtain ⟨w, rfl, hw, q⟩ := h
  wtm_at "go0"
  · have hc : w = 20 ∨ w = 21 ∨ w = 22 ∨ w = 23 ∨ w = 24 ∨ w = 25 := by omega
    rcases hc with rfl | rfl | rfl | rfl | rfl | rfl
    all_goals
      refine i_ixLr (by with_reducible assumption) rfl ?_
      wtm_at "go"
      refine i_lcRU ?_
      wtm_at "go"
      refine due_lc (by with_reducible assumption) rfl ?_ (fun v => ⟨rfl, rfl⟩) (fun v H2 e2 hd => q v H2 ?_ hd)
    · exact due20
    · wtm_at "ex"
    · exact due21
    · wtm_at "ex"
    · exact due22
    · wtm_at "ex"
    · exact due23
    · wtm_at "ex"
    · exact due24
    · wtm_at "ex"
    · exact due25
    · wtm_at "ex"
  · refine i_lcRU ?_
    wtm_at "go"
    refine due_lc (by with_reducible assumption) rfl ?_ (fun v => ⟨rfl, rfl⟩) (fun v H2 e2 hd => q v H2 ?_ hd)
    · exact due_lo w (by omega)
    · wtm_at "ex"
theorem use__law_due_classes {w : Nat} (hw : w < 26) (q : ∀ v H2, Ex H H2 → Dp K H2 v (.list ((dueL w).map .bool)) → Q v H2) : sp__law_due_classes K [.int w] H Q E := ⟨_, rfl, w, rfl, hw, q⟩
theorem use__law_kept {w : Nat} {t : Str} {n : Int} {rows : List PyData} {pd : PyData} (h4 : Dp K H v4 (.tuple rows)) (h5 : Dp K H v5 pd) (q : ∀ v H2, Ex H H2 → Dp K H2 v (keptD w t n rows pd) → Q v H2) : sp__law_kept K [.int w, .str t, .int n, v4, v5] H Q E := ⟨_, _, _, _, _, rfl, w, t, n, rows, pd, rfl, rfl, rfl, h4, h5, q⟩
end
end Wb

namespace Wb
open PySem PySem.Spec PyProof.Rows L2
open Evl (Ex Ex.refl Ex.trans Ex.new)
local macro_rules | `(tactic| wtm_at "dp") => `(tactic| first | with_reducible assumption | with_reducible exact Dp.int _ | with_reducible exact Dp.bl _ | with_reducible exact Dp.str _ | with_reducible exact Dp.non | ((with_reducible refine' dpMono ?dme (by with_reducible assumption)); (case dme => wtm_at "ex")) | ((with_reducible refine' Dp.tup (Evl.st_of ?dph) ?dpa); (case dph => wtm_at "hs"); (case dpa => wtm_at "dpa")) | ((with_reducible refine' Dp.lst (Evl.sq_of ?dph) ?dpa); (case dph => wtm_at "hs"); (case dpa => wtm_at "dpa")))
local macro_rules | `(tactic| wtm_at "dpa") => `(tactic| first | with_reducible exact DpAll.nil | ((with_reducible refine' DpAll.cons ?dp1 ?dp2); (case dp1 => wtm_at "dp"); (case dp2 => wtm_at "dpa")) | with_reducible assumption | ((with_reducible refine' dpMonoA ?dme (by with_reducible assumption)); (case dme => wtm_at "ex")))
local macro_rules | `(tactic| wtm_at "sz") => `(tactic| first | with_reducible assumption | ((with_reducible refine' sz_mul ?sz1 ?sz2); (case sz1 => wtm_at "sz"); (case sz2 => wtm_at "sz")) | ((with_reducible refine' sz_add ?sz1 ?sz2); (case sz1 => wtm_at "sz"); (case sz2 => wtm_at "sz")) | ((with_reducible refine' sz_sub ?sz1 ?sz2); (case sz1 => wtm_at "sz"); (case sz2 => wtm_at "sz")) | ((with_reducible refine' sz_neg ?sz1); (case sz1 => wtm_at "sz")) | ((with_reducible refine' sz_div ?sz1); (case sz1 => wtm_at "sz")) | ((with_reducible refine' sz_fdiv ?sz1); (case sz1 => wtm_at "sz")) | exact sz_lit (by decide) | wtm_at "sz2")
local macro_rules | `(tactic| wtm_at "szb") => `(tactic| first | with_reducible assumption | ((with_reducible refine' sz_mono ?szb1 ?szb2); (case szb1 => wtm_at "sz"); (case szb2 => decide)))
local macro_rules | `(tactic| wtm_at "nz") => `(tactic| first | assumption | decide | omega)
local macro_rules | `(tactic| wtm_at "shaped") => `(tactic| first | rfl | decide)
local macro_rules | `(tactic| wtm_at "sset") => `(tactic| ((dsimp only [L2.wipe, List.set, List.set_cons_zero, List.set_cons_succ]) <;> exact rfl))
local macro_rules | `(tactic| wtm_at "nrm") => `(tactic| dsimp only [L2.start, L2.wipe, List.set, List.append, List.map, List.map_cons, List.map_nil, List.length_cons, List.length_nil, Nat.reduceAdd, Nat.reduceSub, List.reduceReplicate, List.replicate, List.cons_append, List.nil_append, List.set_cons_zero, List.set_cons_succ])
local macro_rules | `(tactic| wtm_at "st") => `(tactic| first
  | ((with_reducible refine' i_var (v := ?u0) ?u1 ?uq); (case u1 => exact rfl))
  | ((with_reducible refine' i_nameN ?u0 ?uq); (case u0 => wtm_at "sset"))
  | (with_reducible refine' i_op ?uq)
  | (with_reducible refine' i_c ?uq)
  | (with_reducible refine' i_I0 ?uq)
  | ((with_reducible refine' i_ixTI (i := ?u0) ?u1 ?u2 ?u3 ?uq); (case u1 => wtm_at "dp"); (case u2 => wtm_at "ex"); (case u3 => exact rfl))
  | ((with_reducible refine' i_ixT (d := ?u0) ?u1 ?u2 ?u3 (fun xu hxu => ?uq)); (case u1 => wtm_at "dp"); (case u2 => wtm_at "ex"); (case u3 => exact rfl))
  | ((with_reducible refine' i_mul ?u0 ?u1 ?u2 ?uq); (case u0 => wtm_at "sz"); (case u1 => wtm_at "sz"); (case u2 => first | decide | omega))
  | (with_reducible refine' i_seq ?uq)
  | (with_reducible refine' i_asg ?uq)
  | (with_reducible refine' i_ret ?uq)
  | (with_reducible refine' i_ifs ?uq)
  | (with_reducible refine' i_drop ?uq)
  | (with_reducible refine' i_next ?uq)
  | (with_reducible refine' i_cons ?uq)
  | (with_reducible refine' i_nil ?uq)
  | (with_reducible refine' i_cl ?uq)
  | (with_reducible refine' i_cb ?uq)
  | (with_reducible refine' i_tup ?uq)
  | (with_reducible refine' i_lst ?uq)
  | ((with_reducible refine' i_mkT ?u0 (fun np nH nhe nhp => ?uq)); (case u0 => exact Nat.le_of_ble_eq_true rfl))
  | (with_reducible refine' i_test ?uq)
  | (with_reducible refine' i_B ?uq)
  | (with_reducible refine' i_k ?uq)
  | (with_reducible refine' i_and ?uq)
  | (with_reducible refine' i_or ?uq)
  | (with_reducible refine' i_not ?uq)
  | (with_reducible refine' i_andV ?uq)
  | (with_reducible refine' i_orV ?uq)
  | (with_reducible refine' i_notV ?uq)
  | (with_reducible refine' i_if ?uq)
  | (with_reducible refine' i_un ?uq)
  | (with_reducible refine' i_U ?uq)
  | (with_reducible refine' i_iteT ?uq)
  | (with_reducible refine' i_iteF ?uq)
  | ((with_reducible refine' i_iteTr ?u0 ?uq); (case u0 => first | with_reducible rfl | decide | (simp only [dIsInt, dIsBool, dIsTup, dIsStr, dIsLst, Bool.not_true, Bool.not_false]; done)))
  | ((with_reducible refine' i_iteFr ?u0 ?uq); (case u0 => first | with_reducible rfl | decide | (simp only [dIsInt, dIsBool, dIsTup, dIsStr, dIsLst, Bool.not_true, Bool.not_false]; done)))
  | (with_reducible refine' i_ite (fun hif => ?uqa) (fun hif => ?uqb))
  | (with_reducible refine' i_iteN (fun hif => ?uqa) (fun hif => ?uqb))
  | (with_reducible refine' i_iteBN (fun hif => ?uqa) (fun hif => ?uqb))
  | (with_reducible refine' i_iteB (fun hif => ?uqa) (fun hif => ?uqb))
  | ((with_reducible refine' i_modN ?u0 ?uq); (case u0 => wtm_at "nz"))
  | ((with_reducible refine' i_fdX ?u0 ?u1 ?u2 ?uq); (case u0 => wtm_at "nz"); (case u1 => wtm_at "sz"); (case u2 => first | decide | omega))
  | ((with_reducible refine' i_pow ?u0 ?uq); (case u0 => exact ⟨by decide, by decide +kernel⟩))
  | (with_reducible refine' i_eqI ?uq)
  | (with_reducible refine' i_neI ?uq)
  | (with_reducible refine' i_gcd ?uq)
  | (with_reducible refine' i_qabs ?uq)
  | (with_reducible refine' i_qint ?uq)
  | (with_reducible refine' i_qintB ?uq)
  | (with_reducible refine' i_qmax2 ?uq)
  | (with_reducible refine' i_qmin2 ?uq)
  | (with_reducible refine' i_isB ?uq)
  | (with_reducible refine' i_notB ?uq)
  | (with_reducible refine' i_chain ?uq)
  | (with_reducible refine' i_qisN ?uq)
  | (with_reducible refine' i_qnotN ?uq)
  | (with_reducible refine' i_yes ?uq)
  | (with_reducible refine' i_par ?uq)
  | (with_reducible refine' i_par3 ?uq)
  | ((with_reducible refine' i_par2 ?u0 ?uq); (case u0 => wtm_at "sset"))
  | ((with_reducible refine' i_par33 ?u0 ?uq); (case u0 => wtm_at "sset"))
  | ((with_reducible refine' i_ixLI (i := ?u0) ?u1 ?u2 ?u3 ?uq); (case u1 => wtm_at "dp"); (case u2 => wtm_at "ex"); (case u3 => exact rfl))
  | ((with_reducible refine' i_ixL (d := ?u0) ?u1 ?u2 ?u3 (fun xu hxu => ?uq)); (case u1 => wtm_at "dp"); (case u2 => wtm_at "ex"); (case u3 => exact rfl))
  | ((with_reducible refine' i_qlenT ?u0 ?uq); (case u0 => wtm_at "dp"))
  | ((with_reducible refine' i_qlenL ?u0 ?uq); (case u0 => wtm_at "dp"))
  | ((with_reducible refine' i_gtup ?u0 ?u1 ?u2 (fun gvs gdp => ?uq)); (case u0 => wtm_at "dp"); (case u1 => wtm_at "ex"); (case u2 => exact rfl))
  | ((with_reducible refine' i_glst ?u0 ?u1 ?u2 (fun gvs gdp => ?uq)); (case u0 => wtm_at "dp"); (case u1 => wtm_at "ex"); (case u2 => exact rfl))
  | ((with_reducible refine' i_gconsI ?u0 (fun gr gh => ?uq)); (case u0 => with_reducible assumption))
  | ((with_reducible refine' i_gconsA ?u0 (fun gv gr gh1 gh2 => ?uq)); (case u0 => with_reducible assumption))
  | ((with_reducible refine' i_gnilA ?u0 ?uq); (case u0 => with_reducible assumption))
  | ((with_reducible refine' i_isiI ?u0 ?uq); (case u0 => wtm_at "dp"))
  | ((with_reducible refine' i_isiB ?u0 ?uq); (case u0 => wtm_at "dp"))
  | ((with_reducible refine' i_isiT ?u0 ?uq); (case u0 => wtm_at "dp"))
  | ((with_reducible refine' i_isiS ?u0 ?uq); (case u0 => wtm_at "dp"))
  | ((with_reducible refine' i_isiL ?u0 ?uq); (case u0 => wtm_at "dp"))
  | ((with_reducible refine' i_eqD ?u0 ?u1 ?u2 ?u3 ?uq); (case u0 => wtm_at "dp"); (case u1 => wtm_at "dp"); (case u2 => wtm_at "shaped"); (case u3 => wtm_at "shaped"))
  | ((with_reducible refine' i_neD ?u0 ?u1 ?u2 ?u3 ?uq); (case u0 => wtm_at "dp"); (case u1 => wtm_at "dp"); (case u2 => wtm_at "shaped"); (case u3 => wtm_at "shaped"))
  | wtm_at "st2"
  | wtm_at "use")
local macro_rules | `(tactic| wtm_at "go") => `(tactic| repeat' (wtm_at "st"))
local macro_rules | `(tactic| wtm_at "go0") => `(tactic| ((try dsimp only [L2.cxOf, L2.Cx.nox, L2.Cx.wish, L2.Cx.tr, L2.Cx.blk]); (try wtm_at "nrm"); wtm_at "go"))
local macro_rules | `(tactic| wtm_at "fin") => `(tactic| ((try dsimp only); first | with_reducible assumption | assumption | ((with_reducible refine' Ret.use ?rur ?rue ?rud); (case rur => with_reducible assumption); (case rue => wtm_at "ex"); (case rud => wtm_at "dp"))))
local macro_rules | `(tactic| wtm_at "exh") => `(tactic| first | with_reducible assumption | with_reducible exact Ex.refl _ | with_reducible exact ex_hid | ((with_reducible refine' Ex.trans ?exe (by with_reducible assumption)); (case exe => wtm_at "exh")) | ((with_reducible refine' Ex.trans ?exe (hid_ex (by with_reducible assumption))); (case exe => wtm_at "exh")))
local macro_rules | `(tactic| wtm_at "ex") => `(tactic| first | with_reducible assumption | with_reducible exact Ex.refl _ | with_reducible exact ex_hid | ((with_reducible refine' Ex.trans ?exe (by with_reducible assumption)); (case exe => wtm_at "ex")) | ((with_reducible refine' Ex.trans ?exe (hid_ex (by with_reducible assumption))); (case exe => wtm_at "ex")) | ((with_reducible refine' Ex.trans ?exe ex_hid); (case exe => wtm_at "exh")))
local macro_rules | `(tactic| wtm_at "bag") => `(tactic| first | with_reducible assumption | ((with_reducible refine' Bag.mono ?bgm (by with_reducible assumption)); (case bgm => wtm_at "bag")))
local macro_rules | `(tactic| wtm_at "hs") => `(tactic| first | with_reducible assumption | ((with_reducible refine' hid_tup ?hb ?hp); (case hp => with_reducible assumption); (case hb => wtm_at "bag")) | ((with_reducible refine' hid_new ?hb ?hn ?hp); (case hp => with_reducible assumption); (case hn => with_reducible assumption); (case hb => wtm_at "bag")) | ((with_reducible refine' ex_at ?exe (by with_reducible assumption)); (case exe => wtm_at "ex")))
local macro_rules | `(tactic| wtm_at "st2") => `(tactic| first
  | ((with_reducible refine' i_mulC ?u0 ?uq); (case u0 => first | exact cmul_l (by decide) | exact cmul_r (by decide)))
  | ((with_reducible refine' i_ixLr (v := ?u0) ?u1 ?u2 ?uq); (case u1 => with_reducible assumption); (case u2 => exact rfl))
  | (with_reducible refine' i_sub ?uq)
  | ((with_reducible refine' i_mkL ?u0 (fun np nH nfr nhe nhp => ?uq)); (case u0 => exact Nat.le_of_ble_eq_true rfl))
  | ((with_reducible refine' i_setL (n := ?u0) ?u1 ?u2 (fun sH sh se => ?uq)); (case u1 => with_reducible assumption); (case u2 => exact rfl))
  | (with_reducible refine' i_sl ?uq)
  | (with_reducible refine' i_nopart ?uq)
  | (with_reducible refine' i_part ?uq)
  | (with_reducible refine' i_part1 ?uq))
local macro_rules | `(tactic| wtm_at "sz2") => `(tactic| ((with_reducible refine' sz_fmod ?sz1 ?sz2); (case sz1 => wtm_at "nz"); (case sz2 => wtm_at "sz")))
local macro_rules | `(tactic| wtm_at "stb") => `(tactic| first
  | ((with_reducible refine' i_mkTB ?u0 ?u1 (fun np nH nhe nhb nhp => ?uq)); (case u0 => exact Nat.le_of_ble_eq_true rfl); (case u1 => wtm_at "bag"))
  | ((with_reducible refine' i_mkLB ?u0 ?u1 (fun np nH nfr nhe nhb nhp => ?uq)); (case u0 => exact Nat.le_of_ble_eq_true rfl); (case u1 => wtm_at "bag"))
  | wtm_at "st")
local macro_rules | `(tactic| wtm_at "gob") => `(tactic| repeat' (wtm_at "stb"))
local macro_rules | `(tactic| wtm_at "gob0") => `(tactic| ((try dsimp only [L2.cxOf, L2.Cx.nox, L2.Cx.wish, L2.Cx.tr, L2.Cx.blk]); (try wtm_at "nrm"); wtm_at "gob"))
structure Pln (K : PySem.W.Frag) (C : Addr) : Prop where
  x : PySem.W.excIn K C [.type "ValueError", .type "Exception", .type "BaseException", .type "object"] "ValueError.__new__" = true
  k : PySem.W.keepIn K (.ref C) = true
  b : PySem.W.subIn K (.ref C) (.type "BaseException") = some true
  t : PySem.W.typeIn K (.ref C) = some (.type "type")
structure ErG (mg : Str → Option Value) (ca : Nat → Addr) : Prop where
  g0 : mg "WhereError" = some (.ref (ca 0))
  g1 : mg "InvalidPoint" = some (.ref (ca 1))
  g2 : mg "InvalidShape" = some (.ref (ca 2))
  g3 : mg "InvalidCell" = some (.ref (ca 3))
  g4 : mg "InvalidDrawing" = some (.ref (ca 4))
  g5 : mg "InvalidMap" = some (.ref (ca 5))
  g6 : mg "InvalidLayer" = some (.ref (ca 6))
  g7 : mg "InvalidArcs" = some (.ref (ca 7))
  g8 : mg "InvalidBox" = some (.ref (ca 8))
  g9 : mg "InvalidName" = some (.ref (ca 9))
  g10 : mg "InvalidTree" = some (.ref (ca 10))
  g11 : mg "InvalidTable" = some (.ref (ca 11))
  g12 : mg "InvalidRow" = some (.ref (ca 12))
  g13 : mg "InvalidCondition" = some (.ref (ca 13))
  g14 : mg "InvalidQuestion" = some (.ref (ca 14))
  g15 : mg "InvalidPlan" = some (.ref (ca 15))
  g16 : mg "InvalidRule" = some (.ref (ca 16))
  g17 : mg "InvalidOperation" = some (.ref (ca 17))
  g18 : mg "TakenName" = some (.ref (ca 18))
  g19 : mg "ParseError" = some (.ref (ca 19))
  g20 : mg "InvalidNumber" = some (.ref (ca 20))
  g21 : mg "UnknownName" = some (.ref (ca 21))
  g22 : mg "TooMany" = some (.ref (ca 22))
  g23 : mg "NothingToUndo" = some (.ref (ca 23))
  g24 : mg "Conflict" = some (.ref (ca 24))
  g25 : mg "Broken" = some (.ref (ca 25))
structure ErS (P : Program) (K : PySem.W.Frag) (ca : Nat → Addr) : Prop where
  i18 : Init1 P st18 "TakenName.__init__" "self" "name" "name"
  s18 : ∃ fI, SupC P K (ca 18) fI "ValueError" "ValueError.__init__" "ValueError.__new__" [.type "ValueError", .type "Exception", .type "BaseException", .type "object"] st18 "TakenName.__init__"
  t18a : PySem.W.takerIn K (ca 18) "name" = some none
  n18a : PySem.W.findIn K (.ref (ca 18)) "name" = some none
  x18 : XfC K (ca 18)
  i19 : Init1 P st19 "ParseError.__init__" "self" "index" "index"
  s19 : ∃ fI, SupC P K (ca 19) fI "ValueError" "ValueError.__init__" "ValueError.__new__" [.type "ValueError", .type "Exception", .type "BaseException", .type "object"] st19 "ParseError.__init__"
  t19a : PySem.W.takerIn K (ca 19) "index" = some none
  n19a : PySem.W.findIn K (.ref (ca 19)) "index" = some none
  x19 : XfC K (ca 19)
  i20 : Init1 P st20 "InvalidNumber.__init__" "self" "value" "value"
  s20 : ∃ fI, SupC P K (ca 20) fI "IndexError" "IndexError.__init__" "IndexError.__new__" [.type "IndexError", .type "LookupError", .type "Exception", .type "BaseException", .type "object"] st20 "InvalidNumber.__init__"
  t20a : PySem.W.takerIn K (ca 20) "value" = some none
  n20a : PySem.W.findIn K (.ref (ca 20)) "value" = some none
  x20 : XfC K (ca 20)
  i21 : Init1 P st21 "UnknownName.__init__" "self" "name" "name"
  s21 : ∃ fI, SupC P K (ca 21) fI "KeyError" "KeyError.__init__" "LookupError.__new__" [.type "KeyError", .type "LookupError", .type "Exception", .type "BaseException", .type "object"] st21 "UnknownName.__init__"
  t21a : PySem.W.takerIn K (ca 21) "name" = some none
  n21a : PySem.W.findIn K (.ref (ca 21)) "name" = some none
  x21 : XfC K (ca 21)
  i22 : Init1 P st22 "TooMany.__init__" "self" "limit" "limit"
  s22 : ∃ fI, SupC P K (ca 22) fI "OverflowError" "OverflowError.__init__" "OverflowError.__new__" [.type "OverflowError", .type "ArithmeticError", .type "Exception", .type "BaseException", .type "object"] st22 "TooMany.__init__"
  t22a : PySem.W.takerIn K (ca 22) "limit" = some none
  n22a : PySem.W.findIn K (.ref (ca 22)) "limit" = some none
  x22 : XfC K (ca 22)
  i23 : Init1 P st23 "NothingToUndo.__init__" "self" "many" "many"
  s23 : ∃ fI, SupC P K (ca 23) fI "LookupError" "LookupError.__init__" "LookupError.__new__" [.type "LookupError", .type "Exception", .type "BaseException", .type "object"] st23 "NothingToUndo.__init__"
  t23a : PySem.W.takerIn K (ca 23) "many" = some none
  n23a : PySem.W.findIn K (.ref (ca 23)) "many" = some none
  x23 : XfC K (ca 23)
  i24 : Init1 P st24 "Conflict.__init__" "self" "name" "name"
  s24 : ∃ fI, SupC P K (ca 24) fI "RuntimeError" "RuntimeError.__init__" "RuntimeError.__new__" [.type "RuntimeError", .type "Exception", .type "BaseException", .type "object"] st24 "Conflict.__init__"
  t24a : PySem.W.takerIn K (ca 24) "name" = some none
  n24a : PySem.W.findIn K (.ref (ca 24)) "name" = some none
  x24 : XfC K (ca 24)
  i25 : Init3 P st25 "Broken.__init__"
  s25 : ∃ fI, SupC P K (ca 25) fI "ArithmeticError" "ArithmeticError.__init__" "ArithmeticError.__new__" [.type "ArithmeticError", .type "Exception", .type "BaseException", .type "object"] st25 "Broken.__init__"
  t25a : PySem.W.takerIn K (ca 25) "rule_label" = some none
  n25a : PySem.W.findIn K (.ref (ca 25)) "rule_label" = some none
  t25b : PySem.W.takerIn K (ca 25) "row_numbers" = some none
  n25b : PySem.W.findIn K (.ref (ca 25)) "row_numbers" = some none
  t25c : PySem.W.takerIn K (ca 25) "point" = some none
  n25c : PySem.W.findIn K (.ref (ca 25)) "point" = some none
  x25 : XfC K (ca 25)
structure ErT (P : Program) (K : PySem.W.Frag) (mg : Str → Option Value) (ca : Nat → Addr) : Prop where
  g : ErG mg ca
  s : ErS P K ca
  pl : ∀ i, i < 18 → Pln K (ca i)
  exm : ∀ i j, i < 26 → j < 26 → PySem.W.exmOne K (.ref (ca i)) (.ref (ca j)) = some (isC i j)
  ec : ∀ i, i < 26 → ExcC K (ca i)
  kit : ∀ i j, i < 26 → j < 26 → PySem.W.kitOne K (.ref (ca i)) (.ref (ca j)) = some (isC i j)
  kb : ∀ i k, i < 26 → k < 7 → PySem.W.kitOne K (.ref (ca i)) (.type (tyN k)) = some (isB i k)
section
variable {P : Program} {w : World} {K : PySem.W.Frag} {mg : Str → Option Value} {base : Heap} {H H' : Hp} {Q : VK} {E : XK} {v1 v2 v3 v4 v5 : V}
def B2 (P : V → V → Hp → VK → XK → Prop) : Sp := fun vs H Q E => ∃ v1 v2, vs = [v1, v2] ∧ P v1 v2 H Q E
def B5 (P : V → V → V → V → V → Hp → VK → XK → Prop) : Sp := fun vs H Q E => ∃ v1 v2 v3 v4 v5, vs = [v1, v2, v3, v4, v5] ∧ P v1 v2 v3 v4 v5 H Q E
theorem B2.len {P} {vs : List V} (h : B2 P vs H Q E) : vs.length = 2 := by obtain ⟨_, _, rfl, _⟩ := h; rfl
theorem B5.len {P} {vs : List V} (h : B5 P vs H Q E) : vs.length = 5 := by obtain ⟨_, _, _, _, _, rfl, _⟩ := h; rfl
def tRaise (t : L2.St → Hp → XK → Prop) (W : WX) : TS := fun _ σ H => t σ H fun cls d H' => W cls d σ H'
theorem psR {X : Cx} {W : WX} {e : Expr} {t : L2.St → Hp → XK → Prop} {pos : Pos} (hc : X.calm = true) (tk : Takes X W) (he : PMk X e t) : PS X (.Raise (some e) none pos) (tRaise t W) := ps_raise hc tk he
def tOwn1 (C : Addr) (te : TE) : L2.St → Hp → XK → Prop := fun σ H Q => te σ H fun _ H1 => Q (.ref C) none H1
theorem pmk_o1 {X : Cx} {C : Addr} {bmB : List Value} {B newId initId : String} {x : Str} {e : Expr} {ta : TE} {p pos : Pos} (F : ExcBaseFacts B newId initId bmB) (q : PySem.W.excIn X.K C bmB newId = true) (gC : X.mg x = some (.ref C)) (kC : PySem.W.keepIn X.K (.ref C) = true) (r : Raises X (.ref C)) (hg : Gl X x)
    (he : PE X e ta) (hs : starEach [e] X.env = (false, eval e X.env) :: starEach [] X.env := by rfl) (hdb : (x == ("__debug__" : Str)) = false := by decide) : PMk X (.Call (.Name x p) [e] [] pos) (tOwn1 C ta) := SkE.pmk_own1 F q gC kC r hg he hs hdb
section
variable {σ : L2.St} {D : Ends} {te : TE} {ts : TA} {C : Addr} {W : WX} {R : XK} {fl : Str}
theorem i_raise {t : L2.St → Hp → XK → Prop} (q : t σ H fun cls d H' => W cls d σ H') : tRaise t W D σ H := q
theorem i_own1 (q : te σ H fun _ H1 => R (.ref C) none H1) : tOwn1 C te σ H R := q
theorem i_mk1 (q : te σ H fun v H1 => ∀ dx, H1 dx = none → R (.ref C) (some dx) (upd H1 dx (.xd [(fl, v)]))) : tMk1 C fl te σ H R := q
theorem i_mk3 (q : ts σ H fun vs H1 => ∃ v1 v2 v3, vs = [v1, v2, v3] ∧ ∀ dx, H1 dx = none → R (.ref C) (some dx) (upd H1 dx (.xd [("point", v3), ("row_numbers", v2), ("rule_label", v1)]))) : tMk3 C ts σ H R := q
end
local macro_rules | `(tactic| wtm_at "st2") => `(tactic| first | (with_reducible refine' i_raise ?uq) | (with_reducible refine' i_own1 ?uq) | (with_reducible refine' i_mk1 ?uq) | (with_reducible refine' i_mk3 ?uq))
def sp__law_first (K : PySem.W.Frag) (ca : Nat → Addr) : Sp := B2 fun v1 v2 H Q E => ∃ w : Nat, w < 13 ∧ v1 = .int w ∧ E (.ref (ca w)) none H
abbrev s__law_first : Stmt := top 32
theorem sc__law_first : FnScope ["_law_which", "_law_text"] ["_law_which", "_law_text"] (defScope s__law_first) := ⟨rfl, rfl, rfl, by decide +kernel, rfl, by decide +kernel, by decide +kernel⟩
theorem ok__law_first {f : Addr} {fd : FuncData} (F : FnP K "_law_first" s__law_first f fd) (g : G mg) {ca : Nat → Addr} (eT : ErT P K mg ca) : FnOk P w K mg base (L2.CX P w) 2 f fd ["_law_which", "_law_text"] (sp__law_first K ca) := by
  have nd := sc__law_first.nd
  refine F.ok sc__law_first (fun vs H Q E h => h.len) (fun cdv A outer s H vs Q E hr h => ?_)
  obtain ⟨v1, v2, rfl, h⟩ := h
  refine ⟨_, (pss_cons (ps_if (pt_cmpR op_eq (pv 0) pe_int (nomark _)) (pss_one (psR rfl (takes_of rfl rfl rfl rfl) (pmk_o1 PySem.F.excBase_ValueError (eT.pl 0 (by decide)).x eT.g.g0 (eT.pl 0 (by decide)).k (raises_own (eT.pl 0 (by decide)).b (eT.pl 0 (by decide)).t) (by rfl) (pv 1)))) pss_nil) (pss_cons (ps_if (pt_cmpR op_eq (pv 0) pe_int (nomark _)) (pss_one (psR rfl (takes_of rfl rfl rfl rfl) (pmk_o1 PySem.F.excBase_ValueError (eT.pl 1 (by decide)).x eT.g.g1 (eT.pl 1 (by decide)).k (raises_own (eT.pl 1 (by decide)).b (eT.pl 1 (by decide)).t) (by rfl) (pv 1)))) pss_nil) (pss_cons (ps_if (pt_cmpR op_eq (pv 0) pe_int (nomark _)) (pss_one (psR rfl (takes_of rfl rfl rfl rfl) (pmk_o1 PySem.F.excBase_ValueError (eT.pl 2 (by decide)).x eT.g.g2 (eT.pl 2 (by decide)).k (raises_own (eT.pl 2 (by decide)).b (eT.pl 2 (by decide)).t) (by rfl) (pv 1)))) pss_nil) (pss_cons (ps_if (pt_cmpR op_eq (pv 0) pe_int (nomark _)) (pss_one (psR rfl (takes_of rfl rfl rfl rfl) (pmk_o1 PySem.F.excBase_ValueError (eT.pl 3 (by decide)).x eT.g.g3 (eT.pl 3 (by decide)).k (raises_own (eT.pl 3 (by decide)).b (eT.pl 3 (by decide)).t) (by rfl) (pv 1)))) pss_nil) (pss_cons (ps_if (pt_cmpR op_eq (pv 0) pe_int (nomark _)) (pss_one (psR rfl (takes_of rfl rfl rfl rfl) (pmk_o1 PySem.F.excBase_ValueError (eT.pl 4 (by decide)).x eT.g.g4 (eT.pl 4 (by decide)).k (raises_own (eT.pl 4 (by decide)).b (eT.pl 4 (by decide)).t) (by rfl) (pv 1)))) pss_nil) (pss_cons (ps_if (pt_cmpR op_eq (pv 0) pe_int (nomark _)) (pss_one (psR rfl (takes_of rfl rfl rfl rfl) (pmk_o1 PySem.F.excBase_ValueError (eT.pl 5 (by decide)).x eT.g.g5 (eT.pl 5 (by decide)).k (raises_own (eT.pl 5 (by decide)).b (eT.pl 5 (by decide)).t) (by rfl) (pv 1)))) pss_nil) (pss_cons (ps_if (pt_cmpR op_eq (pv 0) pe_int (nomark _)) (pss_one (psR rfl (takes_of rfl rfl rfl rfl) (pmk_o1 PySem.F.excBase_ValueError (eT.pl 6 (by decide)).x eT.g.g6 (eT.pl 6 (by decide)).k (raises_own (eT.pl 6 (by decide)).b (eT.pl 6 (by decide)).t) (by rfl) (pv 1)))) pss_nil) (pss_cons (ps_if (pt_cmpR op_eq (pv 0) pe_int (nomark _)) (pss_one (psR rfl (takes_of rfl rfl rfl rfl) (pmk_o1 PySem.F.excBase_ValueError (eT.pl 7 (by decide)).x eT.g.g7 (eT.pl 7 (by decide)).k (raises_own (eT.pl 7 (by decide)).b (eT.pl 7 (by decide)).t) (by rfl) (pv 1)))) pss_nil) (pss_cons (ps_if (pt_cmpR op_eq (pv 0) pe_int (nomark _)) (pss_one (psR rfl (takes_of rfl rfl rfl rfl) (pmk_o1 PySem.F.excBase_ValueError (eT.pl 8 (by decide)).x eT.g.g8 (eT.pl 8 (by decide)).k (raises_own (eT.pl 8 (by decide)).b (eT.pl 8 (by decide)).t) (by rfl) (pv 1)))) pss_nil) (pss_cons (ps_if (pt_cmpR op_eq (pv 0) pe_int (nomark _)) (pss_one (psR rfl (takes_of rfl rfl rfl rfl) (pmk_o1 PySem.F.excBase_ValueError (eT.pl 9 (by decide)).x eT.g.g9 (eT.pl 9 (by decide)).k (raises_own (eT.pl 9 (by decide)).b (eT.pl 9 (by decide)).t) (by rfl) (pv 1)))) pss_nil) (pss_cons (ps_if (pt_cmpR op_eq (pv 0) pe_int (nomark _)) (pss_one (psR rfl (takes_of rfl rfl rfl rfl) (pmk_o1 PySem.F.excBase_ValueError (eT.pl 10 (by decide)).x eT.g.g10 (eT.pl 10 (by decide)).k (raises_own (eT.pl 10 (by decide)).b (eT.pl 10 (by decide)).t) (by rfl) (pv 1)))) pss_nil) (pss_cons (ps_if (pt_cmpR op_eq (pv 0) pe_int (nomark _)) (pss_one (psR rfl (takes_of rfl rfl rfl rfl) (pmk_o1 PySem.F.excBase_ValueError (eT.pl 11 (by decide)).x eT.g.g11 (eT.pl 11 (by decide)).k (raises_own (eT.pl 11 (by decide)).b (eT.pl 11 (by decide)).t) (by rfl) (pv 1)))) pss_nil) (pss_one (psR rfl (takes_of rfl rfl rfl rfl) (pmk_o1 PySem.F.excBase_ValueError (eT.pl 12 (by decide)).x eT.g.g12 (eT.pl 12 (by decide)).k (raises_own (eT.pl 12 (by decide)).b (eT.pl 12 (by decide)).t) (by rfl) (pv 1)))))))))))))))), ?_⟩
  obtain ⟨w, hw, rfl, q⟩ := h
  wtm_at "go0"
  all_goals (rename_i hif; first
    | (have e : w = 0 := by omega); subst e; exact q
    | (have e : w = 1 := by omega); subst e; exact q
    | (have e : w = 2 := by omega); subst e; exact q
    | (have e : w = 3 := by omega); subst e; exact q
    | (have e : w = 4 := by omega); subst e; exact q
    | (have e : w = 5 := by omega); subst e; exact q
    | (have e : w = 6 := by omega); subst e; exact q
    | (have e : w = 7 := by omega); subst e; exact q
    | (have e : w = 8 := by omega); subst e; exact q
    | (have e : w = 9 := by omega); subst e; exact q
    | (have e : w = 10 := by omega); subst e; exact q
    | (have e : w = 11 := by omega); subst e; exact q
    | (have e : w = 12 := by omega); subst e; exact q)
/-- what an error of the second kind keeps -/
def kpt (w : Nat) (v2 v3 v4 v5 : V) : List (Str × V) := match w with
  | 18 => [("name", v2)]
  | 19 => [("index", v3)]
  | 20 => [("value", v3)]
  | 21 => [("name", v2)]
  | 22 => [("limit", v3)]
  | 23 => [("many", v3)]
  | 24 => [("name", v2)]
  | _ => [("point", v5), ("row_numbers", v4), ("rule_label", v2)]
def sp__law_second (K : PySem.W.Frag) (ca : Nat → Addr) : Sp := B5 fun v1 v2 v3 v4 v5 H Q E => ∃ w : Nat, 13 ≤ w ∧ w < 26 ∧ v1 = .int w ∧ (w < 18 → E (.ref (ca w)) none H) ∧ (18 ≤ w → ∀ d, H d = none → E (.ref (ca w)) (some d) (upd H d (.xd (kpt w v2 v3 v4 v5))))
abbrev s__law_second : Stmt := top 33
theorem sc__law_second : FnScope ["_law_which", "_law_text", "_law_number", "_law_rows", "_law_point"] ["_law_which", "_law_text", "_law_number", "_law_rows", "_law_point"] (defScope s__law_second) := ⟨rfl, rfl, rfl, by decide +kernel, rfl, by decide +kernel, by decide +kernel⟩
theorem ok__law_second {f : Addr} {fd : FuncData} (F : FnP K "_law_second" s__law_second f fd) (g : G mg) {ca : Nat → Addr} (eT : ErT P K mg ca) : FnOk P w K mg base (L2.CX P w) 2 f fd ["_law_which", "_law_text", "_law_number", "_law_rows", "_law_point"] (sp__law_second K ca) := by
  have nd := sc__law_second.nd
  obtain ⟨fI18, eS18⟩ := eT.s.s18
  obtain ⟨fI19, eS19⟩ := eT.s.s19
  obtain ⟨fI20, eS20⟩ := eT.s.s20
  obtain ⟨fI21, eS21⟩ := eT.s.s21
  obtain ⟨fI22, eS22⟩ := eT.s.s22
  obtain ⟨fI23, eS23⟩ := eT.s.s23
  obtain ⟨fI24, eS24⟩ := eT.s.s24
  obtain ⟨fI25, eS25⟩ := eT.s.s25
  refine F.ok sc__law_second (fun vs H Q E h => h.len) (fun cdv A outer s H vs Q E hr h => ?_)
  obtain ⟨v1, v2, v3, v4, v5, rfl, h⟩ := h
  refine ⟨_, (pss_cons (ps_if (pt_cmpR op_eq (pv 0) pe_int (nomark _)) (pss_one (psR rfl (takes_of rfl rfl rfl rfl) (pmk_o1 PySem.F.excBase_ValueError (eT.pl 13 (by decide)).x eT.g.g13 (eT.pl 13 (by decide)).k (raises_own (eT.pl 13 (by decide)).b (eT.pl 13 (by decide)).t) (by rfl) (pv 1)))) pss_nil) (pss_cons (ps_if (pt_cmpR op_eq (pv 0) pe_int (nomark _)) (pss_one (psR rfl (takes_of rfl rfl rfl rfl) (pmk_o1 PySem.F.excBase_ValueError (eT.pl 14 (by decide)).x eT.g.g14 (eT.pl 14 (by decide)).k (raises_own (eT.pl 14 (by decide)).b (eT.pl 14 (by decide)).t) (by rfl) (pv 1)))) pss_nil) (pss_cons (ps_if (pt_cmpR op_eq (pv 0) pe_int (nomark _)) (pss_one (psR rfl (takes_of rfl rfl rfl rfl) (pmk_o1 PySem.F.excBase_ValueError (eT.pl 15 (by decide)).x eT.g.g15 (eT.pl 15 (by decide)).k (raises_own (eT.pl 15 (by decide)).b (eT.pl 15 (by decide)).t) (by rfl) (pv 1)))) pss_nil) (pss_cons (ps_if (pt_cmpR op_eq (pv 0) pe_int (nomark _)) (pss_one (psR rfl (takes_of rfl rfl rfl rfl) (pmk_o1 PySem.F.excBase_ValueError (eT.pl 16 (by decide)).x eT.g.g16 (eT.pl 16 (by decide)).k (raises_own (eT.pl 16 (by decide)).b (eT.pl 16 (by decide)).t) (by rfl) (pv 1)))) pss_nil) (pss_cons (ps_if (pt_cmpR op_eq (pv 0) pe_int (nomark _)) (pss_one (psR rfl (takes_of rfl rfl rfl rfl) (pmk_o1 PySem.F.excBase_ValueError (eT.pl 17 (by decide)).x eT.g.g17 (eT.pl 17 (by decide)).k (raises_own (eT.pl 17 (by decide)).b (eT.pl 17 (by decide)).t) (by rfl) (pv 1)))) pss_nil) (pss_cons (ps_if (pt_cmpR op_eq (pv 0) pe_int (nomark _)) (pss_one (psR rfl (takes_of rfl rfl rfl rfl) (pmk_sup1 (k := 0) eS18 eT.s.i18 (BaseF.of PySem.F.excBase_ValueError) PySem.W.kxs_ValueError PySem.F.store_ValueError g.f_super eT.s.t18a (hr.mono (by decide)) (by rfl) eT.g.g18 (pv 1)))) pss_nil) (pss_cons (ps_if (pt_cmpR op_eq (pv 0) pe_int (nomark _)) (pss_one (psR rfl (takes_of rfl rfl rfl rfl) (pmk_sup1 (k := 0) eS19 eT.s.i19 (BaseF.of PySem.F.excBase_ValueError) PySem.W.kxs_ValueError PySem.F.store_ValueError g.f_super eT.s.t19a (hr.mono (by decide)) (by rfl) eT.g.g19 (pv 2)))) pss_nil) (pss_cons (ps_if (pt_cmpR op_eq (pv 0) pe_int (nomark _)) (pss_one (psR rfl (takes_of rfl rfl rfl rfl) (pmk_sup1 (k := 0) eS20 eT.s.i20 (BaseF.of PySem.F.excBase_IndexError) PySem.W.kxs_IndexError PySem.F.store_IndexError g.f_super eT.s.t20a (hr.mono (by decide)) (by rfl) eT.g.g20 (pv 2)))) pss_nil) (pss_cons (ps_if (pt_cmpR op_eq (pv 0) pe_int (nomark _)) (pss_one (psR rfl (takes_of rfl rfl rfl rfl) (pmk_sup1 (k := 0) eS21 eT.s.i21 keBase keKxs keStore g.f_super eT.s.t21a (hr.mono (by decide)) (by rfl) eT.g.g21 (pv 1)))) pss_nil) (pss_cons (ps_if (pt_cmpR op_eq (pv 0) pe_int (nomark _)) (pss_one (psR rfl (takes_of rfl rfl rfl rfl) (pmk_sup1 (k := 0) eS22 eT.s.i22 (BaseF.of PySem.F.excBase_OverflowError) PySem.W.kxs_OverflowError PySem.F.store_OverflowError g.f_super eT.s.t22a (hr.mono (by decide)) (by rfl) eT.g.g22 (pv 2)))) pss_nil) (pss_cons (ps_if (pt_cmpR op_eq (pv 0) pe_int (nomark _)) (pss_one (psR rfl (takes_of rfl rfl rfl rfl) (pmk_sup1 (k := 0) eS23 eT.s.i23 (BaseF.of PySem.F.excBase_LookupError) PySem.W.kxs_LookupError PySem.F.store_LookupError g.f_super eT.s.t23a (hr.mono (by decide)) (by rfl) eT.g.g23 (pv 2)))) pss_nil) (pss_cons (ps_if (pt_cmpR op_eq (pv 0) pe_int (nomark _)) (pss_one (psR rfl (takes_of rfl rfl rfl rfl) (pmk_sup1 (k := 0) eS24 eT.s.i24 (BaseF.of PySem.F.excBase_RuntimeError) PySem.W.kxs_RuntimeError PySem.F.store_RuntimeError g.f_super eT.s.t24a (hr.mono (by decide)) (by rfl) eT.g.g24 (pv 1)))) pss_nil) (pss_one (psR rfl (takes_of rfl rfl rfl rfl) (pmk_sup3 (k := 0) eS25 eT.s.i25 (BaseF.of PySem.F.excBase_ArithmeticError) PySem.W.kxs_ArithmeticError PySem.F.store_ArithmeticError g.f_super eT.s.t25a eT.s.t25b eT.s.t25c (hr.mono (by decide)) (by rfl) eT.g.g25 (pa_cons (pv 1) (pa_cons (pv 3) (pa_cons (pv 4) pa_nil)))))))))))))))))), ?_⟩
  obtain ⟨w, hw1, hw2, rfl, q1, q2⟩ := h
  wtm_at "go0"
  all_goals (first
    | (have e : w = 13 := by omega); subst e; first | exact q1 (by decide) | exact q2 (by decide) | exact ⟨_, _, _, rfl, q2 (by decide)⟩
    | (have e : w = 14 := by omega); subst e; first | exact q1 (by decide) | exact q2 (by decide) | exact ⟨_, _, _, rfl, q2 (by decide)⟩
    | (have e : w = 15 := by omega); subst e; first | exact q1 (by decide) | exact q2 (by decide) | exact ⟨_, _, _, rfl, q2 (by decide)⟩
    | (have e : w = 16 := by omega); subst e; first | exact q1 (by decide) | exact q2 (by decide) | exact ⟨_, _, _, rfl, q2 (by decide)⟩
    | (have e : w = 17 := by omega); subst e; first | exact q1 (by decide) | exact q2 (by decide) | exact ⟨_, _, _, rfl, q2 (by decide)⟩
    | (have e : w = 18 := by omega); subst e; first | exact q1 (by decide) | exact q2 (by decide) | exact ⟨_, _, _, rfl, q2 (by decide)⟩
    | (have e : w = 19 := by omega); subst e; first | exact q1 (by decide) | exact q2 (by decide) | exact ⟨_, _, _, rfl, q2 (by decide)⟩
    | (have e : w = 20 := by omega); subst e; first | exact q1 (by decide) | exact q2 (by decide) | exact ⟨_, _, _, rfl, q2 (by decide)⟩
    | (have e : w = 21 := by omega); subst e; first | exact q1 (by decide) | exact q2 (by decide) | exact ⟨_, _, _, rfl, q2 (by decide)⟩
    | (have e : w = 22 := by omega); subst e; first | exact q1 (by decide) | exact q2 (by decide) | exact ⟨_, _, _, rfl, q2 (by decide)⟩
    | (have e : w = 23 := by omega); subst e; first | exact q1 (by decide) | exact q2 (by decide) | exact ⟨_, _, _, rfl, q2 (by decide)⟩
    | (have e : w = 24 := by omega); subst e; first | exact q1 (by decide) | exact q2 (by decide) | exact ⟨_, _, _, rfl, q2 (by decide)⟩
    | (have e : w = 25 := by omega); subst e; first | exact q1 (by decide) | exact q2 (by decide) | exact ⟨_, _, _, rfl, q2 (by decide)⟩)
theorem use__law_first {ca : Nat → Addr} {w : Nat} (hw : w < 13) (q : E (.ref (ca w)) none H) : sp__law_first K ca [.int w, v2] H Q E := ⟨_, _, rfl, w, hw, rfl, q⟩
theorem use__law_second {ca : Nat → Addr} {w : Nat} (h1 : 13 ≤ w) (h2 : w < 26) (q1 : w < 18 → E (.ref (ca w)) none H) (q2 : 18 ≤ w → ∀ d, H d = none → E (.ref (ca w)) (some d) (upd H d (.xd (kpt w v2 v3 v4 v5)))) : sp__law_second K ca [.int w, v2, v3, v4, v5] H Q E := ⟨_, _, _, _, _, rfl, w, h1, h2, rfl, q1, q2⟩
end
end Wb

namespace Wb
open PySem PySem.Spec PyProof.Rows L2 L2H
open Evl (Ex Ex.refl Ex.trans Ex.new)
local macro_rules | `(tactic| wtm_at "dp") => `(tactic| first | with_reducible assumption | with_reducible exact Dp.int _ | with_reducible exact Dp.bl _ | with_reducible exact Dp.str _ | with_reducible exact Dp.non | ((with_reducible refine' dpMono ?dme (by with_reducible assumption)); (case dme => wtm_at "ex")) | ((with_reducible refine' Dp.tup (Evl.st_of ?dph) ?dpa); (case dph => wtm_at "hs"); (case dpa => wtm_at "dpa")) | ((with_reducible refine' Dp.lst (Evl.sq_of ?dph) ?dpa); (case dph => wtm_at "hs"); (case dpa => wtm_at "dpa")))
local macro_rules | `(tactic| wtm_at "dpa") => `(tactic| first | with_reducible exact DpAll.nil | ((with_reducible refine' DpAll.cons ?dp1 ?dp2); (case dp1 => wtm_at "dp"); (case dp2 => wtm_at "dpa")) | with_reducible assumption | ((with_reducible refine' dpMonoA ?dme (by with_reducible assumption)); (case dme => wtm_at "ex")))
local macro_rules | `(tactic| wtm_at "sz") => `(tactic| first | with_reducible assumption | ((with_reducible refine' sz_mul ?sz1 ?sz2); (case sz1 => wtm_at "sz"); (case sz2 => wtm_at "sz")) | ((with_reducible refine' sz_add ?sz1 ?sz2); (case sz1 => wtm_at "sz"); (case sz2 => wtm_at "sz")) | ((with_reducible refine' sz_sub ?sz1 ?sz2); (case sz1 => wtm_at "sz"); (case sz2 => wtm_at "sz")) | ((with_reducible refine' sz_neg ?sz1); (case sz1 => wtm_at "sz")) | ((with_reducible refine' sz_div ?sz1); (case sz1 => wtm_at "sz")) | ((with_reducible refine' sz_fdiv ?sz1); (case sz1 => wtm_at "sz")) | exact sz_lit (by decide) | wtm_at "sz2")
local macro_rules | `(tactic| wtm_at "szb") => `(tactic| first | with_reducible assumption | ((with_reducible refine' sz_mono ?szb1 ?szb2); (case szb1 => wtm_at "sz"); (case szb2 => decide)))
local macro_rules | `(tactic| wtm_at "nz") => `(tactic| first | assumption | decide | omega)
local macro_rules | `(tactic| wtm_at "shaped") => `(tactic| first | rfl | decide)
local macro_rules | `(tactic| wtm_at "sset") => `(tactic| ((dsimp only [L2.wipe, List.set, List.set_cons_zero, List.set_cons_succ]) <;> exact rfl))
local macro_rules | `(tactic| wtm_at "nrm") => `(tactic| dsimp only [L2.start, L2.wipe, List.set, List.append, List.map, List.map_cons, List.map_nil, List.length_cons, List.length_nil, Nat.reduceAdd, Nat.reduceSub, List.reduceReplicate, List.replicate, List.cons_append, List.nil_append, List.set_cons_zero, List.set_cons_succ])
local macro_rules | `(tactic| wtm_at "st") => `(tactic| first
  | ((with_reducible refine' i_var (v := ?u0) ?u1 ?uq); (case u1 => exact rfl))
  | ((with_reducible refine' i_nameN ?u0 ?uq); (case u0 => wtm_at "sset"))
  | (with_reducible refine' i_op ?uq)
  | (with_reducible refine' i_c ?uq)
  | (with_reducible refine' i_I0 ?uq)
  | ((with_reducible refine' i_ixTI (i := ?u0) ?u1 ?u2 ?u3 ?uq); (case u1 => wtm_at "dp"); (case u2 => wtm_at "ex"); (case u3 => exact rfl))
  | ((with_reducible refine' i_ixT (d := ?u0) ?u1 ?u2 ?u3 (fun xu hxu => ?uq)); (case u1 => wtm_at "dp"); (case u2 => wtm_at "ex"); (case u3 => exact rfl))
  | ((with_reducible refine' i_mul ?u0 ?u1 ?u2 ?uq); (case u0 => wtm_at "sz"); (case u1 => wtm_at "sz"); (case u2 => first | decide | omega))
  | (with_reducible refine' i_seq ?uq)
  | (with_reducible refine' i_asg ?uq)
  | (with_reducible refine' i_ret ?uq)
  | (with_reducible refine' i_ifs ?uq)
  | (with_reducible refine' i_drop ?uq)
  | (with_reducible refine' i_next ?uq)
  | (with_reducible refine' i_cons ?uq)
  | (with_reducible refine' i_nil ?uq)
  | (with_reducible refine' i_cl ?uq)
  | (with_reducible refine' i_cb ?uq)
  | (with_reducible refine' i_tup ?uq)
  | (with_reducible refine' i_lst ?uq)
  | ((with_reducible refine' i_mkT ?u0 (fun np nH nhe nhp => ?uq)); (case u0 => exact Nat.le_of_ble_eq_true rfl))
  | (with_reducible refine' i_test ?uq)
  | (with_reducible refine' i_B ?uq)
  | (with_reducible refine' i_k ?uq)
  | (with_reducible refine' i_and ?uq)
  | (with_reducible refine' i_or ?uq)
  | (with_reducible refine' i_not ?uq)
  | (with_reducible refine' i_andV ?uq)
  | (with_reducible refine' i_orV ?uq)
  | (with_reducible refine' i_notV ?uq)
  | (with_reducible refine' i_if ?uq)
  | (with_reducible refine' i_un ?uq)
  | (with_reducible refine' i_U ?uq)
  | (with_reducible refine' i_iteT ?uq)
  | (with_reducible refine' i_iteF ?uq)
  | ((with_reducible refine' i_iteTr ?u0 ?uq); (case u0 => first | with_reducible rfl | decide | (simp only [dIsInt, dIsBool, dIsTup, dIsStr, dIsLst, Bool.not_true, Bool.not_false]; done)))
  | ((with_reducible refine' i_iteFr ?u0 ?uq); (case u0 => first | with_reducible rfl | decide | (simp only [dIsInt, dIsBool, dIsTup, dIsStr, dIsLst, Bool.not_true, Bool.not_false]; done)))
  | (with_reducible refine' i_ite (fun hif => ?uqa) (fun hif => ?uqb))
  | (with_reducible refine' i_iteN (fun hif => ?uqa) (fun hif => ?uqb))
  | (with_reducible refine' i_iteBN (fun hif => ?uqa) (fun hif => ?uqb))
  | (with_reducible refine' i_iteB (fun hif => ?uqa) (fun hif => ?uqb))
  | ((with_reducible refine' i_modN ?u0 ?uq); (case u0 => wtm_at "nz"))
  | ((with_reducible refine' i_fdX ?u0 ?u1 ?u2 ?uq); (case u0 => wtm_at "nz"); (case u1 => wtm_at "sz"); (case u2 => first | decide | omega))
  | ((with_reducible refine' i_pow ?u0 ?uq); (case u0 => exact ⟨by decide, by decide +kernel⟩))
  | (with_reducible refine' i_eqI ?uq)
  | (with_reducible refine' i_neI ?uq)
  | (with_reducible refine' i_gcd ?uq)
  | (with_reducible refine' i_qabs ?uq)
  | (with_reducible refine' i_qint ?uq)
  | (with_reducible refine' i_qintB ?uq)
  | (with_reducible refine' i_qmax2 ?uq)
  | (with_reducible refine' i_qmin2 ?uq)
  | (with_reducible refine' i_isB ?uq)
  | (with_reducible refine' i_notB ?uq)
  | (with_reducible refine' i_chain ?uq)
  | (with_reducible refine' i_qisN ?uq)
  | (with_reducible refine' i_qnotN ?uq)
  | (with_reducible refine' i_yes ?uq)
  | (with_reducible refine' i_par ?uq)
  | (with_reducible refine' i_par3 ?uq)
  | ((with_reducible refine' i_par2 ?u0 ?uq); (case u0 => wtm_at "sset"))
  | ((with_reducible refine' i_par33 ?u0 ?uq); (case u0 => wtm_at "sset"))
  | ((with_reducible refine' i_ixLI (i := ?u0) ?u1 ?u2 ?u3 ?uq); (case u1 => wtm_at "dp"); (case u2 => wtm_at "ex"); (case u3 => exact rfl))
  | ((with_reducible refine' i_ixL (d := ?u0) ?u1 ?u2 ?u3 (fun xu hxu => ?uq)); (case u1 => wtm_at "dp"); (case u2 => wtm_at "ex"); (case u3 => exact rfl))
  | ((with_reducible refine' i_qlenT ?u0 ?uq); (case u0 => wtm_at "dp"))
  | ((with_reducible refine' i_qlenL ?u0 ?uq); (case u0 => wtm_at "dp"))
  | ((with_reducible refine' i_gtup ?u0 ?u1 ?u2 (fun gvs gdp => ?uq)); (case u0 => wtm_at "dp"); (case u1 => wtm_at "ex"); (case u2 => exact rfl))
  | ((with_reducible refine' i_glst ?u0 ?u1 ?u2 (fun gvs gdp => ?uq)); (case u0 => wtm_at "dp"); (case u1 => wtm_at "ex"); (case u2 => exact rfl))
  | ((with_reducible refine' i_gconsI ?u0 (fun gr gh => ?uq)); (case u0 => with_reducible assumption))
  | ((with_reducible refine' i_gconsA ?u0 (fun gv gr gh1 gh2 => ?uq)); (case u0 => with_reducible assumption))
  | ((with_reducible refine' i_gnilA ?u0 ?uq); (case u0 => with_reducible assumption))
  | ((with_reducible refine' i_isiI ?u0 ?uq); (case u0 => wtm_at "dp"))
  | ((with_reducible refine' i_isiB ?u0 ?uq); (case u0 => wtm_at "dp"))
  | ((with_reducible refine' i_isiT ?u0 ?uq); (case u0 => wtm_at "dp"))
  | ((with_reducible refine' i_isiS ?u0 ?uq); (case u0 => wtm_at "dp"))
  | ((with_reducible refine' i_isiL ?u0 ?uq); (case u0 => wtm_at "dp"))
  | ((with_reducible refine' i_eqD ?u0 ?u1 ?u2 ?u3 ?uq); (case u0 => wtm_at "dp"); (case u1 => wtm_at "dp"); (case u2 => wtm_at "shaped"); (case u3 => wtm_at "shaped"))
  | ((with_reducible refine' i_neD ?u0 ?u1 ?u2 ?u3 ?uq); (case u0 => wtm_at "dp"); (case u1 => wtm_at "dp"); (case u2 => wtm_at "shaped"); (case u3 => wtm_at "shaped"))
  | wtm_at "st2"
  | wtm_at "use")
local macro_rules | `(tactic| wtm_at "go") => `(tactic| repeat' (wtm_at "st"))
local macro_rules | `(tactic| wtm_at "go0") => `(tactic| ((try dsimp only [L2.cxOf, L2.Cx.nox, L2.Cx.wish, L2.Cx.tr, L2.Cx.blk]); (try wtm_at "nrm"); wtm_at "go"))
local macro_rules | `(tactic| wtm_at "fin") => `(tactic| ((try dsimp only); first | with_reducible assumption | assumption | ((with_reducible refine' Ret.use ?rur ?rue ?rud); (case rur => with_reducible assumption); (case rue => wtm_at "ex"); (case rud => wtm_at "dp"))))
local macro_rules | `(tactic| wtm_at "exh") => `(tactic| first | with_reducible assumption | with_reducible exact Ex.refl _ | with_reducible exact ex_hid | ((with_reducible refine' Ex.trans ?exe (by with_reducible assumption)); (case exe => wtm_at "exh")) | ((with_reducible refine' Ex.trans ?exe (hid_ex (by with_reducible assumption))); (case exe => wtm_at "exh")))
local macro_rules | `(tactic| wtm_at "ex") => `(tactic| first | with_reducible assumption | with_reducible exact Ex.refl _ | with_reducible exact ex_hid | ((with_reducible refine' Ex.trans ?exe (by with_reducible assumption)); (case exe => wtm_at "ex")) | ((with_reducible refine' Ex.trans ?exe (hid_ex (by with_reducible assumption))); (case exe => wtm_at "ex")) | ((with_reducible refine' Ex.trans ?exe ex_hid); (case exe => wtm_at "exh")))
local macro_rules | `(tactic| wtm_at "bag") => `(tactic| first | with_reducible assumption | ((with_reducible refine' Bag.mono ?bgm (by with_reducible assumption)); (case bgm => wtm_at "bag")))
local macro_rules | `(tactic| wtm_at "hs") => `(tactic| first | with_reducible assumption | ((with_reducible refine' hid_tup ?hb ?hp); (case hp => with_reducible assumption); (case hb => wtm_at "bag")) | ((with_reducible refine' hid_new ?hb ?hn ?hp); (case hp => with_reducible assumption); (case hn => with_reducible assumption); (case hb => wtm_at "bag")) | ((with_reducible refine' ex_at ?exe (by with_reducible assumption)); (case exe => wtm_at "ex")))
local macro_rules | `(tactic| wtm_at "st2") => `(tactic| first
  | ((with_reducible refine' i_mulC ?u0 ?uq); (case u0 => first | exact cmul_l (by decide) | exact cmul_r (by decide)))
  | ((with_reducible refine' i_ixLr (v := ?u0) ?u1 ?u2 ?uq); (case u1 => with_reducible assumption); (case u2 => exact rfl))
  | (with_reducible refine' i_sub ?uq)
  | ((with_reducible refine' i_mkL ?u0 (fun np nH nfr nhe nhp => ?uq)); (case u0 => exact Nat.le_of_ble_eq_true rfl))
  | ((with_reducible refine' i_setL (n := ?u0) ?u1 ?u2 (fun sH sh se => ?uq)); (case u1 => with_reducible assumption); (case u2 => exact rfl))
  | (with_reducible refine' i_sl ?uq)
  | (with_reducible refine' i_nopart ?uq)
  | (with_reducible refine' i_part ?uq)
  | (with_reducible refine' i_part1 ?uq))
local macro_rules | `(tactic| wtm_at "sz2") => `(tactic| ((with_reducible refine' sz_fmod ?sz1 ?sz2); (case sz1 => wtm_at "nz"); (case sz2 => wtm_at "sz")))
local macro_rules | `(tactic| wtm_at "stb") => `(tactic| first
  | ((with_reducible refine' i_mkTB ?u0 ?u1 (fun np nH nhe nhb nhp => ?uq)); (case u0 => exact Nat.le_of_ble_eq_true rfl); (case u1 => wtm_at "bag"))
  | ((with_reducible refine' i_mkLB ?u0 ?u1 (fun np nH nfr nhe nhb nhp => ?uq)); (case u0 => exact Nat.le_of_ble_eq_true rfl); (case u1 => wtm_at "bag"))
  | wtm_at "st")
local macro_rules | `(tactic| wtm_at "gob") => `(tactic| repeat' (wtm_at "stb"))
local macro_rules | `(tactic| wtm_at "gob0") => `(tactic| ((try dsimp only [L2.cxOf, L2.Cx.nox, L2.Cx.wish, L2.Cx.tr, L2.Cx.blk]); (try wtm_at "nrm"); wtm_at "gob"))
section
variable {P : Program} {w : World} {K : PySem.W.Frag} {mg : Str → Option Value} {base : Heap} {H H' : Hp} {Q : VK} {E : XK} {v1 v2 v3 v4 v5 : V}
def XdK (H : Hp) (d : Option Addr) : Prop := ∀ dd, d = some dd → ∃ fs, H dd = some (.xd fs)
theorem XdK.up {d : Option Addr} (x : XdK H d) (e : Ex H H') : XdK H' d := fun dd hd => by
  obtain ⟨fs, h⟩ := x dd hd
  exact ⟨fs, e _ _ h⟩
theorem i_isC {ca : Nat → Addr} (eT : ErT P K mg ca) {p : Addr × Obj} {w' : Nat} {d : Option Addr} {j : Nat} (hw : w' < 26) (hz : Zc (.ref (ca w')) d p.2) (hf : ∃ vs, p.2.data = .fields vs) (hj : j < 26) (hd : XdK H d) (q : Q (.bl (isC w' j)) H) : rIsP K p [.ref p.1, .ref (ca j)] H Q :=
  ⟨ca w', d, .ref (ca j), .ref (ca j), isC w' j, rfl, hz, hf, hd, eT.ec w' hw, fun u r => r, eT.kit w' j hw hj, q⟩
theorem i_isBt {ca : Nat → Addr} (eT : ErT P K mg ca) {p : Addr × Obj} {w' : Nat} {d : Option Addr} {T : String} (k : Nat) (hT : tyN k = T) (hw : w' < 26) (hz : Zc (.ref (ca w')) d p.2) (hf : ∃ vs, p.2.data = .fields vs) (hj : k < 7) (hd : XdK H d) (q : Q (.bl (isB w' k)) H) : rIsP K p [.ref p.1, .ty T] H Q := by
  subst hT
  exact ⟨ca w', d, .ty (tyN k), .type (tyN k), isB w' k, rfl, hz, hf, hd, eT.ec w' hw, fun u r => r, eT.kb w' k hw hj, q⟩
local macro_rules | `(tactic| wtm_at "xd") => `(tactic| first | with_reducible assumption | ((with_reducible refine' XdK.up (by with_reducible assumption) ?xdu); (case xdu => wtm_at "ex")))
local macro_rules | `(tactic| wtm_at "st2") => `(tactic| (first | ((with_reducible refine' i_isC (by assumption) ?u0 ?u1 ?u2 ?u3 ?u4 ?uq); (case u0 => with_reducible assumption); (case u1 => with_reducible assumption); (case u2 => with_reducible assumption); (case u3 => decide); (case u4 => wtm_at "xd")) | fail))
local macro_rules | `(tactic| wtm_at "st") => `(tactic| (first | ((with_reducible refine' i_mkL ?u0 (fun np nH nfr nhe nhp => ?uq)); (case u0 => exact Nat.le_of_ble_eq_true rfl)) | fail))
local macro_rules | `(tactic| wtm_at "st2") => `(tactic| (first | ((with_reducible refine' i_cat ?u0 ?u1 ?u2 ?u3 (fun np nH nfr nhe nhp => ?uq)); (case u0 => wtm_at "hs"); (case u1 => wtm_at "hs"); (case u2 => exact Nat.le_of_ble_eq_true rfl); (case u3 => ((dsimp only [List.cons_append, List.nil_append]) <;> exact rfl))) | fail))
local macro_rules | `(tactic| wtm_at "st2") => `(tactic| (first | ((with_reducible refine' i_isBt (T := "ValueError") (by assumption) 0 rfl ?u0 ?u1 ?u2 ?u3 ?u4 ?uq); (case u0 => with_reducible assumption); (case u1 => with_reducible assumption); (case u2 => with_reducible assumption); (case u3 => decide); (case u4 => wtm_at "xd")) | fail))
local macro_rules | `(tactic| wtm_at "st2") => `(tactic| (first | ((with_reducible refine' i_isBt (T := "IndexError") (by assumption) 1 rfl ?u0 ?u1 ?u2 ?u3 ?u4 ?uq); (case u0 => with_reducible assumption); (case u1 => with_reducible assumption); (case u2 => with_reducible assumption); (case u3 => decide); (case u4 => wtm_at "xd")) | fail))
local macro_rules | `(tactic| wtm_at "st2") => `(tactic| (first | ((with_reducible refine' i_isBt (T := "KeyError") (by assumption) 2 rfl ?u0 ?u1 ?u2 ?u3 ?u4 ?uq); (case u0 => with_reducible assumption); (case u1 => with_reducible assumption); (case u2 => with_reducible assumption); (case u3 => decide); (case u4 => wtm_at "xd")) | fail))
local macro_rules | `(tactic| wtm_at "st2") => `(tactic| (first | ((with_reducible refine' i_isBt (T := "LookupError") (by assumption) 3 rfl ?u0 ?u1 ?u2 ?u3 ?u4 ?uq); (case u0 => with_reducible assumption); (case u1 => with_reducible assumption); (case u2 => with_reducible assumption); (case u3 => decide); (case u4 => wtm_at "xd")) | fail))
local macro_rules | `(tactic| wtm_at "st2") => `(tactic| (first | ((with_reducible refine' i_isBt (T := "OverflowError") (by assumption) 4 rfl ?u0 ?u1 ?u2 ?u3 ?u4 ?uq); (case u0 => with_reducible assumption); (case u1 => with_reducible assumption); (case u2 => with_reducible assumption); (case u3 => decide); (case u4 => wtm_at "xd")) | fail))
local macro_rules | `(tactic| wtm_at "st2") => `(tactic| (first | ((with_reducible refine' i_isBt (T := "ArithmeticError") (by assumption) 5 rfl ?u0 ?u1 ?u2 ?u3 ?u4 ?uq); (case u0 => with_reducible assumption); (case u1 => with_reducible assumption); (case u2 => with_reducible assumption); (case u3 => decide); (case u4 => wtm_at "xd")) | fail))
local macro_rules | `(tactic| wtm_at "st2") => `(tactic| (first | ((with_reducible refine' i_isBt (T := "RuntimeError") (by assumption) 6 rfl ?u0 ?u1 ?u2 ?u3 ?u4 ?uq); (case u0 => with_reducible assumption); (case u1 => with_reducible assumption); (case u2 => with_reducible assumption); (case u3 => decide); (case u4 => wtm_at "xd")) | fail))
def sp__law_classes (K : PySem.W.Frag) (ca : Nat → Addr) : Addr × Obj → Sp := fun p => A1 fun v1 H Q => ∃ (w : Nat) (d : Option Addr), w < 26 ∧ v1 = .ref p.1 ∧ Zc (.ref (ca w)) d p.2 ∧ (∃ vs, p.2.data = .fields vs) ∧ XdK H d ∧ ∀ v H2, Ex H H2 → Dp K H2 v (.list ((dueL w).map .bool)) → Q v H2
abbrev s__law_classes : Stmt := top 35
theorem sc__law_classes : FnScope ["_law_error", "_law_found"] ["_law_error"] (defScope s__law_classes) := ⟨rfl, rfl, rfl, by decide +kernel, rfl, by decide +kernel, by decide +kernel⟩
theorem ok__law_classes {f : Addr} {fd : FuncData} (F : FnP K "_law_classes" s__law_classes f fd) (g : G mg) {ca : Nat → Addr} (eT : ErT P K mg ca) : FnW P w K mg base 1 f fd ["_law_error"] (sp__law_classes K ca) := by
  have nd := sc__law_classes.nd
  refine fnW_ok F sc__law_classes (fun p vs H Q E h => h.len) (fun cdv A outer s H vs Q E p hr h => ?_)
  obtain ⟨v1, rfl, h⟩ := h
  refine ⟨_, (pss_cons (ps_set (i := 1) nd rfl (Or.inl rfl) (pe_lst (pa_cons (pe_callB (show CallR _ _ (rIsP K p) from call_isP (List.mem_singleton.mpr rfl)) (by rfl) g.f_isinstance boot_isinstance (pa_cons (pv 0) (pa_cons (pe_glob (v := .ref (ca 0)) (by rfl) eT.g.g0 rfl) pa_nil))) (pa_cons (pe_callB (show CallR _ _ (rIsP K p) from call_isP (List.mem_singleton.mpr rfl)) (by rfl) g.f_isinstance boot_isinstance (pa_cons (pv 0) (pa_cons (pe_glob (v := .ref (ca 1)) (by rfl) eT.g.g1 rfl) pa_nil))) (pa_cons (pe_callB (show CallR _ _ (rIsP K p) from call_isP (List.mem_singleton.mpr rfl)) (by rfl) g.f_isinstance boot_isinstance (pa_cons (pv 0) (pa_cons (pe_glob (v := .ref (ca 2)) (by rfl) eT.g.g2 rfl) pa_nil))) pa_nil))))) (pss_cons (ps_set (i := 1) nd rfl (Or.inl rfl) (pe_op op_cat (pv 1) (pe_lst (pa_cons (pe_callB (show CallR _ _ (rIsP K p) from call_isP (List.mem_singleton.mpr rfl)) (by rfl) g.f_isinstance boot_isinstance (pa_cons (pv 0) (pa_cons (pe_glob (v := .ref (ca 3)) (by rfl) eT.g.g3 rfl) pa_nil))) (pa_cons (pe_callB (show CallR _ _ (rIsP K p) from call_isP (List.mem_singleton.mpr rfl)) (by rfl) g.f_isinstance boot_isinstance (pa_cons (pv 0) (pa_cons (pe_glob (v := .ref (ca 4)) (by rfl) eT.g.g4 rfl) pa_nil))) (pa_cons (pe_callB (show CallR _ _ (rIsP K p) from call_isP (List.mem_singleton.mpr rfl)) (by rfl) g.f_isinstance boot_isinstance (pa_cons (pv 0) (pa_cons (pe_glob (v := .ref (ca 5)) (by rfl) eT.g.g5 rfl) pa_nil))) pa_nil)))))) (pss_cons (ps_set (i := 1) nd rfl (Or.inl rfl) (pe_op op_cat (pv 1) (pe_lst (pa_cons (pe_callB (show CallR _ _ (rIsP K p) from call_isP (List.mem_singleton.mpr rfl)) (by rfl) g.f_isinstance boot_isinstance (pa_cons (pv 0) (pa_cons (pe_glob (v := .ref (ca 6)) (by rfl) eT.g.g6 rfl) pa_nil))) (pa_cons (pe_callB (show CallR _ _ (rIsP K p) from call_isP (List.mem_singleton.mpr rfl)) (by rfl) g.f_isinstance boot_isinstance (pa_cons (pv 0) (pa_cons (pe_glob (v := .ref (ca 7)) (by rfl) eT.g.g7 rfl) pa_nil))) (pa_cons (pe_callB (show CallR _ _ (rIsP K p) from call_isP (List.mem_singleton.mpr rfl)) (by rfl) g.f_isinstance boot_isinstance (pa_cons (pv 0) (pa_cons (pe_glob (v := .ref (ca 8)) (by rfl) eT.g.g8 rfl) pa_nil))) pa_nil)))))) (pss_cons (ps_set (i := 1) nd rfl (Or.inl rfl) (pe_op op_cat (pv 1) (pe_lst (pa_cons (pe_callB (show CallR _ _ (rIsP K p) from call_isP (List.mem_singleton.mpr rfl)) (by rfl) g.f_isinstance boot_isinstance (pa_cons (pv 0) (pa_cons (pe_glob (v := .ref (ca 9)) (by rfl) eT.g.g9 rfl) pa_nil))) (pa_cons (pe_callB (show CallR _ _ (rIsP K p) from call_isP (List.mem_singleton.mpr rfl)) (by rfl) g.f_isinstance boot_isinstance (pa_cons (pv 0) (pa_cons (pe_glob (v := .ref (ca 10)) (by rfl) eT.g.g10 rfl) pa_nil))) (pa_cons (pe_callB (show CallR _ _ (rIsP K p) from call_isP (List.mem_singleton.mpr rfl)) (by rfl) g.f_isinstance boot_isinstance (pa_cons (pv 0) (pa_cons (pe_glob (v := .ref (ca 11)) (by rfl) eT.g.g11 rfl) pa_nil))) pa_nil)))))) (pss_cons (ps_set (i := 1) nd rfl (Or.inl rfl) (pe_op op_cat (pv 1) (pe_lst (pa_cons (pe_callB (show CallR _ _ (rIsP K p) from call_isP (List.mem_singleton.mpr rfl)) (by rfl) g.f_isinstance boot_isinstance (pa_cons (pv 0) (pa_cons (pe_glob (v := .ref (ca 12)) (by rfl) eT.g.g12 rfl) pa_nil))) (pa_cons (pe_callB (show CallR _ _ (rIsP K p) from call_isP (List.mem_singleton.mpr rfl)) (by rfl) g.f_isinstance boot_isinstance (pa_cons (pv 0) (pa_cons (pe_glob (v := .ref (ca 13)) (by rfl) eT.g.g13 rfl) pa_nil))) pa_nil))))) (pss_cons (ps_set (i := 1) nd rfl (Or.inl rfl) (pe_op op_cat (pv 1) (pe_lst (pa_cons (pe_callB (show CallR _ _ (rIsP K p) from call_isP (List.mem_singleton.mpr rfl)) (by rfl) g.f_isinstance boot_isinstance (pa_cons (pv 0) (pa_cons (pe_glob (v := .ref (ca 14)) (by rfl) eT.g.g14 rfl) pa_nil))) (pa_cons (pe_callB (show CallR _ _ (rIsP K p) from call_isP (List.mem_singleton.mpr rfl)) (by rfl) g.f_isinstance boot_isinstance (pa_cons (pv 0) (pa_cons (pe_glob (v := .ref (ca 15)) (by rfl) eT.g.g15 rfl) pa_nil))) (pa_cons (pe_callB (show CallR _ _ (rIsP K p) from call_isP (List.mem_singleton.mpr rfl)) (by rfl) g.f_isinstance boot_isinstance (pa_cons (pv 0) (pa_cons (pe_glob (v := .ref (ca 16)) (by rfl) eT.g.g16 rfl) pa_nil))) pa_nil)))))) (pss_cons (ps_set (i := 1) nd rfl (Or.inl rfl) (pe_op op_cat (pv 1) (pe_lst (pa_cons (pe_callB (show CallR _ _ (rIsP K p) from call_isP (List.mem_singleton.mpr rfl)) (by rfl) g.f_isinstance boot_isinstance (pa_cons (pv 0) (pa_cons (pe_glob (v := .ref (ca 17)) (by rfl) eT.g.g17 rfl) pa_nil))) (pa_cons (pe_callB (show CallR _ _ (rIsP K p) from call_isP (List.mem_singleton.mpr rfl)) (by rfl) g.f_isinstance boot_isinstance (pa_cons (pv 0) (pa_cons (pe_glob (v := .ref (ca 18)) (by rfl) eT.g.g18 rfl) pa_nil))) (pa_cons (pe_callB (show CallR _ _ (rIsP K p) from call_isP (List.mem_singleton.mpr rfl)) (by rfl) g.f_isinstance boot_isinstance (pa_cons (pv 0) (pa_cons (pe_glob (v := .ref (ca 19)) (by rfl) eT.g.g19 rfl) pa_nil))) pa_nil)))))) (pss_cons (ps_set (i := 1) nd rfl (Or.inl rfl) (pe_op op_cat (pv 1) (pe_lst (pa_cons (pe_callB (show CallR _ _ (rIsP K p) from call_isP (List.mem_singleton.mpr rfl)) (by rfl) g.f_isinstance boot_isinstance (pa_cons (pv 0) (pa_cons (pe_glob (v := .ref (ca 20)) (by rfl) eT.g.g20 rfl) pa_nil))) (pa_cons (pe_callB (show CallR _ _ (rIsP K p) from call_isP (List.mem_singleton.mpr rfl)) (by rfl) g.f_isinstance boot_isinstance (pa_cons (pv 0) (pa_cons (pe_glob (v := .ref (ca 21)) (by rfl) eT.g.g21 rfl) pa_nil))) (pa_cons (pe_callB (show CallR _ _ (rIsP K p) from call_isP (List.mem_singleton.mpr rfl)) (by rfl) g.f_isinstance boot_isinstance (pa_cons (pv 0) (pa_cons (pe_glob (v := .ref (ca 22)) (by rfl) eT.g.g22 rfl) pa_nil))) pa_nil)))))) (pss_cons (ps_set (i := 1) nd rfl (Or.inl rfl) (pe_op op_cat (pv 1) (pe_lst (pa_cons (pe_callB (show CallR _ _ (rIsP K p) from call_isP (List.mem_singleton.mpr rfl)) (by rfl) g.f_isinstance boot_isinstance (pa_cons (pv 0) (pa_cons (pe_glob (v := .ref (ca 23)) (by rfl) eT.g.g23 rfl) pa_nil))) (pa_cons (pe_callB (show CallR _ _ (rIsP K p) from call_isP (List.mem_singleton.mpr rfl)) (by rfl) g.f_isinstance boot_isinstance (pa_cons (pv 0) (pa_cons (pe_glob (v := .ref (ca 24)) (by rfl) eT.g.g24 rfl) pa_nil))) (pa_cons (pe_callB (show CallR _ _ (rIsP K p) from call_isP (List.mem_singleton.mpr rfl)) (by rfl) g.f_isinstance boot_isinstance (pa_cons (pv 0) (pa_cons (pe_glob (v := .ref (ca 25)) (by rfl) eT.g.g25 rfl) pa_nil))) pa_nil)))))) (pss_cons (ps_set (i := 1) nd rfl (Or.inl rfl) (pe_op op_cat (pv 1) (pe_lst (pa_cons (pe_callB (show CallR _ _ (rIsP K p) from call_isP (List.mem_singleton.mpr rfl)) (by rfl) g.f_isinstance boot_isinstance (pa_cons (pv 0) (pa_cons (pe_bltn (v := .ty "ValueError") (by rfl) g.f_ValueError (by decide +kernel) rfl) pa_nil))) (pa_cons (pe_callB (show CallR _ _ (rIsP K p) from call_isP (List.mem_singleton.mpr rfl)) (by rfl) g.f_isinstance boot_isinstance (pa_cons (pv 0) (pa_cons (pe_bltn (v := .ty "IndexError") (by rfl) g.f_IndexError (by decide +kernel) rfl) pa_nil))) (pa_cons (pe_callB (show CallR _ _ (rIsP K p) from call_isP (List.mem_singleton.mpr rfl)) (by rfl) g.f_isinstance boot_isinstance (pa_cons (pv 0) (pa_cons (pe_bltn (v := .ty "KeyError") (by rfl) g.f_KeyError (by decide +kernel) rfl) pa_nil))) pa_nil)))))) (pss_cons (ps_set (i := 1) nd rfl (Or.inl rfl) (pe_op op_cat (pv 1) (pe_lst (pa_cons (pe_callB (show CallR _ _ (rIsP K p) from call_isP (List.mem_singleton.mpr rfl)) (by rfl) g.f_isinstance boot_isinstance (pa_cons (pv 0) (pa_cons (pe_bltn (v := .ty "LookupError") (by rfl) g.f_LookupError (by decide +kernel) rfl) pa_nil))) (pa_cons (pe_callB (show CallR _ _ (rIsP K p) from call_isP (List.mem_singleton.mpr rfl)) (by rfl) g.f_isinstance boot_isinstance (pa_cons (pv 0) (pa_cons (pe_bltn (v := .ty "OverflowError") (by rfl) g.f_OverflowError (by decide +kernel) rfl) pa_nil))) pa_nil))))) (pss_one (ps_ret (pe_op op_cat (pv 1) (pe_lst (pa_cons (pe_callB (show CallR _ _ (rIsP K p) from call_isP (List.mem_singleton.mpr rfl)) (by rfl) g.f_isinstance boot_isinstance (pa_cons (pv 0) (pa_cons (pe_bltn (v := .ty "ArithmeticError") (by rfl) g.f_ArithmeticError (by decide +kernel) rfl) pa_nil))) (pa_cons (pe_callB (show CallR _ _ (rIsP K p) from call_isP (List.mem_singleton.mpr rfl)) (by rfl) g.f_isinstance boot_isinstance (pa_cons (pv 0) (pa_cons (pe_bltn (v := .ty "RuntimeError") (by rfl) g.f_RuntimeError (by decide +kernel) rfl) pa_nil))) pa_nil))))))))))))))))), ?_⟩
  obtain ⟨w', d, hw, rfl, hz, hf, hd, q⟩ := h
  wtm_at "go0"
  dsimp only
  refine q _ _ ?e1 (.lst (Evl.sq_of (by with_reducible assumption)) ?e2)
  case e1 => wtm_at "ex"
  case e2 => exact dp_bls (dueL w')
end
end Wb

namespace Wb
open PySem PySem.Spec PyProof.Rows L2 L2H
open Evl (Ex Ex.refl Ex.trans Ex.new)
local macro_rules | `(tactic| wtm_at "dp") => `(tactic| first | with_reducible assumption | with_reducible exact Dp.int _ | with_reducible exact Dp.bl _ | with_reducible exact Dp.str _ | with_reducible exact Dp.non | ((with_reducible refine' dpMono ?dme (by with_reducible assumption)); (case dme => wtm_at "ex")) | ((with_reducible refine' Dp.tup (Evl.st_of ?dph) ?dpa); (case dph => wtm_at "hs"); (case dpa => wtm_at "dpa")) | ((with_reducible refine' Dp.lst (Evl.sq_of ?dph) ?dpa); (case dph => wtm_at "hs"); (case dpa => wtm_at "dpa")))
local macro_rules | `(tactic| wtm_at "dpa") => `(tactic| first | with_reducible exact DpAll.nil | ((with_reducible refine' DpAll.cons ?dp1 ?dp2); (case dp1 => wtm_at "dp"); (case dp2 => wtm_at "dpa")) | with_reducible assumption | ((with_reducible refine' dpMonoA ?dme (by with_reducible assumption)); (case dme => wtm_at "ex")))
local macro_rules | `(tactic| wtm_at "sz") => `(tactic| first | with_reducible assumption | ((with_reducible refine' sz_mul ?sz1 ?sz2); (case sz1 => wtm_at "sz"); (case sz2 => wtm_at "sz")) | ((with_reducible refine' sz_add ?sz1 ?sz2); (case sz1 => wtm_at "sz"); (case sz2 => wtm_at "sz")) | ((with_reducible refine' sz_sub ?sz1 ?sz2); (case sz1 => wtm_at "sz"); (case sz2 => wtm_at "sz")) | ((with_reducible refine' sz_neg ?sz1); (case sz1 => wtm_at "sz")) | ((with_reducible refine' sz_div ?sz1); (case sz1 => wtm_at "sz")) | ((with_reducible refine' sz_fdiv ?sz1); (case sz1 => wtm_at "sz")) | exact sz_lit (by decide) | wtm_at "sz2")
local macro_rules | `(tactic| wtm_at "szb") => `(tactic| first | with_reducible assumption | ((with_reducible refine' sz_mono ?szb1 ?szb2); (case szb1 => wtm_at "sz"); (case szb2 => decide)))
local macro_rules | `(tactic| wtm_at "nz") => `(tactic| first | assumption | decide | omega)
local macro_rules | `(tactic| wtm_at "shaped") => `(tactic| first | rfl | decide)
local macro_rules | `(tactic| wtm_at "sset") => `(tactic| ((dsimp only [L2.wipe, List.set, List.set_cons_zero, List.set_cons_succ]) <;> exact rfl))
local macro_rules | `(tactic| wtm_at "nrm") => `(tactic| dsimp only [L2.start, L2.wipe, List.set, List.append, List.map, List.map_cons, List.map_nil, List.length_cons, List.length_nil, Nat.reduceAdd, Nat.reduceSub, List.reduceReplicate, List.replicate, List.cons_append, List.nil_append, List.set_cons_zero, List.set_cons_succ])
local macro_rules | `(tactic| wtm_at "st") => `(tactic| first
  | ((with_reducible refine' i_var (v := ?u0) ?u1 ?uq); (case u1 => exact rfl))
  | ((with_reducible refine' i_nameN ?u0 ?uq); (case u0 => wtm_at "sset"))
  | (with_reducible refine' i_op ?uq)
  | (with_reducible refine' i_c ?uq)
  | (with_reducible refine' i_I0 ?uq)
  | ((with_reducible refine' i_ixTI (i := ?u0) ?u1 ?u2 ?u3 ?uq); (case u1 => wtm_at "dp"); (case u2 => wtm_at "ex"); (case u3 => exact rfl))
  | ((with_reducible refine' i_ixT (d := ?u0) ?u1 ?u2 ?u3 (fun xu hxu => ?uq)); (case u1 => wtm_at "dp"); (case u2 => wtm_at "ex"); (case u3 => exact rfl))
  | ((with_reducible refine' i_mul ?u0 ?u1 ?u2 ?uq); (case u0 => wtm_at "sz"); (case u1 => wtm_at "sz"); (case u2 => first | decide | omega))
  | (with_reducible refine' i_seq ?uq)
  | (with_reducible refine' i_asg ?uq)
  | (with_reducible refine' i_ret ?uq)
  | (with_reducible refine' i_ifs ?uq)
  | (with_reducible refine' i_drop ?uq)
  | (with_reducible refine' i_next ?uq)
  | (with_reducible refine' i_cons ?uq)
  | (with_reducible refine' i_nil ?uq)
  | (with_reducible refine' i_cl ?uq)
  | (with_reducible refine' i_cb ?uq)
  | (with_reducible refine' i_tup ?uq)
  | (with_reducible refine' i_lst ?uq)
  | ((with_reducible refine' i_mkT ?u0 (fun np nH nhe nhp => ?uq)); (case u0 => exact Nat.le_of_ble_eq_true rfl))
  | (with_reducible refine' i_test ?uq)
  | (with_reducible refine' i_B ?uq)
  | (with_reducible refine' i_k ?uq)
  | (with_reducible refine' i_and ?uq)
  | (with_reducible refine' i_or ?uq)
  | (with_reducible refine' i_not ?uq)
  | (with_reducible refine' i_andV ?uq)
  | (with_reducible refine' i_orV ?uq)
  | (with_reducible refine' i_notV ?uq)
  | (with_reducible refine' i_if ?uq)
  | (with_reducible refine' i_un ?uq)
  | (with_reducible refine' i_U ?uq)
  | (with_reducible refine' i_iteT ?uq)
  | (with_reducible refine' i_iteF ?uq)
  | ((with_reducible refine' i_iteTr ?u0 ?uq); (case u0 => first | with_reducible rfl | decide | (simp only [dIsInt, dIsBool, dIsTup, dIsStr, dIsLst, Bool.not_true, Bool.not_false]; done)))
  | ((with_reducible refine' i_iteFr ?u0 ?uq); (case u0 => first | with_reducible rfl | decide | (simp only [dIsInt, dIsBool, dIsTup, dIsStr, dIsLst, Bool.not_true, Bool.not_false]; done)))
  | (with_reducible refine' i_ite (fun hif => ?uqa) (fun hif => ?uqb))
  | (with_reducible refine' i_iteN (fun hif => ?uqa) (fun hif => ?uqb))
  | (with_reducible refine' i_iteBN (fun hif => ?uqa) (fun hif => ?uqb))
  | (with_reducible refine' i_iteB (fun hif => ?uqa) (fun hif => ?uqb))
  | ((with_reducible refine' i_modN ?u0 ?uq); (case u0 => wtm_at "nz"))
  | ((with_reducible refine' i_fdX ?u0 ?u1 ?u2 ?uq); (case u0 => wtm_at "nz"); (case u1 => wtm_at "sz"); (case u2 => first | decide | omega))
  | ((with_reducible refine' i_pow ?u0 ?uq); (case u0 => exact ⟨by decide, by decide +kernel⟩))
  | (with_reducible refine' i_eqI ?uq)
  | (with_reducible refine' i_neI ?uq)
  | (with_reducible refine' i_gcd ?uq)
  | (with_reducible refine' i_qabs ?uq)
  | (with_reducible refine' i_qint ?uq)
  | (with_reducible refine' i_qintB ?uq)
  | (with_reducible refine' i_qmax2 ?uq)
  | (with_reducible refine' i_qmin2 ?uq)
  | (with_reducible refine' i_isB ?uq)
  | (with_reducible refine' i_notB ?uq)
  | (with_reducible refine' i_chain ?uq)
  | (with_reducible refine' i_qisN ?uq)
  | (with_reducible refine' i_qnotN ?uq)
  | (with_reducible refine' i_yes ?uq)
  | (with_reducible refine' i_par ?uq)
  | (with_reducible refine' i_par3 ?uq)
  | ((with_reducible refine' i_par2 ?u0 ?uq); (case u0 => wtm_at "sset"))
  | ((with_reducible refine' i_par33 ?u0 ?uq); (case u0 => wtm_at "sset"))
  | ((with_reducible refine' i_ixLI (i := ?u0) ?u1 ?u2 ?u3 ?uq); (case u1 => wtm_at "dp"); (case u2 => wtm_at "ex"); (case u3 => exact rfl))
  | ((with_reducible refine' i_ixL (d := ?u0) ?u1 ?u2 ?u3 (fun xu hxu => ?uq)); (case u1 => wtm_at "dp"); (case u2 => wtm_at "ex"); (case u3 => exact rfl))
  | ((with_reducible refine' i_qlenT ?u0 ?uq); (case u0 => wtm_at "dp"))
  | ((with_reducible refine' i_qlenL ?u0 ?uq); (case u0 => wtm_at "dp"))
  | ((with_reducible refine' i_gtup ?u0 ?u1 ?u2 (fun gvs gdp => ?uq)); (case u0 => wtm_at "dp"); (case u1 => wtm_at "ex"); (case u2 => exact rfl))
  | ((with_reducible refine' i_glst ?u0 ?u1 ?u2 (fun gvs gdp => ?uq)); (case u0 => wtm_at "dp"); (case u1 => wtm_at "ex"); (case u2 => exact rfl))
  | ((with_reducible refine' i_gconsI ?u0 (fun gr gh => ?uq)); (case u0 => with_reducible assumption))
  | ((with_reducible refine' i_gconsA ?u0 (fun gv gr gh1 gh2 => ?uq)); (case u0 => with_reducible assumption))
  | ((with_reducible refine' i_gnilA ?u0 ?uq); (case u0 => with_reducible assumption))
  | ((with_reducible refine' i_isiI ?u0 ?uq); (case u0 => wtm_at "dp"))
  | ((with_reducible refine' i_isiB ?u0 ?uq); (case u0 => wtm_at "dp"))
  | ((with_reducible refine' i_isiT ?u0 ?uq); (case u0 => wtm_at "dp"))
  | ((with_reducible refine' i_isiS ?u0 ?uq); (case u0 => wtm_at "dp"))
  | ((with_reducible refine' i_isiL ?u0 ?uq); (case u0 => wtm_at "dp"))
  | ((with_reducible refine' i_eqD ?u0 ?u1 ?u2 ?u3 ?uq); (case u0 => wtm_at "dp"); (case u1 => wtm_at "dp"); (case u2 => wtm_at "shaped"); (case u3 => wtm_at "shaped"))
  | ((with_reducible refine' i_neD ?u0 ?u1 ?u2 ?u3 ?uq); (case u0 => wtm_at "dp"); (case u1 => wtm_at "dp"); (case u2 => wtm_at "shaped"); (case u3 => wtm_at "shaped"))
  | wtm_at "st2"
  | wtm_at "use")
local macro_rules | `(tactic| wtm_at "go") => `(tactic| repeat' (wtm_at "st"))
local macro_rules | `(tactic| wtm_at "go0") => `(tactic| ((try dsimp only [L2.cxOf, L2.Cx.nox, L2.Cx.wish, L2.Cx.tr, L2.Cx.blk]); (try wtm_at "nrm"); wtm_at "go"))
local macro_rules | `(tactic| wtm_at "fin") => `(tactic| ((try dsimp only); first | with_reducible assumption | assumption | ((with_reducible refine' Ret.use ?rur ?rue ?rud); (case rur => with_reducible assumption); (case rue => wtm_at "ex"); (case rud => wtm_at "dp"))))
local macro_rules | `(tactic| wtm_at "exh") => `(tactic| first | with_reducible assumption | with_reducible exact Ex.refl _ | with_reducible exact ex_hid | ((with_reducible refine' Ex.trans ?exe (by with_reducible assumption)); (case exe => wtm_at "exh")) | ((with_reducible refine' Ex.trans ?exe (hid_ex (by with_reducible assumption))); (case exe => wtm_at "exh")))
local macro_rules | `(tactic| wtm_at "ex") => `(tactic| first | with_reducible assumption | with_reducible exact Ex.refl _ | with_reducible exact ex_hid | ((with_reducible refine' Ex.trans ?exe (by with_reducible assumption)); (case exe => wtm_at "ex")) | ((with_reducible refine' Ex.trans ?exe (hid_ex (by with_reducible assumption))); (case exe => wtm_at "ex")) | ((with_reducible refine' Ex.trans ?exe ex_hid); (case exe => wtm_at "exh")))
local macro_rules | `(tactic| wtm_at "bag") => `(tactic| first | with_reducible assumption | ((with_reducible refine' Bag.mono ?bgm (by with_reducible assumption)); (case bgm => wtm_at "bag")))
local macro_rules | `(tactic| wtm_at "hs") => `(tactic| first | with_reducible assumption | ((with_reducible refine' hid_tup ?hb ?hp); (case hp => with_reducible assumption); (case hb => wtm_at "bag")) | ((with_reducible refine' hid_new ?hb ?hn ?hp); (case hp => with_reducible assumption); (case hn => with_reducible assumption); (case hb => wtm_at "bag")) | ((with_reducible refine' ex_at ?exe (by with_reducible assumption)); (case exe => wtm_at "ex")))
local macro_rules | `(tactic| wtm_at "st2") => `(tactic| first
  | ((with_reducible refine' i_mulC ?u0 ?uq); (case u0 => first | exact cmul_l (by decide) | exact cmul_r (by decide)))
  | ((with_reducible refine' i_ixLr (v := ?u0) ?u1 ?u2 ?uq); (case u1 => with_reducible assumption); (case u2 => exact rfl))
  | (with_reducible refine' i_sub ?uq)
  | ((with_reducible refine' i_mkL ?u0 (fun np nH nfr nhe nhp => ?uq)); (case u0 => exact Nat.le_of_ble_eq_true rfl))
  | ((with_reducible refine' i_setL (n := ?u0) ?u1 ?u2 (fun sH sh se => ?uq)); (case u1 => with_reducible assumption); (case u2 => exact rfl))
  | (with_reducible refine' i_sl ?uq)
  | (with_reducible refine' i_nopart ?uq)
  | (with_reducible refine' i_part ?uq)
  | (with_reducible refine' i_part1 ?uq))
local macro_rules | `(tactic| wtm_at "sz2") => `(tactic| ((with_reducible refine' sz_fmod ?sz1 ?sz2); (case sz1 => wtm_at "nz"); (case sz2 => wtm_at "sz")))
local macro_rules | `(tactic| wtm_at "stb") => `(tactic| first
  | ((with_reducible refine' i_mkTB ?u0 ?u1 (fun np nH nhe nhb nhp => ?uq)); (case u0 => exact Nat.le_of_ble_eq_true rfl); (case u1 => wtm_at "bag"))
  | ((with_reducible refine' i_mkLB ?u0 ?u1 (fun np nH nfr nhe nhb nhp => ?uq)); (case u0 => exact Nat.le_of_ble_eq_true rfl); (case u1 => wtm_at "bag"))
  | wtm_at "st")
local macro_rules | `(tactic| wtm_at "gob") => `(tactic| repeat' (wtm_at "stb"))
local macro_rules | `(tactic| wtm_at "gob0") => `(tactic| ((try dsimp only [L2.cxOf, L2.Cx.nox, L2.Cx.wish, L2.Cx.tr, L2.Cx.blk]); (try wtm_at "nrm"); wtm_at "gob"))
section
variable {P : Program} {w : World} {K : PySem.W.Frag} {mg : Str → Option Value} {base : Heap} {H H' : Hp} {Q : VK} {E : XK} {v1 v2 v3 v4 v5 : V}
structure ClX (P : Program) (w : World) (K : PySem.W.Frag) (mg : Str → Option Value) (base : Heap) (k : Nat) (x : Str) (sp : Sp) : Prop where
  ex : ∃ (f : Addr) (fd : FuncData) (ps : List Str), FnOk P w K mg base (L2.CX P w) k f fd ps sp ∧ mg x = some (.ref f) ∧ PySem.W.keepIn K (.ref f) = true ∧ Binds K fd ps []
structure ClW (P : Program) (w : World) (K : PySem.W.Frag) (mg : Str → Option Value) (base : Heap) (k : Nat) (x : Str) (sp : Addr × Obj → Sp) : Prop where
  ex : ∃ (f : Addr) (fd : FuncData) (ps : List Str), FnW P w K mg base k f fd ps sp ∧ mg x = some (.ref f) ∧ PySem.W.keepIn K (.ref f) = true ∧ Binds K fd ps []
theorem pcX {X : Cx} {W : WX} {k j : Nat} {x : Str} {sp : Sp} {p pos : Pos} {e : Expr} {es : List Expr} {t : TA} (c : ClX X.prog X.w X.K X.mg X.base k x sp) (tk : Takes X W) (hr : Room j X.A) (hk : k ≤ j) (hg : Gl X x) (ha : PA X (e :: es) t)
    (hdb : (x == ("__debug__" : Str)) = false := by decide) (he : starEach (e :: es) X.env = (false, eval e X.env) :: starEach es X.env := by rfl) (hpl : (backTo pos (starEach es X.env)).any (·.1) = false := by rfl) :
    PE X (.Call (.Name x p) (e :: es) [] pos) (tCallS sp (WE W) t) := by
  obtain ⟨f, fd, ps, F, hm, kp, b⟩ := c.ex
  exact pe_callS F (hr.mono hk) hg hm kp b (fun σ => passAt tk σ) ha hdb he hpl
theorem i_cs {sp : Sp} {EE : L2.St → XK} {t : TA} {σ : L2.St} (q : t σ H fun vs H1 => sp vs H1 Q (EE σ)) : tCallS sp EE t σ H Q := q
local macro_rules | `(tactic| wtm_at "st2") => `(tactic| (with_reducible refine' i_cs ?uq))
/-- _law_classes(e) in a suite -/
def tClsE (K : PySem.W.Frag) (ca : Nat → Addr) (i : Nat) (a : Addr) (cls : Value) (d : Option Addr) : TE := fun σ H Q => σ[i]? = some (some (.ref a)) ∧ ∀ oe, Zc cls d oe → (∃ vs, oe.data = .fields vs) → sp__law_classes K ca (a, oe) [.ref a] H Q E0
theorem pe_clsE {X : Cx} {ca : Nat → Addr} {k i : Nat} {a : Addr} {oe : Obj} {cls : Value} {d : Option Addr} {x n : Str} {p pn pos : Pos} (c : ClW X.prog X.w X.K X.mg X.base k x (sp__law_classes X.K ca)) (hr : RoomH k X.A) (hp : (a, oe) ∈ X.pn) (hz : Zc cls d oe) (hf : ∃ vs, oe.data = .fields vs) (hg : Gl X x) (hv : PE X (.Name n pn) (tVar i))
    (hdb : (x == ("__debug__" : Str)) = false := by decide) (he : starEach [.Name n pn] X.env = (false, eval (.Name n pn) X.env) :: starEach [] X.env := by rfl) : PE X (.Call (.Name x p) [.Name n pn] [] pos) (tClsE X.K ca i a cls d) := by
  obtain ⟨f, fd, ps, F, hm, kp, b⟩ := c.ex
  have h0 := pe_callW (q := p) (pos := pos) F hr hp hg hm kp b (pa_cons hv pa_nil he) hdb he rfl
  exact ⟨fun pins s σ H Q I ⟨h1, h2⟩ => h0.run pins s σ H Q I ⟨.ref a, h1, h2 oe hz hf⟩⟩
theorem i_cla_no {c : Cla} {r : List Cla} {Wout : WX} {D : Ends} {cls : Value} {d : Option Addr} {σ : L2.St} (h : c.tst cls = some false) (q : wCla Wout D r cls d σ H) : wCla Wout D (c :: r) cls d σ H := ⟨false, h, (fun z => by cases z), fun _ => q⟩
theorem i_cla_yes {c : Cla} {r : List Cla} {Wout : WX} {D : Ends} {cls : Value} {d : Option Addr} {σ : L2.St} (h : c.tst cls = some true) (q : ∀ a, H a = none → c.ts a cls d (c.ends D) (c.st a σ) H) : wCla Wout D (c :: r) cls d σ H := ⟨true, h, fun _ => q, fun z => by cases z⟩
theorem exm_any {ca : Nat → Addr} (eT : ErT P K mg ca) {w : Nat} (hw : w < 26) : PySem.W.exmAny K (.ref (ca w)) [.ref (ca 20), .ref (ca 21), .ref (ca 22), .ref (ca 23), .ref (ca 24), .ref (ca 25)] = some (isC w 20 || (isC w 21 || (isC w 22 || (isC w 23 || (isC w 24 || (isC w 25 || false)))))) := by
  simp only [PySem.W.exmAny, eT.exm w 20 hw (by decide), eT.exm w 21 hw (by decide), eT.exm w 22 hw (by decide), eT.exm w 23 hw (by decide), eT.exm w 24 hw (by decide), eT.exm w 25 hw (by decide)]
theorem isC_hi : ∀ w, w < 26 → 20 ≤ w → (isC w 20 || (isC w 21 || (isC w 22 || (isC w 23 || (isC w 24 || (isC w 25 || false)))))) = true := by decide +kernel
theorem isC_lo : ∀ w, w < 20 → isC w 0 = true := by decide +kernel
theorem isC_no : ∀ w, w < 26 → 20 ≤ w → isC w 0 = false := by decide +kernel
def sp__law_classes_of (K : PySem.W.Frag) : Sp := A5 fun v1 v2 v3 v4 v5 H Q => ∃ w : Nat, w < 26 ∧ v1 = .int w ∧ ∀ v H2, Ex H H2 → Dp K H2 v (.list ((dueL w).map .bool)) → Q v H2
abbrev s__law_classes_of : Stmt := top 36
theorem sc__law_classes_of : FnScope ["_law_which", "_law_text", "_law_number", "_law_rows", "_law_point", "e"] ["_law_which", "_law_text", "_law_number", "_law_rows", "_law_point"] (defScope s__law_classes_of) := ⟨rfl, rfl, rfl, by decide +kernel, rfl, by decide +kernel, by decide +kernel⟩
theorem ok__law_classes_of {f : Addr} {fd : FuncData} (F : FnP K "_law_classes_of" s__law_classes_of f fd) (g : G mg) {ca : Nat → Addr} (eT : ErT P K mg ca) (c_first : ClX P w K mg base 2 "_law_first" (sp__law_first K ca)) (c_second : ClX P w K mg base 2 "_law_second" (sp__law_second K ca)) (c_classes : ClW P w K mg base 1 "_law_classes" (sp__law_classes K ca)) :
    FnOk P w K mg base CX0 3 f fd ["_law_which", "_law_text", "_law_number", "_law_rows", "_law_point"] (sp__law_classes_of K) := by
  have nd := sc__law_classes_of.nd
  refine F.ok sc__law_classes_of (fun vs H Q E h => h.len) (fun cdv A outer s H vs Q E hr h => ?_)
  obtain ⟨v1, v2, v3, v4, v5, rfl, h⟩ := h
  refine ⟨_, pss_cons (ps_try_cla (tb := fun W => tIfS (tTest (tOp (rI0 fun i j => .bl (decide (i < j))) (tVar 0) (tC (.int 13)))) (tDrop (tCallS (sp__law_first K ca) (WE W) (tCons (tVar 0) (tCons (tVar 1) tNil)))) (tDrop (tCallS (sp__law_second K ca) (WE W) (tCons (tVar 0) (tCons (tVar 1) (tCons (tVar 2) (tCons (tVar 3) (tCons (tVar 4) tNil)))))))) (Wout := fun _ _ _ _ => False)
      (l := [⟨fun cls => PySem.W.exmOne K cls (.ref (ca 0)), some 5, fun a cls d => tRet (tClsE K ca 5 a cls d)⟩, ⟨fun cls => PySem.W.exmAny K cls [.ref (ca 20), .ref (ca 21), .ref (ca 22), .ref (ca 23), .ref (ca 24), .ref (ca 25)], some 5, fun a cls d => tRet (tClsE K ca 5 a cls d)⟩]) rfl rfl nd L2.takes0
      (fun W pn xe tk _ => pss_one (ps_if (pt_cmpR op_lt (pv 0) pe_int (nomark _)) (pss_one (ps_expr (pcX c_first tk hr (by decide) (by rfl) (by exact (pa_cons (pv 0) (pa_cons (pv 1) pa_nil)))))) (pss_one (ps_expr (pcX c_second tk hr (by decide) (by rfl) (by exact (pa_cons (pv 0) (pa_cons (pv 1) (pa_cons (pv 2) (pa_cons (pv 3) (pa_cons (pv 4) pa_nil)))))))))))
      (.named (clt_one (by exact ⟨rfl, by decide, .inl eT.g.g0⟩)) rfl rfl (fun a oe cls d pn hz hf hb => pss_one (ps_ret (pe_clsE c_classes ⟨(hr.mono (by decide : 1 ≤ 2)).dp, (hr.mono (by decide : 1 ≤ 2)).un⟩ List.mem_cons_self hz hf rfl (pv 5))))
        (.named (clt_six (by exact ⟨rfl, by decide, .inl eT.g.g20⟩) (by exact ⟨rfl, by decide, .inl eT.g.g21⟩) (by exact ⟨rfl, by decide, .inl eT.g.g22⟩) (by exact ⟨rfl, by decide, .inl eT.g.g23⟩) (by exact ⟨rfl, by decide, .inl eT.g.g24⟩) (by exact ⟨rfl, by decide, .inl eT.g.g25⟩)) rfl rfl (fun a oe cls d pn hz hf hb => pss_one (ps_ret (pe_clsE c_classes ⟨(hr.mono (by decide : 1 ≤ 2)).dp, (hr.mono (by decide : 1 ≤ 2)).un⟩ List.mem_cons_self hz hf rfl (pv 5)))) .nil)))
    (pss_one (ps_ret pe_non)), ?_⟩
  obtain ⟨w', hw, rfl, q⟩ := h
  refine i_seq ?_
  refine i_ifs (i_test (i_op (i_var rfl (i_c (i_I0 (i_k ?_))))))
  refine i_ite (fun hlt => ?_) (fun hlt => ?_)
  · refine i_drop (i_cs (i_cons (i_var rfl (i_cons (i_var rfl (i_nil (use__law_first (by omega) ?_)))))))
    refine i_cla_yes (by
      show PySem.W.exmOne K _ _ = _
      rw [eT.exm w' 0 hw (by decide), isC_lo w' (by omega)]) (fun a ha => ?_)
    show tRet (tClsE K ca 5 a (.ref (ca w')) (none)) _ _ _
    refine i_ret ?_
    exact ⟨rfl, fun oe hz hf => ⟨_, rfl, w', none, hw, rfl, hz, hf, (fun dd hd => by cases hd), fun v H2 e2 hd => q v H2 e2 hd⟩⟩
  · refine i_drop (i_cs (i_cons (i_var rfl (i_cons (i_var rfl (i_cons (i_var rfl (i_cons (i_var rfl (i_cons (i_var rfl (i_nil (use__law_second (by omega) hw (fun h18 => ?_) (fun h18 d hd => ?_))))))))))))))
    · refine i_cla_yes (by
        show PySem.W.exmOne K _ _ = _
        rw [eT.exm w' 0 hw (by decide), isC_lo w' (by omega)]) (fun a ha => ?_)
      show tRet (tClsE K ca 5 a (.ref (ca w')) (none)) _ _ _
      refine i_ret ?_
      exact ⟨rfl, fun oe hz hf => ⟨_, rfl, w', none, hw, rfl, hz, hf, (fun dd hd => by cases hd), fun v H2 e2 hd => q v H2 e2 hd⟩⟩
    · have ed : Ex H (upd H d (.xd (kpt w' v2 v3 v4 v5))) := Ex.new hd
      have xd : XdK (upd H d (.xd (kpt w' v2 v3 v4 v5))) (some d) := fun dd hdd => by
        cases hdd
        exact ⟨_, upd_same⟩
      by_cases h20 : w' < 20
      · refine i_cla_yes (by
          show PySem.W.exmOne K _ _ = _
          rw [eT.exm w' 0 hw (by decide), isC_lo w' h20]) (fun a ha => ?_)
        show tRet (tClsE K ca 5 a (.ref (ca w')) (some d)) _ _ _
        refine i_ret ?_
        exact ⟨rfl, fun oe hz hf => ⟨_, rfl, w', some d, hw, rfl, hz, hf, xd, fun v H2 e2 hd => q v H2 (ed.trans e2) hd⟩⟩
      · refine i_cla_no (by
          show PySem.W.exmOne K _ _ = _
          rw [eT.exm w' 0 hw (by decide), isC_no w' hw (by omega)]) (i_cla_yes (by
          show PySem.W.exmAny K _ _ = _
          rw [exm_any eT hw, isC_hi w' hw (by omega)]) (fun a ha => ?_))
        show tRet (tClsE K ca 5 a (.ref (ca w')) (some d)) _ _ _
        refine i_ret ?_
        exact ⟨rfl, fun oe hz hf => ⟨_, rfl, w', some d, hw, rfl, hz, hf, xd, fun v H2 e2 hd => q v H2 (ed.trans e2) hd⟩⟩
theorem use__law_classes_of {w : Nat} (hw : w < 26) (q : ∀ v H2, Ex H H2 → Dp K H2 v (.list ((dueL w).map .bool)) → Q v H2) : sp__law_classes_of K [.int w, v2, v3, v4, v5] H Q E := ⟨_, _, _, _, _, rfl, w, hw, rfl, q⟩
end
end Wb

namespace Wb
open PySem PySem.Spec PyProof.Rows L2 L2H
open Evl (Ex Ex.refl Ex.trans Ex.new)
local macro_rules | `(tactic| wtm_at "dp") => `(tactic| first | with_reducible assumption | with_reducible exact Dp.int _ | with_reducible exact Dp.bl _ | with_reducible exact Dp.str _ | with_reducible exact Dp.non | ((with_reducible refine' dpMono ?dme (by with_reducible assumption)); (case dme => wtm_at "ex")) | ((with_reducible refine' Dp.tup (Evl.st_of ?dph) ?dpa); (case dph => wtm_at "hs"); (case dpa => wtm_at "dpa")) | ((with_reducible refine' Dp.lst (Evl.sq_of ?dph) ?dpa); (case dph => wtm_at "hs"); (case dpa => wtm_at "dpa")))
local macro_rules | `(tactic| wtm_at "dpa") => `(tactic| first | with_reducible exact DpAll.nil | ((with_reducible refine' DpAll.cons ?dp1 ?dp2); (case dp1 => wtm_at "dp"); (case dp2 => wtm_at "dpa")) | with_reducible assumption | ((with_reducible refine' dpMonoA ?dme (by with_reducible assumption)); (case dme => wtm_at "ex")))
local macro_rules | `(tactic| wtm_at "sz") => `(tactic| first | with_reducible assumption | ((with_reducible refine' sz_mul ?sz1 ?sz2); (case sz1 => wtm_at "sz"); (case sz2 => wtm_at "sz")) | ((with_reducible refine' sz_add ?sz1 ?sz2); (case sz1 => wtm_at "sz"); (case sz2 => wtm_at "sz")) | ((with_reducible refine' sz_sub ?sz1 ?sz2); (case sz1 => wtm_at "sz"); (case sz2 => wtm_at "sz")) | ((with_reducible refine' sz_neg ?sz1); (case sz1 => wtm_at "sz")) | ((with_reducible refine' sz_div ?sz1); (case sz1 => wtm_at "sz")) | ((with_reducible refine' sz_fdiv ?sz1); (case sz1 => wtm_at "sz")) | exact sz_lit (by decide) | wtm_at "sz2")
local macro_rules | `(tactic| wtm_at "szb") => `(tactic| first | with_reducible assumption | ((with_reducible refine' sz_mono ?szb1 ?szb2); (case szb1 => wtm_at "sz"); (case szb2 => decide)))
local macro_rules | `(tactic| wtm_at "nz") => `(tactic| first | assumption | decide | omega)
local macro_rules | `(tactic| wtm_at "shaped") => `(tactic| first | rfl | decide)
local macro_rules | `(tactic| wtm_at "sset") => `(tactic| ((dsimp only [L2.wipe, List.set, List.set_cons_zero, List.set_cons_succ]) <;> exact rfl))
local macro_rules | `(tactic| wtm_at "nrm") => `(tactic| dsimp only [L2.start, L2.wipe, List.set, List.append, List.map, List.map_cons, List.map_nil, List.length_cons, List.length_nil, Nat.reduceAdd, Nat.reduceSub, List.reduceReplicate, List.replicate, List.cons_append, List.nil_append, List.set_cons_zero, List.set_cons_succ])
local macro_rules | `(tactic| wtm_at "st") => `(tactic| first
  | ((with_reducible refine' i_var (v := ?u0) ?u1 ?uq); (case u1 => exact rfl))
  | ((with_reducible refine' i_nameN ?u0 ?uq); (case u0 => wtm_at "sset"))
  | (with_reducible refine' i_op ?uq)
  | (with_reducible refine' i_c ?uq)
  | (with_reducible refine' i_I0 ?uq)
  | ((with_reducible refine' i_ixTI (i := ?u0) ?u1 ?u2 ?u3 ?uq); (case u1 => wtm_at "dp"); (case u2 => wtm_at "ex"); (case u3 => exact rfl))
  | ((with_reducible refine' i_ixT (d := ?u0) ?u1 ?u2 ?u3 (fun xu hxu => ?uq)); (case u1 => wtm_at "dp"); (case u2 => wtm_at "ex"); (case u3 => exact rfl))
  | ((with_reducible refine' i_mul ?u0 ?u1 ?u2 ?uq); (case u0 => wtm_at "sz"); (case u1 => wtm_at "sz"); (case u2 => first | decide | omega))
  | (with_reducible refine' i_seq ?uq)
  | (with_reducible refine' i_asg ?uq)
  | (with_reducible refine' i_ret ?uq)
  | (with_reducible refine' i_ifs ?uq)
  | (with_reducible refine' i_drop ?uq)
  | (with_reducible refine' i_next ?uq)
  | (with_reducible refine' i_cons ?uq)
  | (with_reducible refine' i_nil ?uq)
  | (with_reducible refine' i_cl ?uq)
  | (with_reducible refine' i_cb ?uq)
  | (with_reducible refine' i_tup ?uq)
  | (with_reducible refine' i_lst ?uq)
  | ((with_reducible refine' i_mkT ?u0 (fun np nH nhe nhp => ?uq)); (case u0 => exact Nat.le_of_ble_eq_true rfl))
  | (with_reducible refine' i_test ?uq)
  | (with_reducible refine' i_B ?uq)
  | (with_reducible refine' i_k ?uq)
  | (with_reducible refine' i_and ?uq)
  | (with_reducible refine' i_or ?uq)
  | (with_reducible refine' i_not ?uq)
  | (with_reducible refine' i_andV ?uq)
  | (with_reducible refine' i_orV ?uq)
  | (with_reducible refine' i_notV ?uq)
  | (with_reducible refine' i_if ?uq)
  | (with_reducible refine' i_un ?uq)
  | (with_reducible refine' i_U ?uq)
  | (with_reducible refine' i_iteT ?uq)
  | (with_reducible refine' i_iteF ?uq)
  | ((with_reducible refine' i_iteTr ?u0 ?uq); (case u0 => first | with_reducible rfl | decide | (simp only [dIsInt, dIsBool, dIsTup, dIsStr, dIsLst, Bool.not_true, Bool.not_false]; done)))
  | ((with_reducible refine' i_iteFr ?u0 ?uq); (case u0 => first | with_reducible rfl | decide | (simp only [dIsInt, dIsBool, dIsTup, dIsStr, dIsLst, Bool.not_true, Bool.not_false]; done)))
  | (with_reducible refine' i_ite (fun hif => ?uqa) (fun hif => ?uqb))
  | (with_reducible refine' i_iteN (fun hif => ?uqa) (fun hif => ?uqb))
  | (with_reducible refine' i_iteBN (fun hif => ?uqa) (fun hif => ?uqb))
  | (with_reducible refine' i_iteB (fun hif => ?uqa) (fun hif => ?uqb))
  | ((with_reducible refine' i_modN ?u0 ?uq); (case u0 => wtm_at "nz"))
  | ((with_reducible refine' i_fdX ?u0 ?u1 ?u2 ?uq); (case u0 => wtm_at "nz"); (case u1 => wtm_at "sz"); (case u2 => first | decide | omega))
  | ((with_reducible refine' i_pow ?u0 ?uq); (case u0 => exact ⟨by decide, by decide +kernel⟩))
  | (with_reducible refine' i_eqI ?uq)
  | (with_reducible refine' i_neI ?uq)
  | (with_reducible refine' i_gcd ?uq)
  | (with_reducible refine' i_qabs ?uq)
  | (with_reducible refine' i_qint ?uq)
  | (with_reducible refine' i_qintB ?uq)
  | (with_reducible refine' i_qmax2 ?uq)
  | (with_reducible refine' i_qmin2 ?uq)
  | (with_reducible refine' i_isB ?uq)
  | (with_reducible refine' i_notB ?uq)
  | (with_reducible refine' i_chain ?uq)
  | (with_reducible refine' i_qisN ?uq)
  | (with_reducible refine' i_qnotN ?uq)
  | (with_reducible refine' i_yes ?uq)
  | (with_reducible refine' i_par ?uq)
  | (with_reducible refine' i_par3 ?uq)
  | ((with_reducible refine' i_par2 ?u0 ?uq); (case u0 => wtm_at "sset"))
  | ((with_reducible refine' i_par33 ?u0 ?uq); (case u0 => wtm_at "sset"))
  | ((with_reducible refine' i_ixLI (i := ?u0) ?u1 ?u2 ?u3 ?uq); (case u1 => wtm_at "dp"); (case u2 => wtm_at "ex"); (case u3 => exact rfl))
  | ((with_reducible refine' i_ixL (d := ?u0) ?u1 ?u2 ?u3 (fun xu hxu => ?uq)); (case u1 => wtm_at "dp"); (case u2 => wtm_at "ex"); (case u3 => exact rfl))
  | ((with_reducible refine' i_qlenT ?u0 ?uq); (case u0 => wtm_at "dp"))
  | ((with_reducible refine' i_qlenL ?u0 ?uq); (case u0 => wtm_at "dp"))
  | ((with_reducible refine' i_gtup ?u0 ?u1 ?u2 (fun gvs gdp => ?uq)); (case u0 => wtm_at "dp"); (case u1 => wtm_at "ex"); (case u2 => exact rfl))
  | ((with_reducible refine' i_glst ?u0 ?u1 ?u2 (fun gvs gdp => ?uq)); (case u0 => wtm_at "dp"); (case u1 => wtm_at "ex"); (case u2 => exact rfl))
  | ((with_reducible refine' i_gconsI ?u0 (fun gr gh => ?uq)); (case u0 => with_reducible assumption))
  | ((with_reducible refine' i_gconsA ?u0 (fun gv gr gh1 gh2 => ?uq)); (case u0 => with_reducible assumption))
  | ((with_reducible refine' i_gnilA ?u0 ?uq); (case u0 => with_reducible assumption))
  | ((with_reducible refine' i_isiI ?u0 ?uq); (case u0 => wtm_at "dp"))
  | ((with_reducible refine' i_isiB ?u0 ?uq); (case u0 => wtm_at "dp"))
  | ((with_reducible refine' i_isiT ?u0 ?uq); (case u0 => wtm_at "dp"))
  | ((with_reducible refine' i_isiS ?u0 ?uq); (case u0 => wtm_at "dp"))
  | ((with_reducible refine' i_isiL ?u0 ?uq); (case u0 => wtm_at "dp"))
  | ((with_reducible refine' i_eqD ?u0 ?u1 ?u2 ?u3 ?uq); (case u0 => wtm_at "dp"); (case u1 => wtm_at "dp"); (case u2 => wtm_at "shaped"); (case u3 => wtm_at "shaped"))
  | ((with_reducible refine' i_neD ?u0 ?u1 ?u2 ?u3 ?uq); (case u0 => wtm_at "dp"); (case u1 => wtm_at "dp"); (case u2 => wtm_at "shaped"); (case u3 => wtm_at "shaped"))
  | wtm_at "st2"
  | wtm_at "use")
local macro_rules | `(tactic| wtm_at "go") => `(tactic| repeat' (wtm_at "st"))
local macro_rules | `(tactic| wtm_at "go0") => `(tactic| ((try dsimp only [L2.cxOf, L2.Cx.nox, L2.Cx.wish, L2.Cx.tr, L2.Cx.blk]); (try wtm_at "nrm"); wtm_at "go"))
local macro_rules | `(tactic| wtm_at "fin") => `(tactic| ((try dsimp only); first | with_reducible assumption | assumption | ((with_reducible refine' Ret.use ?rur ?rue ?rud); (case rur => with_reducible assumption); (case rue => wtm_at "ex"); (case rud => wtm_at "dp"))))
local macro_rules | `(tactic| wtm_at "exh") => `(tactic| first | with_reducible assumption | with_reducible exact Ex.refl _ | with_reducible exact ex_hid | ((with_reducible refine' Ex.trans ?exe (by with_reducible assumption)); (case exe => wtm_at "exh")) | ((with_reducible refine' Ex.trans ?exe (hid_ex (by with_reducible assumption))); (case exe => wtm_at "exh")))
local macro_rules | `(tactic| wtm_at "ex") => `(tactic| first | with_reducible assumption | with_reducible exact Ex.refl _ | with_reducible exact ex_hid | ((with_reducible refine' Ex.trans ?exe (by with_reducible assumption)); (case exe => wtm_at "ex")) | ((with_reducible refine' Ex.trans ?exe (hid_ex (by with_reducible assumption))); (case exe => wtm_at "ex")) | ((with_reducible refine' Ex.trans ?exe ex_hid); (case exe => wtm_at "exh")))
local macro_rules | `(tactic| wtm_at "bag") => `(tactic| first | with_reducible assumption | ((with_reducible refine' Bag.mono ?bgm (by with_reducible assumption)); (case bgm => wtm_at "bag")))
local macro_rules | `(tactic| wtm_at "hs") => `(tactic| first | with_reducible assumption | ((with_reducible refine' hid_tup ?hb ?hp); (case hp => with_reducible assumption); (case hb => wtm_at "bag")) | ((with_reducible refine' hid_new ?hb ?hn ?hp); (case hp => with_reducible assumption); (case hn => with_reducible assumption); (case hb => wtm_at "bag")) | ((with_reducible refine' ex_at ?exe (by with_reducible assumption)); (case exe => wtm_at "ex")))
local macro_rules | `(tactic| wtm_at "st2") => `(tactic| first
  | ((with_reducible refine' i_mulC ?u0 ?uq); (case u0 => first | exact cmul_l (by decide) | exact cmul_r (by decide)))
  | ((with_reducible refine' i_ixLr (v := ?u0) ?u1 ?u2 ?uq); (case u1 => with_reducible assumption); (case u2 => exact rfl))
  | (with_reducible refine' i_sub ?uq)
  | ((with_reducible refine' i_mkL ?u0 (fun np nH nfr nhe nhp => ?uq)); (case u0 => exact Nat.le_of_ble_eq_true rfl))
  | ((with_reducible refine' i_setL (n := ?u0) ?u1 ?u2 (fun sH sh se => ?uq)); (case u1 => with_reducible assumption); (case u2 => exact rfl))
  | (with_reducible refine' i_sl ?uq)
  | (with_reducible refine' i_nopart ?uq)
  | (with_reducible refine' i_part ?uq)
  | (with_reducible refine' i_part1 ?uq))
local macro_rules | `(tactic| wtm_at "sz2") => `(tactic| ((with_reducible refine' sz_fmod ?sz1 ?sz2); (case sz1 => wtm_at "nz"); (case sz2 => wtm_at "sz")))
local macro_rules | `(tactic| wtm_at "stb") => `(tactic| first
  | ((with_reducible refine' i_mkTB ?u0 ?u1 (fun np nH nhe nhb nhp => ?uq)); (case u0 => exact Nat.le_of_ble_eq_true rfl); (case u1 => wtm_at "bag"))
  | ((with_reducible refine' i_mkLB ?u0 ?u1 (fun np nH nfr nhe nhb nhp => ?uq)); (case u0 => exact Nat.le_of_ble_eq_true rfl); (case u1 => wtm_at "bag"))
  | wtm_at "st")
local macro_rules | `(tactic| wtm_at "gob") => `(tactic| repeat' (wtm_at "stb"))
local macro_rules | `(tactic| wtm_at "gob0") => `(tactic| ((try dsimp only [L2.cxOf, L2.Cx.nox, L2.Cx.wish, L2.Cx.tr, L2.Cx.blk]); (try wtm_at "nrm"); wtm_at "gob"))
section
variable {P : Program} {w : World} {K : PySem.W.Frag} {mg : Str → Option Value} {base : Heap} {H H' : Hp} {Q : VK} {E : XK} {v1 v2 v3 v4 v5 : V}
theorem i_xf {a C dd : Addr} {cls : Value} {d : Option Addr} {f : Str} {te : TE} {σ : L2.St} {fs : List (Str × V)} {v : V} (hd : d = some dd) (hc : cls = .ref C) (h : H dd = some (.xd fs)) (e : fs.lookup f = some v) (q : ∀ Q', Q' (.ref a) H → te σ H Q') (k : Q v H) : tXf a cls d C f te σ H Q :=
  q _ ⟨rfl, hc, dd, fs, v, hd, h, e, k⟩
def sp__law_caught_second (K : PySem.W.Frag) : Sp := A5 fun v1 v2 v3 v4 v5 H Q => ∃ (w : Nat) (t : Str) (n : Int) (rows : List PyData) (pd : PyData), 13 ≤ w ∧ w < 26 ∧ v1 = .int w ∧ v2 = .str t ∧ v3 = .int n ∧ Dp K H v4 (.tuple rows) ∧ Dp K H v5 pd ∧ Ret K (.tuple [.int w, keptD w t n rows pd]) H Q
abbrev s__law_caught_second : Stmt := top 34
theorem sc__law_caught_second : FnScope ["_law_which", "_law_text", "_law_number", "_law_rows", "_law_point", "e"] ["_law_which", "_law_text", "_law_number", "_law_rows", "_law_point"] (defScope s__law_caught_second) := ⟨rfl, rfl, rfl, by decide +kernel, rfl, by decide +kernel, by decide +kernel⟩
theorem ok__law_caught_second {f : Addr} {fd : FuncData} (F : FnP K "_law_caught_second" s__law_caught_second f fd) (g : G mg) {ca : Nat → Addr} (eT : ErT P K mg ca) (c_second : ClX P w K mg base 2 "_law_second" (sp__law_second K ca)) :
    FnOk P w K mg base CX0 3 f fd ["_law_which", "_law_text", "_law_number", "_law_rows", "_law_point"] (sp__law_caught_second K) := by
  have nd := sc__law_caught_second.nd
  refine F.ok sc__law_caught_second (fun vs H Q E h => h.len) (fun cdv A outer s H vs Q E hr h => ?_)
  obtain ⟨v1, v2, v3, v4, v5, rfl, h⟩ := h
  refine ⟨_, pss_cons (ps_try_cla (tb := fun W => tDrop (tCallS (sp__law_second K ca) (WE W) (tCons (tVar 0) (tCons (tVar 1) (tCons (tVar 2) (tCons (tVar 3) (tCons (tVar 4) tNil))))))) (Wout := fun _ _ _ _ => False)
      (l := [⟨fun cls => PySem.W.exmOne K cls (.ref (ca 13)), none, fun a cls d => tRet (tTup (tCons (tC (.int 13)) (tCons (tC .non) tNil)))⟩, ⟨fun cls => PySem.W.exmOne K cls (.ref (ca 14)), none, fun a cls d => tRet (tTup (tCons (tC (.int 14)) (tCons (tC .non) tNil)))⟩, ⟨fun cls => PySem.W.exmOne K cls (.ref (ca 15)), none, fun a cls d => tRet (tTup (tCons (tC (.int 15)) (tCons (tC .non) tNil)))⟩, ⟨fun cls => PySem.W.exmOne K cls (.ref (ca 16)), none, fun a cls d => tRet (tTup (tCons (tC (.int 16)) (tCons (tC .non) tNil)))⟩, ⟨fun cls => PySem.W.exmOne K cls (.ref (ca 17)), none, fun a cls d => tRet (tTup (tCons (tC (.int 17)) (tCons (tC .non) tNil)))⟩, ⟨fun cls => PySem.W.exmOne K cls (.ref (ca 18)), some 5, fun a cls d => tRet (tTup (tCons (tC (.int 18)) (tCons (tXf a cls d (ca 18) "name" (tVar 5)) tNil)))⟩, ⟨fun cls => PySem.W.exmOne K cls (.ref (ca 19)), some 5, fun a cls d => tRet (tTup (tCons (tC (.int 19)) (tCons (tXf a cls d (ca 19) "index" (tVar 5)) tNil)))⟩, ⟨fun cls => PySem.W.exmOne K cls (.ref (ca 20)), some 5, fun a cls d => tRet (tTup (tCons (tC (.int 20)) (tCons (tXf a cls d (ca 20) "value" (tVar 5)) tNil)))⟩, ⟨fun cls => PySem.W.exmOne K cls (.ref (ca 21)), some 5, fun a cls d => tRet (tTup (tCons (tC (.int 21)) (tCons (tXf a cls d (ca 21) "name" (tVar 5)) tNil)))⟩, ⟨fun cls => PySem.W.exmOne K cls (.ref (ca 22)), some 5, fun a cls d => tRet (tTup (tCons (tC (.int 22)) (tCons (tXf a cls d (ca 22) "limit" (tVar 5)) tNil)))⟩, ⟨fun cls => PySem.W.exmOne K cls (.ref (ca 23)), some 5, fun a cls d => tRet (tTup (tCons (tC (.int 23)) (tCons (tXf a cls d (ca 23) "many" (tVar 5)) tNil)))⟩, ⟨fun cls => PySem.W.exmOne K cls (.ref (ca 24)), some 5, fun a cls d => tRet (tTup (tCons (tC (.int 24)) (tCons (tXf a cls d (ca 24) "name" (tVar 5)) tNil)))⟩, ⟨fun cls => PySem.W.exmOne K cls (.ref (ca 25)), some 5, fun a cls d => tRet (tTup (tCons (tC (.int 25)) (tCons (tTup (tCons (tXf a cls d (ca 25) "rule_label" (tVar 5)) (tCons (tXf a cls d (ca 25) "row_numbers" (tVar 5)) (tCons (tXf a cls d (ca 25) "point" (tVar 5)) tNil)))) tNil)))⟩]) rfl rfl nd L2.takes0
      (fun W pn xe tk _ => pss_one (ps_expr (pcX c_second tk hr (by decide) (by rfl) (by exact (pa_cons (pv 0) (pa_cons (pv 1) (pa_cons (pv 2) (pa_cons (pv 3) (pa_cons (pv 4) pa_nil)))))))))
      (.plain (clt_one (by exact ⟨rfl, by decide, .inl eT.g.g13⟩)) (fun a oe cls d pn hz hf hb => pss_one (ps_ret (pe_tup (pa_cons pe_int (pa_cons pe_non pa_nil))))) (.plain (clt_one (by exact ⟨rfl, by decide, .inl eT.g.g14⟩)) (fun a oe cls d pn hz hf hb => pss_one (ps_ret (pe_tup (pa_cons pe_int (pa_cons pe_non pa_nil))))) (.plain (clt_one (by exact ⟨rfl, by decide, .inl eT.g.g15⟩)) (fun a oe cls d pn hz hf hb => pss_one (ps_ret (pe_tup (pa_cons pe_int (pa_cons pe_non pa_nil))))) (.plain (clt_one (by exact ⟨rfl, by decide, .inl eT.g.g16⟩)) (fun a oe cls d pn hz hf hb => pss_one (ps_ret (pe_tup (pa_cons pe_int (pa_cons pe_non pa_nil))))) (.plain (clt_one (by exact ⟨rfl, by decide, .inl eT.g.g17⟩)) (fun a oe cls d pn hz hf hb => pss_one (ps_ret (pe_tup (pa_cons pe_int (pa_cons pe_non pa_nil))))) (.named (clt_one (by exact ⟨rfl, by decide, .inl eT.g.g18⟩)) rfl rfl (fun a oe cls d pn hz hf hb => pss_one (ps_ret (pe_tup (pa_cons pe_int (pa_cons (pe_xf eT.s.x18 eT.s.n18a hz hf (pv 5)) pa_nil))))) (.named (clt_one (by exact ⟨rfl, by decide, .inl eT.g.g19⟩)) rfl rfl (fun a oe cls d pn hz hf hb => pss_one (ps_ret (pe_tup (pa_cons pe_int (pa_cons (pe_xf eT.s.x19 eT.s.n19a hz hf (pv 5)) pa_nil))))) (.named (clt_one (by exact ⟨rfl, by decide, .inl eT.g.g20⟩)) rfl rfl (fun a oe cls d pn hz hf hb => pss_one (ps_ret (pe_tup (pa_cons pe_int (pa_cons (pe_xf eT.s.x20 eT.s.n20a hz hf (pv 5)) pa_nil))))) (.named (clt_one (by exact ⟨rfl, by decide, .inl eT.g.g21⟩)) rfl rfl (fun a oe cls d pn hz hf hb => pss_one (ps_ret (pe_tup (pa_cons pe_int (pa_cons (pe_xf eT.s.x21 eT.s.n21a hz hf (pv 5)) pa_nil))))) (.named (clt_one (by exact ⟨rfl, by decide, .inl eT.g.g22⟩)) rfl rfl (fun a oe cls d pn hz hf hb => pss_one (ps_ret (pe_tup (pa_cons pe_int (pa_cons (pe_xf eT.s.x22 eT.s.n22a hz hf (pv 5)) pa_nil))))) (.named (clt_one (by exact ⟨rfl, by decide, .inl eT.g.g23⟩)) rfl rfl (fun a oe cls d pn hz hf hb => pss_one (ps_ret (pe_tup (pa_cons pe_int (pa_cons (pe_xf eT.s.x23 eT.s.n23a hz hf (pv 5)) pa_nil))))) (.named (clt_one (by exact ⟨rfl, by decide, .inl eT.g.g24⟩)) rfl rfl (fun a oe cls d pn hz hf hb => pss_one (ps_ret (pe_tup (pa_cons pe_int (pa_cons (pe_xf eT.s.x24 eT.s.n24a hz hf (pv 5)) pa_nil))))) (.named (clt_one (by exact ⟨rfl, by decide, .inl eT.g.g25⟩)) rfl rfl (fun a oe cls d pn hz hf hb => pss_one (ps_ret (pe_tup (pa_cons pe_int (pa_cons (pe_tup (pa_cons (pe_xf eT.s.x25 eT.s.n25a hz hf (pv 5)) (pa_cons (pe_xf eT.s.x25 eT.s.n25b hz hf (pv 5)) (pa_cons (pe_xf eT.s.x25 eT.s.n25c hz hf (pv 5)) pa_nil)))) pa_nil))))) .nil))))))))))))))
    (pss_one (ps_ret pe_non)), ?_⟩
  obtain ⟨w', t, n, rows, pd, hw1, hw, rfl, rfl, rfl, h4, h5, q⟩ := h
  refine i_seq ?_
  refine i_drop (i_cs (i_cons (i_var rfl (i_cons (i_var rfl (i_cons (i_var rfl (i_cons (i_var rfl (i_cons (i_var rfl (i_nil (use__law_second hw1 hw (fun h18 => ?_) (fun h18 d hd => ?_))))))))))))))
  · have hc : w' = 13 ∨ w' = 14 ∨ w' = 15 ∨ w' = 16 ∨ w' = 17 := by omega
    rcases hc with rfl | rfl | rfl | rfl | rfl
    · refine i_cla_yes (show PySem.W.exmOne K (.ref (ca 13)) (.ref (ca 13)) = some true from eT.exm 13 13 (by decide) (by decide)) (fun a ha => ?_)
      dsimp only [Cla.ends, Cla.st]
      wtm_at "go"
      rename_i np J nhe nhp
      exact q _ _ nhe (.tup (Evl.st_of nhp) (.cons (.int _) (.cons .non .nil)))
    · refine i_cla_no (show PySem.W.exmOne K (.ref (ca 14)) (.ref (ca 13)) = some false from eT.exm 14 13 (by decide) (by decide)) ?_
      refine i_cla_yes (show PySem.W.exmOne K (.ref (ca 14)) (.ref (ca 14)) = some true from eT.exm 14 14 (by decide) (by decide)) (fun a ha => ?_)
      dsimp only [Cla.ends, Cla.st]
      wtm_at "go"
      rename_i np J nhe nhp
      exact q _ _ nhe (.tup (Evl.st_of nhp) (.cons (.int _) (.cons .non .nil)))
    · refine i_cla_no (show PySem.W.exmOne K (.ref (ca 15)) (.ref (ca 13)) = some false from eT.exm 15 13 (by decide) (by decide)) ?_
      refine i_cla_no (show PySem.W.exmOne K (.ref (ca 15)) (.ref (ca 14)) = some false from eT.exm 15 14 (by decide) (by decide)) ?_
      refine i_cla_yes (show PySem.W.exmOne K (.ref (ca 15)) (.ref (ca 15)) = some true from eT.exm 15 15 (by decide) (by decide)) (fun a ha => ?_)
      dsimp only [Cla.ends, Cla.st]
      wtm_at "go"
      rename_i np J nhe nhp
      exact q _ _ nhe (.tup (Evl.st_of nhp) (.cons (.int _) (.cons .non .nil)))
    · refine i_cla_no (show PySem.W.exmOne K (.ref (ca 16)) (.ref (ca 13)) = some false from eT.exm 16 13 (by decide) (by decide)) ?_
      refine i_cla_no (show PySem.W.exmOne K (.ref (ca 16)) (.ref (ca 14)) = some false from eT.exm 16 14 (by decide) (by decide)) ?_
      refine i_cla_no (show PySem.W.exmOne K (.ref (ca 16)) (.ref (ca 15)) = some false from eT.exm 16 15 (by decide) (by decide)) ?_
      refine i_cla_yes (show PySem.W.exmOne K (.ref (ca 16)) (.ref (ca 16)) = some true from eT.exm 16 16 (by decide) (by decide)) (fun a ha => ?_)
      dsimp only [Cla.ends, Cla.st]
      wtm_at "go"
      rename_i np J nhe nhp
      exact q _ _ nhe (.tup (Evl.st_of nhp) (.cons (.int _) (.cons .non .nil)))
    · refine i_cla_no (show PySem.W.exmOne K (.ref (ca 17)) (.ref (ca 13)) = some false from eT.exm 17 13 (by decide) (by decide)) ?_
      refine i_cla_no (show PySem.W.exmOne K (.ref (ca 17)) (.ref (ca 14)) = some false from eT.exm 17 14 (by decide) (by decide)) ?_
      refine i_cla_no (show PySem.W.exmOne K (.ref (ca 17)) (.ref (ca 15)) = some false from eT.exm 17 15 (by decide) (by decide)) ?_
      refine i_cla_no (show PySem.W.exmOne K (.ref (ca 17)) (.ref (ca 16)) = some false from eT.exm 17 16 (by decide) (by decide)) ?_
      refine i_cla_yes (show PySem.W.exmOne K (.ref (ca 17)) (.ref (ca 17)) = some true from eT.exm 17 17 (by decide) (by decide)) (fun a ha => ?_)
      dsimp only [Cla.ends, Cla.st]
      wtm_at "go"
      rename_i np J nhe nhp
      exact q _ _ nhe (.tup (Evl.st_of nhp) (.cons (.int _) (.cons .non .nil)))
  · have ed : Ex H (upd H d (.xd (kpt w' (.str t) (.int n) v4 v5))) := Ex.new hd
    have hx : upd H d (.xd (kpt w' (.str t) (.int n) v4 v5)) d = some (.xd (kpt w' (.str t) (.int n) v4 v5)) := upd_same
    generalize upd H d (.xd (kpt w' (.str t) (.int n) v4 v5)) = H1 at *
    have hc : w' = 18 ∨ w' = 19 ∨ w' = 20 ∨ w' = 21 ∨ w' = 22 ∨ w' = 23 ∨ w' = 24 ∨ w' = 25 := by omega
    rcases hc with rfl | rfl | rfl | rfl | rfl | rfl | rfl | rfl
    · refine i_cla_no (show PySem.W.exmOne K (.ref (ca 18)) (.ref (ca 13)) = some false from eT.exm 18 13 (by decide) (by decide)) ?_
      refine i_cla_no (show PySem.W.exmOne K (.ref (ca 18)) (.ref (ca 14)) = some false from eT.exm 18 14 (by decide) (by decide)) ?_
      refine i_cla_no (show PySem.W.exmOne K (.ref (ca 18)) (.ref (ca 15)) = some false from eT.exm 18 15 (by decide) (by decide)) ?_
      refine i_cla_no (show PySem.W.exmOne K (.ref (ca 18)) (.ref (ca 16)) = some false from eT.exm 18 16 (by decide) (by decide)) ?_
      refine i_cla_no (show PySem.W.exmOne K (.ref (ca 18)) (.ref (ca 17)) = some false from eT.exm 18 17 (by decide) (by decide)) ?_
      refine i_cla_yes (show PySem.W.exmOne K (.ref (ca 18)) (.ref (ca 18)) = some true from eT.exm 18 18 (by decide) (by decide)) (fun a ha => ?_)
      show tRet (tTup (tCons (tC (.int 18)) (tCons (tXf a (.ref (ca 18)) (some d) (ca 18) "name" (tVar 5)) tNil))) _ _ _
      wtm_at "go"
      refine i_xf (fs := kpt 18 _ _ _ _) rfl rfl hx rfl (fun Q' k => ⟨_, rfl, k⟩) ?_
      wtm_at "go"
      rename_i np J nhe nhp
      exact q _ _ (ed.trans nhe) (.tup (Evl.st_of nhp) (.cons (.int _) (.cons (.str _) .nil)))
    · refine i_cla_no (show PySem.W.exmOne K (.ref (ca 19)) (.ref (ca 13)) = some false from eT.exm 19 13 (by decide) (by decide)) ?_
      refine i_cla_no (show PySem.W.exmOne K (.ref (ca 19)) (.ref (ca 14)) = some false from eT.exm 19 14 (by decide) (by decide)) ?_
      refine i_cla_no (show PySem.W.exmOne K (.ref (ca 19)) (.ref (ca 15)) = some false from eT.exm 19 15 (by decide) (by decide)) ?_
      refine i_cla_no (show PySem.W.exmOne K (.ref (ca 19)) (.ref (ca 16)) = some false from eT.exm 19 16 (by decide) (by decide)) ?_
      refine i_cla_no (show PySem.W.exmOne K (.ref (ca 19)) (.ref (ca 17)) = some false from eT.exm 19 17 (by decide) (by decide)) ?_
      refine i_cla_no (show PySem.W.exmOne K (.ref (ca 19)) (.ref (ca 18)) = some false from eT.exm 19 18 (by decide) (by decide)) ?_
      refine i_cla_yes (show PySem.W.exmOne K (.ref (ca 19)) (.ref (ca 19)) = some true from eT.exm 19 19 (by decide) (by decide)) (fun a ha => ?_)
      show tRet (tTup (tCons (tC (.int 19)) (tCons (tXf a (.ref (ca 19)) (some d) (ca 19) "index" (tVar 5)) tNil))) _ _ _
      wtm_at "go"
      refine i_xf (fs := kpt 19 _ _ _ _) rfl rfl hx rfl (fun Q' k => ⟨_, rfl, k⟩) ?_
      wtm_at "go"
      rename_i np J nhe nhp
      exact q _ _ (ed.trans nhe) (.tup (Evl.st_of nhp) (.cons (.int _) (.cons (.int _) .nil)))
    · refine i_cla_no (show PySem.W.exmOne K (.ref (ca 20)) (.ref (ca 13)) = some false from eT.exm 20 13 (by decide) (by decide)) ?_
      refine i_cla_no (show PySem.W.exmOne K (.ref (ca 20)) (.ref (ca 14)) = some false from eT.exm 20 14 (by decide) (by decide)) ?_
      refine i_cla_no (show PySem.W.exmOne K (.ref (ca 20)) (.ref (ca 15)) = some false from eT.exm 20 15 (by decide) (by decide)) ?_
      refine i_cla_no (show PySem.W.exmOne K (.ref (ca 20)) (.ref (ca 16)) = some false from eT.exm 20 16 (by decide) (by decide)) ?_
      refine i_cla_no (show PySem.W.exmOne K (.ref (ca 20)) (.ref (ca 17)) = some false from eT.exm 20 17 (by decide) (by decide)) ?_
      refine i_cla_no (show PySem.W.exmOne K (.ref (ca 20)) (.ref (ca 18)) = some false from eT.exm 20 18 (by decide) (by decide)) ?_
      refine i_cla_no (show PySem.W.exmOne K (.ref (ca 20)) (.ref (ca 19)) = some false from eT.exm 20 19 (by decide) (by decide)) ?_
      refine i_cla_yes (show PySem.W.exmOne K (.ref (ca 20)) (.ref (ca 20)) = some true from eT.exm 20 20 (by decide) (by decide)) (fun a ha => ?_)
      show tRet (tTup (tCons (tC (.int 20)) (tCons (tXf a (.ref (ca 20)) (some d) (ca 20) "value" (tVar 5)) tNil))) _ _ _
      wtm_at "go"
      refine i_xf (fs := kpt 20 _ _ _ _) rfl rfl hx rfl (fun Q' k => ⟨_, rfl, k⟩) ?_
      wtm_at "go"
      rename_i np J nhe nhp
      exact q _ _ (ed.trans nhe) (.tup (Evl.st_of nhp) (.cons (.int _) (.cons (.int _) .nil)))
    · refine i_cla_no (show PySem.W.exmOne K (.ref (ca 21)) (.ref (ca 13)) = some false from eT.exm 21 13 (by decide) (by decide)) ?_
      refine i_cla_no (show PySem.W.exmOne K (.ref (ca 21)) (.ref (ca 14)) = some false from eT.exm 21 14 (by decide) (by decide)) ?_
      refine i_cla_no (show PySem.W.exmOne K (.ref (ca 21)) (.ref (ca 15)) = some false from eT.exm 21 15 (by decide) (by decide)) ?_
      refine i_cla_no (show PySem.W.exmOne K (.ref (ca 21)) (.ref (ca 16)) = some false from eT.exm 21 16 (by decide) (by decide)) ?_
      refine i_cla_no (show PySem.W.exmOne K (.ref (ca 21)) (.ref (ca 17)) = some false from eT.exm 21 17 (by decide) (by decide)) ?_
      refine i_cla_no (show PySem.W.exmOne K (.ref (ca 21)) (.ref (ca 18)) = some false from eT.exm 21 18 (by decide) (by decide)) ?_
      refine i_cla_no (show PySem.W.exmOne K (.ref (ca 21)) (.ref (ca 19)) = some false from eT.exm 21 19 (by decide) (by decide)) ?_
      refine i_cla_no (show PySem.W.exmOne K (.ref (ca 21)) (.ref (ca 20)) = some false from eT.exm 21 20 (by decide) (by decide)) ?_
      refine i_cla_yes (show PySem.W.exmOne K (.ref (ca 21)) (.ref (ca 21)) = some true from eT.exm 21 21 (by decide) (by decide)) (fun a ha => ?_)
      show tRet (tTup (tCons (tC (.int 21)) (tCons (tXf a (.ref (ca 21)) (some d) (ca 21) "name" (tVar 5)) tNil))) _ _ _
      wtm_at "go"
      refine i_xf (fs := kpt 21 _ _ _ _) rfl rfl hx rfl (fun Q' k => ⟨_, rfl, k⟩) ?_
      wtm_at "go"
      rename_i np J nhe nhp
      exact q _ _ (ed.trans nhe) (.tup (Evl.st_of nhp) (.cons (.int _) (.cons (.str _) .nil)))
    · refine i_cla_no (show PySem.W.exmOne K (.ref (ca 22)) (.ref (ca 13)) = some false from eT.exm 22 13 (by decide) (by decide)) ?_
      refine i_cla_no (show PySem.W.exmOne K (.ref (ca 22)) (.ref (ca 14)) = some false from eT.exm 22 14 (by decide) (by decide)) ?_
      refine i_cla_no (show PySem.W.exmOne K (.ref (ca 22)) (.ref (ca 15)) = some false from eT.exm 22 15 (by decide) (by decide)) ?_
      refine i_cla_no (show PySem.W.exmOne K (.ref (ca 22)) (.ref (ca 16)) = some false from eT.exm 22 16 (by decide) (by decide)) ?_
      refine i_cla_no (show PySem.W.exmOne K (.ref (ca 22)) (.ref (ca 17)) = some false from eT.exm 22 17 (by decide) (by decide)) ?_
      refine i_cla_no (show PySem.W.exmOne K (.ref (ca 22)) (.ref (ca 18)) = some false from eT.exm 22 18 (by decide) (by decide)) ?_
      refine i_cla_no (show PySem.W.exmOne K (.ref (ca 22)) (.ref (ca 19)) = some false from eT.exm 22 19 (by decide) (by decide)) ?_
      refine i_cla_no (show PySem.W.exmOne K (.ref (ca 22)) (.ref (ca 20)) = some false from eT.exm 22 20 (by decide) (by decide)) ?_
      refine i_cla_no (show PySem.W.exmOne K (.ref (ca 22)) (.ref (ca 21)) = some false from eT.exm 22 21 (by decide) (by decide)) ?_
      refine i_cla_yes (show PySem.W.exmOne K (.ref (ca 22)) (.ref (ca 22)) = some true from eT.exm 22 22 (by decide) (by decide)) (fun a ha => ?_)
      show tRet (tTup (tCons (tC (.int 22)) (tCons (tXf a (.ref (ca 22)) (some d) (ca 22) "limit" (tVar 5)) tNil))) _ _ _
      wtm_at "go"
      refine i_xf (fs := kpt 22 _ _ _ _) rfl rfl hx rfl (fun Q' k => ⟨_, rfl, k⟩) ?_
      wtm_at "go"
      rename_i np J nhe nhp
      exact q _ _ (ed.trans nhe) (.tup (Evl.st_of nhp) (.cons (.int _) (.cons (.int _) .nil)))
    · refine i_cla_no (show PySem.W.exmOne K (.ref (ca 23)) (.ref (ca 13)) = some false from eT.exm 23 13 (by decide) (by decide)) ?_
      refine i_cla_no (show PySem.W.exmOne K (.ref (ca 23)) (.ref (ca 14)) = some false from eT.exm 23 14 (by decide) (by decide)) ?_
      refine i_cla_no (show PySem.W.exmOne K (.ref (ca 23)) (.ref (ca 15)) = some false from eT.exm 23 15 (by decide) (by decide)) ?_
      refine i_cla_no (show PySem.W.exmOne K (.ref (ca 23)) (.ref (ca 16)) = some false from eT.exm 23 16 (by decide) (by decide)) ?_
      refine i_cla_no (show PySem.W.exmOne K (.ref (ca 23)) (.ref (ca 17)) = some false from eT.exm 23 17 (by decide) (by decide)) ?_
      refine i_cla_no (show PySem.W.exmOne K (.ref (ca 23)) (.ref (ca 18)) = some false from eT.exm 23 18 (by decide) (by decide)) ?_
      refine i_cla_no (show PySem.W.exmOne K (.ref (ca 23)) (.ref (ca 19)) = some false from eT.exm 23 19 (by decide) (by decide)) ?_
      refine i_cla_no (show PySem.W.exmOne K (.ref (ca 23)) (.ref (ca 20)) = some false from eT.exm 23 20 (by decide) (by decide)) ?_
      refine i_cla_no (show PySem.W.exmOne K (.ref (ca 23)) (.ref (ca 21)) = some false from eT.exm 23 21 (by decide) (by decide)) ?_
      refine i_cla_no (show PySem.W.exmOne K (.ref (ca 23)) (.ref (ca 22)) = some false from eT.exm 23 22 (by decide) (by decide)) ?_
      refine i_cla_yes (show PySem.W.exmOne K (.ref (ca 23)) (.ref (ca 23)) = some true from eT.exm 23 23 (by decide) (by decide)) (fun a ha => ?_)
      show tRet (tTup (tCons (tC (.int 23)) (tCons (tXf a (.ref (ca 23)) (some d) (ca 23) "many" (tVar 5)) tNil))) _ _ _
      wtm_at "go"
      refine i_xf (fs := kpt 23 _ _ _ _) rfl rfl hx rfl (fun Q' k => ⟨_, rfl, k⟩) ?_
      wtm_at "go"
      rename_i np J nhe nhp
      exact q _ _ (ed.trans nhe) (.tup (Evl.st_of nhp) (.cons (.int _) (.cons (.int _) .nil)))
    · refine i_cla_no (show PySem.W.exmOne K (.ref (ca 24)) (.ref (ca 13)) = some false from eT.exm 24 13 (by decide) (by decide)) ?_
      refine i_cla_no (show PySem.W.exmOne K (.ref (ca 24)) (.ref (ca 14)) = some false from eT.exm 24 14 (by decide) (by decide)) ?_
      refine i_cla_no (show PySem.W.exmOne K (.ref (ca 24)) (.ref (ca 15)) = some false from eT.exm 24 15 (by decide) (by decide)) ?_
      refine i_cla_no (show PySem.W.exmOne K (.ref (ca 24)) (.ref (ca 16)) = some false from eT.exm 24 16 (by decide) (by decide)) ?_
      refine i_cla_no (show PySem.W.exmOne K (.ref (ca 24)) (.ref (ca 17)) = some false from eT.exm 24 17 (by decide) (by decide)) ?_
      refine i_cla_no (show PySem.W.exmOne K (.ref (ca 24)) (.ref (ca 18)) = some false from eT.exm 24 18 (by decide) (by decide)) ?_
      refine i_cla_no (show PySem.W.exmOne K (.ref (ca 24)) (.ref (ca 19)) = some false from eT.exm 24 19 (by decide) (by decide)) ?_
      refine i_cla_no (show PySem.W.exmOne K (.ref (ca 24)) (.ref (ca 20)) = some false from eT.exm 24 20 (by decide) (by decide)) ?_
      refine i_cla_no (show PySem.W.exmOne K (.ref (ca 24)) (.ref (ca 21)) = some false from eT.exm 24 21 (by decide) (by decide)) ?_
      refine i_cla_no (show PySem.W.exmOne K (.ref (ca 24)) (.ref (ca 22)) = some false from eT.exm 24 22 (by decide) (by decide)) ?_
      refine i_cla_no (show PySem.W.exmOne K (.ref (ca 24)) (.ref (ca 23)) = some false from eT.exm 24 23 (by decide) (by decide)) ?_
      refine i_cla_yes (show PySem.W.exmOne K (.ref (ca 24)) (.ref (ca 24)) = some true from eT.exm 24 24 (by decide) (by decide)) (fun a ha => ?_)
      show tRet (tTup (tCons (tC (.int 24)) (tCons (tXf a (.ref (ca 24)) (some d) (ca 24) "name" (tVar 5)) tNil))) _ _ _
      wtm_at "go"
      refine i_xf (fs := kpt 24 _ _ _ _) rfl rfl hx rfl (fun Q' k => ⟨_, rfl, k⟩) ?_
      wtm_at "go"
      rename_i np J nhe nhp
      exact q _ _ (ed.trans nhe) (.tup (Evl.st_of nhp) (.cons (.int _) (.cons (.str _) .nil)))
    · refine i_cla_no (show PySem.W.exmOne K (.ref (ca 25)) (.ref (ca 13)) = some false from eT.exm 25 13 (by decide) (by decide)) ?_
      refine i_cla_no (show PySem.W.exmOne K (.ref (ca 25)) (.ref (ca 14)) = some false from eT.exm 25 14 (by decide) (by decide)) ?_
      refine i_cla_no (show PySem.W.exmOne K (.ref (ca 25)) (.ref (ca 15)) = some false from eT.exm 25 15 (by decide) (by decide)) ?_
      refine i_cla_no (show PySem.W.exmOne K (.ref (ca 25)) (.ref (ca 16)) = some false from eT.exm 25 16 (by decide) (by decide)) ?_
      refine i_cla_no (show PySem.W.exmOne K (.ref (ca 25)) (.ref (ca 17)) = some false from eT.exm 25 17 (by decide) (by decide)) ?_
      refine i_cla_no (show PySem.W.exmOne K (.ref (ca 25)) (.ref (ca 18)) = some false from eT.exm 25 18 (by decide) (by decide)) ?_
      refine i_cla_no (show PySem.W.exmOne K (.ref (ca 25)) (.ref (ca 19)) = some false from eT.exm 25 19 (by decide) (by decide)) ?_
      refine i_cla_no (show PySem.W.exmOne K (.ref (ca 25)) (.ref (ca 20)) = some false from eT.exm 25 20 (by decide) (by decide)) ?_
      refine i_cla_no (show PySem.W.exmOne K (.ref (ca 25)) (.ref (ca 21)) = some false from eT.exm 25 21 (by decide) (by decide)) ?_
      refine i_cla_no (show PySem.W.exmOne K (.ref (ca 25)) (.ref (ca 22)) = some false from eT.exm 25 22 (by decide) (by decide)) ?_
      refine i_cla_no (show PySem.W.exmOne K (.ref (ca 25)) (.ref (ca 23)) = some false from eT.exm 25 23 (by decide) (by decide)) ?_
      refine i_cla_no (show PySem.W.exmOne K (.ref (ca 25)) (.ref (ca 24)) = some false from eT.exm 25 24 (by decide) (by decide)) ?_
      refine i_cla_yes (show PySem.W.exmOne K (.ref (ca 25)) (.ref (ca 25)) = some true from eT.exm 25 25 (by decide) (by decide)) (fun a ha => ?_)
      show tRet (tTup (tCons (tC (.int 25)) (tCons (tTup (tCons (tXf a (.ref (ca 25)) (some d) (ca 25) "rule_label" (tVar 5)) (tCons (tXf a (.ref (ca 25)) (some d) (ca 25) "row_numbers" (tVar 5)) (tCons (tXf a (.ref (ca 25)) (some d) (ca 25) "point" (tVar 5)) tNil)))) tNil))) _ _ _
      wtm_at "go"
      refine i_xf (fs := kpt 25 _ _ _ _) rfl rfl hx rfl (fun Q' k => ⟨_, rfl, k⟩) ?_
      wtm_at "go"
      refine i_xf (fs := kpt 25 _ _ _ _) rfl rfl hx rfl (fun Q' k => ⟨_, rfl, k⟩) ?_
      wtm_at "go"
      refine i_xf (fs := kpt 25 _ _ _ _) rfl rfl hx rfl (fun Q' k => ⟨_, rfl, k⟩) ?_
      wtm_at "go"
      rename_i np J nhe nhp np2 J2 nhe2 nhp2
      exact q _ _ ((ed.trans nhe).trans nhe2) (.tup (Evl.st_of nhp2) (.cons (.int _) (.cons (.tup (Evl.st_of (nhe2 _ _ nhp)) (.cons (.str _) (.cons (dpMono ((ed.trans nhe).trans nhe2) h4) (.cons (dpMono ((ed.trans nhe).trans nhe2) h5) .nil)))) .nil)))
theorem use__law_caught_second {w : Nat} {t : Str} {n : Int} {rows : List PyData} {pd : PyData} (h1 : 13 ≤ w) (h2 : w < 26) (h4 : Dp K H v4 (.tuple rows)) (h5 : Dp K H v5 pd) (q : ∀ v H2, Ex H H2 → Dp K H2 v (.tuple [.int w, keptD w t n rows pd]) → Q v H2) : sp__law_caught_second K [.int w, .str t, .int n, v4, v5] H Q E := ⟨_, _, _, _, _, rfl, w, t, n, rows, pd, h1, h2, rfl, rfl, rfl, h4, h5, q⟩
end
end Wb

namespace Wb
open PySem PySem.Spec PyProof.Rows L2
open Evl (Ex Ex.refl Ex.trans Ex.new)
local macro_rules | `(tactic| wtm_at "dp") => `(tactic| first | with_reducible assumption | with_reducible exact Dp.int _ | with_reducible exact Dp.bl _ | with_reducible exact Dp.str _ | with_reducible exact Dp.non | ((with_reducible refine' dpMono ?dme (by with_reducible assumption)); (case dme => wtm_at "ex")) | ((with_reducible refine' Dp.tup (Evl.st_of ?dph) ?dpa); (case dph => wtm_at "hs"); (case dpa => wtm_at "dpa")) | ((with_reducible refine' Dp.lst (Evl.sq_of ?dph) ?dpa); (case dph => wtm_at "hs"); (case dpa => wtm_at "dpa")))
local macro_rules | `(tactic| wtm_at "dpa") => `(tactic| first | with_reducible exact DpAll.nil | ((with_reducible refine' DpAll.cons ?dp1 ?dp2); (case dp1 => wtm_at "dp"); (case dp2 => wtm_at "dpa")) | with_reducible assumption | ((with_reducible refine' dpMonoA ?dme (by with_reducible assumption)); (case dme => wtm_at "ex")))
local macro_rules | `(tactic| wtm_at "sz") => `(tactic| first | with_reducible assumption | ((with_reducible refine' sz_mul ?sz1 ?sz2); (case sz1 => wtm_at "sz"); (case sz2 => wtm_at "sz")) | ((with_reducible refine' sz_add ?sz1 ?sz2); (case sz1 => wtm_at "sz"); (case sz2 => wtm_at "sz")) | ((with_reducible refine' sz_sub ?sz1 ?sz2); (case sz1 => wtm_at "sz"); (case sz2 => wtm_at "sz")) | ((with_reducible refine' sz_neg ?sz1); (case sz1 => wtm_at "sz")) | ((with_reducible refine' sz_div ?sz1); (case sz1 => wtm_at "sz")) | ((with_reducible refine' sz_fdiv ?sz1); (case sz1 => wtm_at "sz")) | exact sz_lit (by decide) | wtm_at "sz2")
local macro_rules | `(tactic| wtm_at "szb") => `(tactic| first | with_reducible assumption | ((with_reducible refine' sz_mono ?szb1 ?szb2); (case szb1 => wtm_at "sz"); (case szb2 => decide)))
local macro_rules | `(tactic| wtm_at "nz") => `(tactic| first | assumption | decide | omega)
local macro_rules | `(tactic| wtm_at "shaped") => `(tactic| first | rfl | decide)
local macro_rules | `(tactic| wtm_at "sset") => `(tactic| ((dsimp only [L2.wipe, List.set, List.set_cons_zero, List.set_cons_succ]) <;> exact rfl))
local macro_rules | `(tactic| wtm_at "nrm") => `(tactic| dsimp only [L2.start, L2.wipe, List.set, List.append, List.map, List.map_cons, List.map_nil, List.length_cons, List.length_nil, Nat.reduceAdd, Nat.reduceSub, List.reduceReplicate, List.replicate, List.cons_append, List.nil_append, List.set_cons_zero, List.set_cons_succ])
local macro_rules | `(tactic| wtm_at "st") => `(tactic| first
  | ((with_reducible refine' i_var (v := ?u0) ?u1 ?uq); (case u1 => exact rfl))
  | ((with_reducible refine' i_nameN ?u0 ?uq); (case u0 => wtm_at "sset"))
  | (with_reducible refine' i_op ?uq)
  | (with_reducible refine' i_c ?uq)
  | (with_reducible refine' i_I0 ?uq)
  | ((with_reducible refine' i_ixTI (i := ?u0) ?u1 ?u2 ?u3 ?uq); (case u1 => wtm_at "dp"); (case u2 => wtm_at "ex"); (case u3 => exact rfl))
  | ((with_reducible refine' i_ixT (d := ?u0) ?u1 ?u2 ?u3 (fun xu hxu => ?uq)); (case u1 => wtm_at "dp"); (case u2 => wtm_at "ex"); (case u3 => exact rfl))
  | ((with_reducible refine' i_mul ?u0 ?u1 ?u2 ?uq); (case u0 => wtm_at "sz"); (case u1 => wtm_at "sz"); (case u2 => first | decide | omega))
  | (with_reducible refine' i_seq ?uq)
  | (with_reducible refine' i_asg ?uq)
  | (with_reducible refine' i_ret ?uq)
  | (with_reducible refine' i_ifs ?uq)
  | (with_reducible refine' i_drop ?uq)
  | (with_reducible refine' i_next ?uq)
  | (with_reducible refine' i_cons ?uq)
  | (with_reducible refine' i_nil ?uq)
  | (with_reducible refine' i_cl ?uq)
  | (with_reducible refine' i_cb ?uq)
  | (with_reducible refine' i_tup ?uq)
  | (with_reducible refine' i_lst ?uq)
  | ((with_reducible refine' i_mkT ?u0 (fun np nH nhe nhp => ?uq)); (case u0 => exact Nat.le_of_ble_eq_true rfl))
  | (with_reducible refine' i_test ?uq)
  | (with_reducible refine' i_B ?uq)
  | (with_reducible refine' i_k ?uq)
  | (with_reducible refine' i_and ?uq)
  | (with_reducible refine' i_or ?uq)
  | (with_reducible refine' i_not ?uq)
  | (with_reducible refine' i_andV ?uq)
  | (with_reducible refine' i_orV ?uq)
  | (with_reducible refine' i_notV ?uq)
  | (with_reducible refine' i_if ?uq)
  | (with_reducible refine' i_un ?uq)
  | (with_reducible refine' i_U ?uq)
  | (with_reducible refine' i_iteT ?uq)
  | (with_reducible refine' i_iteF ?uq)
  | ((with_reducible refine' i_iteTr ?u0 ?uq); (case u0 => first | with_reducible rfl | decide | (simp only [dIsInt, dIsBool, dIsTup, dIsStr, dIsLst, Bool.not_true, Bool.not_false]; done)))
  | ((with_reducible refine' i_iteFr ?u0 ?uq); (case u0 => first | with_reducible rfl | decide | (simp only [dIsInt, dIsBool, dIsTup, dIsStr, dIsLst, Bool.not_true, Bool.not_false]; done)))
  | (with_reducible refine' i_ite (fun hif => ?uqa) (fun hif => ?uqb))
  | (with_reducible refine' i_iteN (fun hif => ?uqa) (fun hif => ?uqb))
  | (with_reducible refine' i_iteBN (fun hif => ?uqa) (fun hif => ?uqb))
  | (with_reducible refine' i_iteB (fun hif => ?uqa) (fun hif => ?uqb))
  | ((with_reducible refine' i_modN ?u0 ?uq); (case u0 => wtm_at "nz"))
  | ((with_reducible refine' i_fdX ?u0 ?u1 ?u2 ?uq); (case u0 => wtm_at "nz"); (case u1 => wtm_at "sz"); (case u2 => first | decide | omega))
  | ((with_reducible refine' i_pow ?u0 ?uq); (case u0 => exact ⟨by decide, by decide +kernel⟩))
  | (with_reducible refine' i_eqI ?uq)
  | (with_reducible refine' i_neI ?uq)
  | (with_reducible refine' i_gcd ?uq)
  | (with_reducible refine' i_qabs ?uq)
  | (with_reducible refine' i_qint ?uq)
  | (with_reducible refine' i_qintB ?uq)
  | (with_reducible refine' i_qmax2 ?uq)
  | (with_reducible refine' i_qmin2 ?uq)
  | (with_reducible refine' i_isB ?uq)
  | (with_reducible refine' i_notB ?uq)
  | (with_reducible refine' i_chain ?uq)
  | (with_reducible refine' i_qisN ?uq)
  | (with_reducible refine' i_qnotN ?uq)
  | (with_reducible refine' i_yes ?uq)
  | (with_reducible refine' i_par ?uq)
  | (with_reducible refine' i_par3 ?uq)
  | ((with_reducible refine' i_par2 ?u0 ?uq); (case u0 => wtm_at "sset"))
  | ((with_reducible refine' i_par33 ?u0 ?uq); (case u0 => wtm_at "sset"))
  | ((with_reducible refine' i_ixLI (i := ?u0) ?u1 ?u2 ?u3 ?uq); (case u1 => wtm_at "dp"); (case u2 => wtm_at "ex"); (case u3 => exact rfl))
  | ((with_reducible refine' i_ixL (d := ?u0) ?u1 ?u2 ?u3 (fun xu hxu => ?uq)); (case u1 => wtm_at "dp"); (case u2 => wtm_at "ex"); (case u3 => exact rfl))
  | ((with_reducible refine' i_qlenT ?u0 ?uq); (case u0 => wtm_at "dp"))
  | ((with_reducible refine' i_qlenL ?u0 ?uq); (case u0 => wtm_at "dp"))
  | ((with_reducible refine' i_gtup ?u0 ?u1 ?u2 (fun gvs gdp => ?uq)); (case u0 => wtm_at "dp"); (case u1 => wtm_at "ex"); (case u2 => exact rfl))
  | ((with_reducible refine' i_glst ?u0 ?u1 ?u2 (fun gvs gdp => ?uq)); (case u0 => wtm_at "dp"); (case u1 => wtm_at "ex"); (case u2 => exact rfl))
  | ((with_reducible refine' i_gconsI ?u0 (fun gr gh => ?uq)); (case u0 => with_reducible assumption))
  | ((with_reducible refine' i_gconsA ?u0 (fun gv gr gh1 gh2 => ?uq)); (case u0 => with_reducible assumption))
  | ((with_reducible refine' i_gnilA ?u0 ?uq); (case u0 => with_reducible assumption))
  | ((with_reducible refine' i_isiI ?u0 ?uq); (case u0 => wtm_at "dp"))
  | ((with_reducible refine' i_isiB ?u0 ?uq); (case u0 => wtm_at "dp"))
  | ((with_reducible refine' i_isiT ?u0 ?uq); (case u0 => wtm_at "dp"))
  | ((with_reducible refine' i_isiS ?u0 ?uq); (case u0 => wtm_at "dp"))
  | ((with_reducible refine' i_isiL ?u0 ?uq); (case u0 => wtm_at "dp"))
  | ((with_reducible refine' i_eqD ?u0 ?u1 ?u2 ?u3 ?uq); (case u0 => wtm_at "dp"); (case u1 => wtm_at "dp"); (case u2 => wtm_at "shaped"); (case u3 => wtm_at "shaped"))
  | ((with_reducible refine' i_neD ?u0 ?u1 ?u2 ?u3 ?uq); (case u0 => wtm_at "dp"); (case u1 => wtm_at "dp"); (case u2 => wtm_at "shaped"); (case u3 => wtm_at "shaped"))
  | wtm_at "st2"
  | wtm_at "use")
local macro_rules | `(tactic| wtm_at "go") => `(tactic| repeat' (wtm_at "st"))
local macro_rules | `(tactic| wtm_at "go0") => `(tactic| ((try dsimp only [L2.cxOf, L2.Cx.nox, L2.Cx.wish, L2.Cx.tr, L2.Cx.blk]); (try wtm_at "nrm"); wtm_at "go"))
local macro_rules | `(tactic| wtm_at "fin") => `(tactic| ((try dsimp only); first | with_reducible assumption | assumption | ((with_reducible refine' Ret.use ?rur ?rue ?rud); (case rur => with_reducible assumption); (case rue => wtm_at "ex"); (case rud => wtm_at "dp"))))
local macro_rules | `(tactic| wtm_at "exh") => `(tactic| first | with_reducible assumption | with_reducible exact Ex.refl _ | with_reducible exact ex_hid | ((with_reducible refine' Ex.trans ?exe (by with_reducible assumption)); (case exe => wtm_at "exh")) | ((with_reducible refine' Ex.trans ?exe (hid_ex (by with_reducible assumption))); (case exe => wtm_at "exh")))
local macro_rules | `(tactic| wtm_at "ex") => `(tactic| first | with_reducible assumption | with_reducible exact Ex.refl _ | with_reducible exact ex_hid | ((with_reducible refine' Ex.trans ?exe (by with_reducible assumption)); (case exe => wtm_at "ex")) | ((with_reducible refine' Ex.trans ?exe (hid_ex (by with_reducible assumption))); (case exe => wtm_at "ex")) | ((with_reducible refine' Ex.trans ?exe ex_hid); (case exe => wtm_at "exh")))
local macro_rules | `(tactic| wtm_at "bag") => `(tactic| first | with_reducible assumption | ((with_reducible refine' Bag.mono ?bgm (by with_reducible assumption)); (case bgm => wtm_at "bag")))
local macro_rules | `(tactic| wtm_at "hs") => `(tactic| first | with_reducible assumption | ((with_reducible refine' hid_tup ?hb ?hp); (case hp => with_reducible assumption); (case hb => wtm_at "bag")) | ((with_reducible refine' hid_new ?hb ?hn ?hp); (case hp => with_reducible assumption); (case hn => with_reducible assumption); (case hb => wtm_at "bag")) | ((with_reducible refine' ex_at ?exe (by with_reducible assumption)); (case exe => wtm_at "ex")))
local macro_rules | `(tactic| wtm_at "st2") => `(tactic| first
  | ((with_reducible refine' i_mulC ?u0 ?uq); (case u0 => first | exact cmul_l (by decide) | exact cmul_r (by decide)))
  | ((with_reducible refine' i_ixLr (v := ?u0) ?u1 ?u2 ?uq); (case u1 => with_reducible assumption); (case u2 => exact rfl))
  | (with_reducible refine' i_sub ?uq)
  | ((with_reducible refine' i_mkL ?u0 (fun np nH nfr nhe nhp => ?uq)); (case u0 => exact Nat.le_of_ble_eq_true rfl))
  | ((with_reducible refine' i_setL (n := ?u0) ?u1 ?u2 (fun sH sh se => ?uq)); (case u1 => with_reducible assumption); (case u2 => exact rfl))
  | (with_reducible refine' i_sl ?uq)
  | (with_reducible refine' i_nopart ?uq)
  | (with_reducible refine' i_part ?uq)
  | (with_reducible refine' i_part1 ?uq))
local macro_rules | `(tactic| wtm_at "sz2") => `(tactic| ((with_reducible refine' sz_fmod ?sz1 ?sz2); (case sz1 => wtm_at "nz"); (case sz2 => wtm_at "sz")))
local macro_rules | `(tactic| wtm_at "stb") => `(tactic| first
  | ((with_reducible refine' i_mkTB ?u0 ?u1 (fun np nH nhe nhb nhp => ?uq)); (case u0 => exact Nat.le_of_ble_eq_true rfl); (case u1 => wtm_at "bag"))
  | ((with_reducible refine' i_mkLB ?u0 ?u1 (fun np nH nfr nhe nhb nhp => ?uq)); (case u0 => exact Nat.le_of_ble_eq_true rfl); (case u1 => wtm_at "bag"))
  | wtm_at "st")
local macro_rules | `(tactic| wtm_at "gob") => `(tactic| repeat' (wtm_at "stb"))
local macro_rules | `(tactic| wtm_at "gob0") => `(tactic| ((try dsimp only [L2.cxOf, L2.Cx.nox, L2.Cx.wish, L2.Cx.tr, L2.Cx.blk]); (try wtm_at "nrm"); wtm_at "gob"))
local macro_rules | `(tactic| wtm_at "use") => `(tactic| ((with_reducible refine' use__law_draw ?u0 ?u1 ?u2 (fun dn dH dn0 dn1 de db => ?uq)); (case u0 => wtm_at "bag"); (case u1 => wtm_at "pos"); (case u2 => wtm_at "szb")))
local macro_rules | `(tactic| wtm_at "pos") => `(tactic| first | assumption | decide | omega)
local macro_rules | `(tactic| wtm_at "oneof") => `(tactic| ((with_reducible refine' use__law_one_of ?u0 ?u1 ?u2 ?u3 ?uq); (case u0 => wtm_at "bag"); (case u1 => wtm_at "dp"); (case u2 => exact Nat.le_of_ble_eq_true rfl); (case u3 => exact Nat.le_of_ble_eq_true rfl)))
section
variable {P : Program} {w : World} {K : PySem.W.Frag} {mg : Str → Option Value} {base : Heap} {H H' : Hp} {Q : VK} {E : XK} {v1 v2 v3 v4 v5 : V}
def rJoin (K : PySem.W.Frag) : V → List V → Hp → VK → Prop := fun x xs H Q => ∃ a p, ∃ ys : List Str, x = .str a ∧ xs = [.ref p] ∧ (SqL K H p (ys.map V.str) ∨ SqT K H p (ys.map V.str)) ∧ (ys.map (·.length)).sum + ys.length * a.length ≤ 16777216 ∧ Q (.str (Txt.join a ys)) H
theorem pe_joinS {X : Cx} {o e : Expr} {to te : TE} {apos pos : Pos} (ho : PE X o to) (he : PE X e te) (hs : starEach [e] X.env = [(false, eval e X.env)] := by rfl) (hbase : attributeBase o "join" X.env (eval o X.env) = eval o X.env := by rfl) (hline : (apos.endLine == pos.line) = true := by rfl) :
    PE X (.Call (.Attribute o "join" apos) [e] [] pos) (tM1 (rJoin X.K) to te) := pe_join ho he hs hbase hline
theorem i_m1 {r : V → List V → Hp → VK → Prop} {to te : TE} {σ : L2.St} (q : to σ H fun x H1 => (∃ a, x = .str a) ∧ te σ H1 fun y H2 => r x [y] H2 Q) : tM1 r to te σ H Q := q
theorem i_lcRBV {σ : L2.St} {vs : List Nat} {j : Nat} {te : TE} {b : Addr} {PV : V → Prop} {n : Nat} (hb : Bag b H) (hn : n ≤ 1000) (hw : ∀ x, wipe ((wipe σ vs).set j (some x)) vs = wipe σ vs)
    (he : ∀ (i : Nat) (H2 : Hp) (R : VK), Ex (hid b H) (hid b H2) → Bag b H2 → (∀ v H3, PV v → Ex (hid b H2) (hid b H3) → Bag b H3 → R v H3) → te ((wipe σ vs).set j (some (.int (i : Int)))) H2 R)
    (q : ∀ p (ms : List V) H2, ms.length = n → (∀ m ∈ ms, PV m) → Ex (hid b H) (hid b H2) → Bag b H2 → hid b H2 p = some (.lst ms) → Q (.ref p) H2) : tLc (iRng1 (kA [.int (n : Int)])) (gName j) tYes te vs σ H Q := by
  refine ⟨(n : Int), rfl, by omega, by omega, fun D0 hD => ?_⟩
  have hne : D0 ≠ b := hb.ne hD
  refine lc_range (lo := 0) (n := ((n : Int)).toNat) (fun i H' => Ex (hid b H) (hid b H') ∧ Bag b H' ∧ ∃ ms : List V, ms.length = i ∧ (∀ m ∈ ms, PV m) ∧ H' D0 = some (.lst ms)) ⟨ex_hidD hD (Ex.refl _), bag_upd hne hb, [], rfl, by simp, upd_same⟩ (fun i H' hi p => ?_) (fun H' p => ?_)
  · obtain ⟨p1, p2, ms, p3, p4, p5⟩ := p
    have e0 : (0 : Int) + (i : Int) = (i : Int) := Int.zero_add _
    show wipe ((wipe σ vs).set j (some (.int ((0 : Int) + (i : Int))))) vs = wipe σ vs ∧ tYes ((wipe σ vs).set j (some (.int ((0 : Int) + (i : Int))))) H' fun b' H3 => _
    rw [e0]
    refine ⟨hw _, he i H' _ p1 p2 fun m H3 hm e3 b3 => ?_⟩
    have hD3 : H3 D0 = some (.lst ms) := (of_hid (e3 _ _ (hid_of p5 hne))).2
    refine ⟨_, hD3, Evl.sz_lt (by omega), ex_hidD hD (p1.trans e3), bag_upd hne b3, ms ++ [m], by simp [p3], ?_, by rw [upd_same]⟩
    intro m' hm'
    rcases List.mem_append.mp hm' with h | h
    · exact p4 m' h
    · rcases List.mem_singleton.mp h with rfl
      exact hm
  · obtain ⟨p1, p2, ms, p3, p4, p5⟩ := p
    exact q D0 ms H' (by omega) p4 p1 p2 (hid_of p5 hne)
theorem i_forVg {σ : L2.St} {D : Ends} {g : TG} {tb : TS} {tl : TE} (q : tl σ H fun x H1 => tFor (iList K (tC x)) g tb D σ H1) : tFor (iList K tl) g tb D σ H := q
theorem i_forLVg {σ : L2.St} {g : TG} {tb : TS} {D : Ends} {vs : List V} {a : Addr} (h : SqL K H a vs) (Pv : Nat → L2.St → Hp → Prop) (h0 : Pv 0 σ H) (hl : ∀ i σ' H', Pv i σ' H' → SqL K H' a vs)
    (hs : ∀ (i : Nat) (x : V) σ' H', vs[i]? = some x → Pv i σ' H' → g x σ' H' fun σ2 H2 => tb { D with nx := Pv (i + 1), ct := Pv (i + 1), bk := D.nx } σ2 H2) (hd : ∀ σ' H', Pv vs.length σ' H' → D.nx σ' H') : tFor (iList K (tC (.ref a))) g tb D σ H :=
  ⟨a, rfl, ⟨_, h⟩, for_list (xs := vs) Pv h0 (fun i σ' H' _ p => hl i σ' H' p) hs hd⟩
theorem ok_app (x y : Str) : PyData.strOk (x ++ y) = (PyData.strOk x && PyData.strOk y) := by
  show (x.cps ++ y.cps).all _ = _
  rw [Array.all_append]
  rfl
theorem ok_str (s : String) : PyData.strOk (Str.ofString s) = true := by
  rw [Str.ofString_eq_toList]
  unfold PyData.strOk
  simp
  intro c _
  have := c.valid
  rcases this with h | ⟨_, h⟩
  · show c.val.toNat < _
    have : c.val.toNat < 0xd800 := h
    omega
  · exact h

local macro_rules | `(tactic| wtm_at "use") => `(tactic| (first | ((with_reducible refine' use__law_bag ?u0 ?u1 ?u2 (fun bb bH bn be bg => ?uq)); (case u0 => with_reducible assumption); (case u1 => first | assumption | omega); (case u2 => first | assumption | omega)) | fail))
local macro_rules | `(tactic| wtm_at "st2") => `(tactic| ((with_reducible refine' i_qlenS ?u0 ?uq); (case u0 => with_reducible assumption)))
local macro_rules | `(tactic| wtm_at "st2") => `(tactic| (with_reducible refine' i_m1 ?_))
theorem strs_of : ∀ {ms : List V}, (∀ m ∈ ms, ∃ s : Str, m = V.str s ∧ PyData.strOk s = true ∧ s.length ≤ 1) → ∃ ys : List Str, ms = ys.map V.str ∧ ∀ y ∈ ys, PyData.strOk y = true ∧ y.length ≤ 1
  | [], _ => ⟨[], rfl, fun _ h => by cases h⟩
  | m :: ms, h => by
    obtain ⟨c, e, hc⟩ := h m List.mem_cons_self
    obtain ⟨cs, e2, hcs⟩ := strs_of fun x hx => h x (List.mem_cons_of_mem _ hx)
    refine ⟨c :: cs, by rw [e, e2]; rfl, fun x hx => ?_⟩
    rcases List.mem_cons.mp hx with rfl | hx
    · exact hc
    · exact hcs x hx
theorem ok_join0 : ∀ ys : List Str, (∀ y ∈ ys, PyData.strOk y = true) → PyData.strOk (Str.join (Str.ofString "") ys) = true
  | [], _ => by decide +kernel
  | [y], h => h y List.mem_cons_self
  | y :: z :: r, h => by
    show PyData.strOk (y ++ Str.ofString "" ++ Str.join (Str.ofString "") (z :: r)) = true
    rw [ok_app, ok_app, h y List.mem_cons_self, ok_str, ok_join0 (z :: r) fun x hx => h x (List.mem_cons_of_mem _ hx)]
    rfl
theorem ok_join (ys : List Str) (h : ∀ y ∈ ys, PyData.strOk y = true) : PyData.strOk (Txt.join (Str.ofString "") ys) = true := by
  have e : Txt.join (Str.ofString "") ys = Str.join (Str.ofString "") ys := PySem.StrLaws.glued_eq_join _ _
  rw [e]
  exact ok_join0 ys h
theorem sum_len : ∀ ys : List Str, (∀ y ∈ ys, y.length ≤ 1) → (ys.map (·.length)).sum ≤ ys.length
  | [], _ => Nat.le_refl _
  | y :: ys, h => by
    have h1 := h y List.mem_cons_self
    have h2 := sum_len ys fun z hz => h z (List.mem_cons_of_mem _ hz)
    show y.length + (ys.map (·.length)).sum ≤ ys.length + 1
    omega
theorem dp_ints : ∀ ms : List Int, DpAll K H (ms.map V.int) (ms.map PyData.int)
  | [] => .nil
  | m :: ms => .cons (.int m) (dp_ints ms)
theorem lay_bls : ∀ bs : List Bool, PyData.canLayAll0 (bs.map PyData.bool) = true ∧ PyData.depthAll (bs.map PyData.bool) = 0
  | [] => ⟨rfl, rfl⟩
  | b :: bs => by
    obtain ⟨h1, h2⟩ := lay_bls bs
    exact ⟨by show (true && PyData.canLayAll0 (bs.map PyData.bool)) = true; rw [h1]; rfl, by show max 0 (PyData.depthAll (bs.map PyData.bool)) = 0; omega⟩
theorem lay_ints : ∀ ms : List Int, PyData.canLayAll0 (ms.map PyData.int) = true ∧ PyData.depthAll (ms.map PyData.int) = 0
  | [] => ⟨rfl, rfl⟩
  | b :: bs => by
    obtain ⟨h1, h2⟩ := lay_ints bs
    exact ⟨by show (true && PyData.canLayAll0 (bs.map PyData.int)) = true; rw [h1]; rfl, by show max 0 (PyData.depthAll (bs.map PyData.int)) = 0; omega⟩
theorem shp_bls (bs : List Bool) : SeqAt.shaped (.list (bs.map PyData.bool)) = true := by
  obtain ⟨h1, h2⟩ := lay_bls bs
  unfold SeqAt.shaped
  have e1 : PyData.canLay0 (.list (bs.map PyData.bool)) = true := h1
  have e2 : PyData.depth (.list (bs.map PyData.bool)) ≤ 64 := by
    show PyData.depthAll (bs.map PyData.bool) + 1 ≤ 64
    omega
  rw [e1, decide_eq_true e2]
  rfl
theorem shp_kept {w : Nat} {t : Str} {n : Int} {ms : List Int} {pd : PyData} (ht : PyData.strOk t = true) (h1 : PyData.canLay0 pd = true) (h2 : PyData.depth pd ≤ 1) : SeqAt.shaped (.tuple [.int w, keptD w t n (ms.map PyData.int) pd]) = true := by
  have k : PyData.canLay0 (keptD w t n (ms.map PyData.int) pd) = true ∧ PyData.depth (keptD w t n (ms.map PyData.int) pd) ≤ 2 := by
    unfold keptD
    split
    · exact ⟨rfl, Nat.le_of_ble_eq_true rfl⟩
    · split
      · exact ⟨ht, Nat.le_of_ble_eq_true rfl⟩
      · split
        · obtain ⟨e1, e2⟩ := lay_ints ms
          refine ⟨?_, ?_⟩
          · show (PyData.strOk t && (PyData.canLayAll0 (ms.map PyData.int) && (PyData.canLay0 pd && true))) = true
            rw [ht, e1, h1]
            rfl
          · show max 0 (max (PyData.depthAll (ms.map PyData.int) + 1) (max (PyData.depth pd) 0)) + 1 ≤ 2
            omega
        · exact ⟨rfl, Nat.le_of_ble_eq_true rfl⟩
  unfold SeqAt.shaped
  have e1 : PyData.canLay0 (.tuple [.int w, keptD w t n (ms.map PyData.int) pd]) = true := by
    show (true && (PyData.canLay0 (keptD w t n (ms.map PyData.int) pd) && true)) = true
    rw [k.1]
    rfl
  have e2 : PyData.depth (.tuple [.int w, keptD w t n (ms.map PyData.int) pd]) ≤ 64 := by
    show max 0 (max (PyData.depth (keptD w t n (ms.map PyData.int) pd)) 0) + 1 ≤ 64
    have := k.2
    omega
  rw [e1, decide_eq_true e2]
  rfl
theorem eqv_self {d : PyData} (h : SeqAt.shaped d = true) : PyData.eqv d d = true := SeqAt.eqv_refl d (SeqAt.canLay_of_shaped h)
def sp_law (K : PySem.W.Frag) : Sp := A1 fun v1 H Q => ∃ (a : Addr) (ns : List Int), v1 = .ref a ∧ SqL K H a (ns.map V.int) ∧ ∀ H2, Q (.bl true) H2
abbrev s_law : Stmt := top 39
theorem sc_law : FnScope ["_law_script", "_law_at", "_law_bag_here", "_law_text", "_law_number", "_law_rows", "_law_point", "_law_which", "_law_kept_here", "_law_turn"] ["_law_script"] (defScope s_law) := ⟨rfl, rfl, rfl, by decide +kernel, rfl, by decide +kernel, by decide +kernel⟩
theorem ok_law {f : Addr} {fd : FuncData} (F : FnP K "law" s_law f fd) (g : G mg) (c__law_bag : Cl P w K mg base 1 "_law_bag" (sp__law_bag K)) (c__law_one_of : Cl P w K mg base 2 "_law_one_of" (sp__law_one_of K)) (c__law_shuffled : Cl P w K mg base 2 "_law_shuffled" (sp__law_shuffled K)) (c__law_draw : Cl P w K mg base 1 "_law_draw" (sp__law_draw K)) (c__law_kept : Cl P w K mg base 1 "_law_kept" (sp__law_kept K)) (c__law_classes_of : Cl P w K mg base 3 "_law_classes_of" (sp__law_classes_of K)) (c__law_due_classes : Cl P w K mg base 1 "_law_due_classes" (sp__law_due_classes K)) (c__law_caught_second : Cl P w K mg base 3 "_law_caught_second" (sp__law_caught_second K))  : FnOk P w K mg base CX0 4 f fd ["_law_script"] (sp_law K) := by
  have nd := sc_law.nd
  refine F.ok sc_law (fun vs H Q E h => h.len) (fun cdv A outer s H vs Q E hr h => ?_)
  obtain ⟨v1, rfl, h⟩ := h
  refine ⟨_, PSs.nox (pss_cons (ps_for PassesOwn.never rfl (pi_range1 (by rfl) g.f_range (pa_cons (pe_callB (call_qmax2 rfl) (by rfl) g.f_max boot_max (pa_cons pe_int (pa_cons (pe_callB (call_qmin2 rfl) (by rfl) g.f_min boot_min (pa_cons pe_int (pa_cons (pe_callB call_qlen (by rfl) g.f_len boot_len (pa_cons (pv 0) pa_nil)) pa_nil))) pa_nil))) pa_nil)) (pg_name (i := 1) nd rfl (Or.inl rfl)) (pss_cons (ps_set (i := 2) nd rfl (Or.inr rfl) (pc c__law_bag hr (by decide) (by rfl) (pa_cons (pv 0) (pa_cons (pv 1) pa_nil)))) (pss_cons (ps_set (i := 3) nd rfl (Or.inl rfl) (pe_joinS pe_str (pe_lc (own := [("_law_turn", 9)]) (g := gName 9) (by rfl) nd (pi_range1 (by rfl) g.f_range (pa_cons (pe_op op_add pe_int (pc c__law_draw hr (by decide) (by rfl) (pa_cons (pv 2) (pa_cons pe_int pa_nil)))) pa_nil)) (blkOk_by (N := ["_law_script", "_law_at", "_law_bag_here", "_law_text", "_law_number", "_law_rows", "_law_point", "_law_which", "_law_kept_here", "_law_turn"]) (sc := defScope s_law) (own := [("_law_turn", 9)]) (by decide +kernel)) (fun _ _ _ _ _ => (pg_name (i := 9) nd rfl (Or.inl rfl))) (fun _ _ _ _ _ => pts_nil) (fun _ _ _ _ _ => (pc c__law_one_of hr (by decide) (by rfl) (pa_cons (pv 2) (pa_cons (pe_lst (pa_cons pe_str (pa_cons pe_str (pa_cons pe_str (pa_cons pe_str (pa_cons pe_str (pa_cons pe_str (pa_cons pe_str (pa_cons pe_str pa_nil))))))))) pa_nil))))))) (pss_cons (ps_set (i := 4) nd rfl (Or.inl rfl) (pe_op op_sub (pc c__law_draw hr (by decide) (by rfl) (pa_cons (pv 2) (pa_cons (pe_op op_powX pe_int pe_int) pa_nil))) (pc c__law_draw hr (by decide) (by rfl) (pa_cons (pv 2) (pa_cons (pe_op op_powX pe_int pe_int) pa_nil))))) (pss_cons (ps_set (i := 5) nd rfl (Or.inl rfl) (pe_callTy call_qtuple (by rfl) g.f_tuple boot_tuple (pa_cons (pe_lc (own := [("_law_turn", 9)]) (g := gName 9) (by rfl) nd (pi_range1 (by rfl) g.f_range (pa_cons (pc c__law_draw hr (by decide) (by rfl) (pa_cons (pv 2) (pa_cons pe_int pa_nil))) pa_nil)) (blkOk_by (N := ["_law_script", "_law_at", "_law_bag_here", "_law_text", "_law_number", "_law_rows", "_law_point", "_law_which", "_law_kept_here", "_law_turn"]) (sc := defScope s_law) (own := [("_law_turn", 9)]) (by decide +kernel)) (fun _ _ _ _ _ => (pg_name (i := 9) nd rfl (Or.inl rfl))) (fun _ _ _ _ _ => pts_nil) (fun _ _ _ _ _ => (pe_op op_add pe_int (pc c__law_draw hr (by decide) (by rfl) (pa_cons (pv 2) (pa_cons pe_int pa_nil)))))) pa_nil))) (pss_cons (ps_set (i := 6) nd rfl (Or.inl rfl) (pc c__law_one_of hr (by decide) (by rfl) (pa_cons (pv 2) (pa_cons (pe_lst (pa_cons pe_non (pa_cons (pe_tup (pa_cons pe_int (pa_cons pe_int (pa_cons pe_int pa_nil)))) (pa_cons (pe_tup (pa_cons (pc c__law_draw hr (by decide) (by rfl) (pa_cons (pv 2) (pa_cons (pe_op op_powX pe_int pe_int) pa_nil))) (pa_cons pe_int (pa_cons (pe_op op_add pe_int (pc c__law_draw hr (by decide) (by rfl) (pa_cons (pv 2) (pa_cons pe_int pa_nil)))) pa_nil)))) pa_nil)))) pa_nil)))) (pss_one (ps_for PassesOwn.never rfl (pi_list (pc c__law_shuffled hr (by decide) (by rfl) (pa_cons (pv 2) (pa_cons (pe_listRg rfl (by rfl) g.f_list (prg_1 (by rfl) g.f_range pe_int)) pa_nil)))) (pg_name (i := 7) nd rfl (Or.inl rfl)) (pss_cons (ps_set (i := 8) nd rfl (Or.inl rfl) (pc c__law_kept hr (by decide) (by rfl) (pa_cons (pv 7) (pa_cons (pv 3) (pa_cons (pv 4) (pa_cons (pv 5) (pa_cons (pv 6) pa_nil))))))) (pss_cons (ps_if (PW.pt (pw_and (pt_cmpR op_ge (pv 7) pe_int (nomark _)) (pw_and1 (pt_cmpR (op_neD hr.units) (pc c__law_caught_second hr (by decide) (by rfl) (pa_cons (pv 7) (pa_cons (pv 3) (pa_cons (pv 4) (pa_cons (pv 5) (pa_cons (pv 6) pa_nil)))))) (pe_tup (pa_cons (pv 7) (pa_cons (pv 8) pa_nil))) (nomark _))))) (pss_one (ps_ret pe_bl)) pss_nil) (pss_one (ps_if (pt_cmpR (op_neD hr.units) (pc c__law_classes_of hr (by decide) (by rfl) (pa_cons (pv 7) (pa_cons (pv 3) (pa_cons (pv 4) (pa_cons (pv 5) (pa_cons (pv 6) pa_nil)))))) (pc c__law_due_classes hr (by decide) (by rfl) (pa_cons (pv 7) pa_nil)) (nomark _)) (pss_one (ps_ret pe_bl)) pss_nil)))))))))))) (pss_one (ps_ret pe_bl))), ?_⟩
  obtain ⟨a, ns, rfl, hS, q⟩ := h
  have p30 : 0 < (10 : Int) ^ (30 : Int).toNat := by decide +kernel
  have s30 : Sz 9000 ((10 : Int) ^ (30 : Int).toNat) := by unfold Sz; decide +kernel
  have p12 : 0 < (10 : Int) ^ (12 : Int).toNat := by decide +kernel
  have s12 : Sz 9000 ((10 : Int) ^ (12 : Int).toNat) := by unfold Sz; decide +kernel
  have p20 : 0 < (10 : Int) ^ (20 : Int).toNat := by decide +kernel
  have s20 : Sz 9000 ((10 : Int) ^ (20 : Int).toNat) := by unfold Sz; decide +kernel
  wtm_at "go0"
  refine i_forRU ?_
  wtm_at "go"
  refine i_forRK ⟨by (repeat' split) <;> omega, by (repeat' split) <;> omega⟩ (fun i σ' H' => (i : Int) ≤ 2 ∧ ∃ o1 o2 o3 o4 o5 o6 o7 o8 o9 : Option V, σ' = [some (.ref a), o1, o2, o3, o4, o5, o6, o7, o8, o9] ∧ SqL K H' a (ns.map V.int)) ⟨by decide, _, _, _, _, _, _, _, _, _, rfl, hS⟩ ?_ ?_
  rotate_left
  · intro σ' H' hp
    obtain ⟨hi, o1, o2, o3, o4, o5, o6, o7, o8, o9, rfl, hS'⟩ := hp
    dsimp only
    wtm_at "go"
    exact q _
  intro i σ' H' hlt hp
  obtain ⟨hi, o1, o2, o3, o4, o5, o6, o7, o8, o9, rfl, hS'⟩ := hp
  have hlt4 : (i : Int) < 2 := by
    revert hlt
    (repeat' split) <;> omega
  clear hlt hS
  wtm_at "nrm"
  wtm_at "gob"
  rename_i bb bH bn be bg
  refine ⟨⟨_, rfl⟩, ?_⟩
  refine i_lcRU ?_
  wtm_at "gob"
  rename_i dn G dn0 dn1 de db
  obtain ⟨n, hn⟩ : ∃ n : Nat, 1 + dn = (n : Int) := ⟨(1 + dn).toNat, by omega⟩
  rw [hn]
  refine i_lcRBV (b := bb) (PV := fun v => ∃ s : Str, v = .str s ∧ PyData.strOk s = true ∧ s.length ≤ 1) (n := n) db (by omega) (fun x => rfl) ?_ ?_
  · intro i2 H5 R e5 b5 r
    wtm_at "nrm"
    wtm_at "gob"
    wtm_at "oneof"
    intro d v H6 hd e6 b6 hv
    refine r v H6 ?_ (by wtm_at "ex") b6
    simp only [List.mem_cons, List.not_mem_nil, or_false] at hd
    rcases hd with rfl | rfl | rfl | rfl | rfl | rfl | rfl | rfl <;> exact ⟨_, dpStr hv, ok_str _, by decide +kernel⟩
  intro p ms H5 hl hP e5 b5 hp
  obtain ⟨ys, rfl, hys⟩ := strs_of hP
  rw [List.length_map] at hl
  have hok := ok_join ys fun y hy => (hys y hy).1
  have hsl := sum_len ys fun y hy => (hys y hy).2
  have e0 : (Str.ofString "").length = 0 := by decide +kernel
  refine ⟨_, p, ys, rfl, rfl, .inl (Evl.sq_of (of_hid hp).2), by rw [e0]; omega, ?_⟩
  have ex5 : Ex (hid bb bH) (hid bb H5) := de.trans e5
  generalize Txt.join (Str.ofString "") ys = tx at *
  clear hP hys hsl hl hp e5 de db hn dn0 dn1
  wtm_at "gob"
  rename_i n1 G1 _ _ e1 _ n2 G2 _ _ e2 b2
  have ex2 := ex5.trans (e1.trans e2)
  generalize n1 - n2 = num at *
  clear ex5 e1 e2
  refine i_lcRU ?_
  wtm_at "gob"
  rename_i n3 G3 c0 c1 e3 b3
  obtain ⟨m, rfl⟩ : ∃ m : Nat, n3 = m := ⟨n3.toNat, by omega⟩
  refine i_lcRB (b := bb) (P := fun _ => True) (n := m) b3 (by omega) (fun x => rfl) ?_ ?_
  · intro i2 H5 R e5 b5 r
    wtm_at "nrm"
    wtm_at "gob"
    rename_i n4 G4 _ _ e4 b4
    exact r _ _ trivial (e4) b4
  intro p ms H6 hl6 _ e6 b6 hp6
  have ex6 := ex2.trans (e3.trans e6)
  clear ex2 e3 e6
  wtm_at "gob"
  refine ⟨p, ms.map V.int, rfl, .inl ⟨Evl.sq_of (of_hid hp6).2, fun l hl => ?_⟩⟩
  have e7 : Ex H6 (upd H6 l (.tup (ms.map V.int))) := Ex.new hl
  have b7 : Bag bb (upd H6 l (.tup (ms.map V.int))) := b6.mono e7
  have hrow : Dp K (hid bb (upd H6 l (.tup (ms.map V.int)))) (.ref l) (.tuple (ms.map PyData.int)) := .tup (Evl.st_of (hid_of upd_same (b6.ne hl))) (dp_ints ms)
  have ex7 : Ex (hid bb bH) (hid bb (upd H6 l (.tup (ms.map V.int)))) := ex6.trans (hid_ex e7)
  generalize upd H6 l (.tup (ms.map V.int)) = H7 at *
  clear ex6 e7 hp6 b6 b3
  wtm_at "gob"
  wtm_at "oneof"
  intro pd pv H8 hd8 e8 b8 hpv
  have hpd : PyData.canLay0 pd = true ∧ PyData.depth pd ≤ 1 := by
    simp only [List.mem_cons, List.not_mem_nil, or_false] at hd8
    rcases hd8 with rfl | rfl | rfl <;> exact ⟨rfl, Nat.le_of_ble_eq_true rfl⟩
  have ex8 : Ex (hid bb H7) (hid bb H8) := by wtm_at "ex"
  have hrow8 : Dp K (hid bb H8) (.ref l) (.tuple (ms.map PyData.int)) := dpMono ex8 hrow
  have hpv8 : Dp K (hid bb H8) pv pd := hpv
  have ex8' := ex7.trans ex8
  clear hrow hpv e8 ex7 ex8 hd8 b7
  wtm_at "gob"
  dsimp only
  refine i_forVg ?_
  wtm_at "gob"
  refine ⟨26, rfl, RgOk.of_le (by decide) (by decide) (by decide) (by decide), fun lr hlr => ?_⟩
  have e9 : Ex H8 (upd H8 lr (.lst (rgV 0 26))) := Ex.new hlr
  have b9 := b8.mono e9
  have hrg : rgV 0 26 = ((List.range 26).map fun k : Nat => (k : Int)).map V.int := rfl
  have dr : Dp K (hid bb (upd H8 lr (.lst (rgV 0 26)))) (.ref lr) (.list (((List.range 26).map fun k : Nat => (k : Int)).map PyData.int)) := .lst (Evl.sq_of (hid_of upd_same (b8.ne hlr))) (by rw [hrg]; exact dp_ints _)
  generalize upd H8 lr (.lst (rgV 0 26)) = H9 at *
  wtm_at "gob"
  refine use__law_shuffled b9 dr (Nat.le_of_ble_eq_true rfl) ?_
  intro es a3 us3 J hperm e10 b10 ha3 hu3
  have hes : ∀ d ∈ es, ∃ k : Nat, k < 26 ∧ d = .int (k : Int) := fun d hd => by
    have := hperm.mem_iff.mp hd
    rw [List.map_map] at this
    obtain ⟨k, hk, rfl⟩ := List.mem_map.mp this
    exact ⟨k, List.mem_range.mp hk, rfl⟩
  have exJ : Ex (hid bb bH) (hid bb J) := ex8'.trans ((hid_ex e9).trans e10)
  have hrowJ : Dp K J (.ref l) (.tuple (ms.map PyData.int)) := dpMono (((hid_ex e9).trans e10).trans ex_hid) hrow8
  have hpvJ : Dp K J pv pd := dpMono (((hid_ex e9).trans e10).trans ex_hid) hpv8
  have ha3J : SqL K J a3 us3 := Evl.sq_of (of_hid ha3).2
  have hu3J := dpMonoA ex_hid hu3
  have hSJ : SqL K J a (ns.map V.int) := Evl.ex_l (ex_unhid bn be exJ) hS'
  clear hperm dr hrg e9 e10 b9 b10 hrow8 hpv8 ex8' hu3 ha3 hS' be bg b8 hlr
  refine i_forLVg ha3J (fun _ σ' H' => ∃ o7 o8 : Option V, σ' = [some (.ref a), some (.int (i : Int)), some (.ref bb), some (.str tx), some (.int num), some (.ref l), some pv, o7, o8, o9] ∧ Ex J H') ⟨_, _, rfl, Ex.refl _⟩ ?_ ?_ ?_
  · rintro k σ' H' ⟨o7, o8, rfl, e⟩
    exact Evl.ex_l e ha3J
  · rintro k x σ' H' hx ⟨o7, o8, rfl, e⟩
    obtain ⟨d, hd, hxd⟩ := dpIdx hu3J hx
    obtain ⟨w', hw, rfl⟩ := hes d (List.mem_of_getElem? hd)
    cases dpInt hxd
    have hrow' := dpMono e hrowJ
    have hpv' := dpMono e hpvJ
    clear hxd hd hx
    wtm_at "nrm"
    wtm_at "gob"
    refine use__law_kept hrow' hpv' (fun kv K1 e1 hk => ?_)
    wtm_at "gob"
    · rename_i h13
      have w13 : 13 ≤ w' := by omega
      refine use__law_caught_second w13 hw (dpMono e1 hrow') (dpMono e1 hpv') (fun cv K2 e2 hc => ?_)
      wtm_at "go"
      rename_i np K3 e3 h3
      refine i_neD (dpMono e3 hc) (.tup (Evl.st_of h3) (.cons (.int _) (.cons (dpMono (e2.trans e3) hk) .nil))) (shp_kept hok hpd.1 hpd.2) (shp_kept hok hpd.1 hpd.2) ?_
      rw [eqv_self (shp_kept hok hpd.1 hpd.2)]
      have e13 := (e1.trans e2).trans e3
      clear h3 hc hk e1 e2 e3
      refine i_k ?_
      wtm_at "go"
      refine use__law_classes_of hw (fun lv K4 e4 hl4 => ?_)
      wtm_at "go"
      refine use__law_due_classes hw (fun dv K5 e5 hd5 => ?_)
      refine i_neD (dpMono e5 hl4) hd5 (shp_bls _) (shp_bls _) ?_
      rw [eqv_self (shp_bls _)]
      refine i_k ?_
      have e15 := e.trans ((e13.trans e4).trans e5)
      clear hl4 hd5 e4 e5 e13
      wtm_at "go"
      exact ⟨_, _, rfl, e15⟩
    · rename_i h13
      refine use__law_classes_of hw (fun lv K4 e4 hl4 => ?_)
      wtm_at "go"
      refine use__law_due_classes hw (fun dv K5 e5 hd5 => ?_)
      refine i_neD (dpMono e5 hl4) hd5 (shp_bls _) (shp_bls _) ?_
      rw [eqv_self (shp_bls _)]
      refine i_k ?_
      have e15 := e.trans ((e1.trans e4).trans e5)
      clear hl4 hd5 e4 e5 e1 hk
      wtm_at "go"
      exact ⟨_, _, rfl, e15⟩
  · rintro σ' H' ⟨o7, o8, rfl, e⟩
    exact ⟨by omega, _, _, _, _, _, _, _, _, _, rfl, Evl.ex_l e hSJ⟩
end
end Wb

namespace Wb
open PySem PySem.Spec PyProof.Rows L2
theorem allB_from {p : Nat → Addr → Bool} : ∀ {as : List Addr} {j i : Nat} {a : Addr}, allB p j as = true → as[i]? = some a → p (j + i) a = true
  | [], _, _, _, _, e => by cases e
  | b :: r, j, 0, a, h, e => by
    unfold allB at h
    obtain ⟨h1, _⟩ := Bool.and_eq_true_iff.mp h
    cases e
    exact h1
  | b :: r, j, i + 1, a, h, e => by
    unfold allB at h
    obtain ⟨_, h2⟩ := Bool.and_eq_true_iff.mp h
    have := allB_from (i := i) (a := a) h2 e
    rw [show j + (i + 1) = j + 1 + i by omega]
    exact this
theorem allB_at {p : Nat → Addr → Bool} {as : List Addr} {i : Nat} {a : Addr} (h : allB p 0 as = true) (e : as[i]? = some a) : p i a = true := by
  have := allB_from h e
  rw [Nat.zero_add] at this
  exact this
theorem ca_at {K : PySem.W.Frag} {i : Nat} (h : i < 26) : (caL K)[i]? = some (caF K i) := by
  have e : i < (caL K).length := h
  unfold caF
  show _ = some ((caL K)[i]?.getD 0)
  rw [List.getElem?_eq_getElem e]
  rfl
structure ClF (K : PySem.W.Frag) (i : Nat) (C : Addr) : Prop where
  c : ∃ cd, PySem.W.clsIn K C = some cd ∧ cd.mro.isEmpty = false ∧ (∀ j, j < 26 → cd.mro.contains (.ref (caF K j)) = isC i j) ∧ (∀ k, k < 7 → cd.mro.contains (.type (tyN k)) = isB i k) ∧ cd.mro.contains (.type "BaseException") = true ∧ cd.mro.contains (.type "object") = true
  t : PySem.W.typeIn K (.ref C) = some (.type "type")
  ec : ExcC K C
theorem clB_ok {K : PySem.W.Frag} {i : Nat} {C : Addr} (g : clG K = true) (h : clB K (caL K) i C = true) : ClF K i C := by
  unfold clB at h
  obtain ⟨h1, h⟩ := Bool.and_eq_true_iff.mp h
  obtain ⟨h2, h3⟩ := Bool.and_eq_true_iff.mp h
  unfold ecB at h3
  obtain ⟨e1, h3⟩ := Bool.and_eq_true_iff.mp h3
  obtain ⟨e2, h3⟩ := Bool.and_eq_true_iff.mp h3
  obtain ⟨e3, e4⟩ := Bool.and_eq_true_iff.mp h3
  unfold clG at g
  obtain ⟨g1, g2⟩ := Bool.and_eq_true_iff.mp g
  cases hc : PySem.W.clsIn K C with
  | none => rw [hc] at h1; cases h1
  | some cd =>
    rw [hc] at h1
    dsimp only at h1
    unfold mrB at h1
    obtain ⟨m1, h1⟩ := Bool.and_eq_true_iff.mp h1
    obtain ⟨m2, h1⟩ := Bool.and_eq_true_iff.mp h1
    obtain ⟨m3, h1⟩ := Bool.and_eq_true_iff.mp h1
    obtain ⟨m4, m5⟩ := Bool.and_eq_true_iff.mp h1
    have m1' : cd.mro.isEmpty = false := by
      cases q : cd.mro.isEmpty with
      | false => rfl
      | true => rw [q] at m1; cases m1
    have sb : PySem.W.subIn K (.ref C) (.type "BaseException") = some true := by
      show PySem.W.mroIn K C _ = _
      unfold PySem.W.mroIn
      rw [hc, Option.bind_some, m1', if_neg Bool.false_ne_true, m4]
    have so : PySem.W.mroIn K C (.type "object") = some true := by
      unfold PySem.W.mroIn
      rw [hc, Option.bind_some, m1', if_neg Bool.false_ne_true, m5]
    refine ⟨⟨cd, hc, m1', fun j hj => beq_iff_eq.mp (allB_at m2 (ca_at hj)), fun k hk => beq_iff_eq.mp (List.all_eq_true.mp m3 k (List.mem_range.mpr hk)), m4, m5⟩, of_decide_eq_true h2, ?_⟩
    exact ⟨He.eqO_ok e1, He.eqO_ok e2, sb, e3, He.eqO_ok e4, He.eqO_ok g1, of_decide_eq_true g2, so⟩
theorem ClF.sub {K : PySem.W.Frag} {i j : Nat} {C : Addr} (c : ClF K i C) (hj : j < 26) : PySem.W.subIn K (.ref C) (.ref (caF K j)) = some (isC i j) := by
  obtain ⟨cd, hc, m1, m2, _⟩ := c.c
  show PySem.W.mroIn K C _ = _
  unfold PySem.W.mroIn
  rw [hc, Option.bind_some, m1, if_neg Bool.false_ne_true, m2 j hj]
theorem ClF.kcl {K : PySem.W.Frag} {i j : Nat} {C : Addr} (c : ClF K i C) (d : ClF K j (caF K j)) (hj : j < 26) : PySem.W.kitCls K (.ref C) (.ref (caF K j)) = some (isC i j) := by
  obtain ⟨cd, hc, _⟩ := d.c
  unfold PySem.W.kitCls
  dsimp only
  rw [hc, d.t, c.sub hj]
  rfl
theorem ClF.exm {K : PySem.W.Frag} {i j : Nat} {C : Addr} (c : ClF K i C) (d : ClF K j (caF K j)) (hj : j < 26) : PySem.W.exmOne K (.ref C) (.ref (caF K j)) = some (isC i j) := by
  unfold PySem.W.exmOne
  rw [d.ec.hs, c.kcl d hj]
  rfl
theorem isC_self (i : Nat) : isC i i = true := by
  unfold isC
  rw [beq_self_eq_true, Bool.true_or]
theorem ClF.kit {K : PySem.W.Frag} {i j : Nat} (c : ClF K i (caF K i)) (d : ClF K j (caF K j)) (hi : i < 26) (hj : j < 26) : PySem.W.kitOne K (.ref (caF K i)) (.ref (caF K j)) = some (isC i j) := by
  unfold PySem.W.kitOne
  by_cases q : (Value.ref (caF K i) == Value.ref (caF K j)) = true
  · rw [if_pos q]
    have e : caF K i = caF K j := Value.ref.inj (beq_iff_eq.mp q)
    have h := c.sub hj
    rw [← e, c.sub hi, isC_self] at h
    exact h
  · rw [if_neg q, c.kcl d hj]
theorem kitMeta_ty {k : Nat} (h : k < 7) : PySem.W.kitMeta (tyN k) = true := by
  have hk : k = 0 ∨ k = 1 ∨ k = 2 ∨ k = 3 ∨ k = 4 ∨ k = 5 ∨ k = 6 := by omega
  rcases hk with rfl | rfl | rfl | rfl | rfl | rfl | rfl <;> decide +kernel
theorem ClF.kb {K : PySem.W.Frag} {i k : Nat} {C : Addr} (c : ClF K i C) (hk : k < 7) : PySem.W.kitOne K (.ref C) (.type (tyN k)) = some (isB i k) := by
  obtain ⟨cd, hc, m1, _, m3, _⟩ := c.c
  unfold PySem.W.kitOne
  have q : ¬ (Value.ref C == Value.type (tyN k)) = true := fun q => nomatch beq_iff_eq.mp q
  rw [if_neg q]
  unfold PySem.W.kitCls
  dsimp only
  rw [kitMeta_ty hk, if_pos rfl]
  show PySem.W.mroIn K C _ = _
  unfold PySem.W.mroIn
  rw [hc, Option.bind_some, m1, if_neg Bool.false_ne_true, m3 k hk]
theorem plB_ok {K : PySem.W.Frag} {i : Nat} {C : Addr} (c : ClF K i C) (h : plB K C = true) : Pln K C := by
  unfold plB at h
  obtain ⟨h1, h2⟩ := Bool.and_eq_true_iff.mp h
  exact ⟨h1, h2, c.ec.hs, c.t⟩
theorem nB_ok {K : PySem.W.Frag} {C : Addr} {n : Str} (h : nB K C n = true) : PySem.W.takerIn K C n = some none ∧ PySem.W.findIn K (.ref C) n = some none := by
  unfold nB at h
  obtain ⟨h1, h2⟩ := Bool.and_eq_true_iff.mp h
  exact ⟨He.eqO_ok h1, He.eqO_ok h2⟩
theorem ini_fn {K : PySem.W.Frag} {C fI : Addr} {st : Stmt} {qual : Str} {P : Program} (hP : P.main.file = PySem.Challenge.pw_wherebase_k00_whole_errors.main.file) (e : iniW K fI = iniV st qual) (c : fnB K C fI qual = true) : ∃ (oc : Value) (od : Option Addr) (osl : Array (Option Value)) (doc pm : Value) (an : Option Addr) (cda : Addr) (ct : Value) (cc : Addr),
    K.lookup fI = some ⟨oc, od, .func (PySem.W.fnX "__init__" qual (L2.defArgs st) (L2.defBody st) (L2.defScope st) [("__class__", cc)] .none .none doc pm an (.ref cda) ct), osl⟩ ∧ PySem.W.codeIn K (.ref cda) qual = true ∧
    (∃ ccl cdd vs ccs file tf, K.lookup cda = some ⟨ccl, cdd, .fields vs, ccs⟩ ∧ vs[2]? = some (.str file tf) ∧ ((P.main.file : Str) == file) = true) ∧ ∃ cl cld csl, K.lookup cc = some ⟨cl, cld, .cell (some (.ref C)), csl⟩ := by
  unfold iniW at e
  unfold fnB at c
  cases q : K.lookup fI with
  | none => rw [q] at c; cases c
  | some ob =>
    obtain ⟨oc, od, dt, osl⟩ := ob
    rw [q] at c e
    cases dt with
    | func fd =>
      obtain ⟨n1, n2, n3, n4, n5, n6, n7, n8, n9, n10, n11, n12, n13, n14, n15⟩ := fd
      have e2 : (some (n1, n2, n3, n4, n5, n6, n7.map (·.1), n15) : IniW) = (some ("__init__", qual, defArgs st, .stmts (defBody st), defScope st, mainGlobals, ["__class__"], builtinsNs) : IniW) := e
      simp only [Option.some.injEq, Prod.mk.injEq] at e2
      obtain ⟨h1, h2, h3, h4, h5, h6, h7, h8⟩ := e2
      dsimp only at c
      split at c
      · rename_i cn cc cda
        have h7' : cn = "__class__" := by
          have := congrArg (fun l : List Str => l.headD "") h7
          exact this
        subst h1 h2 h3 h4 h5 h6 h7' h8
        obtain ⟨k1, k2⟩ := Bool.and_eq_true_iff.mp c
        obtain ⟨k2, k3⟩ := Bool.and_eq_true_iff.mp k2
        refine ⟨oc, od, osl, n10, n11, n12, cda, n14, cc, rfl, k1, ?_, ?_⟩
        · split at k2
          · rename_i q2
            split at k2
            · rename_i q3
              exact ⟨_, _, _, _, _, _, q2, q3, by rw [hP]; exact k2⟩
            · cases k2
          · cases k2
        · split at k3
          · rename_i q2
            have := beq_iff_eq.mp k3
            subst this
            exact ⟨_, _, _, q2⟩
          · cases k3
      · cases c
    | _ => cases c
theorem sup_ok {P : Program} {K : PySem.W.Frag} {C fI : Addr} {B i newId : String} {bm : List Value} {st : Stmt} {qual : Str} (h : supB K C fI B i newId bm = true)
    (fn : ∃ (oc : Value) (od : Option Addr) (osl : Array (Option Value)) (doc pm : Value) (an : Option Addr) (cda : Addr) (ct : Value) (cc : Addr),
    K.lookup fI = some ⟨oc, od, .func (PySem.W.fnX "__init__" qual (L2.defArgs st) (L2.defBody st) (L2.defScope st) [("__class__", cc)] .none .none doc pm an (.ref cda) ct), osl⟩ ∧ PySem.W.codeIn K (.ref cda) qual = true ∧
    (∃ ccl cdd vs ccs file tf, K.lookup cda = some ⟨ccl, cdd, .fields vs, ccs⟩ ∧ vs[2]? = some (.str file tf) ∧ ((P.main.file : Str) == file) = true) ∧ ∃ cl cld csl, K.lookup cc = some ⟨cl, cld, .cell (some (.ref C)), csl⟩) : SupC P K C fI B i newId bm st qual := by
  unfold supB at h
  obtain ⟨h0, h⟩ := Bool.and_eq_true_iff.mp h
  obtain ⟨h1, h⟩ := Bool.and_eq_true_iff.mp h
  obtain ⟨h2, h⟩ := Bool.and_eq_true_iff.mp h
  obtain ⟨h3, h⟩ := Bool.and_eq_true_iff.mp h
  obtain ⟨h4, h⟩ := Bool.and_eq_true_iff.mp h
  obtain ⟨h5, h⟩ := Bool.and_eq_true_iff.mp h
  obtain ⟨h6, h⟩ := Bool.and_eq_true_iff.mp h
  obtain ⟨h7, h⟩ := Bool.and_eq_true_iff.mp h
  obtain ⟨h8, h⟩ := Bool.and_eq_true_iff.mp h
  obtain ⟨h9, h⟩ := Bool.and_eq_true_iff.mp h
  obtain ⟨h10, h⟩ := Bool.and_eq_true_iff.mp h
  obtain ⟨h11, h12⟩ := Bool.and_eq_true_iff.mp h
  exact ⟨He.eqO_ok h0, h1, h2, h3, He.eqO_ok h4, of_decide_eq_true h5, of_decide_eq_true h6, of_decide_eq_true h7, of_decide_eq_true h8, h9, He.eqO_ok h10, of_decide_eq_true h11, He.eqO_ok h12, fn⟩
theorem ini1_18 : Init1 PySem.Challenge.pw_wherebase_k00_whole_errors st18 "TakenName.__init__" "self" "name" "name" where
  body := ⟨_, _, _, _, _, _, _, _, _, _, _, _, rfl, fun _ _ _ _ => rfl, fun _ _ _ _ => rfl, fun _ _ _ _ => ⟨_, rfl⟩⟩
  inter := fun _ _ _ _ => rfl
  kind := rfl
  co := rfl
  gen := rfl
  nocell := by decide +kernel
  sup := by decide +kernel
  cls := by decide +kernel
  self := by decide +kernel
  arg := by decide +kernel
  ne := by decide +kernel
  sd := by decide +kernel
  ad := by decide +kernel
  first := ⟨_, rfl, rfl⟩
  binds := fun _ _ _ _ _ _ _ _ _ => BindsTo.of_eq rfl
  top := by decide +kernel
theorem ini1_19 : Init1 PySem.Challenge.pw_wherebase_k00_whole_errors st19 "ParseError.__init__" "self" "index" "index" where
  body := ⟨_, _, _, _, _, _, _, _, _, _, _, _, rfl, fun _ _ _ _ => rfl, fun _ _ _ _ => rfl, fun _ _ _ _ => ⟨_, rfl⟩⟩
  inter := fun _ _ _ _ => rfl
  kind := rfl
  co := rfl
  gen := rfl
  nocell := by decide +kernel
  sup := by decide +kernel
  cls := by decide +kernel
  self := by decide +kernel
  arg := by decide +kernel
  ne := by decide +kernel
  sd := by decide +kernel
  ad := by decide +kernel
  first := ⟨_, rfl, rfl⟩
  binds := fun _ _ _ _ _ _ _ _ _ => BindsTo.of_eq rfl
  top := by decide +kernel
theorem ini1_20 : Init1 PySem.Challenge.pw_wherebase_k00_whole_errors st20 "InvalidNumber.__init__" "self" "value" "value" where
  body := ⟨_, _, _, _, _, _, _, _, _, _, _, _, rfl, fun _ _ _ _ => rfl, fun _ _ _ _ => rfl, fun _ _ _ _ => ⟨_, rfl⟩⟩
  inter := fun _ _ _ _ => rfl
  kind := rfl
  co := rfl
  gen := rfl
  nocell := by decide +kernel
  sup := by decide +kernel
  cls := by decide +kernel
  self := by decide +kernel
  arg := by decide +kernel
  ne := by decide +kernel
  sd := by decide +kernel
  ad := by decide +kernel
  first := ⟨_, rfl, rfl⟩
  binds := fun _ _ _ _ _ _ _ _ _ => BindsTo.of_eq rfl
  top := by decide +kernel
theorem ini1_21 : Init1 PySem.Challenge.pw_wherebase_k00_whole_errors st21 "UnknownName.__init__" "self" "name" "name" where
  body := ⟨_, _, _, _, _, _, _, _, _, _, _, _, rfl, fun _ _ _ _ => rfl, fun _ _ _ _ => rfl, fun _ _ _ _ => ⟨_, rfl⟩⟩
  inter := fun _ _ _ _ => rfl
  kind := rfl
  co := rfl
  gen := rfl
  nocell := by decide +kernel
  sup := by decide +kernel
  cls := by decide +kernel
  self := by decide +kernel
  arg := by decide +kernel
  ne := by decide +kernel
  sd := by decide +kernel
  ad := by decide +kernel
  first := ⟨_, rfl, rfl⟩
  binds := fun _ _ _ _ _ _ _ _ _ => BindsTo.of_eq rfl
  top := by decide +kernel
theorem ini1_22 : Init1 PySem.Challenge.pw_wherebase_k00_whole_errors st22 "TooMany.__init__" "self" "limit" "limit" where
  body := ⟨_, _, _, _, _, _, _, _, _, _, _, _, rfl, fun _ _ _ _ => rfl, fun _ _ _ _ => rfl, fun _ _ _ _ => ⟨_, rfl⟩⟩
  inter := fun _ _ _ _ => rfl
  kind := rfl
  co := rfl
  gen := rfl
  nocell := by decide +kernel
  sup := by decide +kernel
  cls := by decide +kernel
  self := by decide +kernel
  arg := by decide +kernel
  ne := by decide +kernel
  sd := by decide +kernel
  ad := by decide +kernel
  first := ⟨_, rfl, rfl⟩
  binds := fun _ _ _ _ _ _ _ _ _ => BindsTo.of_eq rfl
  top := by decide +kernel
theorem ini1_23 : Init1 PySem.Challenge.pw_wherebase_k00_whole_errors st23 "NothingToUndo.__init__" "self" "many" "many" where
  body := ⟨_, _, _, _, _, _, _, _, _, _, _, _, rfl, fun _ _ _ _ => rfl, fun _ _ _ _ => rfl, fun _ _ _ _ => ⟨_, rfl⟩⟩
  inter := fun _ _ _ _ => rfl
  kind := rfl
  co := rfl
  gen := rfl
  nocell := by decide +kernel
  sup := by decide +kernel
  cls := by decide +kernel
  self := by decide +kernel
  arg := by decide +kernel
  ne := by decide +kernel
  sd := by decide +kernel
  ad := by decide +kernel
  first := ⟨_, rfl, rfl⟩
  binds := fun _ _ _ _ _ _ _ _ _ => BindsTo.of_eq rfl
  top := by decide +kernel
theorem ini1_24 : Init1 PySem.Challenge.pw_wherebase_k00_whole_errors st24 "Conflict.__init__" "self" "name" "name" where
  body := ⟨_, _, _, _, _, _, _, _, _, _, _, _, rfl, fun _ _ _ _ => rfl, fun _ _ _ _ => rfl, fun _ _ _ _ => ⟨_, rfl⟩⟩
  inter := fun _ _ _ _ => rfl
  kind := rfl
  co := rfl
  gen := rfl
  nocell := by decide +kernel
  sup := by decide +kernel
  cls := by decide +kernel
  self := by decide +kernel
  arg := by decide +kernel
  ne := by decide +kernel
  sd := by decide +kernel
  ad := by decide +kernel
  first := ⟨_, rfl, rfl⟩
  binds := fun _ _ _ _ _ _ _ _ _ => BindsTo.of_eq rfl
  top := by decide +kernel
theorem ini1_25 : Init3 PySem.Challenge.pw_wherebase_k00_whole_errors st25 "Broken.__init__" where
  body := ⟨_, _, _, _, _, _, _, _, _, _, _, _, _, _, _, _, _, _, _, _, rfl, fun _ _ _ _ => rfl, fun _ _ _ _ => rfl, fun _ _ _ _ => rfl, fun _ _ _ _ => rfl, fun _ _ _ _ => ⟨_, rfl⟩⟩
  inter := fun _ _ _ _ => rfl
  kind := rfl
  co := rfl
  gen := rfl
  nocell := by decide +kernel
  sup := by decide +kernel
  cls := by decide +kernel
  self := by decide +kernel
  arg1 := by decide +kernel
  arg2 := by decide +kernel
  arg3 := by decide +kernel
  first := ⟨_, rfl, rfl⟩
  binds := fun _ _ _ _ _ _ _ _ _ _ _ => BindsTo.of_eq rfl
  top := by decide +kernel
theorem facts {w : World} {K : PySem.W.Frag} {h : Heap} {mg : Str → Option Value} {f : Addr} (X : K.In h) (G0 : h.Ns mainGlobals mg) (hfa : mg ("law" : Str) = some (.ref f)) (cx : SaysY K) :
    ∃ fd : FuncData, (∀ (s : Shared) (v : Value), BindsTo s fd ⟨[v], []⟩ [("_law_script", v)]) ∧ ∀ base : Heap, K.In base → base.Ns mainGlobals mg → FnOk PySem.Challenge.pw_wherebase_k00_whole_errors w K mg base CX0 4 f fd ["_law_script"] (sp_law K) := by
  have c : He.SaysD fa fn K := cx.d
  obtain ⟨d__law_bag, F__law_bag⟩ := c.def_ 0 (d := mkD "_law_bag" 28 []) rfl
  obtain ⟨d__law_draw, F__law_draw⟩ := c.def_ 1 (d := mkD "_law_draw" 29 []) rfl
  obtain ⟨d__law_one_of, F__law_one_of⟩ := c.def_ 2 (d := mkD "_law_one_of" 30 []) rfl
  obtain ⟨d__law_shuffled, F__law_shuffled⟩ := c.def_ 3 (d := mkD "_law_shuffled" 31 []) rfl
  obtain ⟨d__law_first, F__law_first⟩ := c.def_ 4 (d := mkD "_law_first" 32 []) rfl
  obtain ⟨d__law_second, F__law_second⟩ := c.def_ 5 (d := mkD "_law_second" 33 []) rfl
  obtain ⟨d__law_caught_second, F__law_caught_second⟩ := c.def_ 6 (d := mkD "_law_caught_second" 34 []) rfl
  obtain ⟨d__law_classes, F__law_classes⟩ := c.def_ 7 (d := mkD "_law_classes" 35 []) rfl
  obtain ⟨d__law_classes_of, F__law_classes_of⟩ := c.def_ 8 (d := mkD "_law_classes_of" 36 []) rfl
  obtain ⟨d__law_due_classes, F__law_due_classes⟩ := c.def_ 9 (d := mkD "_law_due_classes" 37 []) rfl
  obtain ⟨d__law_kept, F__law_kept⟩ := c.def_ 10 (d := mkD "_law_kept" 38 []) rfl
  obtain ⟨d_law, F_law⟩ := c.def_ 11 (d := mkD "law" 39 []) rfl
  have m__law_bag := He.glo_ok X G0 (c.fact 0 (f := .glo "_law_bag") rfl)
  have m__law_draw := He.glo_ok X G0 (c.fact 1 (f := .glo "_law_draw") rfl)
  have m__law_one_of := He.glo_ok X G0 (c.fact 2 (f := .glo "_law_one_of") rfl)
  have m__law_shuffled := He.glo_ok X G0 (c.fact 3 (f := .glo "_law_shuffled") rfl)
  have m__law_first := He.glo_ok X G0 (c.fact 4 (f := .glo "_law_first") rfl)
  have m__law_second := He.glo_ok X G0 (c.fact 5 (f := .glo "_law_second") rfl)
  have m__law_caught_second := He.glo_ok X G0 (c.fact 6 (f := .glo "_law_caught_second") rfl)
  have m__law_classes := He.glo_ok X G0 (c.fact 7 (f := .glo "_law_classes") rfl)
  have m__law_classes_of := He.glo_ok X G0 (c.fact 8 (f := .glo "_law_classes_of") rfl)
  have m__law_due_classes := He.glo_ok X G0 (c.fact 9 (f := .glo "_law_due_classes") rfl)
  have m__law_kept := He.glo_ok X G0 (c.fact 10 (f := .glo "_law_kept") rfl)
  have m_law := He.glo_ok X G0 (c.fact 11 (f := .glo "law") rfl)
  have m_WhereError := He.glo_ok X G0 (c.fact 12 (f := .glo "WhereError") rfl)
  have m_InvalidPoint := He.glo_ok X G0 (c.fact 13 (f := .glo "InvalidPoint") rfl)
  have m_InvalidShape := He.glo_ok X G0 (c.fact 14 (f := .glo "InvalidShape") rfl)
  have m_InvalidCell := He.glo_ok X G0 (c.fact 15 (f := .glo "InvalidCell") rfl)
  have m_InvalidDrawing := He.glo_ok X G0 (c.fact 16 (f := .glo "InvalidDrawing") rfl)
  have m_InvalidMap := He.glo_ok X G0 (c.fact 17 (f := .glo "InvalidMap") rfl)
  have m_InvalidLayer := He.glo_ok X G0 (c.fact 18 (f := .glo "InvalidLayer") rfl)
  have m_InvalidArcs := He.glo_ok X G0 (c.fact 19 (f := .glo "InvalidArcs") rfl)
  have m_InvalidBox := He.glo_ok X G0 (c.fact 20 (f := .glo "InvalidBox") rfl)
  have m_InvalidName := He.glo_ok X G0 (c.fact 21 (f := .glo "InvalidName") rfl)
  have m_InvalidTree := He.glo_ok X G0 (c.fact 22 (f := .glo "InvalidTree") rfl)
  have m_InvalidTable := He.glo_ok X G0 (c.fact 23 (f := .glo "InvalidTable") rfl)
  have m_InvalidRow := He.glo_ok X G0 (c.fact 24 (f := .glo "InvalidRow") rfl)
  have m_InvalidCondition := He.glo_ok X G0 (c.fact 25 (f := .glo "InvalidCondition") rfl)
  have m_InvalidQuestion := He.glo_ok X G0 (c.fact 26 (f := .glo "InvalidQuestion") rfl)
  have m_InvalidPlan := He.glo_ok X G0 (c.fact 27 (f := .glo "InvalidPlan") rfl)
  have m_InvalidRule := He.glo_ok X G0 (c.fact 28 (f := .glo "InvalidRule") rfl)
  have m_InvalidOperation := He.glo_ok X G0 (c.fact 29 (f := .glo "InvalidOperation") rfl)
  have m_TakenName := He.glo_ok X G0 (c.fact 30 (f := .glo "TakenName") rfl)
  have m_ParseError := He.glo_ok X G0 (c.fact 31 (f := .glo "ParseError") rfl)
  have m_InvalidNumber := He.glo_ok X G0 (c.fact 32 (f := .glo "InvalidNumber") rfl)
  have m_UnknownName := He.glo_ok X G0 (c.fact 33 (f := .glo "UnknownName") rfl)
  have m_TooMany := He.glo_ok X G0 (c.fact 34 (f := .glo "TooMany") rfl)
  have m_NothingToUndo := He.glo_ok X G0 (c.fact 35 (f := .glo "NothingToUndo") rfl)
  have m_Conflict := He.glo_ok X G0 (c.fact 36 (f := .glo "Conflict") rfl)
  have m_Broken := He.glo_ok X G0 (c.fact 37 (f := .glo "Broken") rfl)
  have g : G mg := ⟨He.free_ok X G0 (c.fact 38 (f := .free "len") rfl), He.free_ok X G0 (c.fact 39 (f := .free "abs") rfl), He.free_ok X G0 (c.fact 40 (f := .free "int") rfl), He.free_ok X G0 (c.fact 41 (f := .free "tuple") rfl), He.free_ok X G0 (c.fact 42 (f := .free "list") rfl), He.free_ok X G0 (c.fact 43 (f := .free "isinstance") rfl), He.free_ok X G0 (c.fact 44 (f := .free "max") rfl), He.free_ok X G0 (c.fact 45 (f := .free "min") rfl), He.free_ok X G0 (c.fact 46 (f := .free "sum") rfl), He.free_ok X G0 (c.fact 47 (f := .free "range") rfl), He.free_ok X G0 (c.fact 48 (f := .free "super") rfl), He.free_ok X G0 (c.fact 49 (f := .free "ValueError") rfl), He.free_ok X G0 (c.fact 50 (f := .free "IndexError") rfl), He.free_ok X G0 (c.fact 51 (f := .free "KeyError") rfl), He.free_ok X G0 (c.fact 52 (f := .free "LookupError") rfl), He.free_ok X G0 (c.fact 53 (f := .free "OverflowError") rfl), He.free_ok X G0 (c.fact 54 (f := .free "ArithmeticError") rfl), He.free_ok X G0 (c.fact 55 (f := .free "RuntimeError") rfl)⟩
  have hm := cx.more
  unfold exB at hm
  obtain ⟨hm, zs⟩ := Bool.and_eq_true_iff.mp hm
  obtain ⟨hm, zg⟩ := Bool.and_eq_true_iff.mp hm
  obtain ⟨z1, z2⟩ := Bool.and_eq_true_iff.mp hm
  obtain ⟨zs, y25⟩ := Bool.and_eq_true_iff.mp zs
  obtain ⟨zs, y24⟩ := Bool.and_eq_true_iff.mp zs
  obtain ⟨zs, y23⟩ := Bool.and_eq_true_iff.mp zs
  obtain ⟨zs, y22⟩ := Bool.and_eq_true_iff.mp zs
  obtain ⟨zs, y21⟩ := Bool.and_eq_true_iff.mp zs
  obtain ⟨zs, y20⟩ := Bool.and_eq_true_iff.mp zs
  obtain ⟨zs, y19⟩ := Bool.and_eq_true_iff.mp zs
  have y18 := zs
  have e18 : iniW K (iniA K (He.ga K "TakenName")) = iniV st18 "TakenName.__init__" := Option.some.inj (congrArg (fun z : List IniW => z[0]?) cx.ini)
  unfold sx18 at y18
  obtain ⟨y18, x18⟩ := Bool.and_eq_true_iff.mp y18
  obtain ⟨y18, n18a⟩ := Bool.and_eq_true_iff.mp y18
  obtain ⟨y18, f18⟩ := Bool.and_eq_true_iff.mp y18
  have e19 : iniW K (iniA K (He.ga K "ParseError")) = iniV st19 "ParseError.__init__" := Option.some.inj (congrArg (fun z : List IniW => z[1]?) cx.ini)
  unfold sx19 at y19
  obtain ⟨y19, x19⟩ := Bool.and_eq_true_iff.mp y19
  obtain ⟨y19, n19a⟩ := Bool.and_eq_true_iff.mp y19
  obtain ⟨y19, f19⟩ := Bool.and_eq_true_iff.mp y19
  have e20 : iniW K (iniA K (He.ga K "InvalidNumber")) = iniV st20 "InvalidNumber.__init__" := Option.some.inj (congrArg (fun z : List IniW => z[2]?) cx.ini)
  unfold sx20 at y20
  obtain ⟨y20, x20⟩ := Bool.and_eq_true_iff.mp y20
  obtain ⟨y20, n20a⟩ := Bool.and_eq_true_iff.mp y20
  obtain ⟨y20, f20⟩ := Bool.and_eq_true_iff.mp y20
  have e21 : iniW K (iniA K (He.ga K "UnknownName")) = iniV st21 "UnknownName.__init__" := Option.some.inj (congrArg (fun z : List IniW => z[3]?) cx.ini)
  unfold sx21 at y21
  obtain ⟨y21, x21⟩ := Bool.and_eq_true_iff.mp y21
  obtain ⟨y21, n21a⟩ := Bool.and_eq_true_iff.mp y21
  obtain ⟨y21, f21⟩ := Bool.and_eq_true_iff.mp y21
  have e22 : iniW K (iniA K (He.ga K "TooMany")) = iniV st22 "TooMany.__init__" := Option.some.inj (congrArg (fun z : List IniW => z[4]?) cx.ini)
  unfold sx22 at y22
  obtain ⟨y22, x22⟩ := Bool.and_eq_true_iff.mp y22
  obtain ⟨y22, n22a⟩ := Bool.and_eq_true_iff.mp y22
  obtain ⟨y22, f22⟩ := Bool.and_eq_true_iff.mp y22
  have e23 : iniW K (iniA K (He.ga K "NothingToUndo")) = iniV st23 "NothingToUndo.__init__" := Option.some.inj (congrArg (fun z : List IniW => z[5]?) cx.ini)
  unfold sx23 at y23
  obtain ⟨y23, x23⟩ := Bool.and_eq_true_iff.mp y23
  obtain ⟨y23, n23a⟩ := Bool.and_eq_true_iff.mp y23
  obtain ⟨y23, f23⟩ := Bool.and_eq_true_iff.mp y23
  have e24 : iniW K (iniA K (He.ga K "Conflict")) = iniV st24 "Conflict.__init__" := Option.some.inj (congrArg (fun z : List IniW => z[6]?) cx.ini)
  unfold sx24 at y24
  obtain ⟨y24, x24⟩ := Bool.and_eq_true_iff.mp y24
  obtain ⟨y24, n24a⟩ := Bool.and_eq_true_iff.mp y24
  obtain ⟨y24, f24⟩ := Bool.and_eq_true_iff.mp y24
  have e25 : iniW K (iniA K (He.ga K "Broken")) = iniV st25 "Broken.__init__" := Option.some.inj (congrArg (fun z : List IniW => z[7]?) cx.ini)
  unfold sx25 at y25
  obtain ⟨y25, x25⟩ := Bool.and_eq_true_iff.mp y25
  obtain ⟨y25, n25c⟩ := Bool.and_eq_true_iff.mp y25
  obtain ⟨y25, n25b⟩ := Bool.and_eq_true_iff.mp y25
  obtain ⟨y25, n25a⟩ := Bool.and_eq_true_iff.mp y25
  obtain ⟨y25, f25⟩ := Bool.and_eq_true_iff.mp y25
  have eg : ErG mg (caF K) := ⟨m_WhereError, m_InvalidPoint, m_InvalidShape, m_InvalidCell, m_InvalidDrawing, m_InvalidMap, m_InvalidLayer, m_InvalidArcs, m_InvalidBox, m_InvalidName, m_InvalidTree, m_InvalidTable, m_InvalidRow, m_InvalidCondition, m_InvalidQuestion, m_InvalidPlan, m_InvalidRule, m_InvalidOperation, m_TakenName, m_ParseError, m_InvalidNumber, m_UnknownName, m_TooMany, m_NothingToUndo, m_Conflict, m_Broken⟩
  have es : ErS PySem.Challenge.pw_wherebase_k00_whole_errors K (caF K) := ⟨ini1_18, ⟨_, sup_ok y18 (ini_fn (P := PySem.Challenge.pw_wherebase_k00_whole_errors) rfl e18 f18)⟩, (nB_ok n18a).1, (nB_ok n18a).2, xfB_ok x18, ini1_19, ⟨_, sup_ok y19 (ini_fn (P := PySem.Challenge.pw_wherebase_k00_whole_errors) rfl e19 f19)⟩, (nB_ok n19a).1, (nB_ok n19a).2, xfB_ok x19, ini1_20, ⟨_, sup_ok y20 (ini_fn (P := PySem.Challenge.pw_wherebase_k00_whole_errors) rfl e20 f20)⟩, (nB_ok n20a).1, (nB_ok n20a).2, xfB_ok x20, ini1_21, ⟨_, sup_ok y21 (ini_fn (P := PySem.Challenge.pw_wherebase_k00_whole_errors) rfl e21 f21)⟩, (nB_ok n21a).1, (nB_ok n21a).2, xfB_ok x21, ini1_22, ⟨_, sup_ok y22 (ini_fn (P := PySem.Challenge.pw_wherebase_k00_whole_errors) rfl e22 f22)⟩, (nB_ok n22a).1, (nB_ok n22a).2, xfB_ok x22, ini1_23, ⟨_, sup_ok y23 (ini_fn (P := PySem.Challenge.pw_wherebase_k00_whole_errors) rfl e23 f23)⟩, (nB_ok n23a).1, (nB_ok n23a).2, xfB_ok x23, ini1_24, ⟨_, sup_ok y24 (ini_fn (P := PySem.Challenge.pw_wherebase_k00_whole_errors) rfl e24 f24)⟩, (nB_ok n24a).1, (nB_ok n24a).2, xfB_ok x24, ini1_25, ⟨_, sup_ok y25 (ini_fn (P := PySem.Challenge.pw_wherebase_k00_whole_errors) rfl e25 f25)⟩, (nB_ok n25a).1, (nB_ok n25a).2, (nB_ok n25b).1, (nB_ok n25b).2, (nB_ok n25c).1, (nB_ok n25c).2, xfB_ok x25⟩
  have cl : ∀ i, i < 26 → ClF K i (caF K i) := fun i hi => clB_ok zg (allB_at z1 (ca_at hi))
  have eT : ErT PySem.Challenge.pw_wherebase_k00_whole_errors K mg (caF K) := ⟨eg, es, fun i hi => plB_ok (cl i (by omega)) (allB_at z2 (by
    have e : ∀ j, j < 18 → [He.ga K "WhereError", He.ga K "InvalidPoint", He.ga K "InvalidShape", He.ga K "InvalidCell", He.ga K "InvalidDrawing", He.ga K "InvalidMap", He.ga K "InvalidLayer", He.ga K "InvalidArcs", He.ga K "InvalidBox", He.ga K "InvalidName", He.ga K "InvalidTree", He.ga K "InvalidTable", He.ga K "InvalidRow", He.ga K "InvalidCondition", He.ga K "InvalidQuestion", He.ga K "InvalidPlan", He.ga K "InvalidRule", He.ga K "InvalidOperation"][j]? = some (caF K j) := fun j hj => by
      have hj2 : j = 0 ∨ j = 1 ∨ j = 2 ∨ j = 3 ∨ j = 4 ∨ j = 5 ∨ j = 6 ∨ j = 7 ∨ j = 8 ∨ j = 9 ∨ j = 10 ∨ j = 11 ∨ j = 12 ∨ j = 13 ∨ j = 14 ∨ j = 15 ∨ j = 16 ∨ j = 17 := by omega
      rcases hj2 with rfl | rfl | rfl | rfl | rfl | rfl | rfl | rfl | rfl | rfl | rfl | rfl | rfl | rfl | rfl | rfl | rfl | rfl <;> rfl
    exact e i hi)), fun i j hi hj => (cl i hi).exm (cl j hj) hj, fun i hi => (cl i hi).ec, fun i j hi hj => (cl i hi).kit (cl j hj) hi hj, fun i k hi hk => (cl i hi).kb hk⟩
  cases hfa.symm.trans m_law
  have b := FunD.bindsA (ps := ["_law_script"]) F_law fun _ _ _ _ _ _ us hl => match us, hl with | [_], _ => rfl
  refine ⟨d_law, fun s v => b s [v] rfl, fun base _ _ => ?_⟩
  have c__law_draw : Cl PySem.Challenge.pw_wherebase_k00_whole_errors w K mg base 1 "_law_draw" (sp__law_draw K) := ⟨⟨_, _, _, ok__law_draw F__law_draw g, m__law_draw, F__law_draw.kp, F__law_draw.bindsN fun _ _ _ _ _ _ us hl => match us, hl with | [_, _], _ => rfl⟩⟩
  have c__law_bag : Cl PySem.Challenge.pw_wherebase_k00_whole_errors w K mg base 1 "_law_bag" (sp__law_bag K) := ⟨⟨_, _, _, ok__law_bag F__law_bag g, m__law_bag, F__law_bag.kp, F__law_bag.bindsN fun _ _ _ _ _ _ us hl => match us, hl with | [_, _], _ => rfl⟩⟩
  have c__law_one_of : Cl PySem.Challenge.pw_wherebase_k00_whole_errors w K mg base 2 "_law_one_of" (sp__law_one_of K) := ⟨⟨_, _, _, ok__law_one_of F__law_one_of g c__law_draw, m__law_one_of, F__law_one_of.kp, F__law_one_of.bindsN fun _ _ _ _ _ _ us hl => match us, hl with | [_, _], _ => rfl⟩⟩
  have c__law_shuffled : Cl PySem.Challenge.pw_wherebase_k00_whole_errors w K mg base 2 "_law_shuffled" (sp__law_shuffled K) := ⟨⟨_, _, _, ok__law_shuffled F__law_shuffled g c__law_draw, m__law_shuffled, F__law_shuffled.kp, F__law_shuffled.bindsN fun _ _ _ _ _ _ us hl => match us, hl with | [_, _], _ => rfl⟩⟩
  have c__law_kept : Cl PySem.Challenge.pw_wherebase_k00_whole_errors w K mg base 1 "_law_kept" (sp__law_kept K) := ⟨⟨_, _, _, ok__law_kept F__law_kept g, m__law_kept, F__law_kept.kp, F__law_kept.bindsN fun _ _ _ _ _ _ us hl => match us, hl with | [_, _, _, _, _], _ => rfl⟩⟩
  have c__law_due_classes : Cl PySem.Challenge.pw_wherebase_k00_whole_errors w K mg base 1 "_law_due_classes" (sp__law_due_classes K) := ⟨⟨_, _, _, ok__law_due_classes F__law_due_classes g, m__law_due_classes, F__law_due_classes.kp, F__law_due_classes.bindsN fun _ _ _ _ _ _ us hl => match us, hl with | [_], _ => rfl⟩⟩
  have c__law_first : ClX PySem.Challenge.pw_wherebase_k00_whole_errors w K mg base 2 "_law_first" (sp__law_first K (caF K)) := ⟨⟨_, _, _, ok__law_first F__law_first g eT, m__law_first, F__law_first.kp, F__law_first.bindsN fun _ _ _ _ _ _ us hl => match us, hl with | [_, _], _ => rfl⟩⟩
  have c__law_second : ClX PySem.Challenge.pw_wherebase_k00_whole_errors w K mg base 2 "_law_second" (sp__law_second K (caF K)) := ⟨⟨_, _, _, ok__law_second F__law_second g eT, m__law_second, F__law_second.kp, F__law_second.bindsN fun _ _ _ _ _ _ us hl => match us, hl with | [_, _, _, _, _], _ => rfl⟩⟩
  have c__law_classes : ClW PySem.Challenge.pw_wherebase_k00_whole_errors w K mg base 1 "_law_classes" (sp__law_classes K (caF K)) := ⟨⟨_, _, _, ok__law_classes F__law_classes g eT, m__law_classes, F__law_classes.kp, F__law_classes.bindsN fun _ _ _ _ _ _ us hl => match us, hl with | [_], _ => rfl⟩⟩
  have c__law_classes_of : Cl PySem.Challenge.pw_wherebase_k00_whole_errors w K mg base 3 "_law_classes_of" (sp__law_classes_of K) := ⟨⟨_, _, _, ok__law_classes_of F__law_classes_of g eT c__law_first c__law_second c__law_classes, m__law_classes_of, F__law_classes_of.kp, F__law_classes_of.bindsN fun _ _ _ _ _ _ us hl => match us, hl with | [_, _, _, _, _], _ => rfl⟩⟩
  have c__law_caught_second : Cl PySem.Challenge.pw_wherebase_k00_whole_errors w K mg base 3 "_law_caught_second" (sp__law_caught_second K) := ⟨⟨_, _, _, ok__law_caught_second F__law_caught_second g eT c__law_second, m__law_caught_second, F__law_caught_second.kp, F__law_caught_second.bindsN fun _ _ _ _ _ _ us hl => match us, hl with | [_, _, _, _, _], _ => rfl⟩⟩
  exact ok_law F_law g c__law_bag c__law_one_of c__law_shuffled c__law_draw c__law_kept c__law_classes_of c__law_due_classes c__law_caught_second
end Wb
open PySem PySem.W PySem.Calls PyProof.Rows
theorem PySem.Challenge.cw_wherebase_k00_whole_errors_holds : PySem.Challenge.rw_wherebase_k00_whole_errors.Holds := by
  w_on; o_law
  refine HandSHeadRun.head_any (r := OpenLaw.row PySem.Challenge.rw_wherebase_k00_whole_errors) (q := view (OpenLaw.row PySem.Challenge.rw_wherebase_k00_whole_errors).prog [39]) (H := Wb.hk) (ob := Wb.ob) (M := 20000) (loose := Wb.loose) (d := HandSHeadRun.topDef (OpenLaw.row PySem.Challenge.rw_wherebase_k00_whole_errors).prog 39) (kwd := []) Wb.ob_eq
    (by kernel_rfl) (fun s => by kernel_rfl) Wb.run (by kernel_rfl) (by kernel_rfl) (by kernel_rfl) (by rfl) (by first | assumption | decide +kernel) (by decide +kernel) ⟨rfl, rfl, rfl, rfl, rfl, by decide +kernel⟩ ?hw ?hc
  case hw => w_witness2
  case hc =>
    refine L2.walk_ofE (l := PySem.Challenge.rw_wherebase_k00_whole_errors) (n := 63) (k := 4) (x := "_law_script") (CX := L2.CX0) rfl (by decide) (by kernel_rfl) ⟨rfl, by decide, by decide⟩ ?F (fun _ _ _ _ z => z)
    intro w mg fa h Y G hmg0
    obtain ⟨K, KX, c⟩ := Y
    have hmg : mg ("law" : PySem.Str) = some (.ref fa) := by
      have e : (HandSHeadRun.topDef (OpenLaw.row PySem.Challenge.rw_wherebase_k00_whole_errors).prog 39).name = ("law" : PySem.Str) := by kernel_rfl
      rw [← e]
      exact hmg0
    obtain ⟨fd, hb, hF⟩ := Wb.facts (w := w) KX G hmg c
    exact ⟨K, fd, Wb.sp_law K, KX, hb, fun H a ns hl _ hS => ⟨.ref a, rfl, a, ns, rfl, hS, fun _ => rfl⟩, hF⟩

