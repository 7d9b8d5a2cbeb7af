import PyProof.Rows.All
import Wide.All
import OpenK.AllK
import Wide.FinOn
import Lean
import HandS.ForMost
import HandS.Defaults
import HandS.Head0
import HandS.Head1
import HandS.Head2
import HandS.Head3
import HandS.HeadEnd
import HandS.HeadHook1
import HandS.HeadHook2
import HandS.HeadHook3
import HandS.HeadHook4
import HandS.HeadNt
import HandS.ExcField
import HandS.ExcIs
import KE.KIsAll
import KE.KStateDown
import HandS.Words
import KE.KExcSuper
import KE.KTryMore
import KE.KExcInit
import PySem.Challenge.RW_wherebase_k51_whole_searches_and_what_th
import HandS.Exc
import HandS.ExcOwn
import HandS.TryOnly
import HandS.WordsExc
import HandS.Star
import HandS.IsInst
import HandS.Gcd
import HandS.WideBits
import HandS.Wide
import HandS.Style
import HandS.TupLe
import HandS.TupAny
import HandS.Conv
import HandS.Flow
import HandS.Evl
import HandS.DictComp
import HandS.WordsDict
import PyProof.Draws
import KE.GoesMore
import KE.GoesEnum
import HandS.Iter
import HandS.Walk
import HandS.SortRule
import HandS.NamedTupSort
import HandS.ClsMeth
import HandS.Property
import HandS.SlotsVar
import HandS.OwnEq
import HandS.SlotsOwn
import HandS.More
set_option Elab.async false
set_option linter.all false
set_option maxRecDepth 100000
set_option maxHeartbeats 4000000
namespace Wb
open PySem PySem.Spec PyProof.Rows L2
def top (i : Nat) : Stmt := PySem.Challenge.pw_wherebase_k51_whole_searches_and_what_th.main.body.getD i (.Pass ⟨0, 0, 0, 0⟩)
def mkA (at_ : PySem.W.Frag → Addr) (x q : Str) (st : Stmt) (dv : List He.Dv) : He5.DefA := ⟨at_, x, q, defArgs st, defBody st, defScope st, dv, []⟩
def mkD (x : Str) (i : Nat) : He5.DefA := mkA (fun K => He.ga K x) x x (top i) []
def mkM (c x q : Str) (i j : Nat) (dv : List He.Dv) : He5.DefA := mkA (fun K => He.ma K (He.ga K c) x) x q (inClass (top i) j) dv
def mkW (w : String) (c x q : Str) (i j : Nat) : He5.DefA := mkA (fun K => He5.wf K (He.ga K c) w x) x q (inClass (top i) j) []
def fn0 : List He5.DefA := [mkD "is_integer" 9, mkD "is_box" 15, mkD "require_box" 16, mkD "do_meet_in" 17, mkD "apart_word" 18, mkD "joint_in" 19, mkD "are_meeting" 21, mkD "side_apart" 22, mkD "is_entry" 29, mkD "is_built" 30, mkD "is_branch" 31, mkD "entries_in" 32, mkD "depths_in" 33, mkD "forms_in" 34, mkD "branches_in" 35, mkD "has_size" 36, mkD "has_box" 37, mkD "flaws_of" 38, mkD "box_at" 40, mkD "form_with" 47, mkD "require_entries" 48, mkD "searched" 49, mkD "_law_bag" 59, mkD "_law_draw" 60, mkD "_law_one_of" 61]
def fn1 : List He5.DefA := [mkD "_law_shuffled" 62, mkD "_law_boxes_in" 63, mkD "_law_small_box" 64, mkD "_law_joint_box" 65, mkD "_law_apart_word" 66, mkD "_law_entries_in" 67, mkD "_law_drawn_entries" 68, mkD "_law_lots_of" 69, mkD "_law_drawn_form" 70, mkD "_law_walked" 71, mkD "_law_numbers_at" 72, mkD "_law_right" 73, mkD "law" 74, mkM "Tree" "__init__" "Tree.__init__" 53 0 [.adr (He.dflAt ("Tree", some "__init__") 0)], mkM "Tree" "told_form" "Tree.told_form" 53 1 [], mkM "Tree" "search" "Tree.search" 53 10 [], mkM "Tree" "search_paper" "Tree.search_paper" 53 11 [], mkM "Kept" "__init__" "Kept.__init__" 54 1 [], mkW "property" "Tree" "height" "Tree.height" 53 4, mkW "property" "Tree" "boxes" "Tree.boxes" 53 5, mkW "property" "Tree" "box" "Tree.box" 53 6, mkW "classmethod" "Tree" "told" "Tree.told" 53 2]
def fn : List He5.DefA := fn0 ++ fn1
def fa0 : List He.Fa := [.glo "is_integer", .glo "is_box", .glo "require_box", .glo "do_meet_in", .glo "apart_word", .glo "joint_in", .glo "are_meeting", .glo "side_apart", .glo "is_entry", .glo "is_built", .glo "is_branch", .glo "entries_in", .glo "depths_in", .glo "forms_in", .glo "branches_in", .glo "has_size", .glo "has_box", .glo "flaws_of", .glo "box_at", .glo "form_with", .glo "require_entries", .glo "searched", .glo "_law_bag", .glo "_law_draw", .glo "_law_one_of"]
def fa1 : List He.Fa := [.glo "_law_shuffled", .glo "_law_boxes_in", .glo "_law_small_box", .glo "_law_joint_box", .glo "_law_apart_word", .glo "_law_entries_in", .glo "_law_drawn_entries", .glo "_law_lots_of", .glo "_law_drawn_form", .glo "_law_walked", .glo "_law_numbers_at", .glo "_law_right", .glo "law", .glo "Tree", .glo "Kept", .free "len", .free "abs", .free "int", .free "str", .free "bool", .free "tuple", .free "list", .free "dict", .free "isinstance", .free "all"]
def fa2 : List He.Fa := [.free "max", .free "min", .free "sum", .free "sorted", .free "range", .free "enumerate", .free "property", .free "classmethod", .int "MAX_ENTRIES" 300, .int "MOST" 4, .int "LEAST" 2, .str "LEFT" "left", .str "RIGHT" "right", .str "BELOW" "below", .str "ABOVE" "above", .str "LEAF" "leaf", .str "NODE" "node", .cls "Tree", .mkr "Tree", .mkr "Kept", .noat "Tree" "own_form", .noat "Tree" "own_boxes", .meth "Tree" "told_form", .meth "Tree" "search", .meth "Tree" "search_paper"]
def fa : List He.Fa := fa0 ++ fa1 ++ fa2
def lo0 : List PySem.Str := ["WhereError", "InvalidBox", "InvalidTree", "InvalidOperation", "InvalidNumber", "TooMany", "Tree", "Kept", "_wall", "is_integer", "is_box", "require_box", "do_meet_in", "apart_word", "joint_in", "wider", "are_meeting", "side_apart", "is_entry", "is_built", "is_branch", "entries_in", "depths_in", "forms_in", "branches_in"]
def lo1 : List PySem.Str := ["has_size", "has_box", "flaws_of", "branch_of", "box_at", "centre_of", "halves", "grows_by", "put_into", "fitting", "with_entry", "form_with", "require_entries", "searched", "items_of", "pairs_walk", "is_any_met", "tree_with", "require_tree", "require_number", "_law_bag", "_law_draw", "_law_one_of", "_law_shuffled", "_law_boxes_in"]
def lo2 : List PySem.Str := ["_law_small_box", "_law_joint_box", "_law_apart_word", "_law_entries_in", "_law_drawn_entries", "_law_lots_of", "_law_drawn_form", "_law_walked", "_law_numbers_at", "_law_right", "LEFT", "RIGHT", "BELOW", "ABOVE", "MAX_ENTRIES", "MOST", "LEAST", "LEAF", "NODE"]
def loose : List PySem.Str := lo0 ++ lo1 ++ lo2
def propB (K : PySem.W.Frag) (C : Addr) (f : Str) : Bool := He.eqO (PySem.W.findIn K (.ref C) f) (some (some (.ref (He.ma K C f)))) && (He.eqO (PySem.W.specialIn K (.ref (He.ma K C f)) "__get__") (some (some (.builtin "property.__get__"))) && (decide (PySem.W.takesIn K (.ref (He.ma K C f)) = some true) && (match PySem.W.recIn K (He.ma K C f) "property" with
  | some (.ref _ :: _) => true
  | _ => false)))
def slotB (K : PySem.W.Frag) (C : Addr) (f : Str) : Bool := He.eqO (PySem.W.findIn K (.ref C) f) (some (some (.ref (He.ma K C f)))) && (He.eqO (PySem.W.specialIn K (.ref (He.ma K C f)) "__get__") (some (some (.builtin "member_descriptor.__get__"))) && (decide (PySem.W.takesIn K (.ref (He.ma K C f)) = some true) && (decide (PySem.W.typeIn K (.ref (He.ma K C f)) = some (.type "member_descriptor")) && decide (PySem.W.slotIn K (He.ma K C f) C = some 0))))
def sclB (K : PySem.W.Frag) (C : Addr) : Bool := PySem.W.plainGet K C Str.empty && (PySem.W.isClsIn K C && (PySem.W.plainOver K C && He.eqO (PySem.W.findIn K (.ref C) "__setattr__") (some (some (.builtin "object.__setattr__")))))
def dfT (K : PySem.W.Frag) : Addr := He.dflAt ("Tree", some "__init__") 0 K
def exK (K : PySem.W.Frag) : Bool := sclB K (He.ga K "Kept") && slotB K (He.ga K "Kept") "own_list" && PySem.W.readsIn K (He.ga K "Tree") (.type "type") && decide (PySem.W.kitOne K (.type "tuple") (.ref (He.ga K "Kept")) = some false) && decide (PySem.W.kitOne K (.ref (He.ga K "Kept")) (.ref (He.ga K "Kept")) = some true) && decide (PySem.W.typeIn K (.ref (He.ga K "Tree")) = some (.type "type")) && decide (PySem.W.typeIn K (.ref (He.ga K "Kept")) = some (.type "type")) && He.eqO (PySem.W.findIn K (.ref (He.ga K "Kept")) "__class__") (some (some (.builtin "object.__class__"))) && (match K.lookup (dfT K) with
  | some ⟨.type c, none, .seq its _, _⟩ => decide (c = "tuple") && decide (its.size = 0)
  | _ => false)
def exB (K : PySem.W.Frag) : Bool := exK K && propB K (He.ga K "Tree") "height" && propB K (He.ga K "Tree") "boxes" && propB K (He.ga K "Tree") "box" && (He5.wrapB K (He.ga K "Tree") "classmethod" "classmethod.__get__" "told" && PySem.W.fnIn K (He5.wf K (He.ga K "Tree") "classmethod" "told"))
abbrev R : PySem.W.OpenRow := PySem.W.OpenLaw.row PySem.Challenge.rw_wherebase_k51_whole_searches_and_what_th
/-! what the names reach, each address once: seen ones are bits of a number -/
def addX : List Addr → Nat → List Addr → List Addr × Nat
  | [], seen, out => (out, seen)
  | r :: rs, seen, out => match Nat.beq (Nat.land (Nat.shiftRight seen r) 1) 1 with
    | true => addX rs seen out
    | false => HandSHeadRun.frNat (Nat.lor seen (Nat.shiftLeft 1 r)) fun seen => addX rs seen (r :: out)
def levX (g : Addr → Option Obj) : List Addr → Nat → List Addr → List Addr × Nat
  | [], seen, out => (out, seen)
  | a :: as, seen, out => match g a with
    | some o => (match addX (He.refsD o) seen out with
      | (out, seen) => levX g as seen out)
    | none => levX g as seen out
def walkX (g : Addr → Option Obj) : Nat → List Addr → Nat → List Addr → List Addr
  | 0, _, _, acc => acc
  | n + 1, fr, seen, acc => match levX g fr seen [] with
    | (nf, seen) => walkX g n nf seen (acc ++ nf)
def asX (g : Addr → Option Obj) (n : Nat) : List Addr := walkX g n [mainGlobals] (Nat.shiftLeft 1 mainGlobals) [mainGlobals] ++ [cStatics]
abbrev AlY : Type := He.AlD × Bool
structure SaysY (K : PySem.W.Frag) : Prop where
  d : He5.SaysA fa fn K
  more : exB K = true
def obsK (K : PySem.W.Frag) : AlY := (He5.obsA fa fn K, exB K)
def obsY (g : Addr → Option Obj) : AlY := obsK (He.frG g (asX g 6))
def valY : AlY := (He5.valA fn, true)
theorem saysY_of {K : PySem.W.Frag} (e : obsK K = valY) : SaysY K :=
  ⟨congrArg (fun z : AlY => z.1) e, congrArg (fun z : AlY => z.2) e⟩
abbrev hk : PySem.W.Hook where
  α := AlY
  obs := fun s => obsY s.heap.get?
  val := fun _ => valY
  says := fun _ h => ∃ K : PySem.W.Frag, K.In h ∧ SaysY K
  of := fun _ _ e => ⟨_, He.frG_in, saysY_of e⟩
  keeps := fun _ _ _ ⟨K, hK, c⟩ k => ⟨K, PySem.W.Frag.In.keeps hK k, c⟩
def ob (s : PySem.W.SharedT) : AlY := obsY (HandSHeadRun.getT s)
theorem ob_eq (s : PySem.W.SharedT) : ob s = hk.obs s.abs := by
  have e : HandSHeadRun.getT s = s.abs.heap.get? := funext (HandSHeadRun.getT_eq s)
  unfold ob
  rw [e]
section
open PySem.W PySem.Calls HandSHeadRun
/-- the run, looked at in two checks: each needs less memory than one for all -/
theorem runA (w : World) (os : OsState) : (endF (stepQ (denQ tabQ) R.prog w) 20000 R.prog w os).map (fun s => (looksF R.prog (boot_heap w.params) s.abs, seenQ (view R.prog [74]) loose (importedModules R.prog.main.body) (fun s => xlAt (view R.prog [74]) [] s && recOk R.toRowW.records s) s.abs)) = some (true, openGood (view R.prog [74]) loose) := by
  kernel_rfl
theorem runB (w : World) (os : OsState) : (endF (stepQ (denQ tabQ) R.prog w) 20000 R.prog w os).map ob = some (hk.val w) := by
  kernel_rfl
theorem run (w : World) : RunEq R (view R.prog [74]) hk ob 20000 loose w := by
  intro os
  obtain ⟨s, hs, ha⟩ := Option.map_eq_some_iff.mp (runA w os)
  have hb := runB w os
  rw [hs] at hb
  rw [hs]
  have hb : ob s = hk.val w := Option.some.inj hb
  obtain ⟨h1, h2⟩ := Prod.mk.inj ha
  exact congrArg some (Prod.ext h1 (Prod.ext h2 hb))
end
end Wb

namespace Wb
open PySem PySem.Spec PyProof.Rows L2
open Evl (Ex Ex.refl Ex.trans Ex.new)

/-! ### heaps and data -/
theorem ex_upd {H : Hp} {p : Addr} {o : HO} (h : H p = none) : Ex H (upd H p o) := Evl.Ex.new h
mutual
theorem dpMono {K : PySem.W.Frag} {H H' : Hp} (e : Ex H H') : ∀ {d : PyData} {v : V}, Dp K H v d → Dp K H' v d
  | .none, _, h => by cases h; exact .non
  | .bool _, _, h => by cases h; exact .bl _
  | .int _, _, h => by cases h; exact .int _
  | .str _, _, h => by cases h; exact .str _
  | .list ds, _, h => by
    cases h with
    | lst hs ha => exact .lst (Evl.ex_l e hs) (dpMonoA e ha)
  | .tuple ds, _, h => by
    cases h with
    | tup hs ha => exact .tup (Evl.ex_t e hs) (dpMonoA e ha)
  | .dict _, _, h => by cases h
theorem dpMonoA {K : PySem.W.Frag} {H H' : Hp} (e : Ex H H') : ∀ {ds : List PyData} {vs : List V}, DpAll K H vs ds → DpAll K H' vs ds
  | [], _, h => by cases h; exact .nil
  | d :: ds, _, h => by
    cases h with
    | cons h1 h2 => exact .cons (dpMono e h1) (dpMonoA e h2)
end
section
variable {K : PySem.W.Frag} {H H' : Hp} {v : V} {vs : List V} {d : PyData} {ds : List PyData}
theorem dpInt {i : Int} (h : Dp K H v (.int i)) : v = .int i := by cases h; rfl
theorem dpBl {b : Bool} (h : Dp K H v (.bool b)) : v = .bl b := by cases h; rfl
theorem dpStr {s : Str} (h : Dp K H v (.str s)) : v = .str s := by cases h; rfl
theorem dpNon (h : Dp K H v .none) : v = .non := by cases h; rfl
theorem dpTup (h : Dp K H v (.tuple ds)) : ∃ a vs, v = .ref a ∧ SqT K H a vs ∧ DpAll K H vs ds := by
  cases h with
  | tup hs ha => exact ⟨_, _, rfl, hs, ha⟩
theorem dpLst (h : Dp K H v (.list ds)) : ∃ a vs, v = .ref a ∧ SqL K H a vs ∧ DpAll K H vs ds := by
  cases h with
  | lst hs ha => exact ⟨_, _, rfl, hs, ha⟩
theorem dpLen : ∀ {ds : List PyData} {vs : List V}, DpAll K H vs ds → vs.length = ds.length
  | [], _, h => by cases h; rfl
  | d :: ds, _, h => by
    cases h with
    | cons h1 h2 => rw [List.length_cons, List.length_cons, dpLen h2]
theorem dpGet : ∀ {ds : List PyData} {vs : List V} {i : Nat} {d : PyData}, DpAll K H vs ds → ds[i]? = some d → ∃ v, vs[i]? = some v ∧ Dp K H v d
  | [], _, _, _, _, e => by simp at e
  | d :: ds, _, 0, _, h, e => by
    cases h with
    | cons h1 h2 =>
      have e2 : d = _ := Option.some.inj e
      subst e2
      exact ⟨_, rfl, h1⟩
  | d :: ds, _, i + 1, _, h, e => by
    cases h with
    | cons h1 h2 =>
      obtain ⟨v, q1, q2⟩ := dpGet (i := i) h2 (by simpa using e)
      exact ⟨v, by simpa using q1, q2⟩
theorem dpAt {i : Int} {d : PyData} (h : DpAll K H vs ds) (e : atI ds i = some d) : ∃ v, atI vs i = some v ∧ Dp K H v d := by
  unfold atI at e ⊢
  rw [dpLen h]
  cases q : ixN ds.length i with
  | none =>
    rw [q] at e
    cases e
  | some j =>
    rw [q] at e
    exact dpGet h e
def tyD : PyData → String
  | .none => "NoneType"
  | .bool _ => "bool"
  | .int _ => "int"
  | .str _ => "str"
  | .list _ => "list"
  | .tuple _ => "tuple"
  | .dict _ => "dict"
theorem dpTy (h : Dp K H v d) : TyX K H v (.type (tyD d)) := by
  cases h with
  | non => exact .base .non
  | bl b => exact .base (.bl b)
  | int i => exact .base (.int i)
  | str x => exact .base (.str x)
  | lst hs ha =>
    rcases hs with (h1 | ⟨o, h1⟩) | ⟨o, its, n, lk, hc, _⟩
    · exact .base (.lst h1)
    · exact .base (.frz h1)
    · exact .kList lk hc
  | tup hs ha =>
    rcases hs with (h1 | ⟨o, h1⟩) | ⟨o, its, n, lk, hc, _⟩
    · exact .base (.tup h1)
    · exact .fTuple h1
    · exact .kTuple lk hc
end
/-! ### sizes of ints -/
def Sz (n : Nat) (i : Int) : Prop := i.natAbs < 2 ^ n
theorem sz_mul {a b : Nat} {i j : Int} (ha : Sz a i) (hb : Sz b j) : Sz (a + b) (i * j) := by
  unfold Sz at *
  rw [Int.natAbs_mul, Nat.pow_add]
  exact Nat.mul_lt_mul'' ha hb
theorem sz_mono {a b : Nat} {i : Int} (h : Sz a i) (hab : a ≤ b) : Sz b i := Nat.lt_of_lt_of_le h (Nat.pow_le_pow_right (by decide) hab)
theorem sz_add {a b : Nat} {i j : Int} (ha : Sz a i) (hb : Sz b j) : Sz (a + b + 1) (i + j) := by
  have h1 := sz_mono ha (Nat.le_add_right a b)
  have h2 := sz_mono hb (Nat.le_add_left b a)
  unfold Sz at *
  rw [Nat.pow_succ]
  have := Int.natAbs_add_le i j
  omega
theorem sz_neg {a : Nat} {i : Int} (ha : Sz a i) : Sz a (-i) := by
  unfold Sz at *
  rw [Int.natAbs_neg]
  exact ha
theorem sz_sub {a b : Nat} {i j : Int} (ha : Sz a i) (hb : Sz b j) : Sz (a + b + 1) (i - j) := by
  rw [Int.sub_eq_add_neg]
  exact sz_add ha (sz_neg hb)
theorem sz_le {a : Nat} {i j : Int} (ha : Sz a j) (h : i.natAbs ≤ j.natAbs) : Sz a i := Nat.lt_of_le_of_lt h ha
theorem sz_div {a : Nat} {i j : Int} (ha : Sz a i) : Sz a (i / j) := sz_le ha (Int.natAbs_ediv_le_natAbs i j)
theorem fdiv_abs (i j : Int) : (i.fdiv j).natAbs ≤ i.natAbs := by
  rcases Int.lt_trichotomy j 0 with h | h | h
  · have e : i.fdiv j = (-i) / (-j) := by
      rw [← Int.fdiv_eq_ediv_of_nonneg (-i) (by omega), Int.neg_fdiv_neg]
    rw [e, ← Int.natAbs_neg i]
    exact Int.natAbs_ediv_le_natAbs _ _
  · subst h
    rw [Int.fdiv_zero]
    omega
  · rw [Int.fdiv_eq_ediv_of_nonneg i (by omega)]
    exact Int.natAbs_ediv_le_natAbs _ _
theorem sz_fdiv {a : Nat} {i j : Int} (ha : Sz a i) : Sz a (i.fdiv j) := sz_le ha (fdiv_abs i j)
theorem mulx {a b : Nat} {i j : Int} (ha : Sz a i) (hb : Sz b j) (h : a + b ≤ 134217728) : CMulX i j := mulx_ok ha hb h

theorem sz_lit {i : Int} (h : i.natAbs < 18446744073709551616) : Sz 64 i := h
theorem ex_at {H H' : Hp} {a : Addr} {o : HO} (e : Ex H H') (h : H a = some o) : H' a = some o := e a o h
def gd (a b : Int) : Int := ((Nat.gcd a.natAbs b.natAbs : Nat) : Int)
/-! ### own operators -/
section
variable {X : Cx}
def CPowX (i j : Int) : Prop := 0 ≤ j ∧ (Builtin.Int.intBits i : Int) * j ≤ 2 ^ 27
theorem op_powX : OpR X (binaryOp .Pow) (rI CPowX fun i j => .int (i ^ j.toNat)) := opI fun _ _ _ _ _ _ _ hc q => pow_int hc.1 hc.2 q
def CDivX (_ j : Int) : Prop := j ≠ 0 ∧ j.natAbs.log2 < 9000
theorem op_fdivX : OpR X (binaryOp .FloorDiv) (rI CDivX fun i j => .int (i.fdiv j)) := opI fun i j _ _ _ _ _ hc q =>
  floordiv_int hc.1 q (.inl (PyProof.noPylong_of_log2 hc.2))
/-- a def that may be called by its name -/
structure Cl (P : Program) (w : World) (K : PySem.W.Frag) (mg : Str → Option Value) (base : Heap) (k : Nat) (x : Str) (sp : Sp) : Prop where
  ex : ∃ (f : Addr) (fd : FuncData) (ps : List Str), FnOk P w K mg base CX0 k f fd ps sp ∧ mg x = some (.ref f) ∧ PySem.W.keepIn K (.ref f) = true ∧ Binds K fd ps []
def tCl (sp : Sp) (t : TA) : TE := fun σ H Q => t σ H fun vs H1 => sp vs H1 Q E0
theorem pc {k j : Nat} {x : Str} {sp : Sp} {p pos : Pos} {e : Expr} {es : List Expr} {t : TA} (c : Cl X.prog X.w X.K X.mg X.base k x sp) (hr : Room j X.A) (hk : k ≤ j) (hg : Gl X x) (ha : PA X (e :: es) t)
    (hdb : (x == ("__debug__" : Str)) = false := by decide) (he : starEach (e :: es) X.env = (false, eval e X.env) :: starEach es X.env := by rfl) (hpl : (backTo pos (starEach es X.env)).any (·.1) = false := by rfl) :
    PE X (.Call (.Name x p) (e :: es) [] pos) (tCl sp t) := by
  obtain ⟨f, fd, ps, F, hm, kp, b⟩ := c.ex
  have h := pe_call (p := p) F (hr.mono hk) hg hm kp b (.nil : Vals [] []) pass0 ha hdb he hpl
  have e1 : tCall sp [] E0 t = tCl sp t := by
    funext σ H Q
    show (t σ H fun vs H1 => sp (vs ++ []) H1 Q E0) = t σ H fun vs H1 => sp vs H1 Q E0
    congr 1
    funext vs H1
    rw [List.append_nil]
  rw [← e1]
  exact h
end
/-- a def with a star parameter -/
structure ClR (P : Program) (w : World) (K : PySem.W.Frag) (mg : Str → Option Value) (base : Heap) (k : Nat) (x : Str) (sp : Sp) : Prop where
  ex : ∃ (f : Addr), FnR P w K mg base CX0 k f sp ∧ mg x = some (.ref f) ∧ PySem.W.keepIn K (.ref f) = true
section
variable {X : Cx}
theorem pcR {k j : Nat} {x : Str} {sp : Sp} {p pos : Pos} {e : Expr} {es : List Expr} {t : TA} (c : ClR X.prog X.w X.K X.mg X.base k x sp) (hr : Room j X.A) (hk : k ≤ j) (hg : Gl X x) (ha : PA X (e :: es) t)
    (hdb : (x == ("__debug__" : Str)) = false := by decide) (he : starEach (e :: es) X.env = (false, eval e X.env) :: starEach es X.env := by rfl) (hpl : (backTo pos (starEach es X.env)).any (·.1) = false := by rfl) :
    PE X (.Call (.Name x p) (e :: es) [] pos) (tCl sp t) := by
  obtain ⟨f, F, hm, kp⟩ := c.ex
  refine ⟨fun pins s σ H Q I h => ?_⟩
  refine wpAny_Call_Name_kw (ld_glob I hg hm ?_ hdb)
  refine PySem.W.callWith_K (h₀ := X.base) I.ok.mod.kin kp (thn (ha.run pos pins s σ H _ I h) fun us s1 ⟨vs, H1, I1, r, q⟩ => ⟨I1.kIn, ?_⟩) he hpl
  exact wpAny_call (run_fnR F (hr.mono hk) pass0 I1 r q)
end
theorem FnR.weak {P : Program} {w : World} {K : PySem.W.Frag} {mg : Str → Option Value} {base : Heap} {CX : CXT} {k : Nat} {f : Addr} {sp sp' : Sp} (F : FnR P w K mg base CX k f sp) (h : ∀ vs H Q E, sp' vs H Q E → sp vs H Q E) : FnR P w K mg base CX k f sp' :=
  fun A outer s H us vs Q E hr e0 r hs => F A outer s H us vs Q E hr e0 r (h vs H Q E hs)
/-! ### built-ins by names of their own -/
def qLen (K : PySem.W.Frag) : List V → Hp → VK → Prop := fun xs H Q => ∃ p ys, xs = [.ref p] ∧ (SqL K H p ys ∨ SqT K H p ys) ∧ Q (.int (ys.length : Int)) H
def qAbs : List V → Hp → VK → Prop := fun xs H Q => ∃ i, xs = [.int i] ∧ Q (.int (if i < 0 then -i else i)) H
def qMax2 : List V → Hp → VK → Prop := fun xs H Q => ∃ i j, xs = [.int i, .int j] ∧ Q (.int (if j > i then j else i)) H
def qMin2 : List V → Hp → VK → Prop := fun xs H Q => ∃ i j, xs = [.int i, .int j] ∧ Q (.int (if j < i then j else i)) H
def qInt1 : List V → Hp → VK → Prop := fun xs H Q => (∃ i, xs = [.int i] ∧ Q (.int i) H) ∨ ∃ k, xs = [.bl k] ∧ Q (.int (if k then 1 else 0)) H
def qListOf (K : PySem.W.Frag) : List V → Hp → VK → Prop := fun xs H Q => ∃ p ys, xs = [.ref p] ∧ (SqL K H p ys ∨ SqT K H p ys) ∧ ∀ l, H l = none → Q (.ref l) (upd H l (.lst ys))
def qTupleOf (K : PySem.W.Frag) : List V → Hp → VK → Prop := fun xs H Q => ∃ p ys, xs = [.ref p] ∧ ((SqL K H p ys ∧ ∀ l, H l = none → Q (.ref l) (upd H l (.tup ys))) ∨ (SqT K H p ys ∧ Q (.ref p) H))
def qIsN : R2 := fun x y H Q => y = .non ∧ Q (.bl (decide (x = .non))) H
def qNotN : R2 := fun x y H Q => y = .non ∧ Q (.bl (!decide (x = .non))) H
section
variable {X : Cx}
theorem call_qlen : CallR X (.builtin "len") (qLen X.K) := call_len_seq
theorem call_qabs : CallR X (.builtin "abs") qAbs := call_abs
theorem call_qmax2 (hc : X.calm = true) : CallR X (.builtin "max") qMax2 := call_max2 hc
theorem call_qmin2 (hc : X.calm = true) : CallR X (.builtin "min") qMin2 := call_min2 hc
theorem call_qint1 : CallR X (.type "int") qInt1 := call_int1
theorem call_qlist : CallR X (.type "list") (qListOf X.K) := call_list_of
theorem call_qtuple : CallR X (.type "tuple") (qTupleOf X.K) := call_tuple_of
theorem op_qisN : OpR X (compareOp .Is) qIsN := op_isN
theorem op_qnotN : OpR X (compareOp .IsNot) qNotN := op_notN
end
def MkT (xs : List V) (H : Hp) (Q : VK) : Prop := xs.length ≤ sizeLine ∧ ∀ p, H p = none → Q (.ref p) (upd H p (.tup xs))
def MkL (xs : List V) (H : Hp) (Q : VK) : Prop := xs.length ≤ sizeLine ∧ ∀ p, H p = none → Q (.ref p) (upd H p (.lst xs))
/-! ### readings, step by step -/
section
variable {K : PySem.W.Frag} {σ : L2.St} {H H' : Hp} {Q : VK} {D : Ends} {ta tb te : TE} {t u : TS} {c c' : TT} {v w : V} {i j : Int} {n m : Nat}
theorem i_seq (h : t { D with nx := u D } σ H) : tSeq t u D σ H := h
theorem i_asg {g : TG} (h : te σ H fun x H1 => g x σ H1 D.nx) : tAsg te g D σ H := h
theorem i_name {R : L2.St → Hp → Prop} (h : R (σ.set n (some v)) H) : gName n v σ H R := h
theorem i_nameN {σ' : L2.St} {R : L2.St → Hp → Prop} (e : σ.set n (some v) = σ') (h : R σ' H) : gName n v σ H R := by subst e; exact h
theorem i_ret (h : te σ H D.rt) : tRet te D σ H := h
theorem i_ifs (h : c σ H fun b H1 => if b = true then t D σ H1 else u D σ H1) : tIfS c t u D σ H := h
theorem i_drop (h : te σ H fun _ H1 => D.nx σ H1) : tDrop te D σ H := h
theorem i_next (h : D.nx σ H) : tNext D σ H := h
theorem i_var (h : σ[n]? = some (some v)) (q : Q v H) : tVar n σ H Q := ⟨v, h, q⟩
theorem i_c (q : Q v H) : tC v σ H Q := q
theorem i_op {r : R2} (q : ta σ H fun x H1 => tb σ H1 fun y H2 => r x y H2 Q) : tOp r ta tb σ H Q := q
theorem i_un {r : V → Hp → VK → Prop} (q : ta σ H fun x H1 => r x H1 Q) : tUn r ta σ H Q := q
theorem i_I0 {g : Int → Int → V} (q : Q (g i j) H) : rI0 g (.int i) (.int j) H Q := ⟨i, j, rfl, rfl, q⟩
theorem i_I {C : Int → Int → Prop} {g : Int → Int → V} (hc : C i j) (q : Q (g i j) H) : rI C g (.int i) (.int j) H Q := ⟨i, j, rfl, rfl, hc, q⟩
theorem i_mul {a b : Nat} (ha : Sz a i) (hb : Sz b j) (h : a + b ≤ 134217728) (q : Q (.int (i * j)) H) : rI CMulX (fun i j => .int (i * j)) (.int i) (.int j) H Q := ⟨i, j, rfl, rfl, mulx ha hb h, q⟩
theorem i_modN (h : j ≠ 0) (q : Q (.int (i.fmod j)) H) : rI (fun _ j => j ≠ 0) (fun i j => .int (i.fmod j)) (.int i) (.int j) H Q := ⟨i, j, rfl, rfl, h, q⟩
theorem i_fdX {b : Nat} (h : j ≠ 0) (hb : Sz b j) (h9 : b ≤ 9000) (q : Q (.int (i.fdiv j)) H) : rI CDivX (fun i j => .int (i.fdiv j)) (.int i) (.int j) H Q := by
  refine ⟨i, j, rfl, rfl, ⟨h, ?_⟩, q⟩
  have h2 : j.natAbs < 2 ^ (b + 1) := Nat.lt_of_lt_of_le hb (Nat.pow_le_pow_right (by decide) (Nat.le_succ b))
  have h3 : j.natAbs < 2 ^ 9000 := Nat.lt_of_lt_of_le hb (Nat.pow_le_pow_right (by decide) h9)
  exact PySem.Flt.log2_lt_of (by decide) h3
theorem i_pow (h : CPowX i j) (q : Q (.int (i ^ j.toNat)) H) : rI CPowX (fun i j => .int (i ^ j.toNat)) (.int i) (.int j) H Q := ⟨i, j, rfl, rfl, h, q⟩
theorem i_U {g : Int → V} (q : Q (g i) H) : rU g (.int i) H Q := ⟨i, rfl, q⟩
theorem i_test {R : Bool → Hp → Prop} (q : te σ H fun x H' => ∃ k, x = .bl k ∧ R k H') : tTest te σ H R := q
theorem i_B {R : Bool → Hp → Prop} (q : te σ H fun x H' => ∃ k, x = .bl k ∧ R k H') : tB te σ H R := q
theorem i_k {b : Bool} {R : Bool → Prop} (q : R b) : ∃ k, V.bl b = .bl k ∧ R k := ⟨b, rfl, q⟩
theorem i_and {R : Bool → Hp → Prop} (q : c σ H fun b H1 => if b = true then c' σ H1 R else R false H1) : tAnd c c' σ H R := q
theorem i_or {R : Bool → Hp → Prop} (q : c σ H fun b H1 => if b = true then R true H1 else c' σ H1 R) : tOr c c' σ H R := q
theorem i_not {R : Bool → Hp → Prop} (q : c σ H fun b H1 => R (!b) H1) : tNot c σ H R := q
theorem i_andV (q : ta σ H fun x H1 => ∃ k, x = .bl k ∧ if k = true then tb σ H1 Q else Q (.bl false) H1) : tAndV ta tb σ H Q := q
theorem i_orV (q : ta σ H fun x H1 => ∃ k, x = .bl k ∧ if k = true then Q (.bl true) H1 else tb σ H1 Q) : tOrV ta tb σ H Q := q
theorem i_notV (q : ta σ H fun x H1 => ∃ k, x = .bl k ∧ Q (.bl (!k)) H1) : tNotV ta σ H Q := q
theorem i_if (q : c σ H fun b H1 => if b = true then ta σ H1 Q else tb σ H1 Q) : tIf c ta tb σ H Q := q
theorem i_ite {p : Prop} [Decidable p] {A B : Prop} (h1 : p → A) (h2 : ¬ p → B) : if decide p = true then A else B := by
  by_cases h : p
  · rw [if_pos (decide_eq_true h)]
    exact h1 h
  · rw [if_neg (by rw [decide_eq_false h]; decide)]
    exact h2 h
theorem i_iteN {p : Prop} [Decidable p] {A B : Prop} (h1 : ¬ p → A) (h2 : p → B) : if (!decide p) = true then A else B := by
  by_cases h : p
  · rw [decide_eq_true h]
    exact h2 h
  · rw [decide_eq_false h]
    exact h1 h
theorem i_iteB {b : Bool} {A B : Prop} (h1 : b = true → A) (h2 : b = false → B) : if b = true then A else B := by
  cases b with
  | true => exact h1 rfl
  | false => exact h2 rfl
theorem i_iteBN {b : Bool} {A B : Prop} (h1 : b = false → A) (h2 : b = true → B) : if (!b) = true then A else B := by
  cases b with
  | true => exact h2 rfl
  | false => exact h1 rfl
theorem i_iteT {A B : Prop} (h : A) : if true = true then A else B := h
theorem i_iteF {A B : Prop} (h : B) : if false = true then A else B := h
theorem i_cl {sp : Sp} {ts : TA} (q : ts σ H fun vs H1 => sp vs H1 Q E0) : tCl sp ts σ H Q := q
theorem i_nil {R : List V → Hp → Prop} (q : R [] H) : tNil σ H R := q
theorem i_cons {ts : TA} {R : List V → Hp → Prop} (q : ta σ H fun x H1 => ts σ H1 fun xs H2 => R (x :: xs) H2) : tCons ta ts σ H R := q
theorem i_cb {r : List V → Hp → VK → Prop} {ts : TA} (q : ts σ H fun vs H1 => r vs H1 Q) : tCB r ts σ H Q := q
theorem i_tup {ts : TA} (q : ts σ H fun xs H1 => MkT xs H1 Q) : tTup ts σ H Q := q
theorem i_lst {ts : TA} (q : ts σ H fun xs H1 => MkL xs H1 Q) : tLst ts σ H Q := q
theorem i_mkT {xs : List V} (hl : xs.length ≤ 100000) (q : ∀ p H2, Ex H H2 → H2 p = some (.tup xs) → Q (.ref p) H2) : MkT xs H Q :=
  ⟨Evl.sz_of hl, fun p hp => q p _ (ex_upd hp) upd_same⟩
theorem i_mkL {xs : List V} (hl : xs.length ≤ 100000) (q : ∀ p H2, H p = none → Ex H H2 → H2 p = some (.lst xs) → Q (.ref p) H2) : MkL xs H Q :=
  ⟨Evl.sz_of hl, fun p hp => q p _ hp (ex_upd hp) upd_same⟩
theorem i_ixTI {H0 : Hp} {ds : List PyData} {k : Int} (h : Dp K H0 v (.tuple ds)) (he : Ex H0 H) (e : atI ds k = some (.int i)) (q : Q (.int i) H) : rIxT K v (.int k) H Q := by
  obtain ⟨a, vs, rfl, hs, ha⟩ := dpTup (dpMono he h)
  obtain ⟨u, e1, e2⟩ := dpAt ha e
  cases dpInt e2
  exact ⟨a, vs, k, _, rfl, rfl, hs, e1, q⟩
theorem i_ixT {H0 : Hp} {ds : List PyData} {k : Int} {d : PyData} (h : Dp K H0 v (.tuple ds)) (he : Ex H0 H) (e : atI ds k = some d) (q : ∀ u, Dp K H0 u d → Q u H) : rIxT K v (.int k) H Q := by
  obtain ⟨a, vs, rfl, hs, ha⟩ := dpTup h
  obtain ⟨u, e1, e2⟩ := dpAt ha e
  exact ⟨a, vs, k, _, rfl, rfl, Evl.ex_t he hs, e1, q u e2⟩
theorem i_ixLI {H0 : Hp} {ds : List PyData} {k : Int} (h : Dp K H0 v (.list ds)) (he : Ex H0 H) (e : atI ds k = some (.int i)) (q : Q (.int i) H) : rIxL K v (.int k) H Q := by
  obtain ⟨a, vs, rfl, hs, ha⟩ := dpLst (dpMono he h)
  obtain ⟨u, e1, e2⟩ := dpAt ha e
  cases dpInt e2
  exact ⟨a, vs, k, _, rfl, rfl, hs, e1, q⟩
theorem i_ixL {H0 : Hp} {ds : List PyData} {k : Int} {d : PyData} (h : Dp K H0 v (.list ds)) (he : Ex H0 H) (e : atI ds k = some d) (q : ∀ u, Dp K H0 u d → Q u H) : rIxL K v (.int k) H Q := by
  obtain ⟨a, vs, rfl, hs, ha⟩ := dpLst h
  obtain ⟨u, e1, e2⟩ := dpAt ha e
  exact ⟨a, vs, k, _, rfl, rfl, Evl.ex_l he hs, e1, q u e2⟩
theorem i_isi {d : PyData} {T : String} {b : Bool} (h : Dp K H v d) (e : kitB (tyD d) T = some b) (q : Q (.bl b) H) : rIsi K [v, .ty T] H Q :=
  ⟨v, .ty T, _, _, b, rfl, .ty T, dpTy h, kit_ty e, q⟩
@[reducible] def dIsInt : PyData → Bool
  | .int _ => true
  | .bool _ => true
  | _ => false
@[reducible] def dIsBool : PyData → Bool
  | .bool _ => true
  | _ => false
@[reducible] def dIsTup : PyData → Bool
  | .tuple _ => true
  | _ => false
@[reducible] def dIsStr : PyData → Bool
  | .str _ => true
  | _ => false
@[reducible] def dIsLst : PyData → Bool
  | .list _ => true
  | _ => false
theorem i_isiI {d : PyData} (h : Dp K H v d) (q : Q (.bl (dIsInt d)) H) : rIsi K [v, .ty "int"] H Q := i_isi h (by cases d <;> (dsimp only [tyD, dIsInt]; decide +kernel)) q
theorem i_isiB {d : PyData} (h : Dp K H v d) (q : Q (.bl (dIsBool d)) H) : rIsi K [v, .ty "bool"] H Q := i_isi h (by cases d <;> (dsimp only [tyD, dIsBool]; decide +kernel)) q
theorem i_isiT {d : PyData} (h : Dp K H v d) (q : Q (.bl (dIsTup d)) H) : rIsi K [v, .ty "tuple"] H Q := i_isi h (by cases d <;> (dsimp only [tyD, dIsTup]; decide +kernel)) q
theorem i_isiS {d : PyData} (h : Dp K H v d) (q : Q (.bl (dIsStr d)) H) : rIsi K [v, .ty "str"] H Q := i_isi h (by cases d <;> (dsimp only [tyD, dIsStr]; decide +kernel)) q
theorem i_isiL {d : PyData} (h : Dp K H v d) (q : Q (.bl (dIsLst d)) H) : rIsi K [v, .ty "list"] H Q := i_isi h (by cases d <;> (dsimp only [tyD, dIsLst]; decide +kernel)) q
theorem i_iteTr {b : Bool} {A B : Prop} (h : b = true) (q : A) : if b = true then A else B := by subst h; exact q
theorem i_iteFr {b : Bool} {A B : Prop} (h : b = false) (q : B) : if b = true then A else B := by subst h; exact q
/-- promises by the number of arguments -/
def A1 (P : V → Hp → VK → Prop) : Sp := fun vs H Q _ => ∃ v1, vs = [v1] ∧ P v1 H Q
def A2 (P : V → V → Hp → VK → Prop) : Sp := fun vs H Q _ => ∃ v1 v2, vs = [v1, v2] ∧ P v1 v2 H Q
def A3 (P : V → V → V → Hp → VK → Prop) : Sp := fun vs H Q _ => ∃ v1 v2 v3, vs = [v1, v2, v3] ∧ P v1 v2 v3 H Q
def A4 (P : V → V → V → V → Hp → VK → Prop) : Sp := fun vs H Q _ => ∃ v1 v2 v3 v4, vs = [v1, v2, v3, v4] ∧ P v1 v2 v3 v4 H Q
def A5 (P : V → V → V → V → V → Hp → VK → Prop) : Sp := fun vs H Q _ => ∃ v1 v2 v3 v4 v5, vs = [v1, v2, v3, v4, v5] ∧ P v1 v2 v3 v4 v5 H Q
def A6 (P : V → V → V → V → V → V → Hp → VK → Prop) : Sp := fun vs H Q _ => ∃ v1 v2 v3 v4 v5 v6, vs = [v1, v2, v3, v4, v5, v6] ∧ P v1 v2 v3 v4 v5 v6 H Q
theorem A1.len {P} {vs : List V} {E : XK} (h : A1 P vs H Q E) : vs.length = 1 := by obtain ⟨_, rfl, _⟩ := h; rfl
theorem A2.len {P} {vs : List V} {E : XK} (h : A2 P vs H Q E) : vs.length = 2 := by obtain ⟨_, _, rfl, _⟩ := h; rfl
theorem A3.len {P} {vs : List V} {E : XK} (h : A3 P vs H Q E) : vs.length = 3 := by obtain ⟨_, _, _, rfl, _⟩ := h; rfl
theorem A4.len {P} {vs : List V} {E : XK} (h : A4 P vs H Q E) : vs.length = 4 := by obtain ⟨_, _, _, _, rfl, _⟩ := h; rfl
theorem A5.len {P} {vs : List V} {E : XK} (h : A5 P vs H Q E) : vs.length = 5 := by obtain ⟨_, _, _, _, _, rfl, _⟩ := h; rfl
theorem A6.len {P} {vs : List V} {E : XK} (h : A6 P vs H Q E) : vs.length = 6 := by obtain ⟨_, _, _, _, _, _, rfl, _⟩ := h; rfl
/-- what a pure def gives back -/
def Ret (K : PySem.W.Frag) (d : PyData) (H : Hp) (Q : VK) : Prop := ∀ v H2, Ex H H2 → Dp K H2 v d → Q v H2
theorem Ret.int (r : Ret K (.int i) H Q) (e : Ex H H') : Q (.int i) H' := r _ _ e (.int i)
theorem Ret.bl {b : Bool} (r : Ret K (.bool b) H Q) (e : Ex H H') : Q (.bl b) H' := r _ _ e (.bl b)
theorem Ret.non (r : Ret K .none H Q) (e : Ex H H') : Q .non H' := r _ _ e .non
theorem ret_int (q : ∀ H2, Ex H H2 → Q (.int i) H2) : Ret K (.int i) H Q := fun v H2 e h => by cases h; exact q H2 e
theorem ret_bl {b : Bool} (q : ∀ H2, Ex H H2 → Q (.bl b) H2) : Ret K (.bool b) H Q := fun v H2 e h => by cases h; exact q H2 e
theorem ret_non (q : ∀ H2, Ex H H2 → Q .non H2) : Ret K .none H Q := fun v H2 e h => by cases h; exact q H2 e
theorem Ret.use {d : PyData} (r : Ret K d H Q) (e : Ex H H') (h : Dp K H' v d) : Q v H' := r v H' e h
theorem Ret.int' {k : Int} (r : Ret K (.int k) H Q) (e : Ex H H') (h : k = i) : Q (.int i) H' := by
  subst h
  exact r.int e
theorem Ret.bl' {b k : Bool} (r : Ret K (.bool k) H Q) (e : Ex H H') (h : k = b) : Q (.bl b) H' := by
  subst h
  exact r.bl e
theorem i_eq (hs : scal v w = true) (q : Q (.bl (decide (v = w))) H) : rEq v w H Q := ⟨hs, q⟩
theorem i_ne (hs : scal v w = true) (q : Q (.bl (!decide (v = w))) H) : rNe v w H Q := ⟨hs, q⟩
theorem i_eqI (q : Q (.bl (decide (i = j))) H) : rEq (.int i) (.int j) H Q := by
  refine ⟨rfl, ?_⟩
  have e : decide (V.int i = V.int j) = decide (i = j) := by
    by_cases h : i = j
    · subst h; simp
    · rw [decide_eq_false h, decide_eq_false (fun z => h (V.int.inj z))]
  rw [e]
  exact q
theorem i_neI (q : Q (.bl (!decide (i = j))) H) : rNe (.int i) (.int j) H Q := by
  refine ⟨rfl, ?_⟩
  have e : decide (V.int i = V.int j) = decide (i = j) := by
    by_cases h : i = j
    · subst h; simp
    · rw [decide_eq_false h, decide_eq_false (fun z => h (V.int.inj z))]
  rw [e]
  exact q
theorem i_gcd (q : Q (.int (gd i j)) H) : rGcd [.int i, .int j] H Q := ⟨i, j, rfl, q⟩
theorem i_qabs (q : Q (.int (if i < 0 then -i else i)) H) : qAbs [.int i] H Q := ⟨i, rfl, q⟩
theorem i_qmax2 (q : Q (.int (if j > i then j else i)) H) : qMax2 [.int i, .int j] H Q := ⟨i, j, rfl, q⟩
theorem i_qmin2 (q : Q (.int (if j < i then j else i)) H) : qMin2 [.int i, .int j] H Q := ⟨i, j, rfl, q⟩
theorem i_qint (q : Q (.int i) H) : qInt1 [.int i] H Q := .inl ⟨i, rfl, q⟩
theorem i_qintB {b : Bool} (q : Q (.int (if b then 1 else 0)) H) : qInt1 [.bl b] H Q := .inr ⟨b, rfl, q⟩
theorem i_qlenT {ds : List PyData} (h : Dp K H v (.tuple ds)) (q : Q (.int (ds.length : Int)) H) : qLen K [v] H Q := by
  obtain ⟨a, vs, rfl, hs, ha⟩ := dpTup h
  refine ⟨a, vs, rfl, .inr hs, ?_⟩
  rw [dpLen ha]
  exact q
theorem i_qlenL {ds : List PyData} (h : Dp K H v (.list ds)) (q : Q (.int (ds.length : Int)) H) : qLen K [v] H Q := by
  obtain ⟨a, vs, rfl, hs, ha⟩ := dpLst h
  refine ⟨a, vs, rfl, .inl hs, ?_⟩
  rw [dpLen ha]
  exact q
theorem i_qtupleL {ds : List PyData} (h : Dp K H v (.list ds)) (q : ∀ p H2, Ex H H2 → (∃ vs, H2 p = some (.tup vs) ∧ DpAll K H2 vs ds) → Q (.ref p) H2) : qTupleOf K [v] H Q := by
  obtain ⟨a, vs, rfl, hs, ha⟩ := dpLst h
  exact ⟨a, vs, rfl, .inl ⟨hs, fun l hl => q l _ (ex_upd hl) ⟨vs, upd_same, dpMonoA (ex_upd hl) ha⟩⟩⟩
theorem i_qlistT {ds : List PyData} (h : Dp K H v (.tuple ds)) (q : ∀ p H2, H p = none → Ex H H2 → (∃ vs, H2 p = some (.lst vs) ∧ DpAll K H2 vs ds) → Q (.ref p) H2) : qListOf K [v] H Q := by
  obtain ⟨a, vs, rfl, hs, ha⟩ := dpTup h
  exact ⟨a, vs, rfl, .inr hs, fun l hl => q l _ hl (ex_upd hl) ⟨vs, upd_same, dpMonoA (ex_upd hl) ha⟩⟩
theorem i_qisN (q : Q (.bl (decide (v = .non))) H) : qIsN v .non H Q := ⟨rfl, q⟩
theorem i_qnotN (q : Q (.bl (!decide (v = .non))) H) : qNotN v .non H Q := ⟨rfl, q⟩
def Par2 (n m : Nat) (σ : L2.St) (R : L2.St → Hp → Prop) (vs : List V) (H : Hp) : Prop := ∃ v w, vs = [v, w] ∧ R ((σ.set n (some v)).set m (some w)) H
def Par3 (n m k : Nat) (σ : L2.St) (R : L2.St → Hp → Prop) (vs : List V) (H : Hp) : Prop := ∃ u v w, vs = [u, v, w] ∧ R (((σ.set n (some u)).set m (some v)).set k (some w)) H
theorem i_par {ts : TA} (q : ts σ H fun vs H1 => Par2 n m σ D.nx vs H1) : tPar n m ts D σ H := q
theorem i_par2 {σ' : L2.St} {R : L2.St → Hp → Prop} (e : (σ.set n (some v)).set m (some w) = σ') (q : R σ' H) : Par2 n m σ R [v, w] H := by subst e; exact ⟨v, w, rfl, q⟩
theorem i_par3 {k : Nat} {ts : TA} (q : ts σ H fun vs H1 => Par3 n m k σ D.nx vs H1) : tPar3 n m k ts D σ H := q
theorem i_par33 {σ' : L2.St} {k : Nat} {u : V} {R : L2.St → Hp → Prop} (e : ((σ.set n (some u)).set m (some v)).set k (some w) = σ') (q : R σ' H) : Par3 n m k σ R [u, v, w] H := by subst e; exact ⟨u, v, w, rfl, q⟩
theorem i_gtup {H0 : Hp} {k : Nat} {ts : TGs} {R : L2.St → Hp → Prop} {ds : List PyData} (h : Dp K H0 v (.tuple ds)) (he : Ex H0 H) (hl : ds.length = k) (q : ∀ vs, DpAll K H0 vs ds → ts vs σ H R) : gTup K k ts v σ H R := by
  obtain ⟨a, vs, rfl, hs, ha⟩ := dpTup h
  exact ⟨a, vs, rfl, Evl.ex_t he hs, (dpLen ha).trans hl, q vs ha⟩
theorem i_glst {H0 : Hp} {k : Nat} {ts : TGs} {R : L2.St → Hp → Prop} {ds : List PyData} (h : Dp K H0 v (.list ds)) (he : Ex H0 H) (hl : ds.length = k) (q : ∀ vs, DpAll K H0 vs ds → ts vs σ H R) : gLst K k ts v σ H R := by
  obtain ⟨a, vs, rfl, hs, ha⟩ := dpLst h
  exact ⟨a, vs, rfl, Evl.ex_l he hs, (dpLen ha).trans hl, q vs ha⟩
theorem i_gcons {g : TG} {ts : TGs} {vs : List V} {R : L2.St → Hp → Prop} (q : g v σ H fun σ' H' => ts vs σ' H' R) : gCons g ts (v :: vs) σ H R := ⟨v, vs, rfl, q⟩
theorem i_gnil {R : L2.St → Hp → Prop} (q : R σ H) : gNil [] σ H R := ⟨rfl, q⟩
theorem i_gconsA {H0 : Hp} {g : TG} {ts : TGs} {vs : List V} {d : PyData} {ds : List PyData} {R : L2.St → Hp → Prop} (h : DpAll K H0 vs (d :: ds)) (q : ∀ v r, Dp K H0 v d → DpAll K H0 r ds → g v σ H fun σ' H' => ts r σ' H' R) : gCons g ts vs σ H R := by
  cases h with
  | cons h1 h2 => exact ⟨_, _, rfl, q _ _ h1 h2⟩
theorem i_gconsI {H0 : Hp} {g : TG} {ts : TGs} {vs : List V} {ds : List PyData} {R : L2.St → Hp → Prop} (h : DpAll K H0 vs (.int i :: ds)) (q : ∀ r, DpAll K H0 r ds → g (.int i) σ H fun σ' H' => ts r σ' H' R) : gCons g ts vs σ H R := by
  cases h with
  | cons h1 h2 => cases dpInt h1; exact ⟨_, _, rfl, q _ h2⟩
theorem i_gnilA {H0 : Hp} {vs : List V} {R : L2.St → Hp → Prop} (h : DpAll K H0 vs []) (q : R σ H) : gNil vs σ H R := by
  cases h
  exact ⟨rfl, q⟩
theorem i_eqD {d e : PyData} (h1 : Dp K H v d) (h2 : Dp K H w e) (s1 : SeqAt.shaped d = true) (s2 : SeqAt.shaped e = true) (q : Q (.bl (PyData.eqv d e)) H) : rEqD K v w H Q := ⟨d, e, h1, h2, s1, s2, q⟩
theorem i_neD {d e : PyData} (h1 : Dp K H v d) (h2 : Dp K H w e) (s1 : SeqAt.shaped d = true) (s2 : SeqAt.shaped e = true) (q : Q (.bl (!PyData.eqv d e)) H) : rNeD K v w H Q := ⟨d, e, h1, h2, s1, s2, q⟩
theorem dpInts : ∀ {ns : List Int} {vs : List V}, DpAll K H vs (ns.map PyData.int) → vs = ns.map V.int
  | [], _, h => by cases h; rfl
  | n :: ns, _, h => by
    cases h with
    | cons h1 h2 => rw [dpInt h1, dpInts h2]; rfl
theorem i_ltT {ns ms : List Int} {ds es : List PyData} (h1 : Dp K H v (.tuple ds)) (h2 : Dp K H w (.tuple es)) (e1 : ds = ns.map PyData.int) (e2 : es = ms.map PyData.int) (q : Q (.bl (HT.lexLt ns ms)) H) : rLtT K v w H Q := by
  subst e1 e2
  obtain ⟨a, vs, rfl, hs, ha⟩ := dpTup h1
  obtain ⟨b, ws, rfl, ks, ka⟩ := dpTup h2
  rw [dpInts ha] at hs
  rw [dpInts ka] at ks
  exact ⟨a, b, ns, ms, rfl, rfl, hs, ks, q⟩
/-- a loop over a tuple whose turns only add to the heap and set the loop's name -/
theorem i_forT {tb : TS} {ds : List PyData} {j : Nat} (h : Dp K H v (.tuple ds)) (hσ : ∀ u : V, (σ.set j (some u)).set j (some u) = σ.set j (some u))
    (hs : ∀ (u : V) (d : PyData) (H2 : Hp) (y : Option V) (N : L2.St → Hp → Prop), Ex H H2 → d ∈ ds → Dp K H2 u d → (∀ H3, Ex H2 H3 → N (σ.set j (some u)) H3) → tb { D with nx := N, ct := N, bk := D.nx } (σ.set j (some u)) H2)
    (hd : ∀ (y : Option V) (H2 : Hp), Ex H H2 → D.nx (σ.set j y) H2) (h0 : σ.set j none = σ) : tFor (iTup K (tC v)) (gName j) tb D σ H := by
  obtain ⟨a, xs, rfl, hq, ha⟩ := dpTup h
  refine ⟨a, rfl, ⟨xs, hq⟩, for_tup (xs := xs) (fun i σ' H' => (∃ y, σ' = σ.set j y) ∧ Ex H H') ⟨⟨none, h0.symm⟩, Ex.refl H⟩ (fun i σ' H' _ p => Evl.ex_t p.2 hq) (fun i x σ' H' hi p => ?_) (fun σ' H' p => ?_)⟩
  · obtain ⟨⟨y, rfl⟩, e⟩ := p
    have hm : ∃ d, ds[i]? = some d ∧ Dp K H x d := by
      have hj : i < ds.length := by rw [← dpLen ha]; exact (List.getElem?_eq_some_iff.mp hi).1
      obtain ⟨u, h1, h2⟩ := dpGet ha (List.getElem?_eq_getElem hj)
      rw [hi] at h1
      cases h1
      exact ⟨_, List.getElem?_eq_getElem hj, h2⟩
    obtain ⟨d, hd1, hd2⟩ := hm
    show tb _ ((σ.set j y).set j (some x)) H'
    rw [List.set_set]
    exact hs x d H' y _ e (List.mem_of_getElem? hd1) (dpMono e hd2) fun H3 e3 => ⟨⟨some x, rfl⟩, e.trans e3⟩
  · obtain ⟨⟨y, rfl⟩, e⟩ := p
    exact hd y H' e
theorem i_forU {tb : TS} {tl : TE} {j : Nat} (q : tl σ H fun x H1 => tFor (iTup K (tC x)) (gName j) tb D σ H1) : tFor (iTup K tl) (gName j) tb D σ H := q
theorem i_forV {tb : TS} {tl : TE} {j : Nat} (q : tl σ H fun x H1 => tFor (iList K (tC x)) (gName j) tb D σ H1) : tFor (iList K tl) (gName j) tb D σ H := q
theorem i_isB {a b : Bool} (q : Q (.bl (decide (a = b))) H) : rIsB (.bl a) (.bl b) H Q := ⟨a, b, rfl, rfl, q⟩
theorem i_notB {a b : Bool} (q : Q (.bl (!decide (a = b))) H) : rNotB (.bl a) (.bl b) H Q := ⟨a, b, rfl, rfl, q⟩
theorem i_chain {r r' : R2} {tc : TE} (q : ta σ H fun x H1 => tb σ H1 fun y H2 => r x y H2 fun z H3 => ∃ k, z = .bl k ∧ (if k = true then tc σ H3 fun w' H4 => r' y w' H4 Q else Q (.bl false) H3)) : tChain r r' ta tb tc σ H Q := q
theorem i_tw (W : Nat → L2.St → Hp → Prop) (m0 : Nat) (h0 : W m0 σ H) {tb : TS}
    (hs : ∀ m σ' H', W m σ' H' → c σ' H' fun b H1 => if b = true then ∃ N : L2.St → Hp → Prop, (∀ σ2 H2, N σ2 H2 → ∃ m', m' < m ∧ W m' σ2 H2) ∧ tb { D with nx := N, ct := N, bk := D.nx } σ' H1 else D.nx σ' H1) : tWhile c tb D σ H := ⟨W, ⟨m0, h0⟩, hs⟩
theorem ret_any {d : PyData} (q : ∀ v H2, Ex H H2 → Dp K H2 v d → Q v H2) : Ret K d H Q := q
end

/-! ### comprehensions over pure data -/
mutual
/-- no list within -/
def noL : PyData → Bool
  | .list _ => false
  | .dict _ => false
  | .tuple ds => noLs ds
  | _ => true
def noLs : List PyData → Bool
  | [] => true
  | d :: ds => noL d && noLs ds
end
section
variable {K : PySem.W.Frag} {H : Hp} {D : Addr} {xs ys : List V}
theorem sqt_upd {a : Addr} {zs : List V} (hD : H D = some (.lst xs)) (h : SqT K H a zs) : SqT K (upd H D (.lst ys)) a zs := by
  rcases h with (h | ⟨o, h⟩) | h
  · exact .inl (.inl (by rw [upd_ne (ne_of h hD (by intro z; cases z))]; exact h))
  · exact .inl (.inr ⟨o, by rw [upd_ne (ne_of h hD (by intro z; cases z))]; exact h⟩)
  · exact .inr h
mutual
theorem dpUpd (hD : H D = some (.lst xs)) : ∀ {d : PyData} {v : V}, noL d = true → Dp K H v d → Dp K (upd H D (.lst ys)) v d
  | .none, _, _, h => by cases h; exact .non
  | .bool _, _, _, h => by cases h; exact .bl _
  | .int _, _, _, h => by cases h; exact .int _
  | .str _, _, _, h => by cases h; exact .str _
  | .list ds, _, n, h => by cases n
  | .tuple ds, _, n, h => by
    cases h with
    | tup hs ha => exact .tup (sqt_upd hD hs) (dpUpdA hD n ha)
  | .dict _, _, _, h => by cases h
theorem dpUpdA (hD : H D = some (.lst xs)) : ∀ {ds : List PyData} {vs : List V}, noLs ds = true → DpAll K H vs ds → DpAll K (upd H D (.lst ys)) vs ds
  | [], _, _, h => by cases h; exact .nil
  | d :: ds, _, n, h => by
    cases h with
    | cons h1 h2 =>
      have n2 := Bool.and_eq_true_iff.mp (show (noL d && noLs ds) = true from n)
      exact .cons (dpUpd hD n2.1 h1) (dpUpdA hD n2.2 h2)
end
theorem noLs_all : ∀ {ds : List PyData}, (∀ d ∈ ds, noL d = true) → noLs ds = true
  | [], _ => rfl
  | d :: ds, h => by
    show (noL d && noLs ds) = true
    rw [h d List.mem_cons_self, noLs_all fun e he => h e (List.mem_cons_of_mem _ he)]
    rfl
theorem dpAllApp : ∀ {ds es : List PyData} {vs ws : List V}, DpAll K H vs ds → DpAll K H ws es → DpAll K H (vs ++ ws) (ds ++ es)
  | [], _, _, _, h, k => by cases h; exact k
  | d :: ds, _, _, _, h, k => by
    cases h with
    | cons h1 h2 => exact .cons h1 (dpAllApp h2 k)
end
section
variable {K : PySem.W.Frag} {σ : L2.St} {H : Hp} {Q : VK} {j : Nat} {te tl : TE} {tt : TT} {vs : List Nat} {v : V}
theorem i_lcU (q : tl σ H fun x H1 => tLc (iTup K (tC x)) (gName j) tt te vs σ H1 Q) : tLc (iTup K tl) (gName j) tt te vs σ H Q := q
theorem i_lcM (q : tl σ H fun x H1 => tLc (iList K (tC x)) (gName j) tt te vs σ H1 Q) : tLc (iList K tl) (gName j) tt te vs σ H Q := q
/-- one turn of a pure comprehension keeps what it made so far -/
def Lcv (K : PySem.W.Frag) (H1 : Hp) (D : Addr) (ds : List PyData) (c : PyData → Bool) (f : PyData → PyData) (i : Nat) (H' : Hp) : Prop :=
  H1 D = none ∧ Ex H1 H' ∧ ∃ acc, H' D = some (.lst acc) ∧ DpAll K H' acc (((ds.take i).filter c).map f)
theorem lcv_turn {H1 H' : Hp} {D : Addr} {ds : List PyData} {c : PyData → Bool} {f : PyData → PyData} {i : Nat} {d : PyData} {σ2 : L2.St} (p : Lcv K H1 D ds c f i H') (hd : ds[i]? = some d) (hl : ds.length ≤ 100000) (hn : ∀ d ∈ ds, noL (f d) = true)
    (ht : ∀ (H2 : Hp) (R : Bool → Hp → Prop), Ex H1 H2 → (∀ H3, Ex H2 H3 → R (c d) H3) → tt σ2 H2 R)
    (he : c d = true → ∀ (H2 : Hp) (R : VK), Ex H1 H2 → (∀ w H3, Ex H2 H3 → Dp K H3 w (f d) → R w H3) → te σ2 H2 R) :
    tt σ2 H' fun b H3 => if b = true then te σ2 H3 fun y H4 => ∃ acc, H4 D = some (.lst acc) ∧ acc.length < sizeLine ∧ Lcv K H1 D ds c f (i + 1) (upd H4 D (.lst (acc ++ [y]))) else Lcv K H1 D ds c f (i + 1) H3 := by
  obtain ⟨p1, p2, acc, p3, p4⟩ := p
  have ht1 : ds.take (i + 1) = ds.take i ++ [d] := by rw [List.take_add_one, hd]; rfl
  refine ht H' _ p2 fun H3 e3 => ?_
  cases hc : c d with
  | true =>
    refine he hc H3 _ (p2.trans e3) fun y H4 e4 hy => ?_
    have hD4 : H4 D = some (.lst acc) := e4 _ _ (e3 _ _ p3)
    have hlen : acc.length ≤ ds.length := by
      rw [dpLen p4, List.length_map]
      exact Nat.le_trans (List.length_filter_le _ _) (by rw [List.length_take]; omega)
    refine ⟨acc, hD4, Evl.sz_lt (by
      have hi : i < ds.length := (List.getElem?_eq_some_iff.mp hd).1
      have : acc.length ≤ i := by
        rw [dpLen p4, List.length_map]
        exact Nat.le_trans (List.length_filter_le _ _) (by rw [List.length_take]; omega)
      omega), p1, Evl.Ex.mut ((p2.trans e3).trans e4) p1, acc ++ [y], upd_same, ?_⟩
    rw [ht1, List.filter_append, List.map_append, List.filter_cons, if_pos hc]
    refine dpUpdA hD4 (noLs_all fun z hz => ?_) (dpAllApp (dpMonoA (e3.trans e4) p4) (.cons hy .nil))
    rcases List.mem_append.mp hz with h | h
    · obtain ⟨z0, h1, rfl⟩ := List.mem_map.mp h
      exact hn z0 (List.mem_of_mem_take (List.mem_filter.mp h1).1)
    · rcases List.mem_singleton.mp h with rfl
      exact hn d (List.mem_of_getElem? hd)
  | false =>
    refine ⟨p1, p2.trans e3, acc, e3 _ _ p3, ?_⟩
    rw [ht1, List.filter_append, List.filter_cons, if_neg (by rw [hc]; decide), List.filter_nil, List.append_nil]
    exact dpMonoA e3 p4
theorem dpIdx {H : Hp} {xs : List V} {ds : List PyData} {i : Nat} {x : V} (h : DpAll K H xs ds) (e : xs[i]? = some x) : ∃ d, ds[i]? = some d ∧ Dp K H x d := by
  have hi : i < xs.length := (List.getElem?_eq_some_iff.mp e).1
  have hj : i < ds.length := by rw [← dpLen h]; exact hi
  obtain ⟨u, h1, h2⟩ := dpGet h (List.getElem?_eq_getElem hj)
  rw [e] at h1
  cases h1
  exact ⟨_, List.getElem?_eq_getElem hj, h2⟩
theorem i_lcT {ds : List PyData} (c : PyData → Bool) (f : PyData → PyData) (h : Dp K H v (.tuple ds)) (hl : ds.length ≤ 100000) (hn : ∀ d ∈ ds, noL (f d) = true) (hw : ∀ x, wipe ((wipe σ vs).set j (some x)) vs = wipe σ vs)
    (ht : ∀ (u : V) (d : PyData) (H2 : Hp) (R : Bool → Hp → Prop), Ex H H2 → d ∈ ds → Dp K H2 u d → (∀ H3, Ex H2 H3 → R (c d) H3) → tt ((wipe σ vs).set j (some u)) H2 R)
    (he : ∀ (u : V) (d : PyData) (H2 : Hp) (R : VK), Ex H H2 → d ∈ ds → c d = true → Dp K H2 u d → (∀ w H3, Ex H2 H3 → Dp K H3 w (f d) → R w H3) → te ((wipe σ vs).set j (some u)) H2 R)
    (q : ∀ p H2, H p = none → Ex H H2 → (∃ acc, H2 p = some (.lst acc) ∧ DpAll K H2 acc ((ds.filter c).map f)) → Q (.ref p) H2) : tLc (iTup K (tC v)) (gName j) tt te vs σ H Q := by
  obtain ⟨a, xs, rfl, hs, ha⟩ := dpTup h
  refine ⟨a, rfl, ⟨xs, hs⟩, fun D hD => lc_tup (xs := xs) (Lcv K H D ds c f) ⟨hD, Ex.new hD, [], upd_same, .nil⟩ (fun i H' _ p => Evl.ex_t p.2.1 hs) (fun i x H' hi p => ⟨hw x, ?_⟩) (fun H' p => ?_)⟩
  · obtain ⟨d, hd, hx⟩ := dpIdx ha hi
    have hm := List.mem_of_getElem? hd
    exact lcv_turn p hd hl hn (fun H2 R e2 r => ht x d H2 R e2 hm (dpMono e2 hx) r) (fun hc H2 R e2 r => he x d H2 R e2 hm hc (dpMono e2 hx) r)
  · obtain ⟨p1, p2, acc, p3, p4⟩ := p
    rw [dpLen ha, List.take_length] at p4
    exact q D H' p1 p2 ⟨acc, p3, p4⟩
theorem i_lcL {ds : List PyData} (c : PyData → Bool) (f : PyData → PyData) (h : Dp K H v (.list ds)) (hl : ds.length ≤ 100000) (hn : ∀ d ∈ ds, noL (f d) = true) (hw : ∀ x, wipe ((wipe σ vs).set j (some x)) vs = wipe σ vs)
    (ht : ∀ (u : V) (d : PyData) (H2 : Hp) (R : Bool → Hp → Prop), Ex H H2 → d ∈ ds → Dp K H2 u d → (∀ H3, Ex H2 H3 → R (c d) H3) → tt ((wipe σ vs).set j (some u)) H2 R)
    (he : ∀ (u : V) (d : PyData) (H2 : Hp) (R : VK), Ex H H2 → d ∈ ds → c d = true → Dp K H2 u d → (∀ w H3, Ex H2 H3 → Dp K H3 w (f d) → R w H3) → te ((wipe σ vs).set j (some u)) H2 R)
    (q : ∀ p H2, H p = none → Ex H H2 → (∃ acc, H2 p = some (.lst acc) ∧ DpAll K H2 acc ((ds.filter c).map f)) → Q (.ref p) H2) : tLc (iList K (tC v)) (gName j) tt te vs σ H Q := by
  obtain ⟨a, xs, rfl, hs, ha⟩ := dpLst h
  refine ⟨a, rfl, ⟨xs, hs⟩, fun D hD => lc_list (xs := xs) (Lcv K H D ds c f) ⟨hD, Ex.new hD, [], upd_same, .nil⟩ (fun i H' _ p => Evl.ex_l p.2.1 hs) (fun i x H' hi p => ⟨hw x, ?_⟩) (fun H' p => ?_)⟩
  · obtain ⟨d, hd, hx⟩ := dpIdx ha hi
    have hm := List.mem_of_getElem? hd
    exact lcv_turn p hd hl hn (fun H2 R e2 r => ht x d H2 R e2 hm (dpMono e2 hx) r) (fun hc H2 R e2 r => he x d H2 R e2 hm hc (dpMono e2 hx) r)
  · obtain ⟨p1, p2, acc, p3, p4⟩ := p
    rw [dpLen ha, List.take_length] at p4
    exact q D H' p1 p2 ⟨acc, p3, p4⟩
theorem i_yes {R : Bool → Hp → Prop} (q : R true H) : tYes σ H R := q
theorem i_all {ds : List PyData} {bs : List Bool} (h : Dp K H v (.list ds)) (e : ds = bs.map PyData.bool) (q : Q (.bl (bs.all id)) H) : rAll K [v] H Q := by
  obtain ⟨a, xs, rfl, hs, ha⟩ := dpLst h
  subst e
  have ex : ∀ {bs : List Bool} {xs : List V}, DpAll K H xs (bs.map PyData.bool) → xs = bs.map V.bl := by
    intro bs
    induction bs with
    | nil => intro xs h; cases h; rfl
    | cons b bs ih =>
      intro xs h
      cases h with
      | cons h1 h2 => rw [dpBl h1, ih h2]; rfl
  rw [ex ha] at hs
  exact ⟨a, bs, rfl, hs, q⟩
theorem wipe1 (x : V) : wipe ((wipe σ [j]).set j (some x)) [j] = wipe σ [j] := by
  show ((σ.set j none).set j (some x)).set j none = σ.set j none
  rw [List.set_set, List.set_set]
end
end Wb

namespace Wb
open PySem PySem.Spec PyProof.Rows L2
open Evl (Ex Ex.refl Ex.trans Ex.new)
/-! ### the bag of draws: a list of three ints that is changed by each draw; all else is told of the heap without it -/
def hid (b : Addr) (H : Hp) : Hp := fun a => if a = b then none else H a
theorem hid_of {b a : Addr} {H : Hp} {o : HO} (h : H a = some o) (hn : a ≠ b) : hid b H a = some o := by
  unfold hid
  rw [if_neg hn]
  exact h
theorem of_hid {b a : Addr} {H : Hp} {o : HO} (h : hid b H a = some o) : a ≠ b ∧ H a = some o := by
  unfold hid at h
  by_cases e : a = b
  · rw [if_pos e] at h
    cases h
  · rw [if_neg e] at h
    exact ⟨e, h⟩
theorem ex_hid {b : Addr} {H : Hp} : Ex (hid b H) H := fun _ _ h => (of_hid h).2
theorem hid_ex {b : Addr} {H H' : Hp} (e : Ex H H') : Ex (hid b H) (hid b H') := fun a o h => hid_of (e a o (of_hid h).2) (of_hid h).1
theorem hid_upd {b : Addr} {H : Hp} {o : HO} : Ex (hid b H) (hid b (upd H b o)) := fun a u h => hid_of (by rw [upd_ne (of_hid h).1]; exact (of_hid h).2) (of_hid h).1
/-- what did not know the bag stays known -/
theorem ex_unhid {b : Addr} {H0 H H' : Hp} (h0 : H0 b = none) (e : Ex H0 H) (e2 : Ex (hid b H) (hid b H')) : Ex H0 H' := fun a o h => (of_hid (e2 a o (hid_of (e a o h) (ne_of_none h h0)))).2
theorem ex_tohid {b : Addr} {H0 H : Hp} (h0 : H0 b = none) (e : Ex H0 H) : Ex H0 (hid b H) := fun a o h => hid_of (e a o h) (ne_of_none h h0)
structure Bag (b : Addr) (H : Hp) : Prop where
  ex : ∃ x y z : Int, H b = some (.lst [.int x, .int y, .int z]) ∧ 0 ≤ x ∧ Sz 2100 x
theorem Bag.mono {b : Addr} {H H' : Hp} (h : Bag b H) (e : Ex H H') : Bag b H' := by
  obtain ⟨x, y, z, h1, h2, h3⟩ := h.ex
  exact ⟨x, y, z, e _ _ h1, h2, h3⟩
theorem Bag.ne {b p : Addr} {H : Hp} (h : Bag b H) (hp : H p = none) : p ≠ b := by
  obtain ⟨x, y, z, h1, _⟩ := h.ex
  exact (ne_of_none h1 hp).symm
theorem hid_tup {b p : Addr} {H : Hp} {xs : List V} (h : Bag b H) (hp : H p = some (.tup xs)) : hid b H p = some (.tup xs) := by
  obtain ⟨x, y, z, h1, _⟩ := h.ex
  exact hid_of hp (ne_of hp h1 (by intro z; cases z))
theorem hid_new {b p : Addr} {H H' : Hp} {o : HO} (h : Bag b H) (hn : H p = none) (hp : H' p = some o) : hid b H' p = some o := hid_of hp (h.ne hn)
section
variable {K : PySem.W.Frag} {σ : L2.St} {H H' : Hp} {Q : VK} {D : Ends} {ta tb te : TE} {v : V} {i j : Int} {b : Addr}
theorem i_mkTB {xs : List V} (hl : xs.length ≤ 100000) (hb : Bag b H) (q : ∀ p H2, Ex H H2 → Bag b H2 → hid b H2 p = some (.tup xs) → Q (.ref p) H2) : MkT xs H Q :=
  i_mkT hl fun p H2 e hp => q p H2 e (hb.mono e) (hid_tup (hb.mono e) hp)
theorem i_mkLB {xs : List V} (hl : xs.length ≤ 100000) (hb : Bag b H) (q : ∀ p H2, H p = none → Ex H H2 → Bag b H2 → hid b H2 p = some (.lst xs) → Q (.ref p) H2) : MkL xs H Q :=
  i_mkL hl fun p H2 hn e hp => q p H2 hn e (hb.mono e) (hid_new hb hn hp)
theorem i_mulC (h : CMul i j) (q : Q (.int (i * j)) H) : rI CMul (fun i j => .int (i * j)) (.int i) (.int j) H Q := ⟨i, j, rfl, rfl, h, q⟩
theorem cmul_l (h : i.natAbs < 18446744073709551616) : CMul i j := .inl ⟨by omega, by omega⟩
theorem cmul_r (h : j.natAbs < 18446744073709551616) : CMul i j := .inr ⟨by omega, by omega⟩
theorem i_ixLr {xs : List V} {k : Int} (h : H b = some (.lst xs)) (e : atI xs k = some v) (q : Q v H) : rIxL K (.ref b) (.int k) H Q := ⟨b, xs, k, v, rfl, rfl, .inl (.inl h), e, q⟩
theorem i_sub {to ti : TE} {ts : TSet} {R : L2.St → Hp → Prop} (q : to σ H fun o H1 => ti σ H1 fun i H2 => ts o i v H2 fun H3 => R σ H3) : gSub to ti ts v σ H R := q
theorem i_setL {xs : List V} {k : Int} {n : Nat} {R : Hp → Prop} (h : H b = some (.lst xs)) (e : ixN xs.length k = some n) (q : ∀ H2, H2 b = some (.lst (xs.set n v)) → Ex (hid b H) (hid b H2) → R H2) : rSetL (.ref b) (.int k) v H R :=
  ⟨b, xs, k, n, rfl, rfl, h, e, q _ upd_same hid_upd⟩
theorem fmod_lt (a : Int) {b : Int} (hb : b ≠ 0) : (a.fmod b).natAbs < b.natAbs := by
  rcases Int.lt_or_gt_of_ne hb with h | h
  · rw [Int.fmod_eq_emod]
    have h1 := Int.emod_nonneg a hb
    have h2 := Int.emod_lt a hb
    have h3 : b ∣ a → a % b = 0 := Int.emod_eq_zero_of_dvd
    by_cases hd : b ∣ a
    · rw [if_pos (Or.inr hd), h3 hd]
      omega
    · rw [if_neg (by omega)]
      have h4 : a % b ≠ 0 := fun z => hd (Int.dvd_of_emod_eq_zero z)
      omega
  · have h1 := Int.fmod_nonneg_of_pos a h
    have h2 := Int.fmod_lt_of_pos a h
    omega
theorem sz_fmod {a : Nat} {i j : Int} (hj : j ≠ 0) (ha : Sz a j) : Sz a (i.fmod j) := sz_le ha (Nat.le_of_lt (fmod_lt i hj))
theorem i_qlenS {xs : List V} (h : SqL K H b xs) (q : Q (.int (xs.length : Int)) H) : qLen K [.ref b] H Q := ⟨b, xs, rfl, .inl h, q⟩
theorem i_sl {r : V → Option Int → Option Int → Hp → VK → Prop} {tl th : TO} (q : te σ H fun x H1 => tl σ H1 fun l H2 => th σ H2 fun u H3 => r x l u H3 Q) : tSl r te tl th σ H Q := q
theorem i_nopart {R : Option Int → Hp → Prop} (q : R none H) : tNoPart σ H R := q
theorem i_part {R : Option Int → Hp → Prop} (q : te σ H fun x H1 => ∃ i, x = .int i ∧ R (some i) H1) : tPart te σ H R := q
theorem i_part1 {R : Int → Prop} (q : R i) : ∃ k, V.int i = .int k ∧ R k := ⟨i, rfl, q⟩
theorem i_slL {xs : List V} {lo hi : Option Int} (h : SqL K H b xs) (q : ∀ p H2, H p = none → Ex H H2 → H2 p = some (.lst (cutV xs lo hi)) → Q (.ref p) H2) : rSlL K (.ref b) lo hi H Q := ⟨b, xs, rfl, h, fun p hp => q p _ hp (ex_upd hp) upd_same⟩
theorem i_sum {ns : List Int} (h : SqL K H b (ns.map V.int)) (q : Q (.int ns.sum) H) : rSum K [.ref b] H Q := ⟨b, ns, rfl, h, q⟩
theorem i_ixLs {xs : List V} {k : Int} (h : SqL K H b xs) (e : atI xs k = some v) (q : Q v H) : rIxL K (.ref b) (.int k) H Q := ⟨b, xs, k, v, rfl, rfl, h, e, q⟩
end
end Wb

namespace Wb
open PySem PySem.Spec PyProof.Rows L2
open Evl (Ex Ex.refl Ex.trans Ex.new)
local macro_rules | `(tactic| wtm_at "dp") => `(tactic| first | with_reducible assumption | with_reducible exact Dp.int _ | with_reducible exact Dp.bl _ | with_reducible exact Dp.str _ | with_reducible exact Dp.non | ((with_reducible refine' dpMono ?dme (by with_reducible assumption)); (case dme => wtm_at "ex")) | ((with_reducible refine' Dp.tup (Evl.st_of ?dph) ?dpa); (case dph => wtm_at "hs"); (case dpa => wtm_at "dpa")) | ((with_reducible refine' Dp.lst (Evl.sq_of ?dph) ?dpa); (case dph => wtm_at "hs"); (case dpa => wtm_at "dpa")))
local macro_rules | `(tactic| wtm_at "dpa") => `(tactic| first | with_reducible exact DpAll.nil | ((with_reducible refine' DpAll.cons ?dp1 ?dp2); (case dp1 => wtm_at "dp"); (case dp2 => wtm_at "dpa")) | with_reducible assumption | ((with_reducible refine' dpMonoA ?dme (by with_reducible assumption)); (case dme => wtm_at "ex")))
local macro_rules | `(tactic| wtm_at "sz") => `(tactic| first | with_reducible assumption | ((with_reducible refine' sz_mul ?sz1 ?sz2); (case sz1 => wtm_at "sz"); (case sz2 => wtm_at "sz")) | ((with_reducible refine' sz_add ?sz1 ?sz2); (case sz1 => wtm_at "sz"); (case sz2 => wtm_at "sz")) | ((with_reducible refine' sz_sub ?sz1 ?sz2); (case sz1 => wtm_at "sz"); (case sz2 => wtm_at "sz")) | ((with_reducible refine' sz_neg ?sz1); (case sz1 => wtm_at "sz")) | ((with_reducible refine' sz_div ?sz1); (case sz1 => wtm_at "sz")) | ((with_reducible refine' sz_fdiv ?sz1); (case sz1 => wtm_at "sz")) | exact sz_lit (by decide) | wtm_at "sz2")
local macro_rules | `(tactic| wtm_at "szb") => `(tactic| first | with_reducible assumption | ((with_reducible refine' sz_mono ?szb1 ?szb2); (case szb1 => wtm_at "sz"); (case szb2 => decide)))
local macro_rules | `(tactic| wtm_at "nz") => `(tactic| first | assumption | decide | omega)
local macro_rules | `(tactic| wtm_at "shaped") => `(tactic| first | rfl | decide)
local macro_rules | `(tactic| wtm_at "sset") => `(tactic| ((dsimp only [L2.wipe, List.set, List.set_cons_zero, List.set_cons_succ]) <;> exact rfl))
local macro_rules | `(tactic| wtm_at "nrm") => `(tactic| dsimp only [L2.start, L2.wipe, List.set, List.append, List.map, List.map_cons, List.map_nil, List.length_cons, List.length_nil, Nat.reduceAdd, Nat.reduceSub, List.reduceReplicate, List.replicate, List.cons_append, List.nil_append, List.set_cons_zero, List.set_cons_succ])
local macro_rules | `(tactic| wtm_at "st") => `(tactic| first
  | ((with_reducible refine' i_var (v := ?u0) ?u1 ?uq); (case u1 => exact rfl))
  | ((with_reducible refine' i_nameN ?u0 ?uq); (case u0 => wtm_at "sset"))
  | (with_reducible refine' i_op ?uq)
  | (with_reducible refine' i_c ?uq)
  | (with_reducible refine' i_I0 ?uq)
  | ((with_reducible refine' i_ixTI (i := ?u0) ?u1 ?u2 ?u3 ?uq); (case u1 => wtm_at "dp"); (case u2 => wtm_at "ex"); (case u3 => exact rfl))
  | ((with_reducible refine' i_ixT (d := ?u0) ?u1 ?u2 ?u3 (fun xu hxu => ?uq)); (case u1 => wtm_at "dp"); (case u2 => wtm_at "ex"); (case u3 => exact rfl))
  | ((with_reducible refine' i_mul ?u0 ?u1 ?u2 ?uq); (case u0 => wtm_at "sz"); (case u1 => wtm_at "sz"); (case u2 => first | decide | omega))
  | (with_reducible refine' i_seq ?uq)
  | (with_reducible refine' i_asg ?uq)
  | (with_reducible refine' i_ret ?uq)
  | (with_reducible refine' i_ifs ?uq)
  | (with_reducible refine' i_drop ?uq)
  | (with_reducible refine' i_next ?uq)
  | (with_reducible refine' i_cons ?uq)
  | (with_reducible refine' i_nil ?uq)
  | (with_reducible refine' i_cl ?uq)
  | (with_reducible refine' i_cb ?uq)
  | (with_reducible refine' i_tup ?uq)
  | (with_reducible refine' i_lst ?uq)
  | ((with_reducible refine' i_mkT ?u0 (fun np nH nhe nhp => ?uq)); (case u0 => exact Nat.le_of_ble_eq_true rfl))
  | (with_reducible refine' i_test ?uq)
  | (with_reducible refine' i_B ?uq)
  | (with_reducible refine' i_k ?uq)
  | (with_reducible refine' i_and ?uq)
  | (with_reducible refine' i_or ?uq)
  | (with_reducible refine' i_not ?uq)
  | (with_reducible refine' i_andV ?uq)
  | (with_reducible refine' i_orV ?uq)
  | (with_reducible refine' i_notV ?uq)
  | (with_reducible refine' i_if ?uq)
  | (with_reducible refine' i_un ?uq)
  | (with_reducible refine' i_U ?uq)
  | (with_reducible refine' i_iteT ?uq)
  | (with_reducible refine' i_iteF ?uq)
  | ((with_reducible refine' i_iteTr ?u0 ?uq); (case u0 => first | with_reducible rfl | decide | (simp only [dIsInt, dIsBool, dIsTup, dIsStr, dIsLst, Bool.not_true, Bool.not_false]; done)))
  | ((with_reducible refine' i_iteFr ?u0 ?uq); (case u0 => first | with_reducible rfl | decide | (simp only [dIsInt, dIsBool, dIsTup, dIsStr, dIsLst, Bool.not_true, Bool.not_false]; done)))
  | (with_reducible refine' i_ite (fun hif => ?uqa) (fun hif => ?uqb))
  | (with_reducible refine' i_iteN (fun hif => ?uqa) (fun hif => ?uqb))
  | (with_reducible refine' i_iteBN (fun hif => ?uqa) (fun hif => ?uqb))
  | (with_reducible refine' i_iteB (fun hif => ?uqa) (fun hif => ?uqb))
  | ((with_reducible refine' i_modN ?u0 ?uq); (case u0 => wtm_at "nz"))
  | ((with_reducible refine' i_fdX ?u0 ?u1 ?u2 ?uq); (case u0 => wtm_at "nz"); (case u1 => wtm_at "sz"); (case u2 => first | decide | omega))
  | ((with_reducible refine' i_pow ?u0 ?uq); (case u0 => exact ⟨by decide, by decide +kernel⟩))
  | (with_reducible refine' i_eqI ?uq)
  | (with_reducible refine' i_neI ?uq)
  | (with_reducible refine' i_gcd ?uq)
  | (with_reducible refine' i_qabs ?uq)
  | (with_reducible refine' i_qint ?uq)
  | (with_reducible refine' i_qintB ?uq)
  | (with_reducible refine' i_qmax2 ?uq)
  | (with_reducible refine' i_qmin2 ?uq)
  | (with_reducible refine' i_isB ?uq)
  | (with_reducible refine' i_notB ?uq)
  | (with_reducible refine' i_chain ?uq)
  | (with_reducible refine' i_qisN ?uq)
  | (with_reducible refine' i_qnotN ?uq)
  | (with_reducible refine' i_yes ?uq)
  | (with_reducible refine' i_par ?uq)
  | (with_reducible refine' i_par3 ?uq)
  | ((with_reducible refine' i_par2 ?u0 ?uq); (case u0 => wtm_at "sset"))
  | ((with_reducible refine' i_par33 ?u0 ?uq); (case u0 => wtm_at "sset"))
  | ((with_reducible refine' i_ixLI (i := ?u0) ?u1 ?u2 ?u3 ?uq); (case u1 => wtm_at "dp"); (case u2 => wtm_at "ex"); (case u3 => exact rfl))
  | ((with_reducible refine' i_ixL (d := ?u0) ?u1 ?u2 ?u3 (fun xu hxu => ?uq)); (case u1 => wtm_at "dp"); (case u2 => wtm_at "ex"); (case u3 => exact rfl))
  | ((with_reducible refine' i_qlenT ?u0 ?uq); (case u0 => wtm_at "dp"))
  | ((with_reducible refine' i_qlenL ?u0 ?uq); (case u0 => wtm_at "dp"))
  | ((with_reducible refine' i_gtup ?u0 ?u1 ?u2 (fun gvs gdp => ?uq)); (case u0 => wtm_at "dp"); (case u1 => wtm_at "ex"); (case u2 => exact rfl))
  | ((with_reducible refine' i_glst ?u0 ?u1 ?u2 (fun gvs gdp => ?uq)); (case u0 => wtm_at "dp"); (case u1 => wtm_at "ex"); (case u2 => exact rfl))
  | ((with_reducible refine' i_gconsI ?u0 (fun gr gh => ?uq)); (case u0 => with_reducible assumption))
  | ((with_reducible refine' i_gconsA ?u0 (fun gv gr gh1 gh2 => ?uq)); (case u0 => with_reducible assumption))
  | ((with_reducible refine' i_gnilA ?u0 ?uq); (case u0 => with_reducible assumption))
  | ((with_reducible refine' i_isiI ?u0 ?uq); (case u0 => wtm_at "dp"))
  | ((with_reducible refine' i_isiB ?u0 ?uq); (case u0 => wtm_at "dp"))
  | ((with_reducible refine' i_isiT ?u0 ?uq); (case u0 => wtm_at "dp"))
  | ((with_reducible refine' i_isiS ?u0 ?uq); (case u0 => wtm_at "dp"))
  | ((with_reducible refine' i_isiL ?u0 ?uq); (case u0 => wtm_at "dp"))
  | ((with_reducible refine' i_eqD ?u0 ?u1 ?u2 ?u3 ?uq); (case u0 => wtm_at "dp"); (case u1 => wtm_at "dp"); (case u2 => wtm_at "shaped"); (case u3 => wtm_at "shaped"))
  | ((with_reducible refine' i_neD ?u0 ?u1 ?u2 ?u3 ?uq); (case u0 => wtm_at "dp"); (case u1 => wtm_at "dp"); (case u2 => wtm_at "shaped"); (case u3 => wtm_at "shaped"))
  | wtm_at "st2"
  | wtm_at "use")
local macro_rules | `(tactic| wtm_at "go") => `(tactic| repeat' (wtm_at "st"))
local macro_rules | `(tactic| wtm_at "go0") => `(tactic| ((try dsimp only [L2.cxOf, L2.Cx.nox, L2.Cx.wish, L2.Cx.tr, L2.Cx.blk]); (try wtm_at "nrm"); wtm_at "go"))
local macro_rules | `(tactic| wtm_at "fin") => `(tactic| ((try dsimp only); first | with_reducible assumption | assumption | ((with_reducible refine' Ret.use ?rur ?rue ?rud); (case rur => with_reducible assumption); (case rue => wtm_at "ex"); (case rud => wtm_at "dp"))))
local macro_rules | `(tactic| wtm_at "exh") => `(tactic| first | with_reducible assumption | with_reducible exact Ex.refl _ | with_reducible exact ex_hid | ((with_reducible refine' Ex.trans ?exe (by with_reducible assumption)); (case exe => wtm_at "exh")) | ((with_reducible refine' Ex.trans ?exe (hid_ex (by with_reducible assumption))); (case exe => wtm_at "exh")))
local macro_rules | `(tactic| wtm_at "ex") => `(tactic| first | with_reducible assumption | with_reducible exact Ex.refl _ | with_reducible exact ex_hid | ((with_reducible refine' Ex.trans ?exe (by with_reducible assumption)); (case exe => wtm_at "ex")) | ((with_reducible refine' Ex.trans ?exe (hid_ex (by with_reducible assumption))); (case exe => wtm_at "ex")) | ((with_reducible refine' Ex.trans ?exe ex_hid); (case exe => wtm_at "exh")))
local macro_rules | `(tactic| wtm_at "bag") => `(tactic| first | with_reducible assumption | ((with_reducible refine' Bag.mono ?bgm (by with_reducible assumption)); (case bgm => wtm_at "bag")))
local macro_rules | `(tactic| wtm_at "hs") => `(tactic| first | with_reducible assumption | ((with_reducible refine' hid_tup ?hb ?hp); (case hp => with_reducible assumption); (case hb => wtm_at "bag")) | ((with_reducible refine' hid_new ?hb ?hn ?hp); (case hp => with_reducible assumption); (case hn => with_reducible assumption); (case hb => wtm_at "bag")) | ((with_reducible refine' ex_at ?exe (by with_reducible assumption)); (case exe => wtm_at "ex")))
local macro_rules | `(tactic| wtm_at "st2") => `(tactic| first
  | ((with_reducible refine' i_mulC ?u0 ?uq); (case u0 => first | exact cmul_l (by decide) | exact cmul_r (by decide)))
  | ((with_reducible refine' i_ixLr (v := ?u0) ?u1 ?u2 ?uq); (case u1 => with_reducible assumption); (case u2 => exact rfl))
  | (with_reducible refine' i_sub ?uq)
  | ((with_reducible refine' i_mkL ?u0 (fun np nH nfr nhe nhp => ?uq)); (case u0 => exact Nat.le_of_ble_eq_true rfl))
  | ((with_reducible refine' i_setL (n := ?u0) ?u1 ?u2 (fun sH sh se => ?uq)); (case u1 => with_reducible assumption); (case u2 => exact rfl))
  | (with_reducible refine' i_sl ?uq)
  | (with_reducible refine' i_nopart ?uq)
  | (with_reducible refine' i_part ?uq)
  | (with_reducible refine' i_part1 ?uq))
local macro_rules | `(tactic| wtm_at "sz2") => `(tactic| ((with_reducible refine' sz_fmod ?sz1 ?sz2); (case sz1 => wtm_at "nz"); (case sz2 => wtm_at "sz")))
local macro_rules | `(tactic| wtm_at "stb") => `(tactic| first
  | ((with_reducible refine' i_mkTB ?u0 ?u1 (fun np nH nhe nhb nhp => ?uq)); (case u0 => exact Nat.le_of_ble_eq_true rfl); (case u1 => wtm_at "bag"))
  | ((with_reducible refine' i_mkLB ?u0 ?u1 (fun np nH nfr nhe nhb nhp => ?uq)); (case u0 => exact Nat.le_of_ble_eq_true rfl); (case u1 => wtm_at "bag"))
  | wtm_at "st")
local macro_rules | `(tactic| wtm_at "gob") => `(tactic| repeat' (wtm_at "stb"))
local macro_rules | `(tactic| wtm_at "gob0") => `(tactic| ((try dsimp only [L2.cxOf, L2.Cx.nox, L2.Cx.wish, L2.Cx.tr, L2.Cx.blk]); (try wtm_at "nrm"); wtm_at "gob"))
structure G (mg : Str → Option Value) : Prop where
  f_len : mg "len" = none
  f_abs : mg "abs" = none
  f_int : mg "int" = none
  f_str : mg "str" = none
  f_bool : mg "bool" = none
  f_tuple : mg "tuple" = none
  f_list : mg "list" = none
  f_dict : mg "dict" = none
  f_isinstance : mg "isinstance" = none
  f_all : mg "all" = none
  f_max : mg "max" = none
  f_min : mg "min" = none
  f_sum : mg "sum" = none
  f_sorted : mg "sorted" = none
  f_range : mg "range" = none
  f_enumerate : mg "enumerate" = none
  c_MAX_ENTRIES : ∃ t, mg "MAX_ENTRIES" = some (.int 300 t)
  c_MOST : ∃ t, mg "MOST" = some (.int 4 t)
  c_LEAST : ∃ t, mg "LEAST" = some (.int 2 t)
  c_LEFT : ∃ t, mg "LEFT" = some (.str "left" t)
  c_RIGHT : ∃ t, mg "RIGHT" = some (.str "right" t)
  c_BELOW : ∃ t, mg "BELOW" = some (.str "below" t)
  c_ABOVE : ∃ t, mg "ABOVE" = some (.str "above" t)
  c_LEAF : ∃ t, mg "LEAF" = some (.str "leaf" t)
  c_NODE : ∃ t, mg "NODE" = some (.str "node" t)
abbrev FnP (K : PySem.W.Frag) (x : Str) (st : Stmt) (f : Addr) (fd : FuncData) : Prop := FunD K x x (defArgs st) (defBody st) (defScope st) [] [] f fd
section
variable {P : Program} {w : World} {K : PySem.W.Frag} {mg : Str → Option Value} {base : Heap} {H H' : Hp} {Q : VK} {E : XK} {v1 v2 v3 v4 v5 : V}
def kA (vs : List V) : TA := fun _ H R => R vs H
section
variable {σ : L2.St} {tu : TS} {D : Ends} {j : Nat} {vs : List Nat} {te : TE} {tt : TT}
theorem i_forRU {ta : TA} (q : ta σ H fun vs H1 => tFor (iRng1 (kA vs)) (gName j) tu D σ H1) : tFor (iRng1 ta) (gName j) tu D σ H := q
theorem i_lcRU {ta : TA} (q : ta σ H fun us H1 => tLc (iRng1 (kA us)) (gName j) tt te vs σ H1 Q) : tLc (iRng1 ta) (gName j) tt te vs σ H Q := q
theorem i_forRK {n : Int} (hn : 0 ≤ n ∧ n ≤ 100000) (Pv : Nat → L2.St → Hp → Prop) (h0 : Pv 0 σ H)
    (hs : ∀ (i : Nat) σ' H', (i : Int) < n → Pv i σ' H' → tu { D with nx := Pv (i + 1), ct := Pv (i + 1), bk := D.nx } (σ'.set j (some (.int (i : Int)))) H') (hd : ∀ σ' H', Pv n.toNat σ' H' → D.nx σ' H') : tFor (iRng1 (kA [.int n])) (gName j) tu D σ H :=
  ⟨n, rfl, by omega, by omega, for_range (lo := 0) (n := n.toNat) Pv h0 (fun i σ' H' hi p => by
    have e0 : (0 : Int) + (i : Int) = (i : Int) := Int.zero_add _
    show tu { D with nx := Pv (i + 1), ct := Pv (i + 1), bk := D.nx } (σ'.set j (some (.int ((0 : Int) + (i : Int))))) H'
    rw [e0]
    exact hs i σ' H' (by omega) p) hd⟩
theorem ex_hidD {b D0 : Addr} {H H' : Hp} {o : HO} (hD : H D0 = none) (e : Ex (hid b H) (hid b H')) : Ex (hid b H) (hid b (upd H' D0 o)) := fun a u h => by
  have h1 := of_hid h
  have hne : a ≠ D0 := ne_of_none h1.2 hD
  have h2 := of_hid (e a u h)
  exact hid_of (by rw [upd_ne hne]; exact h2.2) h2.1
theorem bag_upd {b D0 : Addr} {H : Hp} {o : HO} (hne : D0 ≠ b) (h : Bag b H) : Bag b (upd H D0 o) := by
  obtain ⟨x, y, z, h1, h2, h3⟩ := h.ex
  exact ⟨x, y, z, by rw [upd_ne (Ne.symm hne)]; exact h1, h2, h3⟩
theorem i_lcRB {b : Addr} {P : Int → Prop} {n : Nat} (hb : Bag b H) (hn : n ≤ 1000) (hw : ∀ x, wipe ((wipe σ vs).set j (some x)) vs = wipe σ vs)
    (he : ∀ (i : Nat) (H2 : Hp) (R : VK), Ex (hid b H) (hid b H2) → Bag b H2 → (∀ m H3, P m → Ex (hid b H2) (hid b H3) → Bag b H3 → R (.int m) H3) → te ((wipe σ vs).set j (some (.int (i : Int)))) H2 R)
    (q : ∀ p (ms : List Int) H2, ms.length = n → (∀ m ∈ ms, P m) → Ex (hid b H) (hid b H2) → Bag b H2 → hid b H2 p = some (.lst (ms.map V.int)) → Q (.ref p) H2) : tLc (iRng1 (kA [.int (n : Int)])) (gName j) tYes te vs σ H Q := by
  refine ⟨(n : Int), rfl, by omega, by omega, fun D0 hD => ?_⟩
  have hne : D0 ≠ b := hb.ne hD
  refine lc_range (lo := 0) (n := ((n : Int)).toNat) (fun i H' => Ex (hid b H) (hid b H') ∧ Bag b H' ∧ ∃ ms : List Int, ms.length = i ∧ (∀ m ∈ ms, P m) ∧ H' D0 = some (.lst (ms.map V.int))) ⟨ex_hidD hD (Ex.refl _), bag_upd hne hb, [], rfl, by simp, upd_same⟩ (fun i H' hi p => ?_) (fun H' p => ?_)
  · obtain ⟨p1, p2, ms, p3, p4, p5⟩ := p
    have e0 : (0 : Int) + (i : Int) = (i : Int) := Int.zero_add _
    show wipe ((wipe σ vs).set j (some (.int ((0 : Int) + (i : Int))))) vs = wipe σ vs ∧ tYes ((wipe σ vs).set j (some (.int ((0 : Int) + (i : Int))))) H' fun b' H3 => _
    rw [e0]
    refine ⟨hw _, he i H' _ p1 p2 fun m H3 hm e3 b3 => ?_⟩
    have hD3 : H3 D0 = some (.lst (ms.map V.int)) := (of_hid (e3 _ _ (hid_of p5 hne))).2
    refine ⟨_, hD3, Evl.sz_lt (by rw [List.length_map]; omega), ex_hidD hD (p1.trans e3), bag_upd hne b3, ms ++ [m], by simp [p3], ?_, by rw [upd_same, List.map_append]; rfl⟩
    intro m' hm'
    rcases List.mem_append.mp hm' with h | h
    · exact p4 m' h
    · rcases List.mem_singleton.mp h with rfl
      exact hm
  · obtain ⟨p1, p2, ms, p3, p4, p5⟩ := p
    exact q D0 ms H' (by omega) p4 p1 p2 (hid_of p5 hne)
end
theorem len6 {ms : List Int} (h : ms.length = 6) : ∃ a b c d e f, ms = [a, b, c, d, e, f] := by
  match ms, h with
  | [a, b, c, d, e, f], _ => exact ⟨a, b, c, d, e, f, rfl⟩
theorem i_bm {T : String} {r : V → List V → Hp → VK → Prop} {to : TE} {t : TA} {σ : L2.St} (q : to σ H fun x H1 => tyV K T x H1 ∧ t σ H1 fun xs H2 => r x xs H2 Q) : tBM K T r to t σ H Q := q
theorem i_tyL {a : Addr} {xs : List V} {R : Prop} (h : SqL K H a xs) (q : R) : tyV K "list" (.ref a) H ∧ R := ⟨.inl ⟨rfl, xs, h⟩, q⟩
theorem dpTakeN : ∀ {n : Nat} {us : List V} {ds : List PyData}, DpAll K H us ds → DpAll K H (us.take n) (ds.take n)
  | 0, _, _, _ => by rw [List.take_zero, List.take_zero]; exact .nil
  | _ + 1, _, _, .nil => .nil
  | _ + 1, _, _, .cons h t => .cons h (dpTakeN t)
theorem dpDropN : ∀ {n : Nat} {us : List V} {ds : List PyData}, DpAll K H us ds → DpAll K H (us.drop n) (ds.drop n)
  | 0, _, _, h => h
  | _ + 1, _, _, .nil => .nil
  | n + 1, _ :: us, _ :: ds, .cons _ t => by
    rw [List.drop_succ_cons, List.drop_succ_cons]
    exact dpDropN t
theorem dpAppN : ∀ {us us' : List V} {ds ds' : List PyData}, DpAll K H us ds → DpAll K H us' ds' → DpAll K H (us ++ us') (ds ++ ds')
  | _, _, _, _, .nil, h => h
  | _, _, _, _, .cons h t, h' => .cons h (dpAppN t h')
def sp__law_draw (K : PySem.W.Frag) : Sp := A2 fun v1 v2 H Q => ∃ (b : Addr) (t : Int), v1 = .ref b ∧ v2 = .int t ∧ Bag b H ∧ 0 < t ∧ Sz 9000 t ∧ ∀ n H2, 0 ≤ n → n < t → Ex (hid b H) (hid b H2) → Bag b H2 → Q (.int n) H2
abbrev s__law_draw : Stmt := top 60
theorem sc__law_draw : FnScope ["_law_bag_here", "_law_total", "_law_found", "_law_one", "_law_two"] ["_law_bag_here", "_law_total"] (defScope s__law_draw) := ⟨rfl, rfl, rfl, by decide +kernel, rfl, by decide +kernel, by decide +kernel⟩
theorem ok__law_draw {f : Addr} {fd : FuncData} (F : FnP K "_law_draw" s__law_draw f fd) (g : G mg)   : FnOk P w K mg base CX0 1 f fd ["_law_bag_here", "_law_total"] (sp__law_draw K) := by
  have nd := sc__law_draw.nd
  refine F.ok sc__law_draw (fun vs H Q E h => h.len) (fun cdv A outer s H vs Q E hr h => ?_)
  obtain ⟨v1, v2, rfl, h⟩ := h
  refine ⟨_, PSs.nox (pss_cons (ps_if (pt_cmpR op_gt (pe_ix ix_list (pv 0) pe_int (fun _ _ => rfl)) pe_int (nomark _)) (pss_cons (ps_set (i := 2) nd rfl (Or.inl rfl) (pe_op op_modN (pe_callTy call_qint1 (by rfl) g.f_int boot_int (pa_cons (pe_ix ix_list (pv 0) pe_int (fun _ _ => rfl)) pa_nil)) (pv 1))) (pss_cons (ps_asg (pe_op op_fdivX (pe_ix ix_list (pv 0) pe_int (fun _ _ => rfl)) (pv 1)) (pg_sub (pv 0) pe_int set_list)) (pss_one (ps_ret (pv 2))))) pss_nil) (pss_cons (ps_asg (pe_op op_add (pe_ix ix_list (pv 0) pe_int (fun _ _ => rfl)) pe_int) (pg_sub (pv 0) pe_int set_list)) (pss_cons (ps_set (i := 3) nd rfl (Or.inl rfl) (pe_op op_modN (pe_callTy call_qint1 (by rfl) g.f_int boot_int (pa_cons (pe_op op_add (pe_ix ix_list (pv 0) pe_int (fun _ _ => rfl)) (pe_op op_mul pe_int (pe_ix ix_list (pv 0) pe_int (fun _ _ => rfl)))) pa_nil)) pe_int)) (pss_cons (ps_set (i := 4) nd rfl (Or.inl rfl) (pe_op op_add (pe_op op_mulX (pe_op op_modN (pe_callTy call_qint1 (by rfl) g.f_int boot_int (pa_cons (pe_op op_mulX (pv 3) (pv 3)) pa_nil)) pe_int) (pv 3)) (pe_op op_mul pe_int (pe_ix ix_list (pv 0) pe_int (fun _ _ => rfl))))) (pss_one (ps_ret (pe_op op_modN (pe_callTy call_qint1 (by rfl) g.f_int boot_int (pa_cons (pe_op op_fdivX (pe_op op_modN (pe_callTy call_qint1 (by rfl) g.f_int boot_int (pa_cons (pv 4) pa_nil)) pe_int) pe_int) pa_nil)) (pv 1)))))))), ?_⟩
  obtain ⟨b, t, rfl, rfl, hb, ht, st, q⟩ := h
  obtain ⟨x, y, z, hb1, hx, sx⟩ := hb.ex
  have nt : t ≠ 0 := by omega
  wtm_at "go0"
  · dsimp only
    rename_i H2 sh se
    refine q _ _ (Int.fmod_nonneg_of_pos _ ht) (Int.fmod_lt_of_pos _ ht) (by wtm_at "ex") ⟨_, _, _, sh, ?_, sz_fdiv sx⟩
    rw [Int.fdiv_eq_ediv_of_nonneg _ (by omega)]
    exact Int.ediv_nonneg hx (by omega)
  · dsimp only
    rename_i H2 sh se
    exact q _ _ (Int.fmod_nonneg_of_pos _ ht) (Int.fmod_lt_of_pos _ ht) (by wtm_at "ex") ⟨_, _, _, sh, hx, sx⟩
theorem use__law_draw {b : Addr} {t : Int} (hb : Bag b H) (ht : 0 < t) (st : Sz 9000 t) (q : ∀ n H2, 0 ≤ n → n < t → Ex (hid b H) (hid b H2) → Bag b H2 → Q (.int n) H2) : sp__law_draw K [.ref b, .int t] H Q E := ⟨_, _, rfl, _, _, rfl, rfl, hb, ht, st, q⟩
def sp__law_bag (K : PySem.W.Frag) : Sp := A2 fun v1 v2 H Q => ∃ (a : Addr) (ns : List Int) (k : Int), v1 = .ref a ∧ v2 = .int k ∧ SqL K H a (ns.map V.int) ∧ 0 ≤ k ∧ k < 100 ∧ ∀ b H2, H b = none → Ex H H2 → Bag b H2 → Q (.ref b) H2
theorem great_pos : (0 : Int) < ((10 : Int) ^ (47 : Int).toNat) ^ (13 : Int).toNat := by decide +kernel
theorem great_sz : Sz 2100 (((10 : Int) ^ (47 : Int).toNat) ^ (13 : Int).toNat) := by
  unfold Sz
  decide +kernel
theorem bag_x {g m : Int} (hm : 0 < m) (sm : Sz 2100 m) (c : Int) : 0 ≤ (if g.fmod m - c > 0 then g.fmod m - c else 0) ∧ (0 ≤ c → Sz 2100 (if g.fmod m - c > 0 then g.fmod m - c else 0)) := by
  have h0 := Int.fmod_nonneg_of_pos g hm
  have h1 := Int.fmod_lt_of_pos g hm
  refine ⟨by split <;> omega, fun hc => sz_le sm ?_⟩
  split <;> omega
theorem atI_ok {ns : List Int} {k : Int} (h0 : 0 ≤ k) (h : k < ((ns.map V.int).length : Int)) : ∃ c, atI (ns.map V.int) k = some (.int c) := by
  rw [List.length_map] at h
  obtain ⟨j, rfl⟩ : ∃ j : Nat, k = j := ⟨k.toNat, by omega⟩
  have hk : j < ns.length := by omega
  exact ⟨ns[j], atI_nat (by
    rw [List.getElem?_map, List.getElem?_eq_getElem hk]
    rfl)⟩
theorem cut_ints (ns : List Int) (lo hi : Option Int) : ∃ ms : List Int, cutV (ns.map V.int) lo hi = ms.map V.int := by
  unfold cutV
  exact ⟨_, by rw [← List.map_drop, ← List.map_take]⟩
theorem atD {ds : List PyData} {k : Int} (h0 : 0 ≤ k) (h : k < (ds.length : Int)) : ∃ d, d ∈ ds ∧ atI ds k = some d := by
  obtain ⟨j, rfl⟩ : ∃ j : Nat, k = j := ⟨k.toNat, by omega⟩
  have hk : j < ds.length := by omega
  refine ⟨ds[j], List.getElem_mem hk, ?_⟩
  exact atI_nat (List.getElem?_eq_getElem hk)
theorem i_ixLh {b : Addr} {v : V} {ds : List PyData} {k : Int} {d : PyData} (h : Dp K (hid b H) v (.list ds)) (e : atI ds k = some d) (q : ∀ u, Dp K (hid b H) u d → Q u H) : rIxL K v (.int k) H Q := by
  obtain ⟨a, vs, rfl, hs, ha⟩ := dpLst h
  obtain ⟨u, e1, e2⟩ := dpAt ha e
  exact ⟨a, vs, k, _, rfl, rfl, Evl.ex_l ex_hid hs, e1, q u e2⟩
abbrev s__law_bag : Stmt := top 59
theorem sc__law_bag : FnScope ["_law_script", "_law_at", "_law_cell", "_law_great", "_law_mixed"] ["_law_script", "_law_at"] (defScope s__law_bag) := ⟨rfl, rfl, rfl, by decide +kernel, rfl, by decide +kernel, by decide +kernel⟩
theorem ok__law_bag {f : Addr} {fd : FuncData} (F : FnP K "_law_bag" s__law_bag f fd) (g : G mg)   : FnOk P w K mg base CX0 1 f fd ["_law_script", "_law_at"] (sp__law_bag K) := by
  have nd := sc__law_bag.nd
  refine F.ok sc__law_bag (fun vs H Q E h => h.len) (fun cdv A outer s H vs Q E hr h => ?_)
  obtain ⟨v1, v2, rfl, h⟩ := h
  refine ⟨_, PSs.nox (pss_cons (ps_set (i := 2) nd rfl (Or.inl rfl) (pe_ifExp (pt_cmpR op_lt (pv 1) (pe_callB call_qlen (by rfl) g.f_len boot_len (pa_cons (pv 0) pa_nil)) (nomark _)) (pe_ix ix_list (pv 0) (pv 1) (fun _ _ => rfl)) (pe_op op_add (pe_op op_add (pe_callB (cr_sum rfl) (by rfl) g.f_sum boot_sum (pa_cons (pe_slice sl_list (pv 0) po_none (po_some pe_int)) pa_nil)) (pe_op op_mul pe_int (pv 1))) pe_int))) (pss_cons (ps_set (i := 3) nd rfl (Or.inl rfl) (pe_op op_modN (pe_callTy call_qint1 (by rfl) g.f_int boot_int (pa_cons (pe_callB call_qabs (by rfl) g.f_abs boot_abs (pa_cons (pv 2) pa_nil)) pa_nil)) (pe_op op_powX (pe_op op_powX pe_int pe_int) pe_int))) (pss_cons (ps_set (i := 4) nd rfl (Or.inl rfl) (pe_op op_add (pe_op op_add (pe_op op_add (pe_op op_mul (pe_op op_modN (pe_callTy call_qint1 (by rfl) g.f_int boot_int (pa_cons (pv 3) pa_nil)) pe_int) pe_int) (pe_op op_mul pe_int (pv 1))) (pe_op op_mul pe_int (pe_callTy call_qint1 (by rfl) g.f_int boot_int (pa_cons (pe_cmpR op_lt (pv 2) pe_int (nomark _)) pa_nil)))) pe_int)) (pss_one (ps_ret (pe_lst (pa_cons (pe_callB (call_qmax2 rfl) (by rfl) g.f_max boot_max (pa_cons pe_int (pa_cons (pe_op op_sub (pv 3) (pe_op op_powX pe_int pe_int)) pa_nil))) (pa_cons (pe_op op_modN (pe_callTy call_qint1 (by rfl) g.f_int boot_int (pa_cons (pv 4) pa_nil)) pe_int) (pa_cons pe_int pa_nil))))))))), ?_⟩
  obtain ⟨a, ns, k, rfl, rfl, hS, hk, hk2, q⟩ := h
  have hg := great_pos
  have hgn : ((10 : Int) ^ (47 : Int).toNat) ^ (13 : Int).toNat ≠ 0 := by omega
  wtm_at "go0"
  refine i_qlenS hS ?_
  wtm_at "go"
  · rename_i hlt
    obtain ⟨c, hc⟩ := atI_ok hk hlt
    refine i_ixLs hS hc ?_
    wtm_at "go"
    dsimp only
    rename_i b H2 hn he hb
    exact q b H2 hn (by wtm_at "ex") ⟨_, _, _, hb, (bag_x hg great_sz _).1, (bag_x hg great_sz _).2 (by decide)⟩
  · refine i_slL hS (fun p H2 hp e2 h2 => ?_)
    obtain ⟨ms, hms⟩ := cut_ints ns none (some 1)
    rw [hms] at h2
    wtm_at "go"
    refine i_sum (Evl.sq_of h2) ?_
    wtm_at "go"
    dsimp only
    rename_i b H2 hn he hb
    exact q b H2 (Evl.fresh_back e2 hn) (by wtm_at "ex") ⟨_, _, _, hb, (bag_x hg great_sz _).1, (bag_x hg great_sz _).2 (by decide)⟩
theorem use__law_bag {a : Addr} {ns : List Int} {k : Int} (hS : SqL K H a (ns.map V.int)) (h0 : 0 ≤ k) (h1 : k < 100) (q : ∀ b H2, H b = none → Ex H H2 → Bag b H2 → Q (.ref b) H2) : sp__law_bag K [.ref a, .int k] H Q E := ⟨_, _, rfl, _, _, _, rfl, rfl, hS, h0, h1, q⟩
def sp__law_one_of (K : PySem.W.Frag) : Sp := A2 fun v1 v2 H Q => ∃ (b : Addr) (ds : List PyData), v1 = .ref b ∧ Bag b H ∧ Dp K (hid b H) v2 (.list ds) ∧ 0 < ds.length ∧ ds.length ≤ 1000 ∧ ∀ d v H2, d ∈ ds → Ex (hid b H) (hid b H2) → Bag b H2 → Dp K (hid b H2) v d → Q v H2
local macro_rules | `(tactic| wtm_at "use") => `(tactic| ((with_reducible refine' use__law_draw ?u0 ?u1 ?u2 (fun dn dH dn0 dn1 de db => ?uq)); (case u0 => wtm_at "bag"); (case u1 => wtm_at "pos"); (case u2 => wtm_at "szb")))
local macro_rules | `(tactic| wtm_at "pos") => `(tactic| first | assumption | decide | omega)
abbrev s__law_one_of : Stmt := top 61
theorem sc__law_one_of : FnScope ["_law_bag_here", "_law_items"] ["_law_bag_here", "_law_items"] (defScope s__law_one_of) := ⟨rfl, rfl, rfl, by decide +kernel, rfl, by decide +kernel, by decide +kernel⟩
theorem ok__law_one_of {f : Addr} {fd : FuncData} (F : FnP K "_law_one_of" s__law_one_of f fd) (g : G mg) (c__law_draw : Cl P w K mg base 1 "_law_draw" (sp__law_draw K))  : FnOk P w K mg base CX0 2 f fd ["_law_bag_here", "_law_items"] (sp__law_one_of K) := by
  have nd := sc__law_one_of.nd
  refine F.ok sc__law_one_of (fun vs H Q E h => h.len) (fun cdv A outer s H vs Q E hr h => ?_)
  obtain ⟨v1, v2, rfl, h⟩ := h
  refine ⟨_, PSs.nox (pss_one (ps_ret (pe_ix ix_list (pv 1) (pc c__law_draw hr (by decide) (by rfl) (pa_cons (pv 0) (pa_cons (pe_callB call_qlen (by rfl) g.f_len boot_len (pa_cons (pv 1) pa_nil)) pa_nil))) (fun _ _ => rfl)))), ?_⟩
  obtain ⟨b, ds, rfl, hb, hd, h0, h1, q⟩ := h
  have hl : Sz 9000 (ds.length : Int) := sz_mono (sz_lit (by omega)) (by decide)
  wtm_at "go0"
  dsimp only
  rename_i n H2 n0 n1 de db
  obtain ⟨d, hm, hat⟩ := atD n0 n1
  exact i_ixLh (b := b) (dpMono de hd) hat fun u hu => q d u H2 hm de db hu
theorem use__law_one_of {b : Addr} {ds : List PyData} (hb : Bag b H) (hd : Dp K (hid b H) v2 (.list ds)) (h0 : 0 < ds.length) (h1 : ds.length ≤ 1000) (q : ∀ d v H2, d ∈ ds → Ex (hid b H) (hid b H2) → Bag b H2 → Dp K (hid b H2) v d → Q v H2) : sp__law_one_of K [.ref b, v2] H Q E := ⟨_, _, rfl, _, _, rfl, hb, hd, h0, h1, q⟩
local macro_rules | `(tactic| wtm_at "oneof") => `(tactic| ((with_reducible refine' use__law_one_of ?u0 ?u1 ?u2 ?u3 ?uq); (case u0 => wtm_at "bag"); (case u1 => wtm_at "dp"); (case u2 => exact Nat.le_of_ble_eq_true rfl); (case u3 => exact Nat.le_of_ble_eq_true rfl)))
def rPopA : V → List V → Hp → VK → Prop := fun x vs H Q => ∃ (l : Addr) (xs : List V) (i : Int) (k : Nat) (y : V), x = .ref l ∧ vs = [.int i] ∧ H l = some (.lst xs) ∧ -(2 ^ 63) ≤ i ∧ i < 2 ^ 63 ∧ seqIndex? i xs.length = some k ∧ xs[k]? = some y ∧ Q y (upd H l (.lst (xs.eraseIdx k)))
theorem mt_popA {X : Cx} : MtM X "list.pop" rPopA := mt_popAt
theorem pe_bmK {X : Cx} {K : PySem.W.Frag} {T : String} {name : Str} {id : String} {r : V → List V → Hp → VK → Prop} {o : Expr} {to : TE} {e : Expr} {es : List Expr} {t : TA} {apos cpos : Pos} (pa : PlainAttrs T) (slot : Slot T name id) (hty : typeOf (.builtin id) = pure (.type "method_descriptor")) (hm : MtM X id r) (ho : PE X o to) (ha : PA X (e :: es) t)
    (hbase : attributeBase o name X.env (eval o X.env) = eval o X.env := by rfl)
    (hfew : ((backTo cpos (starEach (e :: es) X.env)).all (fun x => !x.1) && (backToKw cpos (keywordEach [] X.env)).all (fun x => x.1.isSome)
      && decide ((e :: es).length + ([] : List Keyword).length + (if ([] : List Keyword).isEmpty then 0 else 1) < 30)) = true := by rfl)
    (hline : (apos.endLine == cpos.line) = true := by rfl) (hs : starEach (e :: es) X.env = (false, eval e X.env) :: starEach es X.env := by rfl) (hplain : (backTo cpos (starEach es X.env)).any (·.1) = false := by rfl) (hK : X.K = K := by rfl) :
    PE X (.Call (.Attribute o name apos) (e :: es) [] cpos) (tBM K T r to t) := by
  subst hK
  exact pe_bm pa slot hty hm ho ha hbase hfew hline hs hplain
local macro_rules | `(tactic| wtm_at "st2") => `(tactic| (first | ((with_reducible refine' i_qlenS ?u0 ?uq); (case u0 => with_reducible assumption)) | fail))
local macro_rules | `(tactic| wtm_at "st2") => `(tactic| (with_reducible refine' i_bm ?uq))
local macro_rules | `(tactic| wtm_at "st2") => `(tactic| (first | ((with_reducible refine' i_tyL ?u0 ?uq); (case u0 => with_reducible assumption)) | fail))
def sp__law_shuffled (K : PySem.W.Frag) : Sp := A2 fun v1 v2 H Q => ∃ (b : Addr) (ds : List PyData), v1 = .ref b ∧ Bag b H ∧ Dp K (hid b H) v2 (.list ds) ∧ ds.length ≤ 60 ∧ ∀ (es : List PyData) (a : Addr) (us : List V) H2, es.Perm ds → Ex (hid b H) (hid b H2) → Bag b H2 → hid b H2 a = some (.lst us) → DpAll K (hid b H2) us es → Q (.ref a) H2
theorem seqNat {k n : Nat} (h : k < n) : seqIndex? (k : Int) n = some k := by
  unfold seqIndex?
  have h1 : ¬ ((k : Int) < 0) := by omega
  simp only [h1, if_false]
  have h2 : (decide (0 ≤ (k : Int)) && decide ((k : Int) < (n : Int))) = true := by
    rw [decide_eq_true (by omega), decide_eq_true (by omega)]
    rfl
  rw [h2]
  rfl
theorem dpErase {G : Hp} {us : List V} {ds : List PyData} (k : Nat) (h : DpAll K G us ds) : DpAll K G (us.eraseIdx k) (ds.eraseIdx k) := by
  rw [List.eraseIdx_eq_take_drop_succ, List.eraseIdx_eq_take_drop_succ]
  exact dpAppN (dpTakeN h) (dpDropN h)
theorem perm_erase {l : List PyData} {k : Nat} (h : k < l.length) : ([l[k]] ++ l.eraseIdx k).Perm l := by
  rw [List.eraseIdx_eq_take_drop_succ]
  have e : l = l.take k ++ l[k] :: l.drop (k + 1) := by
    rw [List.getElem_cons_drop, List.take_append_drop]
  have h2 := (List.perm_middle (a := l[k]) (l₁ := l.take k) (l₂ := l.drop (k + 1))).symm
  rw [← e] at h2
  exact h2
def shW (K : PySem.W.Frag) (b wa D : Addr) (ds : List PyData) (H : Hp) : Nat → Hp → Prop := fun i H' => ∃ (ws acc : List V) (rest es : List PyData), H' wa = some (.lst ws) ∧ H' D = some (.lst acc) ∧ DpAll K (hid b H) ws rest ∧ DpAll K (hid b H) acc es ∧ (es ++ rest).Perm ds ∧ es.length = i ∧ Ex (hid b H) (hid b H') ∧ Bag b H'
abbrev s__law_shuffled : Stmt := top 62
theorem sc__law_shuffled : FnScope ["_law_bag_here", "_law_items", "_law_waits", "_law_turn"] ["_law_bag_here", "_law_items"] (defScope s__law_shuffled) := ⟨rfl, rfl, rfl, by decide +kernel, rfl, by decide +kernel, by decide +kernel⟩
theorem ok__law_shuffled {f : Addr} {fd : FuncData} (F : FnP K "_law_shuffled" s__law_shuffled f fd) (g : G mg) (c__law_draw : Cl P w K mg base 1 "_law_draw" (sp__law_draw K))  : FnOk P w K mg base CX0 2 f fd ["_law_bag_here", "_law_items"] (sp__law_shuffled K) := by
  have nd := sc__law_shuffled.nd
  refine F.ok sc__law_shuffled (fun vs H Q E h => h.len) (fun cdv A outer s H vs Q E hr h => ?_)
  obtain ⟨v1, v2, rfl, h⟩ := h
  refine ⟨_, PSs.nox (pss_cons (ps_set (i := 2) nd rfl (Or.inr rfl) (pe_callTy call_qlist (by rfl) g.f_list boot_list (pa_cons (pv 1) pa_nil))) (pss_one (ps_ret (pe_lc (own := [("_law_turn", 3)]) (g := gName 3) (by rfl) nd (pi_range1 (by rfl) g.f_range (pa_cons (pe_callB call_qlen (by rfl) g.f_len boot_len (pa_cons (pv 1) pa_nil)) pa_nil)) (blkOk_by (N := ["_law_bag_here", "_law_items", "_law_waits", "_law_turn"]) (sc := defScope s__law_shuffled) (own := [("_law_turn", 3)]) (by decide +kernel)) (fun _ _ _ _ _ => (pg_name (i := 3) nd rfl (Or.inl rfl))) (fun _ _ _ _ _ => pts_nil) (fun _ _ _ _ _ => (pe_bmK (K := K) PySem.F.plainAttrs_list PySem.F.slot_list_pop PySem.F.type_list_pop mt_popA (pv 2) (pa_cons (pc c__law_draw hr (by decide) (by rfl) (pa_cons (pv 0) (pa_cons (pe_callB (show CallR _ _ (qLen K) from call_qlen) (by rfl) g.f_len boot_len (pa_cons (pv 2) pa_nil)) pa_nil))) pa_nil))))))), ?_⟩
  obtain ⟨b, ds, rfl, hb, hd, hl, q⟩ := h
  obtain ⟨a, us, rfl, hs, ha⟩ := dpLst hd
  wtm_at "gob0"
  refine ⟨a, us, rfl, .inl (Evl.ex_l ex_hid hs), fun wa wn => ?_⟩
  have e1 : Ex H (upd H wa (.lst us)) := Ex.new wn
  have e1' := e1
  have hd1 : Dp K (upd H wa (.lst us)) (.ref a) (.list ds) := dpMono (ex_hid.trans e1) hd
  have hwb : wa ≠ b := hb.ne wn
  have b1 : Bag b (upd H wa (.lst us)) := hb.mono e1
  have hw1 : upd H wa (.lst us) wa = some (.lst us) := upd_same
  have ex1 : Ex (hid b H) (hid b (upd H wa (.lst us))) := hid_ex e1
  generalize upd H wa (.lst us) = H1 at *
  wtm_at "gob"
  refine i_lcRU ?_
  wtm_at "gob"
  refine ⟨_, rfl, by omega, by omega, fun D hD => lc_range (lo := 0) (n := ((ds.length : Int)).toNat) (shW K b wa D ds H) ?_ (fun i H' hi p => ?_) (fun H' p => ?_)⟩
  · have hDb : D ≠ b := b1.ne hD
    have hDw : D ≠ wa := fun z => by rw [z, hw1] at hD; cases hD
    exact ⟨us, [], ds, [], by rw [upd_ne (Ne.symm hDw)]; exact hw1, upd_same, ha, .nil, List.Perm.refl _, rfl, ex_hidD (Evl.fresh_back e1 hD) ex1, bag_upd hDb b1⟩
  · obtain ⟨ws, acc, rest, es, p1, p2, p3, p4, p5, p6, p7, p8⟩ := p
    have hDb : D ≠ b := b1.ne hD
    have hDw : D ≠ wa := fun z => by rw [z, hw1] at hD; cases hD
    have hlw : ws.length = rest.length := dpLen p3
    have hla : acc.length = es.length := dpLen p4
    have hlt : es.length + rest.length = ds.length := by rw [← p5.length_eq, List.length_append]
    have hsq : SqL K H' wa ws := Evl.sq_of p1
    have hpos : 0 < (rest.length : Int) := by omega
    have hsz : Sz 9000 (rest.length : Int) := sz_mono (sz_lit (by omega)) (by decide)
    refine ⟨rfl, i_yes (i_iteT ?_)⟩
    wtm_at "nrm"
    clear hd1 e1 ex1 b1
    wtm_at "gob"
    rename_i dn G dn0 dn1 de db
    obtain ⟨k, rfl⟩ : ∃ k : Nat, dn = k := ⟨dn.toNat, by omega⟩
    have hk : k < ws.length := by omega
    have hkr : k < rest.length := by omega
    have g1 : G wa = some (.lst ws) := (of_hid (de _ _ (hid_of p1 hwb))).2
    have g2 : G D = some (.lst acc) := (of_hid (de _ _ (hid_of p2 hDb))).2
    obtain ⟨y, hy, hyd⟩ := dpGet p3 (i := k) (List.getElem?_eq_getElem hkr)
    refine ⟨wa, ws, k, k, y, rfl, rfl, g1, by omega, by omega, seqNat hk, hy, acc, by rw [upd_ne hDw]; exact g2, Evl.sz_lt (by omega), ws.eraseIdx k, acc ++ [y], rest.eraseIdx k, es ++ [rest[k]], ?_, upd_same, dpErase k p3, dpAppN p4 (.cons hyd .nil), ?_, by simp [p6], ?_, bag_upd hDb (bag_upd hwb db)⟩
    · rw [upd_ne (Ne.symm hDw)]
      exact upd_same
    · rw [List.append_assoc]
      exact ((perm_erase hkr).append_left es).trans p5
    · exact ex_hidD (Evl.fresh_back e1' hD) (ex_hidD wn (p7.trans de))
  · obtain ⟨ws, acc, rest, es, p1, p2, p3, p4, p5, p6, p7, p8⟩ := p
    have hDb : D ≠ b := b1.ne hD
    have hlt : es.length + rest.length = ds.length := by rw [← p5.length_eq, List.length_append]
    have hr0 : rest = [] := List.eq_nil_of_length_eq_zero (by omega)
    subst hr0
    rw [List.append_nil] at p5
    dsimp only
    exact q es D acc _ p5 p7 p8 (hid_of p2 hDb) (dpMonoA p7 p4)
theorem use__law_shuffled {b : Addr} {ds : List PyData} {v2 : V} (hb : Bag b H) (hd : Dp K (hid b H) v2 (.list ds)) (hl : ds.length ≤ 60) (q : ∀ (es : List PyData) (a : Addr) (us : List V) H2, es.Perm ds → Ex (hid b H) (hid b H2) → Bag b H2 → hid b H2 a = some (.lst us) → DpAll K (hid b H2) us es → Q (.ref a) H2) : sp__law_shuffled K [.ref b, v2] H Q E := ⟨_, _, rfl, _, _, rfl, hb, hd, hl, q⟩
end
end Wb

/-! boxes, entries, forms as data -/
namespace Wb
open PySem PySem.Spec
abbrev Bx : Type := Int × Int × Int × Int
def bxD (b : Bx) : PyData := .tuple [.int b.1, .int b.2.1, .int b.2.2.1, .int b.2.2.2]
def Bx.ok (b : Bx) : Prop := b.1 ≤ b.2.2.1 ∧ b.2.1 ≤ b.2.2.2
abbrev En : Type := Int × Bx
def enD (e : En) : PyData := .tuple [.int e.1, bxD e.2]
/-- a form whose leaves lie n below -/
def Fo : Nat → Type
  | 0 => List En
  | n + 1 => List (Bx × Fo n)
def foL (t : Fo 0) : List En := t
def foB {n : Nat} (t : Fo (n + 1)) : List (Bx × Fo n) := t
def mkLf (es : List En) : Fo 0 := es
def mkNd {n : Nat} (bs : List (Bx × Fo n)) : Fo (n + 1) := bs
theorem foL_mk (es : List En) : foL (mkLf es) = es := rfl
theorem foB_mk {n : Nat} (bs : List (Bx × Fo n)) : foB (mkNd bs) = bs := rfl
def foD : (n : Nat) → Fo n → PyData
  | 0, t => .tuple [.str "leaf", .tuple ((foL t).map enD)]
  | n + 1, t => .tuple [.str "node", .tuple ((foB t).map fun p => .tuple [bxD p.1, foD n p.2])]
def brD (n : Nat) (p : Bx × Fo n) : PyData := .tuple [bxD p.1, foD n p.2]
def foSz : (n : Nat) → Fo n → Nat
  | 0, t => (foL t).length
  | n + 1, t => (foB t).length
/-- the entries, in the order of the text's own walk -/
def ents : (n : Nat) → Fo n → List En
  | 0, t => foL t
  | n + 1, t => (foB t).flatMap fun p => ents n p.2
def deps : (n : Nat) → Fo n → List Int
  | 0, _ => [1]
  | n + 1, t => (foB t).flatMap fun p => (deps n p.2).map (1 + ·)
def subs : (n : Nat) → Fo n → List PyData
  | 0, _ => []
  | n + 1, t => (foB t).flatMap fun p => foD n p.2 :: subs n p.2
def brns : (n : Nat) → Fo n → List PyData
  | 0, _ => []
  | n + 1, t => (foB t).flatMap fun p => brD n p :: brns n p.2
def mnI : List Int → Int
  | [] => 0
  | [x] => x
  | x :: y :: r => min x (mnI (y :: r))
def mxI : List Int → Int
  | [] => 0
  | [x] => x
  | x :: y :: r => max x (mxI (y :: r))
def joint (bs : List Bx) : Bx := (mnI (bs.map (·.1)), mnI (bs.map (·.2.1)), mxI (bs.map (·.2.2.1)), mxI (bs.map (·.2.2.2)))
/-- a form as the tree's maker wants it below the top -/
def Right : (n : Nat) → Fo n → Prop
  | 0, t => ∀ e ∈ foL t, e.2.ok
  | n + 1, t => ∀ p ∈ foB t, p.1 = joint ((ents n p.2).map (·.2)) ∧ 2 ≤ foSz n p.2 ∧ foSz n p.2 ≤ 4 ∧ Right n p.2
def apart (b c : Bx) : Option String := if b.2.2.1 < c.1 then some "left" else if b.1 > c.2.2.1 then some "right" else if b.2.2.2 < c.2.1 then some "below" else if b.2.1 > c.2.2.2 then some "above" else none
def wdD : Option String → PyData
  | none => .none
  | some s => .str (Str.ofString s)
def meetB (b c : Bx) : Bool := decide (b.1 ≤ c.2.2.1) && (decide (c.1 ≤ b.2.2.1) && (decide (b.2.1 ≤ c.2.2.2) && decide (c.2.1 ≤ b.2.2.2)))
theorem meet_apart (b c : Bx) : meetB b c = decide (apart b c = none) := by
  unfold meetB apart
  by_cases h1 : b.2.2.1 < c.1
  · rw [if_pos h1]
    simp
    omega
  · rw [if_neg h1]
    by_cases h2 : b.1 > c.2.2.1
    · rw [if_pos h2]
      simp
      omega
    · rw [if_neg h2]
      by_cases h3 : b.2.2.2 < c.2.1
      · rw [if_pos h3]
        simp
        omega
      · rw [if_neg h3]
        by_cases h4 : b.2.1 > c.2.2.2
        · rw [if_pos h4]
          simp
          omega
        · rw [if_neg h4]
          simp
          omega
theorem noL_bx (b : Bx) : noL (bxD b) = true := rfl
theorem noL_en (e : En) : noL (enD e) = true := rfl
theorem noLs_map {α : Type} (f : α → PyData) (h : ∀ x, noL (f x) = true) (xs : List α) : noLs (xs.map f) = true := noLs_all fun d hd => by
  obtain ⟨x, _, rfl⟩ := List.mem_map.mp hd
  exact h x
theorem noL_fo : ∀ (n : Nat) (t : Fo n), noL (foD n t) = true
  | 0, t => by
    show (noL (.str "leaf") && (noLs ((foL t).map enD) && true)) = true
    rw [noLs_map enD noL_en]
    rfl
  | n + 1, t => by
    show (noL (.str "node") && (noLs ((foB t).map fun p => .tuple [bxD p.1, foD n p.2]) && true)) = true
    rw [noLs_map _ fun p => by
      show (noL (bxD p.1) && (noL (foD n p.2) && true)) = true
      rw [noL_bx, noL_fo n p.2]
      rfl]
    rfl
theorem noL_br (n : Nat) (p : Bx × Fo n) : noL (brD n p) = true := by
  show (noL (bxD p.1) && (noL (foD n p.2) && true)) = true
  rw [noL_bx, noL_fo n p.2]
  rfl
theorem noL_subs : ∀ (n : Nat) (t : Fo n), ∀ d ∈ subs n t, noL d = true
  | 0, _, _, h => by cases h
  | n + 1, bs, d, h => by
    obtain ⟨p, _, h⟩ := List.mem_flatMap.mp h
    rcases List.mem_cons.mp h with rfl | h
    · exact noL_fo n p.2
    · exact noL_subs n p.2 d h
theorem noL_brns : ∀ (n : Nat) (t : Fo n), ∀ d ∈ brns n t, noL d = true
  | 0, _, _, h => by cases h
  | n + 1, bs, d, h => by
    obtain ⟨p, _, h⟩ := List.mem_flatMap.mp h
    rcases List.mem_cons.mp h with rfl | h
    · exact noL_br n p
    · exact noL_brns n p.2 d h
end Wb

/-! comprehensions over typed lists, any target; two for clauses -/
namespace Wb
open PySem PySem.Spec PyProof.Rows L2
open Evl (Ex Ex.refl Ex.trans Ex.new)
section
variable {K : PySem.W.Frag} {H H' : Hp} {Q : VK} {v : V} {σ : L2.St} {vs vs1 : List Nat} {te : TE} {tt tt1 : TT} {g g1 : TG}
/-- what was made so far -/
def Acc (K : PySem.W.Frag) (H1 : Hp) (D : Addr) (ds : List PyData) (H' : Hp) : Prop := H1 D = none ∧ Ex H1 H' ∧ ∃ acc, H' D = some (.lst acc) ∧ DpAll K H' acc ds
theorem Acc.new {D : Addr} (h : H D = none) : Acc K H D [] (upd H D (.lst [])) := ⟨h, Ex.new h, [], upd_same, .nil⟩
theorem Acc.up {D : Addr} {H1 : Hp} {ds : List PyData} (p : Acc K H1 D ds H) (e : Ex H H') : Acc K H1 D ds H' := by
  obtain ⟨p1, p2, acc, p3, p4⟩ := p
  exact ⟨p1, p2.trans e, acc, e _ _ p3, dpMonoA e p4⟩
theorem Acc.put {D : Addr} {H1 : Hp} {ds : List PyData} {y : V} {d : PyData} (p : Acc K H1 D ds H') (hl : ds.length < 100000) (hn : ∀ z ∈ ds, noL z = true) (hd : noL d = true) (hy : Dp K H' y d) :
    ∃ acc, H' D = some (.lst acc) ∧ acc.length < sizeLine ∧ Acc K H1 D (ds ++ [d]) (upd H' D (.lst (acc ++ [y]))) := by
  obtain ⟨p1, p2, acc, p3, p4⟩ := p
  refine ⟨acc, p3, Evl.sz_lt (by rw [dpLen p4]; omega), p1, Evl.Ex.mut p2 p1, acc ++ [y], upd_same, ?_⟩
  refine dpUpdA p3 (noLs_all fun z hz => ?_) (dpAllApp p4 (.cons hy .nil))
  rcases List.mem_append.mp hz with h | h
  · exact hn z h
  · rcases List.mem_singleton.mp h with rfl
    exact hd
/-- a list that came after D was laid stays as D grows -/
theorem dpKeep {D : Addr} {xs ys : List V} {u : V} {d : PyData} (hD : H D = some (.lst xs)) (hn : noL d = true) (h : Dp K H u d) : Dp K (upd H D (.lst ys)) u d := dpUpd hD hn h
theorem sqL_ne {D a : Addr} {xs : List V} {o : HO} (hne : a ≠ D) (h : SqL K H a xs) : SqL K (upd H D o) a xs := by
  rcases h with h | h
  · refine .inl ?_
    unfold Rd
    rw [upd_ne hne]
    exact h
  · exact .inr h
variable {α β : Type}
section
variable {enc : α → PyData} {xs : List α}
abbrev LcTurn (K : PySem.W.Frag) (H : Hp) (enc : α → PyData) (xs : List α) (c : α → Bool) (f : α → PyData) (g : TG) (tt : TT) (te : TE) (vs : List Nat) (σ : L2.St) : Prop :=
  ∀ (u : V) (x : α) (H2 : Hp) (R : Hp → Prop) (Y : VK), Ex H H2 → x ∈ xs → Dp K H2 u (enc x) → (c x = false → ∀ H3, Ex H2 H3 → R H3) → (c x = true → ∀ w H3, Ex H2 H3 → Dp K H3 w (f x) → Y w H3) →
    g u (wipe σ vs) H2 fun σ2 H3 => wipe σ2 vs = wipe σ vs ∧ tt σ2 H3 fun b H4 => if b = true then te σ2 H4 Y else R H4
theorem lcg_step (c : α → Bool) (f : α → PyData) (hl : xs.length ≤ 100000) (hn : ∀ x ∈ xs, noL (f x) = true) (ht : LcTurn K H enc xs c f g tt te vs σ) {D : Addr} {i : Nat} {u : V} {us : List V} (ha : DpAll K H us (xs.map enc)) (hi : us[i]? = some u) (p : Acc K H D (((xs.take i).filter c).map f) H') :
    g u (wipe σ vs) H' fun σ2 H2 => wipe σ2 vs = wipe σ vs ∧ tt σ2 H2 fun b H3 => if b = true then te σ2 H3 fun y H4 => ∃ acc, H4 D = some (.lst acc) ∧ acc.length < sizeLine ∧ Acc K H D (((xs.take (i + 1)).filter c).map f) (upd H4 D (.lst (acc ++ [y]))) else Acc K H D (((xs.take (i + 1)).filter c).map f) H3 := by
  obtain ⟨d, hd, hu⟩ := dpIdx ha hi
  rw [List.getElem?_map] at hd
  obtain ⟨x, hx, rfl⟩ := Option.map_eq_some_iff.mp hd
  have hix : i < xs.length := (List.getElem?_eq_some_iff.mp hx).1
  have ht1 : xs.take (i + 1) = xs.take i ++ [x] := by rw [List.take_add_one, hx]; rfl
  refine ht u x H' _ _ p.2.1 (List.mem_of_getElem? hx) (dpMono p.2.1 hu) (fun hc H3 e3 => ?_) (fun hc w H3 e3 hw => ?_)
  · rw [ht1, List.filter_append, List.filter_cons, if_neg (by rw [hc]; decide), List.filter_nil, List.append_nil]
    exact p.up e3
  · rw [ht1, List.filter_append, List.map_append, List.filter_cons, if_pos hc]
    refine (p.up e3).put ?_ (fun z hz => ?_) (hn x (List.mem_of_getElem? hx)) hw
    · rw [List.length_map]
      have := List.length_filter_le c (xs.take i)
      have : (xs.take i).length ≤ i := by rw [List.length_take]; omega
      omega
    · obtain ⟨z0, h1, rfl⟩ := List.mem_map.mp hz
      exact hn z0 (List.mem_of_mem_take (List.mem_filter.mp h1).1)
theorem lcg_end {c : α → Bool} {f : α → PyData} {us : List V} {D : Addr} (ha : DpAll K H us (xs.map enc)) (p : Acc K H D (((xs.take us.length).filter c).map f) H') (q : ∀ p H2, H p = none → Ex H H2 → Dp K H2 (.ref p) (.list ((xs.filter c).map f)) → Q (.ref p) H2) : Q (.ref D) H' := by
  have e : us.length = xs.length := by rw [dpLen ha, List.length_map]
  rw [e, List.take_length] at p
  obtain ⟨p1, p2, acc, p3, p4⟩ := p
  exact q D H' p1 p2 (.lst (Evl.sq_of p3) p4)
theorem i_lcGT (c : α → Bool) (f : α → PyData) (h : Dp K H v (.tuple (xs.map enc))) (hl : xs.length ≤ 100000) (hn : ∀ x ∈ xs, noL (f x) = true) (ht : LcTurn K H enc xs c f g tt te vs σ)
    (q : ∀ p H2, H p = none → Ex H H2 → Dp K H2 (.ref p) (.list ((xs.filter c).map f)) → Q (.ref p) H2) : tLc (iTup K (tC v)) g tt te vs σ H Q := by
  obtain ⟨a, us, rfl, hs, ha⟩ := dpTup h
  exact ⟨a, rfl, ⟨us, hs⟩, fun D hD => lc_tup (xs := us) (fun i H' => Acc K H D (((xs.take i).filter c).map f) H') (Acc.new hD) (fun i H' _ p => Evl.ex_t p.2.1 hs) (fun i u H' hi p => lcg_step c f hl hn ht ha hi p) (fun H' p => lcg_end ha p q)⟩
theorem i_lcGL (c : α → Bool) (f : α → PyData) (h : Dp K H v (.list (xs.map enc))) (hl : xs.length ≤ 100000) (hn : ∀ x ∈ xs, noL (f x) = true) (ht : LcTurn K H enc xs c f g tt te vs σ)
    (q : ∀ p H2, H p = none → Ex H H2 → Dp K H2 (.ref p) (.list ((xs.filter c).map f)) → Q (.ref p) H2) : tLc (iList K (tC v)) g tt te vs σ H Q := by
  obtain ⟨a, us, rfl, hs, ha⟩ := dpLst h
  exact ⟨a, rfl, ⟨us, hs⟩, fun D hD => lc_list (xs := us) (fun i H' => Acc K H D (((xs.take i).filter c).map f) H') (Acc.new hD) (fun i H' _ p => Evl.ex_l p.2.1 hs) (fun i u H' hi p => lcg_step c f hl hn ht ha hi p) (fun H' p => lcg_end ha p q)⟩
end
theorem i_lcTU {tl : TE} (q : tl σ H fun x H1 => tLc (iTup K (tC x)) g tt te vs σ H1 Q) : tLc (iTup K tl) g tt te vs σ H Q := q
theorem i_lcLU {tl : TE} (q : tl σ H fun x H1 => tLc (iList K (tC x)) g tt te vs σ H1 Q) : tLc (iList K tl) g tt te vs σ H Q := q
/-- the inner walk of a list that came fresh -/
theorem lc2_in {enc1 : β → PyData} {D a : Addr} {us : List V} {ys : List β} {σ2 : L2.St} {H0 H4 : Hp} {ds : List PyData} {f : β → PyData} {Nx : Hp → Prop} (hne : a ≠ D) (hs : SqL K H4 a us) (ha : DpAll K H4 us (ys.map enc1)) (hl : ds.length + ys.length ≤ 100000)
    (hn0 : ∀ d ∈ ds, noL d = true) (hn : ∀ y ∈ ys, noL (f y) = true) (hn1 : ∀ y ∈ ys, noL (enc1 y) = true) (p : Acc K H0 D ds H4)
    (ht : ∀ (u : V) (y : β) (H5 : Hp) (R : Hp → Prop) (Y : VK), Ex H0 H5 → y ∈ ys → Dp K H5 u (enc1 y) → (∀ w H6, Ex H5 H6 → Dp K H6 w (f y) → Y w H6) → g1 u (wipe σ2 vs1) H5 fun σ3 H6 => wipe σ3 vs1 = wipe σ2 vs1 ∧ tt1 σ3 H6 fun b H7 => if b = true then te σ3 H7 Y else R H7)
    (hd : ∀ H5, Acc K H0 D (ds ++ ys.map f) H5 → Nx H5) :
    ∃ W1 : Nat → Nat → Hp → Prop, (∃ m, W1 0 m H4) ∧ ∀ j k H, W1 j k H →
      ((Itl K a).stop j H ∧ Nx H) ∨ ((Itl K a).go j H ∧ ∃ Nx1 : Hp → Prop, (∀ H', Nx1 H' → ∃ k', k' < k ∧ W1 (j + 1) k' H') ∧ ∀ x H', (Itl K a).yld j H x H' → g1 x (wipe σ2 vs1) H' fun σ3 H5 => wipe σ3 vs1 = wipe σ2 vs1 ∧ tt1 σ3 H5 fun b H6 =>
        if b = true then te σ3 H6 fun y H7 => ∃ acc, H7 D = some (.lst acc) ∧ acc.length < sizeLine ∧ Nx1 (upd H7 D (.lst (acc ++ [y]))) else Nx1 H6) := by
  have el : us.length = ys.length := by rw [dpLen ha, List.length_map]
  refine ⟨fun j k H5 => k = us.length - j ∧ j ≤ us.length ∧ SqL K H5 a us ∧ DpAll K H5 us (ys.map enc1) ∧ Acc K H0 D (ds ++ (ys.take j).map f) H5, ⟨us.length, by simp, Nat.zero_le _, hs, ha, by simpa using p⟩, ?_⟩
  rintro j k H5 ⟨rfl, hj, h1, h2, h3⟩
  by_cases hlt : j < us.length
  · refine .inr ⟨⟨us, us[j], h1, by simp [hlt]⟩, fun H6 => SqL K H6 a us ∧ DpAll K H6 us (ys.map enc1) ∧ Acc K H0 D (ds ++ (ys.take (j + 1)).map f) H6, fun H6 p' => ⟨us.length - (j + 1), by omega, rfl, hlt, p'⟩, fun x H6 y => ?_⟩
    obtain ⟨e, y⟩ := y
    subst e
    have hx := y us h1
    obtain ⟨d, hd1, hu⟩ := dpIdx h2 hx
    rw [List.getElem?_map] at hd1
    obtain ⟨z, hz, rfl⟩ := Option.map_eq_some_iff.mp hd1
    have hm := List.mem_of_getElem? hz
    have ht1 : ys.take (j + 1) = ys.take j ++ [z] := by rw [List.take_add_one, hz]; rfl
    refine ht x z H6 _ _ h3.2.1 hm hu (fun w H7 e7 hw => ?_)
    obtain ⟨acc, q1, q2, q3⟩ := (h3.up e7).put (by
      rw [List.length_append, List.length_map, List.length_take]
      omega) (fun z0 hz0 => by
        rcases List.mem_append.mp hz0 with h | h
        · exact hn0 z0 h
        · obtain ⟨z1, h4, rfl⟩ := List.mem_map.mp h
          exact hn z1 (List.mem_of_mem_take h4)) (hn z hm) hw
    refine ⟨acc, q1, q2, sqL_ne hne (Evl.ex_l e7 h1), dpUpdA q1 (noLs_all fun z0 hz0 => by
      obtain ⟨z1, h4, rfl⟩ := List.mem_map.mp hz0
      exact hn1 z1 h4) (dpMonoA e7 h2), ?_⟩
    rw [ht1, List.map_append, ← List.append_assoc]
    exact q3
  · have e : j = us.length := by omega
    subst e
    refine .inl ⟨⟨us, h1, by simp⟩, hd H5 ?_⟩
    rw [el, List.take_length] at h3
    exact h3
section
variable {enc : α → PyData} {enc1 : β → PyData} {xs : List α} {tl1 : TE}
/-- one turn of the outer clause: the inner list comes fresh -/
abbrev Lc2Turn (K : PySem.W.Frag) (H : Hp) (enc : α → PyData) (enc1 : β → PyData) (xs : List α) (ys : α → List β) (f : α → β → PyData) (g : TG) (tt : TT) (tl1 : TE) (g1 : TG) (tt1 : TT) (te : TE) (vs vs1 : List Nat) (σ : L2.St) : Prop :=
  ∀ (u : V) (x : α) (H2 : Hp) (R : Hp → Prop) (S : L2.St → V → Hp → Prop), Ex H H2 → x ∈ xs → Dp K H2 u (enc x) →
    (∀ σ2 a H3, Ex H2 H3 → H2 a = none → Dp K H3 (.ref a) (.list ((ys x).map enc1)) →
      (∀ (u1 : V) (y : β) (H5 : Hp) (R1 : Hp → Prop) (Y : VK), Ex H H5 → y ∈ ys x → Dp K H5 u1 (enc1 y) → (∀ w H6, Ex H5 H6 → Dp K H6 w (f x y) → Y w H6) →
        g1 u1 (wipe σ2 vs1) H5 fun σ3 H6 => wipe σ3 vs1 = wipe σ2 vs1 ∧ tt1 σ3 H6 fun b H7 => if b = true then te σ3 H7 Y else R1 H7) → S σ2 (.ref a) H3) →
    g u (wipe σ vs) H2 fun σ2 H3 => wipe σ2 vs = wipe σ vs ∧ tt σ2 H3 fun b H4 => if b = true then tl1 σ2 H4 (S σ2) else R H4
theorem i_lc2 (ys : α → List β) (f : α → β → PyData) (h : Dp K H v (.tuple (xs.map enc))) (hl : xs.length ≤ 1000) (hl1 : ∀ x ∈ xs, (ys x).length ≤ 100) (hn : ∀ x ∈ xs, ∀ y ∈ ys x, noL (f x y) = true) (hn1 : ∀ x ∈ xs, ∀ y ∈ ys x, noL (enc1 y) = true)
    (ht : Lc2Turn K H enc enc1 xs ys f g tt tl1 g1 tt1 te vs vs1 σ)
    (q : ∀ p H2, H p = none → Ex H H2 → Dp K H2 (.ref p) (.list (xs.flatMap fun x => (ys x).map (f x))) → Q (.ref p) H2) : tLc2 (iTup K (tC v)) g tt (iList K tl1) g1 tt1 te vs vs1 σ H Q := by
  obtain ⟨a, us, rfl, hs, ha⟩ := dpTup h
  have el : us.length = xs.length := by rw [dpLen ha, List.length_map]
  refine ⟨a, rfl, ⟨us, hs⟩, fun D hD => ?_⟩
  have hlen : ∀ zs : List α, (∀ x ∈ zs, x ∈ xs) → (zs.flatMap fun x => (ys x).map (f x)).length ≤ zs.length * 100 := by
    intro zs
    induction zs with
    | nil => intro _; exact Nat.le_refl _
    | cons z zs ih =>
      intro hz
      rw [List.flatMap_cons, List.length_append, List.length_map, List.length_cons]
      have := ih fun x hx => hz x (List.mem_cons_of_mem _ hx)
      have := hl1 z (hz z List.mem_cons_self)
      omega
  have hno : ∀ zs : List α, (∀ x ∈ zs, x ∈ xs) → ∀ d ∈ (zs.flatMap fun x => (ys x).map (f x)), noL d = true := by
    intro zs hz d hd
    obtain ⟨x, hx, hd⟩ := List.mem_flatMap.mp hd
    obtain ⟨y, hy, rfl⟩ := List.mem_map.mp hd
    exact hn x (hz x hx) y hy
  refine ⟨fun i m H5 => m = us.length - i ∧ i ≤ us.length ∧ Acc K H D ((xs.take i).flatMap fun x => (ys x).map (f x)) H5, ⟨us.length, by simp, Nat.zero_le _, by simpa using Acc.new hD⟩, ?_⟩
  rintro i m H5 ⟨rfl, hi, p⟩
  have hs5 := Evl.ex_t p.2.1 hs
  by_cases hlt : i < us.length
  · refine .inr ⟨⟨us, us[i], hs5, by simp [hlt]⟩, fun H6 => Acc K H D ((xs.take (i + 1)).flatMap fun x => (ys x).map (f x)) H6, fun H6 p' => ⟨us.length - (i + 1), by omega, rfl, hlt, p'⟩, fun u H6 y => ?_⟩
    obtain ⟨e, y⟩ := y
    subst e
    have hx := y us hs5
    obtain ⟨d, hd1, hu⟩ := dpIdx ha hx
    rw [List.getElem?_map] at hd1
    obtain ⟨z, hz, rfl⟩ := Option.map_eq_some_iff.mp hd1
    have hm := List.mem_of_getElem? hz
    have ht1 : xs.take (i + 1) = xs.take i ++ [z] := by rw [List.take_add_one, hz]; rfl
    refine ht u z H6 _ _ p.2.1 hm (dpMono p.2.1 hu) (fun σ2 a1 H7 e7 hf hl7 hin => ?_)
    obtain ⟨_, us1, e1, hs1, ha1⟩ := dpLst hl7
    cases e1
    obtain ⟨acc0, hD5, _⟩ := p.2.2
    have hne : a1 ≠ D := fun e => by
      rw [e, hD5] at hf
      cases hf
    refine ⟨a1, rfl, ⟨us1, hs1⟩, ?_⟩
    refine lc2_in hne hs1 ha1 ?_ (hno _ fun x hx => List.mem_of_mem_take hx) (hn z hm) (hn1 z hm) (p.up e7) (fun u1 y1 H8 R1 Y e8 hy1 hu1 hY => ?_) (fun H8 p8 => ?_)
    · have := hlen (xs.take i) fun x hx => List.mem_of_mem_take hx
      have h3 : (xs.take i).length < 1000 := by rw [List.length_take]; omega
      have := hl1 z hm
      omega
    · exact hin u1 y1 H8 R1 Y e8 hy1 hu1 hY
    · rw [ht1, List.flatMap_append]
      simpa using p8
  · have e : i = us.length := by omega
    subst e
    refine .inl ⟨⟨us, hs5, Nat.le_refl _⟩, ?_⟩
    rw [el, List.take_length] at p
    obtain ⟨p1, p2, acc, p3, p4⟩ := p
    exact q D H5 p1 p2 (.lst (Evl.sq_of p3) p4)
end
theorem i_ixTS {H0 : Hp} {ds : List PyData} {k : Int} {z : Str} {v : V} (h : Dp K H0 v (.tuple ds)) (he : Ex H0 H) (e : atI ds k = some (.str z)) (q : Q (.str z) H) : rIxT K v (.int k) H Q := by
  obtain ⟨a, vs, rfl, hs, ha⟩ := dpTup (dpMono he h)
  obtain ⟨u, e1, e2⟩ := dpAt ha e
  cases e2
  exact ⟨a, vs, k, _, rfl, rfl, hs, e1, q⟩
theorem dec_str {a b : Str} : decide (V.str a = V.str b) = decide (a = b) := by
  by_cases h : a = b
  · subst h; simp
  · simp [h]
theorem i_eqST {a b : Str} (e : a = b) (q : Q (.bl true) H) : rEq (.str a) (.str b) H Q := by
  subst e
  exact ⟨rfl, by simpa using q⟩
theorem i_eqSF {a b : Str} (e : (a == b) = false) (q : Q (.bl false) H) : rEq (.str a) (.str b) H Q := by
  refine ⟨rfl, ?_⟩
  rw [dec_str, decide_eq_false (fun z => by rw [z, beq_self_eq_true] at e; cases e)]
  exact q
theorem i_neST {a b : Str} (e : a = b) (q : Q (.bl false) H) : rNe (.str a) (.str b) H Q := by
  subst e
  exact ⟨rfl, by simpa using q⟩
theorem i_neSF {a b : Str} (e : (a == b) = false) (q : Q (.bl true) H) : rNe (.str a) (.str b) H Q := by
  refine ⟨rfl, ?_⟩
  rw [dec_str, decide_eq_false (fun z => by rw [z, beq_self_eq_true] at e; cases e)]
  exact q
theorem i_lc2U {tl : TE} {σ : L2.St} {g g1 : TG} {tt tt1 : TT} {te : TE} {wi1 : TI} {vs vs1 : List Nat} (q : tl σ H fun x H1 => tLc2 (iTup K (tC x)) g tt wi1 g1 tt1 te vs vs1 σ H1 Q) : tLc2 (iTup K tl) g tt wi1 g1 tt1 te vs vs1 σ H Q := q
theorem i_catAD {as bs : List PyData} {v w : V} (h1 : Dp K H v (.tuple as)) (h2 : Dp K H w (.tuple bs)) (hl : as.length + bs.length ≤ 100000) (q : ∀ y H2, Ex H H2 → Dp K H2 y (.tuple (as ++ bs)) → Q y H2) : rCatA K v w H Q := by
  obtain ⟨a, us, rfl, hs, ha⟩ := dpTup h1
  obtain ⟨b, ws, rfl, ht, hb⟩ := dpTup h2
  refine ⟨a, b, us, ws, rfl, rfl, hs, ht, Evl.sz_of (by rw [dpLen ha, dpLen hb]; exact hl), ?_, ?_, ?_⟩
  · rintro rfl
    cases ha
    exact q _ _ (Ex.refl _) h2
  · rintro hn rfl
    cases hb
    exact q _ _ (Ex.refl _) (by rw [List.append_nil]; exact h1)
  · intro _ _ p hp
    exact q _ _ (ex_upd hp) (.tup (.inl (.inl upd_same)) (dpAllApp (dpMonoA (ex_upd hp) ha) (dpMonoA (ex_upd hp) hb)))
end
end Wb

namespace Wb
open PySem PySem.Spec PyProof.Rows L2
open Evl (Ex Ex.refl Ex.trans Ex.new)
local macro_rules | `(tactic| wtm_at "dp") => `(tactic| first | with_reducible assumption | with_reducible exact Dp.int _ | with_reducible exact Dp.bl _ | with_reducible exact Dp.str _ | with_reducible exact Dp.non | ((with_reducible refine' dpMono ?dme (by with_reducible assumption)); (case dme => wtm_at "ex")) | ((with_reducible refine' Dp.tup (Evl.st_of ?dph) ?dpa); (case dph => wtm_at "hs"); (case dpa => wtm_at "dpa")) | ((with_reducible refine' Dp.lst (Evl.sq_of ?dph) ?dpa); (case dph => wtm_at "hs"); (case dpa => wtm_at "dpa")))
local macro_rules | `(tactic| wtm_at "dpa") => `(tactic| first | with_reducible exact DpAll.nil | ((with_reducible refine' DpAll.cons ?dp1 ?dp2); (case dp1 => wtm_at "dp"); (case dp2 => wtm_at "dpa")) | with_reducible assumption | ((with_reducible refine' dpMonoA ?dme (by with_reducible assumption)); (case dme => wtm_at "ex")))
local macro_rules | `(tactic| wtm_at "sz") => `(tactic| first | with_reducible assumption | ((with_reducible refine' sz_mul ?sz1 ?sz2); (case sz1 => wtm_at "sz"); (case sz2 => wtm_at "sz")) | ((with_reducible refine' sz_add ?sz1 ?sz2); (case sz1 => wtm_at "sz"); (case sz2 => wtm_at "sz")) | ((with_reducible refine' sz_sub ?sz1 ?sz2); (case sz1 => wtm_at "sz"); (case sz2 => wtm_at "sz")) | ((with_reducible refine' sz_neg ?sz1); (case sz1 => wtm_at "sz")) | ((with_reducible refine' sz_div ?sz1); (case sz1 => wtm_at "sz")) | ((with_reducible refine' sz_fdiv ?sz1); (case sz1 => wtm_at "sz")) | exact sz_lit (by decide) | wtm_at "sz2")
local macro_rules | `(tactic| wtm_at "szb") => `(tactic| first | with_reducible assumption | ((with_reducible refine' sz_mono ?szb1 ?szb2); (case szb1 => wtm_at "sz"); (case szb2 => decide)))
local macro_rules | `(tactic| wtm_at "nz") => `(tactic| first | assumption | decide | omega)
local macro_rules | `(tactic| wtm_at "shaped") => `(tactic| first | rfl | decide)
local macro_rules | `(tactic| wtm_at "sset") => `(tactic| ((dsimp only [L2.wipe, List.set, List.set_cons_zero, List.set_cons_succ]) <;> exact rfl))
local macro_rules | `(tactic| wtm_at "nrm") => `(tactic| dsimp only [L2.start, L2.wipe, List.set, List.append, List.map, List.map_cons, List.map_nil, List.length_cons, List.length_nil, Nat.reduceAdd, Nat.reduceSub, List.reduceReplicate, List.replicate, List.cons_append, List.nil_append, List.set_cons_zero, List.set_cons_succ])
local macro_rules | `(tactic| wtm_at "st") => `(tactic| first
  | ((with_reducible refine' i_var (v := ?u0) ?u1 ?uq); (case u1 => exact rfl))
  | ((with_reducible refine' i_nameN ?u0 ?uq); (case u0 => wtm_at "sset"))
  | (with_reducible refine' i_op ?uq)
  | (with_reducible refine' i_c ?uq)
  | (with_reducible refine' i_I0 ?uq)
  | ((with_reducible refine' i_ixTI (i := ?u0) ?u1 ?u2 ?u3 ?uq); (case u1 => wtm_at "dp"); (case u2 => wtm_at "ex"); (case u3 => exact rfl))
  | ((with_reducible refine' i_ixT (d := ?u0) ?u1 ?u2 ?u3 (fun xu hxu => ?uq)); (case u1 => wtm_at "dp"); (case u2 => wtm_at "ex"); (case u3 => exact rfl))
  | ((with_reducible refine' i_mul ?u0 ?u1 ?u2 ?uq); (case u0 => wtm_at "sz"); (case u1 => wtm_at "sz"); (case u2 => first | decide | omega))
  | (with_reducible refine' i_seq ?uq)
  | (with_reducible refine' i_asg ?uq)
  | (with_reducible refine' i_ret ?uq)
  | (with_reducible refine' i_ifs ?uq)
  | (with_reducible refine' i_drop ?uq)
  | (with_reducible refine' i_next ?uq)
  | (with_reducible refine' i_cons ?uq)
  | (with_reducible refine' i_nil ?uq)
  | (with_reducible refine' i_cl ?uq)
  | (with_reducible refine' i_cb ?uq)
  | (with_reducible refine' i_tup ?uq)
  | (with_reducible refine' i_lst ?uq)
  | ((with_reducible refine' i_mkT ?u0 (fun np nH nhe nhp => ?uq)); (case u0 => exact Nat.le_of_ble_eq_true rfl))
  | (with_reducible refine' i_test ?uq)
  | (with_reducible refine' i_B ?uq)
  | (with_reducible refine' i_k ?uq)
  | (with_reducible refine' i_and ?uq)
  | (with_reducible refine' i_or ?uq)
  | (with_reducible refine' i_not ?uq)
  | (with_reducible refine' i_andV ?uq)
  | (with_reducible refine' i_orV ?uq)
  | (with_reducible refine' i_notV ?uq)
  | (with_reducible refine' i_if ?uq)
  | (with_reducible refine' i_un ?uq)
  | (with_reducible refine' i_U ?uq)
  | (with_reducible refine' i_iteT ?uq)
  | (with_reducible refine' i_iteF ?uq)
  | ((with_reducible refine' i_iteTr ?u0 ?uq); (case u0 => first | with_reducible rfl | decide | (simp only [dIsInt, dIsBool, dIsTup, dIsStr, dIsLst, Bool.not_true, Bool.not_false]; done)))
  | ((with_reducible refine' i_iteFr ?u0 ?uq); (case u0 => first | with_reducible rfl | decide | (simp only [dIsInt, dIsBool, dIsTup, dIsStr, dIsLst, Bool.not_true, Bool.not_false]; done)))
  | (with_reducible refine' i_ite (fun hif => ?uqa) (fun hif => ?uqb))
  | (with_reducible refine' i_iteN (fun hif => ?uqa) (fun hif => ?uqb))
  | (with_reducible refine' i_iteBN (fun hif => ?uqa) (fun hif => ?uqb))
  | (with_reducible refine' i_iteB (fun hif => ?uqa) (fun hif => ?uqb))
  | ((with_reducible refine' i_modN ?u0 ?uq); (case u0 => wtm_at "nz"))
  | ((with_reducible refine' i_fdX ?u0 ?u1 ?u2 ?uq); (case u0 => wtm_at "nz"); (case u1 => wtm_at "sz"); (case u2 => first | decide | omega))
  | ((with_reducible refine' i_pow ?u0 ?uq); (case u0 => exact ⟨by decide, by decide +kernel⟩))
  | (with_reducible refine' i_eqI ?uq)
  | (with_reducible refine' i_neI ?uq)
  | (with_reducible refine' i_gcd ?uq)
  | (with_reducible refine' i_qabs ?uq)
  | (with_reducible refine' i_qint ?uq)
  | (with_reducible refine' i_qintB ?uq)
  | (with_reducible refine' i_qmax2 ?uq)
  | (with_reducible refine' i_qmin2 ?uq)
  | (with_reducible refine' i_isB ?uq)
  | (with_reducible refine' i_notB ?uq)
  | (with_reducible refine' i_chain ?uq)
  | (with_reducible refine' i_qisN ?uq)
  | (with_reducible refine' i_qnotN ?uq)
  | (with_reducible refine' i_yes ?uq)
  | (with_reducible refine' i_par ?uq)
  | (with_reducible refine' i_par3 ?uq)
  | ((with_reducible refine' i_par2 ?u0 ?uq); (case u0 => wtm_at "sset"))
  | ((with_reducible refine' i_par33 ?u0 ?uq); (case u0 => wtm_at "sset"))
  | ((with_reducible refine' i_ixLI (i := ?u0) ?u1 ?u2 ?u3 ?uq); (case u1 => wtm_at "dp"); (case u2 => wtm_at "ex"); (case u3 => exact rfl))
  | ((with_reducible refine' i_ixL (d := ?u0) ?u1 ?u2 ?u3 (fun xu hxu => ?uq)); (case u1 => wtm_at "dp"); (case u2 => wtm_at "ex"); (case u3 => exact rfl))
  | ((with_reducible refine' i_qlenT ?u0 ?uq); (case u0 => wtm_at "dp"))
  | ((with_reducible refine' i_qlenL ?u0 ?uq); (case u0 => wtm_at "dp"))
  | ((with_reducible refine' i_gtup ?u0 ?u1 ?u2 (fun gvs gdp => ?uq)); (case u0 => wtm_at "dp"); (case u1 => wtm_at "ex"); (case u2 => exact rfl))
  | ((with_reducible refine' i_glst ?u0 ?u1 ?u2 (fun gvs gdp => ?uq)); (case u0 => wtm_at "dp"); (case u1 => wtm_at "ex"); (case u2 => exact rfl))
  | ((with_reducible refine' i_gconsI ?u0 (fun gr gh => ?uq)); (case u0 => with_reducible assumption))
  | ((with_reducible refine' i_gconsA ?u0 (fun gv gr gh1 gh2 => ?uq)); (case u0 => with_reducible assumption))
  | ((with_reducible refine' i_gnilA ?u0 ?uq); (case u0 => with_reducible assumption))
  | ((with_reducible refine' i_isiI ?u0 ?uq); (case u0 => wtm_at "dp"))
  | ((with_reducible refine' i_isiB ?u0 ?uq); (case u0 => wtm_at "dp"))
  | ((with_reducible refine' i_isiT ?u0 ?uq); (case u0 => wtm_at "dp"))
  | ((with_reducible refine' i_isiS ?u0 ?uq); (case u0 => wtm_at "dp"))
  | ((with_reducible refine' i_isiL ?u0 ?uq); (case u0 => wtm_at "dp"))
  | ((with_reducible refine' i_eqD ?u0 ?u1 ?u2 ?u3 ?uq); (case u0 => wtm_at "dp"); (case u1 => wtm_at "dp"); (case u2 => wtm_at "shaped"); (case u3 => wtm_at "shaped"))
  | ((with_reducible refine' i_neD ?u0 ?u1 ?u2 ?u3 ?uq); (case u0 => wtm_at "dp"); (case u1 => wtm_at "dp"); (case u2 => wtm_at "shaped"); (case u3 => wtm_at "shaped"))
  | wtm_at "st2"
  | wtm_at "use")
local macro_rules | `(tactic| wtm_at "go") => `(tactic| repeat' (wtm_at "st"))
local macro_rules | `(tactic| wtm_at "go0") => `(tactic| ((try dsimp only [L2.cxOf, L2.Cx.nox, L2.Cx.wish, L2.Cx.tr, L2.Cx.blk]); (try wtm_at "nrm"); wtm_at "go"))
local macro_rules | `(tactic| wtm_at "fin") => `(tactic| ((try dsimp only); first | with_reducible assumption | assumption | ((with_reducible refine' Ret.use ?rur ?rue ?rud); (case rur => with_reducible assumption); (case rue => wtm_at "ex"); (case rud => wtm_at "dp"))))
local macro_rules | `(tactic| wtm_at "exh") => `(tactic| first | with_reducible assumption | with_reducible exact Ex.refl _ | with_reducible exact ex_hid | ((with_reducible refine' Ex.trans ?exe (by with_reducible assumption)); (case exe => wtm_at "exh")) | ((with_reducible refine' Ex.trans ?exe (hid_ex (by with_reducible assumption))); (case exe => wtm_at "exh")))
local macro_rules | `(tactic| wtm_at "ex") => `(tactic| first | with_reducible assumption | with_reducible exact Ex.refl _ | with_reducible exact ex_hid | ((with_reducible refine' Ex.trans ?exe (by with_reducible assumption)); (case exe => wtm_at "ex")) | ((with_reducible refine' Ex.trans ?exe (hid_ex (by with_reducible assumption))); (case exe => wtm_at "ex")) | ((with_reducible refine' Ex.trans ?exe ex_hid); (case exe => wtm_at "exh")))
local macro_rules | `(tactic| wtm_at "bag") => `(tactic| first | with_reducible assumption | ((with_reducible refine' Bag.mono ?bgm (by with_reducible assumption)); (case bgm => wtm_at "bag")))
local macro_rules | `(tactic| wtm_at "hs") => `(tactic| first | with_reducible assumption | ((with_reducible refine' hid_tup ?hb ?hp); (case hp => with_reducible assumption); (case hb => wtm_at "bag")) | ((with_reducible refine' hid_new ?hb ?hn ?hp); (case hp => with_reducible assumption); (case hn => with_reducible assumption); (case hb => wtm_at "bag")) | ((with_reducible refine' ex_at ?exe (by with_reducible assumption)); (case exe => wtm_at "ex")))
local macro_rules | `(tactic| wtm_at "st2") => `(tactic| first
  | ((with_reducible refine' i_mulC ?u0 ?uq); (case u0 => first | exact cmul_l (by decide) | exact cmul_r (by decide)))
  | ((with_reducible refine' i_ixLr (v := ?u0) ?u1 ?u2 ?uq); (case u1 => with_reducible assumption); (case u2 => exact rfl))
  | (with_reducible refine' i_sub ?uq)
  | ((with_reducible refine' i_mkL ?u0 (fun np nH nfr nhe nhp => ?uq)); (case u0 => exact Nat.le_of_ble_eq_true rfl))
  | ((with_reducible refine' i_setL (n := ?u0) ?u1 ?u2 (fun sH sh se => ?uq)); (case u1 => with_reducible assumption); (case u2 => exact rfl))
  | (with_reducible refine' i_sl ?uq)
  | (with_reducible refine' i_nopart ?uq)
  | (with_reducible refine' i_part ?uq)
  | (with_reducible refine' i_part1 ?uq))
local macro_rules | `(tactic| wtm_at "sz2") => `(tactic| ((with_reducible refine' sz_fmod ?sz1 ?sz2); (case sz1 => wtm_at "nz"); (case sz2 => wtm_at "sz")))
local macro_rules | `(tactic| wtm_at "stb") => `(tactic| first
  | ((with_reducible refine' i_mkTB ?u0 ?u1 (fun np nH nhe nhb nhp => ?uq)); (case u0 => exact Nat.le_of_ble_eq_true rfl); (case u1 => wtm_at "bag"))
  | ((with_reducible refine' i_mkLB ?u0 ?u1 (fun np nH nfr nhe nhb nhp => ?uq)); (case u0 => exact Nat.le_of_ble_eq_true rfl); (case u1 => wtm_at "bag"))
  | wtm_at "st")
local macro_rules | `(tactic| wtm_at "gob") => `(tactic| repeat' (wtm_at "stb"))
local macro_rules | `(tactic| wtm_at "gob0") => `(tactic| ((try dsimp only [L2.cxOf, L2.Cx.nox, L2.Cx.wish, L2.Cx.tr, L2.Cx.blk]); (try wtm_at "nrm"); wtm_at "gob"))
section
variable {P : Program} {w : World} {K : PySem.W.Frag} {mg : Str → Option Value} {base : Heap} {H H' : Hp} {Q : VK} {E : XK} {v1 v2 v3 v4 v5 : V}
@[reducible] def isInt : PyData → Bool
  | .int _ => true
  | _ => false
def wdV : Option String → V
  | none => .non
  | some s => .str (Str.ofString s)
def sp_is_integer (K : PySem.W.Frag) : Sp := A1 fun v1 H Q => ∃ d, Dp K H v1 d ∧ Q (.bl (isInt d)) H
abbrev s_is_integer : Stmt := top 9
theorem sc_is_integer : FnScope ["value"] ["value"] (defScope s_is_integer) := ⟨rfl, rfl, rfl, by decide +kernel, rfl, by decide +kernel, by decide +kernel⟩
theorem ok_is_integer {f : Addr} {fd : FuncData} (F : FnP K "is_integer" s_is_integer f fd) (g : G mg)   : FnOk P w K mg base CX0 1 f fd ["value"] (sp_is_integer K) := by
  have nd := sc_is_integer.nd
  refine F.ok sc_is_integer (fun vs H Q E h => h.len) (fun cdv A outer s H vs Q E hr h => ?_)
  obtain ⟨v1, rfl, h⟩ := h
  refine ⟨_, PSs.nox (pss_one (ps_ret (pe_and (pe_callB call_isi (by rfl) g.f_isinstance boot_isinstance (pa_cons (pv 0) (pa_cons (pe_bltn (v := .ty "int") (by rfl) g.f_int boot_int rfl) pa_nil))) (pe_one (pe_not (pe_callB call_isi (by rfl) g.f_isinstance boot_isinstance (pa_cons (pv 0) (pa_cons (pe_bltn (v := .ty "bool") (by rfl) g.f_bool boot_bool rfl) pa_nil)))))))), ?_⟩
  obtain ⟨d, hd, q⟩ := h
  cases d <;> wtm_at "go0" <;> wtm_at "fin"
theorem use_is_integer {d : PyData} (h : Dp K H v1 d) (q : Q (.bl (isInt d)) H) : sp_is_integer K [v1] H Q E := ⟨_, rfl, _, h, q⟩
local macro_rules | `(tactic| wtm_at "use") => `(tactic| ((with_reducible refine' use_is_integer ?u0 ?uq); (case u0 => wtm_at "dp")))
def sp_is_box (K : PySem.W.Frag) : Sp := A1 fun v1 H Q => ∃ b : Bx, Dp K H v1 (bxD b) ∧ b.ok ∧ Ret K (.bool true) H Q
abbrev s_is_box : Stmt := top 15
theorem sc_is_box : FnScope ["value", "part"] ["value"] (defScope s_is_box) := ⟨rfl, rfl, rfl, by decide +kernel, rfl, by decide +kernel, by decide +kernel⟩
theorem ok_is_box {f : Addr} {fd : FuncData} (F : FnP K "is_box" s_is_box f fd) (g : G mg) (c_is_integer : Cl P w K mg base 1 "is_integer" (sp_is_integer K))  : FnOk P w K mg base CX0 2 f fd ["value"] (sp_is_box K) := by
  have nd := sc_is_box.nd
  refine F.ok sc_is_box (fun vs H Q E h => h.len) (fun cdv A outer s H vs Q E hr h => ?_)
  obtain ⟨v1, rfl, h⟩ := h
  refine ⟨_, PSs.nox (pss_cons (ps_if (PW.pt (pw_or (pt_not (pt_val (pe_callB call_isi (by rfl) g.f_isinstance boot_isinstance (pa_cons (pv 0) (pa_cons (pe_bltn (v := .ty "tuple") (by rfl) g.f_tuple boot_tuple rfl) pa_nil))))) (pw_or (pt_cmpR op_ne (pe_callB call_qlen (by rfl) g.f_len boot_len (pa_cons (pv 0) pa_nil)) pe_int (nomark _)) (pw_or1 (pt_not (pt_val (pe_callB (cr_all rfl) (by rfl) g.f_all boot_all (pa_cons (pe_lc (own := [("part", 1)]) (g := gName 1) (by rfl) nd (pi_tup (pv 0)) (blkOk_by (N := ["value", "part"]) (sc := defScope s_is_box) (own := [("part", 1)]) (by decide +kernel)) (fun _ _ _ _ _ => (pg_name (i := 1) nd rfl (Or.inl rfl))) (fun _ _ _ _ _ => pts_nil) (fun _ _ _ _ _ => (pc c_is_integer hr (by first | decide | omega) (by rfl) (pa_cons (pv 1) pa_nil)))) pa_nil)))))))) (pss_one (ps_ret pe_bl)) pss_nil) (pss_one (ps_ret (pe_and (pe_cmpR op_le (pe_ix ix_tup (pv 0) pe_int (fun _ _ => rfl)) (pe_ix ix_tup (pv 0) pe_int (fun _ _ => rfl)) (nomark _)) (pe_one (pe_cmpR op_le (pe_ix ix_tup (pv 0) pe_int (fun _ _ => rfl)) (pe_ix ix_tup (pv 0) pe_int (fun _ _ => rfl)) (nomark _))))))), ?_⟩
  obtain ⟨⟨x0, x1, x2, x3⟩, h1, ⟨o1, o2⟩, q⟩ := h
  unfold bxD at h1
  dsimp only at h1 o1 o2
  wtm_at "go0"
  · rename_i hz
    exact absurd rfl hz
  have h1' : Dp K H v1 (.tuple ([x0, x1, x2, x3].map PyData.int)) := h1
  refine i_lcTU ?_
  wtm_at "go"
  refine i_lcGT (fun _ => true) (fun _ => .bool true) h1' (Nat.le_of_ble_eq_true rfl) (fun _ _ => rfl) (fun u x H2 R Y e2 hm hu hn hy => ?_) (fun p H2 hp e2 hl => ?_)
  · refine ⟨rfl, ?_⟩
    wtm_at "go"
    exact hy rfl _ _ (Ex.refl _) (Dp.bl _)
  · wtm_at "go"
    refine i_all (bs := [true, true, true, true]) hl rfl ?_
    wtm_at "go"
    · dsimp only
      exact Ret.bl' q (by wtm_at "ex") (decide_eq_true o2).symm
    · rename_i hz
      exact absurd o1 hz
theorem use_is_box {b : Bx} (h : Dp K H v1 (bxD b)) (ho : b.ok) (q : ∀ H2, Ex H H2 → Q (.bl true) H2) : sp_is_box K [v1] H Q E := ⟨_, rfl, b, h, ho, ret_bl q⟩
local macro_rules | `(tactic| wtm_at "use") => `(tactic| ((with_reducible refine' use_is_box ?u0 ?u1 (fun uH ue => ?uq)); (case u0 => wtm_at "dp"); (case u1 => with_reducible assumption)))
def sp_require_box (K : PySem.W.Frag) : Sp := A1 fun v1 H Q => ∃ b : Bx, Dp K H v1 (bxD b) ∧ b.ok ∧ Ret K .none H Q
abbrev s_require_box : Stmt := top 16
theorem sc_require_box : FnScope ["value"] ["value"] (defScope s_require_box) := ⟨rfl, rfl, rfl, by decide +kernel, rfl, by decide +kernel, by decide +kernel⟩
theorem ok_require_box {f : Addr} {fd : FuncData} (F : FnP K "require_box" s_require_box f fd) (g : G mg) (c_is_box : Cl P w K mg base 2 "is_box" (sp_is_box K))  : FnOk P w K mg base CX0 3 f fd ["value"] (sp_require_box K) := by
  have nd := sc_require_box.nd
  refine F.ok sc_require_box (fun vs H Q E h => h.len) (fun cdv A outer s H vs Q E hr h => ?_)
  obtain ⟨v1, rfl, h⟩ := h
  refine ⟨_, PSs.nox (pss_one (ps_if (pt_not (pt_val (pc c_is_box hr (by first | decide | omega) (by rfl) (pa_cons (pv 0) pa_nil)))) (pss_one ps_never) pss_nil)), ?_⟩
  obtain ⟨b, h1, h2, q⟩ := h
  wtm_at "go0"
  all_goals wtm_at "fin"
theorem use_require_box {b : Bx} (h : Dp K H v1 (bxD b)) (ho : b.ok) (q : ∀ H2, Ex H H2 → Q .non H2) : sp_require_box K [v1] H Q E := ⟨_, rfl, b, h, ho, ret_non q⟩
local macro_rules | `(tactic| wtm_at "use") => `(tactic| ((with_reducible refine' use_require_box ?u0 ?u1 (fun uH ue => ?uq)); (case u0 => wtm_at "dp"); (case u1 => with_reducible assumption)))
def sp_do_meet_in (K : PySem.W.Frag) : Sp := A2 fun v1 v2 H Q => ∃ b c : Bx, Dp K H v1 (bxD b) ∧ Dp K H v2 (bxD c) ∧ Q (.bl (meetB b c)) H
abbrev s_do_meet_in : Stmt := top 17
theorem sc_do_meet_in : FnScope ["box", "other_box"] ["box", "other_box"] (defScope s_do_meet_in) := ⟨rfl, rfl, rfl, by decide +kernel, rfl, by decide +kernel, by decide +kernel⟩
theorem ok_do_meet_in {f : Addr} {fd : FuncData} (F : FnP K "do_meet_in" s_do_meet_in f fd) (g : G mg)   : FnOk P w K mg base CX0 1 f fd ["box", "other_box"] (sp_do_meet_in K) := by
  have nd := sc_do_meet_in.nd
  refine F.ok sc_do_meet_in (fun vs H Q E h => h.len) (fun cdv A outer s H vs Q E hr h => ?_)
  obtain ⟨v1, v2, rfl, h⟩ := h
  refine ⟨_, PSs.nox (pss_one (ps_ret (pe_and (pe_cmpR op_le (pe_ix ix_tup (pv 0) pe_int (fun _ _ => rfl)) (pe_ix ix_tup (pv 1) pe_int (fun _ _ => rfl)) (nomark _)) (pe_and (pe_cmpR op_le (pe_ix ix_tup (pv 1) pe_int (fun _ _ => rfl)) (pe_ix ix_tup (pv 0) pe_int (fun _ _ => rfl)) (nomark _)) (pe_and (pe_cmpR op_le (pe_ix ix_tup (pv 0) pe_int (fun _ _ => rfl)) (pe_ix ix_tup (pv 1) pe_int (fun _ _ => rfl)) (nomark _)) (pe_one (pe_cmpR op_le (pe_ix ix_tup (pv 1) pe_int (fun _ _ => rfl)) (pe_ix ix_tup (pv 0) pe_int (fun _ _ => rfl)) (nomark _)))))))), ?_⟩
  obtain ⟨⟨x0, x1, x2, x3⟩, ⟨y0, y1, y2, y3⟩, h1, h2, q⟩ := h
  unfold bxD at h1 h2
  unfold meetB at q
  dsimp only at h1 h2 q
  wtm_at "go0"
  all_goals (dsimp only; simpa only [*, decide_true, decide_false, Bool.and_true, Bool.true_and, Bool.and_false, Bool.false_and] using q)
theorem use_do_meet_in {b c : Bx} (h : Dp K H v1 (bxD b)) (h2 : Dp K H v2 (bxD c)) (q : Q (.bl (meetB b c)) H) : sp_do_meet_in K [v1, v2] H Q E := ⟨_, _, rfl, b, c, h, h2, q⟩
local macro_rules | `(tactic| wtm_at "use") => `(tactic| ((with_reducible refine' use_do_meet_in ?u0 ?u1 ?uq); (case u0 => wtm_at "dp"); (case u1 => wtm_at "dp")))
def sp_apart_word (K : PySem.W.Frag) : Sp := A2 fun v1 v2 H Q => ∃ b c : Bx, Dp K H v1 (bxD b) ∧ Dp K H v2 (bxD c) ∧ Q (wdV (apart b c)) H
abbrev s_apart_word : Stmt := top 18
theorem sc_apart_word : FnScope ["box", "other_box"] ["box", "other_box"] (defScope s_apart_word) := ⟨rfl, rfl, rfl, by decide +kernel, rfl, by decide +kernel, by decide +kernel⟩
theorem ok_apart_word {f : Addr} {fd : FuncData} (F : FnP K "apart_word" s_apart_word f fd) (g : G mg)   : FnOk P w K mg base CX0 1 f fd ["box", "other_box"] (sp_apart_word K) := by
  have nd := sc_apart_word.nd
  refine F.ok sc_apart_word (fun vs H Q E h => h.len) (fun cdv A outer s H vs Q E hr h => ?_)
  obtain ⟨v1, v2, rfl, h⟩ := h
  refine ⟨_, PSs.nox (pss_cons (ps_if (pt_cmpR op_lt (pe_ix ix_tup (pv 0) pe_int (fun _ _ => rfl)) (pe_ix ix_tup (pv 1) pe_int (fun _ _ => rfl)) (nomark _)) (pss_one (ps_ret (pe_glob (v := .str "left") (by rfl) g.c_LEFT.choose_spec ⟨_, rfl⟩))) pss_nil) (pss_cons (ps_if (pt_cmpR op_gt (pe_ix ix_tup (pv 0) pe_int (fun _ _ => rfl)) (pe_ix ix_tup (pv 1) pe_int (fun _ _ => rfl)) (nomark _)) (pss_one (ps_ret (pe_glob (v := .str "right") (by rfl) g.c_RIGHT.choose_spec ⟨_, rfl⟩))) pss_nil) (pss_cons (ps_if (pt_cmpR op_lt (pe_ix ix_tup (pv 0) pe_int (fun _ _ => rfl)) (pe_ix ix_tup (pv 1) pe_int (fun _ _ => rfl)) (nomark _)) (pss_one (ps_ret (pe_glob (v := .str "below") (by rfl) g.c_BELOW.choose_spec ⟨_, rfl⟩))) pss_nil) (pss_one (ps_ret (pe_ifExp (pt_cmpR op_gt (pe_ix ix_tup (pv 0) pe_int (fun _ _ => rfl)) (pe_ix ix_tup (pv 1) pe_int (fun _ _ => rfl)) (nomark _)) (pe_glob (v := .str "above") (by rfl) g.c_ABOVE.choose_spec ⟨_, rfl⟩) pe_non)))))), ?_⟩
  obtain ⟨⟨x0, x1, x2, x3⟩, ⟨y0, y1, y2, y3⟩, h1, h2, q⟩ := h
  unfold bxD at h1 h2
  unfold apart at q
  dsimp only at h1 h2 q
  wtm_at "go0"
  all_goals (dsimp only; simpa only [*, if_true, if_false, wdV] using q)
theorem use_apart_word {b c : Bx} (h : Dp K H v1 (bxD b)) (h2 : Dp K H v2 (bxD c)) (q : Q (wdV (apart b c)) H) : sp_apart_word K [v1, v2] H Q E := ⟨_, _, rfl, b, c, h, h2, q⟩
local macro_rules | `(tactic| wtm_at "use") => `(tactic| ((with_reducible refine' use_apart_word ?u0 ?u1 ?uq); (case u0 => wtm_at "dp"); (case u1 => wtm_at "dp")))
def sp_are_meeting (K : PySem.W.Frag) : Sp := A2 fun v1 v2 H Q => ∃ b c : Bx, Dp K H v1 (bxD b) ∧ Dp K H v2 (bxD c) ∧ b.ok ∧ c.ok ∧ ∀ H2, Ex H H2 → Q (.bl (meetB b c)) H2
abbrev s_are_meeting : Stmt := top 21
theorem sc_are_meeting : FnScope ["box", "other_box"] ["box", "other_box"] (defScope s_are_meeting) := ⟨rfl, rfl, rfl, by decide +kernel, rfl, by decide +kernel, by decide +kernel⟩
theorem ok_are_meeting {f : Addr} {fd : FuncData} (F : FnP K "are_meeting" s_are_meeting f fd) (g : G mg) (c_require_box : Cl P w K mg base 3 "require_box" (sp_require_box K)) (c_do_meet_in : Cl P w K mg base 1 "do_meet_in" (sp_do_meet_in K))  : FnOk P w K mg base CX0 4 f fd ["box", "other_box"] (sp_are_meeting K) := by
  have nd := sc_are_meeting.nd
  refine F.ok sc_are_meeting (fun vs H Q E h => h.len) (fun cdv A outer s H vs Q E hr h => ?_)
  obtain ⟨v1, v2, rfl, h⟩ := h
  refine ⟨_, PSs.nox (pss_cons (ps_expr (pc c_require_box hr (by first | decide | omega) (by rfl) (pa_cons (pv 0) pa_nil))) (pss_cons (ps_expr (pc c_require_box hr (by first | decide | omega) (by rfl) (pa_cons (pv 1) pa_nil))) (pss_one (ps_ret (pc c_do_meet_in hr (by first | decide | omega) (by rfl) (pa_cons (pv 0) (pa_cons (pv 1) pa_nil))))))), ?_⟩
  obtain ⟨b, c, h1, h2, o1, o2, q⟩ := h
  wtm_at "go0"
  exact q _ (by wtm_at "ex")
def sp_side_apart (K : PySem.W.Frag) : Sp := A2 fun v1 v2 H Q => ∃ b c : Bx, Dp K H v1 (bxD b) ∧ Dp K H v2 (bxD c) ∧ b.ok ∧ c.ok ∧ ∀ H2, Ex H H2 → Q (wdV (apart b c)) H2
abbrev s_side_apart : Stmt := top 22
theorem sc_side_apart : FnScope ["box", "other_box"] ["box", "other_box"] (defScope s_side_apart) := ⟨rfl, rfl, rfl, by decide +kernel, rfl, by decide +kernel, by decide +kernel⟩
theorem ok_side_apart {f : Addr} {fd : FuncData} (F : FnP K "side_apart" s_side_apart f fd) (g : G mg) (c_require_box : Cl P w K mg base 3 "require_box" (sp_require_box K)) (c_apart_word : Cl P w K mg base 1 "apart_word" (sp_apart_word K))  : FnOk P w K mg base CX0 4 f fd ["box", "other_box"] (sp_side_apart K) := by
  have nd := sc_side_apart.nd
  refine F.ok sc_side_apart (fun vs H Q E h => h.len) (fun cdv A outer s H vs Q E hr h => ?_)
  obtain ⟨v1, v2, rfl, h⟩ := h
  refine ⟨_, PSs.nox (pss_cons (ps_expr (pc c_require_box hr (by first | decide | omega) (by rfl) (pa_cons (pv 0) pa_nil))) (pss_cons (ps_expr (pc c_require_box hr (by first | decide | omega) (by rfl) (pa_cons (pv 1) pa_nil))) (pss_one (ps_ret (pc c_apart_word hr (by first | decide | omega) (by rfl) (pa_cons (pv 0) (pa_cons (pv 1) pa_nil))))))), ?_⟩
  obtain ⟨b, c, h1, h2, o1, o2, q⟩ := h
  wtm_at "go0"
  exact q _ (by wtm_at "ex")
def sp_is_entry (K : PySem.W.Frag) : Sp := A1 fun v1 H Q => ∃ e : En, Dp K H v1 (enD e) ∧ e.2.ok ∧ Ret K (.bool true) H Q
abbrev s_is_entry : Stmt := top 29
theorem sc_is_entry : FnScope ["value"] ["value"] (defScope s_is_entry) := ⟨rfl, rfl, rfl, by decide +kernel, rfl, by decide +kernel, by decide +kernel⟩
theorem ok_is_entry {f : Addr} {fd : FuncData} (F : FnP K "is_entry" s_is_entry f fd) (g : G mg) (c_is_integer : Cl P w K mg base 1 "is_integer" (sp_is_integer K)) (c_is_box : Cl P w K mg base 2 "is_box" (sp_is_box K))  : FnOk P w K mg base CX0 3 f fd ["value"] (sp_is_entry K) := by
  have nd := sc_is_entry.nd
  refine F.ok sc_is_entry (fun vs H Q E h => h.len) (fun cdv A outer s H vs Q E hr h => ?_)
  obtain ⟨v1, rfl, h⟩ := h
  refine ⟨_, PSs.nox (pss_one (ps_ret (pe_and (pe_callB call_isi (by rfl) g.f_isinstance boot_isinstance (pa_cons (pv 0) (pa_cons (pe_bltn (v := .ty "tuple") (by rfl) g.f_tuple boot_tuple rfl) pa_nil))) (pe_and (pe_cmpR op_eq (pe_callB call_qlen (by rfl) g.f_len boot_len (pa_cons (pv 0) pa_nil)) pe_int (nomark _)) (pe_and (pc c_is_integer hr (by first | decide | omega) (by rfl) (pa_cons (pe_ix ix_tup (pv 0) pe_int (fun _ _ => rfl)) pa_nil)) (pe_one (pc c_is_box hr (by first | decide | omega) (by rfl) (pa_cons (pe_ix ix_tup (pv 0) pe_int (fun _ _ => rfl)) pa_nil)))))))), ?_⟩
  obtain ⟨⟨n, b⟩, h1, o1, q⟩ := h
  unfold enD at h1
  dsimp only at h1 o1
  wtm_at "go0"
  all_goals first | (wtm_at "fin"; done) | exact absurd rfl (by assumption)
end
end Wb

namespace Wb
open PySem PySem.Spec PyProof.Rows L2 StX
open Evl (Ex Ex.refl Ex.trans Ex.new)
local macro_rules | `(tactic| wtm_at "dp") => `(tactic| first | with_reducible assumption | with_reducible exact Dp.int _ | with_reducible exact Dp.bl _ | with_reducible exact Dp.str _ | with_reducible exact Dp.non | ((with_reducible refine' dpMono ?dme (by with_reducible assumption)); (case dme => wtm_at "ex")) | ((with_reducible refine' Dp.tup (Evl.st_of ?dph) ?dpa); (case dph => wtm_at "hs"); (case dpa => wtm_at "dpa")) | ((with_reducible refine' Dp.lst (Evl.sq_of ?dph) ?dpa); (case dph => wtm_at "hs"); (case dpa => wtm_at "dpa")))
local macro_rules | `(tactic| wtm_at "dpa") => `(tactic| first | with_reducible exact DpAll.nil | ((with_reducible refine' DpAll.cons ?dp1 ?dp2); (case dp1 => wtm_at "dp"); (case dp2 => wtm_at "dpa")) | with_reducible assumption | ((with_reducible refine' dpMonoA ?dme (by with_reducible assumption)); (case dme => wtm_at "ex")))
local macro_rules | `(tactic| wtm_at "sz") => `(tactic| first | with_reducible assumption | ((with_reducible refine' sz_mul ?sz1 ?sz2); (case sz1 => wtm_at "sz"); (case sz2 => wtm_at "sz")) | ((with_reducible refine' sz_add ?sz1 ?sz2); (case sz1 => wtm_at "sz"); (case sz2 => wtm_at "sz")) | ((with_reducible refine' sz_sub ?sz1 ?sz2); (case sz1 => wtm_at "sz"); (case sz2 => wtm_at "sz")) | ((with_reducible refine' sz_neg ?sz1); (case sz1 => wtm_at "sz")) | ((with_reducible refine' sz_div ?sz1); (case sz1 => wtm_at "sz")) | ((with_reducible refine' sz_fdiv ?sz1); (case sz1 => wtm_at "sz")) | exact sz_lit (by decide) | wtm_at "sz2")
local macro_rules | `(tactic| wtm_at "szb") => `(tactic| first | with_reducible assumption | ((with_reducible refine' sz_mono ?szb1 ?szb2); (case szb1 => wtm_at "sz"); (case szb2 => decide)))
local macro_rules | `(tactic| wtm_at "nz") => `(tactic| first | assumption | decide | omega)
local macro_rules | `(tactic| wtm_at "shaped") => `(tactic| first | rfl | decide)
local macro_rules | `(tactic| wtm_at "sset") => `(tactic| ((dsimp only [L2.wipe, List.set, List.set_cons_zero, List.set_cons_succ]) <;> exact rfl))
local macro_rules | `(tactic| wtm_at "nrm") => `(tactic| dsimp only [L2.start, L2.wipe, List.set, List.append, List.map, List.map_cons, List.map_nil, List.length_cons, List.length_nil, Nat.reduceAdd, Nat.reduceSub, List.reduceReplicate, List.replicate, List.cons_append, List.nil_append, List.set_cons_zero, List.set_cons_succ])
local macro_rules | `(tactic| wtm_at "st") => `(tactic| first
  | ((with_reducible refine' i_var (v := ?u0) ?u1 ?uq); (case u1 => exact rfl))
  | ((with_reducible refine' i_nameN ?u0 ?uq); (case u0 => wtm_at "sset"))
  | (with_reducible refine' i_op ?uq)
  | (with_reducible refine' i_c ?uq)
  | (with_reducible refine' i_I0 ?uq)
  | ((with_reducible refine' i_ixTI (i := ?u0) ?u1 ?u2 ?u3 ?uq); (case u1 => wtm_at "dp"); (case u2 => wtm_at "ex"); (case u3 => exact rfl))
  | ((with_reducible refine' i_ixT (d := ?u0) ?u1 ?u2 ?u3 (fun xu hxu => ?uq)); (case u1 => wtm_at "dp"); (case u2 => wtm_at "ex"); (case u3 => exact rfl))
  | ((with_reducible refine' i_mul ?u0 ?u1 ?u2 ?uq); (case u0 => wtm_at "sz"); (case u1 => wtm_at "sz"); (case u2 => first | decide | omega))
  | (with_reducible refine' i_seq ?uq)
  | (with_reducible refine' i_asg ?uq)
  | (with_reducible refine' i_ret ?uq)
  | (with_reducible refine' i_ifs ?uq)
  | (with_reducible refine' i_drop ?uq)
  | (with_reducible refine' i_next ?uq)
  | (with_reducible refine' i_cons ?uq)
  | (with_reducible refine' i_nil ?uq)
  | (with_reducible refine' i_cl ?uq)
  | (with_reducible refine' i_cb ?uq)
  | (with_reducible refine' i_tup ?uq)
  | (with_reducible refine' i_lst ?uq)
  | ((with_reducible refine' i_mkT ?u0 (fun np nH nhe nhp => ?uq)); (case u0 => exact Nat.le_of_ble_eq_true rfl))
  | (with_reducible refine' i_test ?uq)
  | (with_reducible refine' i_B ?uq)
  | (with_reducible refine' i_k ?uq)
  | (with_reducible refine' i_and ?uq)
  | (with_reducible refine' i_or ?uq)
  | (with_reducible refine' i_not ?uq)
  | (with_reducible refine' i_andV ?uq)
  | (with_reducible refine' i_orV ?uq)
  | (with_reducible refine' i_notV ?uq)
  | (with_reducible refine' i_if ?uq)
  | (with_reducible refine' i_un ?uq)
  | (with_reducible refine' i_U ?uq)
  | (with_reducible refine' i_iteT ?uq)
  | (with_reducible refine' i_iteF ?uq)
  | ((with_reducible refine' i_iteTr ?u0 ?uq); (case u0 => first | with_reducible rfl | decide | (simp only [dIsInt, dIsBool, dIsTup, dIsStr, dIsLst, Bool.not_true, Bool.not_false]; done)))
  | ((with_reducible refine' i_iteFr ?u0 ?uq); (case u0 => first | with_reducible rfl | decide | (simp only [dIsInt, dIsBool, dIsTup, dIsStr, dIsLst, Bool.not_true, Bool.not_false]; done)))
  | (with_reducible refine' i_ite (fun hif => ?uqa) (fun hif => ?uqb))
  | (with_reducible refine' i_iteN (fun hif => ?uqa) (fun hif => ?uqb))
  | (with_reducible refine' i_iteBN (fun hif => ?uqa) (fun hif => ?uqb))
  | (with_reducible refine' i_iteB (fun hif => ?uqa) (fun hif => ?uqb))
  | ((with_reducible refine' i_modN ?u0 ?uq); (case u0 => wtm_at "nz"))
  | ((with_reducible refine' i_fdX ?u0 ?u1 ?u2 ?uq); (case u0 => wtm_at "nz"); (case u1 => wtm_at "sz"); (case u2 => first | decide | omega))
  | ((with_reducible refine' i_pow ?u0 ?uq); (case u0 => exact ⟨by decide, by decide +kernel⟩))
  | (with_reducible refine' i_eqI ?uq)
  | (with_reducible refine' i_neI ?uq)
  | (with_reducible refine' i_gcd ?uq)
  | (with_reducible refine' i_qabs ?uq)
  | (with_reducible refine' i_qint ?uq)
  | (with_reducible refine' i_qintB ?uq)
  | (with_reducible refine' i_qmax2 ?uq)
  | (with_reducible refine' i_qmin2 ?uq)
  | (with_reducible refine' i_isB ?uq)
  | (with_reducible refine' i_notB ?uq)
  | (with_reducible refine' i_chain ?uq)
  | (with_reducible refine' i_qisN ?uq)
  | (with_reducible refine' i_qnotN ?uq)
  | (with_reducible refine' i_yes ?uq)
  | (with_reducible refine' i_par ?uq)
  | (with_reducible refine' i_par3 ?uq)
  | ((with_reducible refine' i_par2 ?u0 ?uq); (case u0 => wtm_at "sset"))
  | ((with_reducible refine' i_par33 ?u0 ?uq); (case u0 => wtm_at "sset"))
  | ((with_reducible refine' i_ixLI (i := ?u0) ?u1 ?u2 ?u3 ?uq); (case u1 => wtm_at "dp"); (case u2 => wtm_at "ex"); (case u3 => exact rfl))
  | ((with_reducible refine' i_ixL (d := ?u0) ?u1 ?u2 ?u3 (fun xu hxu => ?uq)); (case u1 => wtm_at "dp"); (case u2 => wtm_at "ex"); (case u3 => exact rfl))
  | ((with_reducible refine' i_qlenT ?u0 ?uq); (case u0 => wtm_at "dp"))
  | ((with_reducible refine' i_qlenL ?u0 ?uq); (case u0 => wtm_at "dp"))
  | ((with_reducible refine' i_gtup ?u0 ?u1 ?u2 (fun gvs gdp => ?uq)); (case u0 => wtm_at "dp"); (case u1 => wtm_at "ex"); (case u2 => exact rfl))
  | ((with_reducible refine' i_glst ?u0 ?u1 ?u2 (fun gvs gdp => ?uq)); (case u0 => wtm_at "dp"); (case u1 => wtm_at "ex"); (case u2 => exact rfl))
  | ((with_reducible refine' i_gconsI ?u0 (fun gr gh => ?uq)); (case u0 => with_reducible assumption))
  | ((with_reducible refine' i_gconsA ?u0 (fun gv gr gh1 gh2 => ?uq)); (case u0 => with_reducible assumption))
  | ((with_reducible refine' i_gnilA ?u0 ?uq); (case u0 => with_reducible assumption))
  | ((with_reducible refine' i_isiI ?u0 ?uq); (case u0 => wtm_at "dp"))
  | ((with_reducible refine' i_isiB ?u0 ?uq); (case u0 => wtm_at "dp"))
  | ((with_reducible refine' i_isiT ?u0 ?uq); (case u0 => wtm_at "dp"))
  | ((with_reducible refine' i_isiS ?u0 ?uq); (case u0 => wtm_at "dp"))
  | ((with_reducible refine' i_isiL ?u0 ?uq); (case u0 => wtm_at "dp"))
  | ((with_reducible refine' i_eqD ?u0 ?u1 ?u2 ?u3 ?uq); (case u0 => wtm_at "dp"); (case u1 => wtm_at "dp"); (case u2 => wtm_at "shaped"); (case u3 => wtm_at "shaped"))
  | ((with_reducible refine' i_neD ?u0 ?u1 ?u2 ?u3 ?uq); (case u0 => wtm_at "dp"); (case u1 => wtm_at "dp"); (case u2 => wtm_at "shaped"); (case u3 => wtm_at "shaped"))
  | wtm_at "st2"
  | wtm_at "use")
local macro_rules | `(tactic| wtm_at "go") => `(tactic| repeat' (wtm_at "st"))
local macro_rules | `(tactic| wtm_at "go0") => `(tactic| ((try dsimp only [L2.cxOf, L2.Cx.nox, L2.Cx.wish, L2.Cx.tr, L2.Cx.blk]); (try wtm_at "nrm"); wtm_at "go"))
local macro_rules | `(tactic| wtm_at "fin") => `(tactic| ((try dsimp only); first | with_reducible assumption | assumption | ((with_reducible refine' Ret.use ?rur ?rue ?rud); (case rur => with_reducible assumption); (case rue => wtm_at "ex"); (case rud => wtm_at "dp"))))
local macro_rules | `(tactic| wtm_at "exh") => `(tactic| first | with_reducible assumption | with_reducible exact Ex.refl _ | with_reducible exact ex_hid | ((with_reducible refine' Ex.trans ?exe (by with_reducible assumption)); (case exe => wtm_at "exh")) | ((with_reducible refine' Ex.trans ?exe (hid_ex (by with_reducible assumption))); (case exe => wtm_at "exh")))
local macro_rules | `(tactic| wtm_at "ex") => `(tactic| first | with_reducible assumption | with_reducible exact Ex.refl _ | with_reducible exact ex_hid | ((with_reducible refine' Ex.trans ?exe (by with_reducible assumption)); (case exe => wtm_at "ex")) | ((with_reducible refine' Ex.trans ?exe (hid_ex (by with_reducible assumption))); (case exe => wtm_at "ex")) | ((with_reducible refine' Ex.trans ?exe ex_hid); (case exe => wtm_at "exh")))
local macro_rules | `(tactic| wtm_at "bag") => `(tactic| first | with_reducible assumption | ((with_reducible refine' Bag.mono ?bgm (by with_reducible assumption)); (case bgm => wtm_at "bag")))
local macro_rules | `(tactic| wtm_at "hs") => `(tactic| first | with_reducible assumption | ((with_reducible refine' hid_tup ?hb ?hp); (case hp => with_reducible assumption); (case hb => wtm_at "bag")) | ((with_reducible refine' hid_new ?hb ?hn ?hp); (case hp => with_reducible assumption); (case hn => with_reducible assumption); (case hb => wtm_at "bag")) | ((with_reducible refine' ex_at ?exe (by with_reducible assumption)); (case exe => wtm_at "ex")))
local macro_rules | `(tactic| wtm_at "st2") => `(tactic| first
  | ((with_reducible refine' i_mulC ?u0 ?uq); (case u0 => first | exact cmul_l (by decide) | exact cmul_r (by decide)))
  | ((with_reducible refine' i_ixLr (v := ?u0) ?u1 ?u2 ?uq); (case u1 => with_reducible assumption); (case u2 => exact rfl))
  | (with_reducible refine' i_sub ?uq)
  | ((with_reducible refine' i_mkL ?u0 (fun np nH nfr nhe nhp => ?uq)); (case u0 => exact Nat.le_of_ble_eq_true rfl))
  | ((with_reducible refine' i_setL (n := ?u0) ?u1 ?u2 (fun sH sh se => ?uq)); (case u1 => with_reducible assumption); (case u2 => exact rfl))
  | (with_reducible refine' i_sl ?uq)
  | (with_reducible refine' i_nopart ?uq)
  | (with_reducible refine' i_part ?uq)
  | (with_reducible refine' i_part1 ?uq))
local macro_rules | `(tactic| wtm_at "sz2") => `(tactic| ((with_reducible refine' sz_fmod ?sz1 ?sz2); (case sz1 => wtm_at "nz"); (case sz2 => wtm_at "sz")))
local macro_rules | `(tactic| wtm_at "stb") => `(tactic| first
  | ((with_reducible refine' i_mkTB ?u0 ?u1 (fun np nH nhe nhb nhp => ?uq)); (case u0 => exact Nat.le_of_ble_eq_true rfl); (case u1 => wtm_at "bag"))
  | ((with_reducible refine' i_mkLB ?u0 ?u1 (fun np nH nfr nhe nhb nhp => ?uq)); (case u0 => exact Nat.le_of_ble_eq_true rfl); (case u1 => wtm_at "bag"))
  | wtm_at "st")
local macro_rules | `(tactic| wtm_at "gob") => `(tactic| repeat' (wtm_at "stb"))
local macro_rules | `(tactic| wtm_at "gob0") => `(tactic| ((try dsimp only [L2.cxOf, L2.Cx.nox, L2.Cx.wish, L2.Cx.tr, L2.Cx.blk]); (try wtm_at "nrm"); wtm_at "gob"))
local macro_rules | `(tactic| wtm_at "use") => `(tactic| ((with_reducible refine' use_is_integer ?u0 ?uq); (case u0 => wtm_at "dp")))
local macro_rules | `(tactic| wtm_at "use") => `(tactic| ((with_reducible refine' use_is_box ?u0 ?u1 (fun uH ue => ?uq)); (case u0 => wtm_at "dp"); (case u1 => with_reducible assumption)))
local macro_rules | `(tactic| wtm_at "use") => `(tactic| ((with_reducible refine' use_require_box ?u0 ?u1 (fun uH ue => ?uq)); (case u0 => wtm_at "dp"); (case u1 => with_reducible assumption)))
local macro_rules | `(tactic| wtm_at "use") => `(tactic| ((with_reducible refine' use_do_meet_in ?u0 ?u1 ?uq); (case u0 => wtm_at "dp"); (case u1 => wtm_at "dp")))
local macro_rules | `(tactic| wtm_at "use") => `(tactic| ((with_reducible refine' use_apart_word ?u0 ?u1 ?uq); (case u0 => wtm_at "dp"); (case u1 => wtm_at "dp")))
local macro_rules | `(tactic| wtm_at "st") => `(tactic| first | ((with_reducible refine' i_ixTS (z := ?u0) ?u1 ?u2 ?u3 ?uq); (case u1 => wtm_at "dp"); (case u2 => wtm_at "ex"); (case u3 => exact rfl)) | fail)
local macro_rules | `(tactic| wtm_at "st2") => `(tactic| first | ((with_reducible refine' i_eqST ?u0 ?uq); (case u0 => with_reducible rfl)) | ((with_reducible refine' i_eqSF ?u0 ?uq); (case u0 => decide +kernel)) | ((with_reducible refine' i_neST ?u0 ?uq); (case u0 => with_reducible rfl)) | ((with_reducible refine' i_neSF ?u0 ?uq); (case u0 => decide +kernel)) | fail)
section
variable {P : Program} {w : World} {K : PySem.W.Frag} {mg : Str → Option Value} {base : Heap} {H H' : Hp} {Q : VK} {E : XK} {v1 v2 v3 v4 v5 : V}
/-- small forms: at most four items on each level -/
def Sm : (n : Nat) → Fo n → Prop
  | 0, t => (foL t).length ≤ 4
  | n + 1, t => (foB t).length ≤ 4 ∧ ∀ p ∈ foB t, Sm n p.2
theorem flat_len {α β : Type} (f : α → List β) (k : Nat) : ∀ xs : List α, (∀ x ∈ xs, (f x).length ≤ k) → (xs.flatMap f).length ≤ xs.length * k
  | [], _ => Nat.zero_le _
  | x :: xs, h => by
    rw [List.flatMap_cons, List.length_append, List.length_cons, Nat.succ_mul]
    have h1 := h x List.mem_cons_self
    have h2 := flat_len f k xs fun y hy => h y (List.mem_cons_of_mem _ hy)
    omega
theorem ents_len : ∀ (n : Nat) (t : Fo n), Sm n t → (ents n t).length ≤ 4 ^ (n + 1)
  | 0, t, h => h
  | n + 1, t, h => by
    have h1 := flat_len (fun p : Bx × Fo n => ents n p.2) (4 ^ (n + 1)) (foB t) fun p hp => ents_len n p.2 (h.2 p hp)
    show ((foB t).flatMap fun p => ents n p.2).length ≤ 4 ^ (n + 1 + 1)
    rw [Nat.pow_succ 4 (n + 1), Nat.mul_comm]
    exact Nat.le_trans h1 (Nat.mul_le_mul_right _ h.1)
theorem pow4 {n : Nat} (h : n ≤ 2) : 4 ^ (n + 1) ≤ 100 := by
  have : n = 0 ∨ n = 1 ∨ n = 2 := by omega
  rcases this with rfl | rfl | rfl <;> decide
def RetL (K : PySem.W.Frag) (ds : List PyData) (H : Hp) (Q : VK) : Prop := ∀ p H2, H p = none → Ex H H2 → Dp K H2 (.ref p) (.list ds) → Q (.ref p) H2
def sp_entries_in (K : PySem.W.Frag) (n : Nat) : Sp := A1 fun v1 H Q => ∃ m, m < n ∧ m ≤ 3 ∧ ∃ t : Fo m, Dp K H v1 (foD m t) ∧ Sm m t ∧ RetL K ((ents m t).map enD) H Q
theorem use_entries_in {n m : Nat} {t : Fo m} (hlt : m < n) (hn : m ≤ 3) (h : Dp K H v1 (foD m t)) (hs : Sm m t) (q : ∀ p H2, H p = none → Ex H H2 → Dp K H2 (.ref p) (.list ((ents m t).map enD)) → Q (.ref p) H2) : sp_entries_in K n [v1] H Q E := ⟨_, rfl, m, hlt, hn, t, h, hs, q⟩
local macro_rules | `(tactic| wtm_at "uent") => `(tactic| ((with_reducible refine' use_entries_in ?u00 ?u0 ?u1 ?u2 ?uq); (case u1 => wtm_at "dp"); (case u00 => omega); (case u0 => omega); (case u2 => with_reducible assumption)))
abbrev s_entries_in : Stmt := top 32
theorem sc_entries_in : FnScope ["form", "box", "within", "entry"] ["form"] (defScope s_entries_in) := ⟨rfl, rfl, rfl, by decide +kernel, rfl, by decide +kernel, by decide +kernel⟩
theorem ok_entries_in {f : Addr} {fd : FuncData} (F : FnP K "entries_in" s_entries_in f fd) (g : G mg) {n : Nat} (c_entries_in : Cl P w K mg base n "entries_in" (sp_entries_in K n)) : FnOk P w K mg base CX0 (n + 1) f fd ["form"] (sp_entries_in K (n + 1)) := by
  have nd := sc_entries_in.nd
  refine F.ok sc_entries_in (fun vs H Q E h => h.len) (fun cdv A outer s H vs Q E hr h => ?_)
  obtain ⟨v1, rfl, h⟩ := h
  refine ⟨_, PSs.nox (pss_cons (ps_if (pt_cmpR op_eq (pe_ix ix_tup (pv 0) pe_int (fun _ _ => rfl)) (pe_glob (v := .str "leaf") (by rfl) g.c_LEAF.choose_spec ⟨_, rfl⟩) (nomark _)) (pss_one (ps_ret (pe_callTy call_qlist (by rfl) g.f_list boot_list (pa_cons (pe_ix ix_tup (pv 0) pe_int (fun _ _ => rfl)) pa_nil)))) pss_nil) (pss_one (ps_ret (pe_lc2 (own := [("box", 1), ("within", 2), ("entry", 3)]) (vs1 := [3]) (g := _) (g1 := gName 3) (by rfl) nd (pi_tup (pe_ix ix_tup (pv 0) pe_int (fun _ _ => rfl))) (blkOk_by (N := ["form", "box", "within", "entry"]) (sc := defScope s_entries_in) (own := [("box", 1), ("within", 2), ("entry", 3)]) (by decide +kernel)) (by decide) (fun _ _ _ _ _ => (show PG _ _ (gTup K 2 _) from (pg_tup (by rfl) (pgs_cons (pg_name (i := 1) nd rfl (Or.inl rfl)) (pgs_cons (pg_name (i := 2) nd rfl (Or.inl rfl)) pgs_nil))))) (fun _ _ _ _ _ => pts_nil) (fun _ _ _ _ _ => (show PI _ _ _ (iList K _) from (pi_list (pc c_entries_in hr (by first | decide | omega) (by rfl) (pa_cons (pv 2) pa_nil))))) (fun _ _ _ _ _ => (pg_name (i := 3) nd rfl (Or.inl rfl))) (fun _ _ _ _ _ => pts_nil) (fun _ _ _ _ _ => (pv 3)))))), ?_⟩
  obtain ⟨m, e, hn, t, h1, hs, q⟩ := h
  cases m with
  | zero =>
    unfold foD at h1
    wtm_at "go0"
    rename_i xu hx
    refine i_qlistT hx (fun p H2 hp e2 hh => ?_)
    obtain ⟨vs, h3, h4⟩ := hh
    exact q p H2 hp e2 (.lst (Evl.sq_of h3) h4)
  | succ m =>
    unfold foD at h1
    wtm_at "go0"
    refine i_lc2U ?_
    wtm_at "go"
    rename_i xu hx
    refine i_lc2 (enc := brD m) (enc1 := enD) (xs := foB t) (fun p => ents m p.2) (fun _ e => enD e) hx (by have := hs.1; omega) (fun x hx => ?_) (fun _ _ y _ => noL_en y) (fun _ _ y _ => noL_en y) (fun u x H2 R S e2 hm hu hS => ?_) (fun p H2 hp e2 hl => ?_)
    · exact Nat.le_trans (ents_len m x.2 (hs.2 x hx)) (pow4 (by omega))
    · unfold brD at hu
      wtm_at "nrm"
      wtm_at "go"
      refine ⟨rfl, ?_⟩
      wtm_at "go"
      have hsx := hs.2 x hm
      wtm_at "uent"
      intro p H3 hp3 e3 hl3
      refine hS _ p H3 e3 hp3 hl3 (fun u1 y H5 R1 Y e5 hy hu1 hY => ?_)
      wtm_at "nrm"
      wtm_at "go"
      refine ⟨rfl, ?_⟩
      wtm_at "go"
      exact hY _ _ (Ex.refl _) hu1
    · rw [← List.map_flatMap] at hl
      exact q p H2 hp e2 hl
theorem deps_len : ∀ (n : Nat) (t : Fo n), Sm n t → (deps n t).length ≤ 4 ^ (n + 1)
  | 0, t, h => Nat.le_of_ble_eq_true rfl
  | n + 1, t, h => by
    have h1 := flat_len (fun p : Bx × Fo n => (deps n p.2).map (1 + ·)) (4 ^ (n + 1)) (foB t) fun p hp => by rw [List.length_map]; exact deps_len n p.2 (h.2 p hp)
    show ((foB t).flatMap fun p => (deps n p.2).map (1 + ·)).length ≤ 4 ^ (n + 1 + 1)
    rw [Nat.pow_succ 4 (n + 1), Nat.mul_comm]
    exact Nat.le_trans h1 (Nat.mul_le_mul_right _ h.1)
theorem subs_len : ∀ (n : Nat) (t : Fo n), Sm n t → (subs n t).length + 2 ≤ 2 * 4 ^ n
  | 0, t, h => Nat.le_of_ble_eq_true rfl
  | n + 1, t, h => by
    have h1 := flat_len (fun p : Bx × Fo n => foD n p.2 :: subs n p.2) (2 * 4 ^ n - 1) (foB t) fun p hp => by
      have := subs_len n p.2 (h.2 p hp)
      rw [List.length_cons]
      omega
    show ((foB t).flatMap fun p => foD n p.2 :: subs n p.2).length + 2 ≤ 2 * 4 ^ (n + 1)
    rw [Nat.pow_succ 4 n]
    have h2 := Nat.mul_le_mul_right (2 * 4 ^ n - 1) h.1
    have h3 : 0 < 4 ^ n := Nat.pow_pos (by decide)
    omega
theorem brns_len : ∀ (n : Nat) (t : Fo n), (brns n t).length = (subs n t).length
  | 0, t => rfl
  | n + 1, t => by
    show ((foB t).flatMap fun p => brD n p :: brns n p.2).length = ((foB t).flatMap fun p => foD n p.2 :: subs n p.2).length
    induction (foB t) with
    | nil => rfl
    | cons p r ih =>
      rw [List.flatMap_cons, List.flatMap_cons, List.length_append, List.length_append, ih, List.length_cons, List.length_cons, brns_len n p.2]
theorem pow4b {n : Nat} (h : n ≤ 2) : 2 * 4 ^ n ≤ 50 := by
  have : n = 0 ∨ n = 1 ∨ n = 2 := by omega
  rcases this with rfl | rfl | rfl <;> decide
theorem subs_len' {n : Nat} {t : Fo n} (h : Sm n t) (hn : n ≤ 2) : (subs n t).length ≤ 60 := by
  have := subs_len n t h
  have := pow4b hn
  omega
theorem brns_len' {n : Nat} {t : Fo n} (h : Sm n t) (hn : n ≤ 2) : (brns n t).length ≤ 60 := by
  rw [brns_len]
  exact subs_len' h hn
theorem ex_none {H2 H3 : Hp} {p : Addr} (h : H3 p = none) (e : Ex H2 H3) : H2 p = none := by
  cases q : H2 p with
  | none => rfl
  | some o =>
    rw [e p o q] at h
    cases h
def sp_depths_in (K : PySem.W.Frag) (n : Nat) : Sp := A1 fun v1 H Q => ∃ m, m < n ∧ m ≤ 3 ∧ ∃ t : Fo m, Dp K H v1 (foD m t) ∧ Sm m t ∧ RetL K ((deps m t).map PyData.int) H Q
theorem use_depths_in {n m : Nat} {t : Fo m} (hlt : m < n) (hn : m ≤ 3) (h : Dp K H v1 (foD m t)) (hs : Sm m t) (q : ∀ p H2, H p = none → Ex H H2 → Dp K H2 (.ref p) (.list ((deps m t).map PyData.int)) → Q (.ref p) H2) : sp_depths_in K n [v1] H Q E := ⟨_, rfl, m, hlt, hn, t, h, hs, q⟩
local macro_rules | `(tactic| wtm_at "uent") => `(tactic| ((with_reducible refine' use_depths_in ?u00 ?u0 ?u1 ?u2 ?uq); (case u1 => wtm_at "dp"); (case u00 => omega); (case u0 => omega); (case u2 => with_reducible assumption)))
abbrev s_depths_in : Stmt := top 33
theorem sc_depths_in : FnScope ["form", "box", "within", "depth"] ["form"] (defScope s_depths_in) := ⟨rfl, rfl, rfl, by decide +kernel, rfl, by decide +kernel, by decide +kernel⟩
theorem ok_depths_in {f : Addr} {fd : FuncData} (F : FnP K "depths_in" s_depths_in f fd) (g : G mg) {n : Nat} (c_depths_in : Cl P w K mg base n "depths_in" (sp_depths_in K n)) : FnOk P w K mg base CX0 (n + 1) f fd ["form"] (sp_depths_in K (n + 1)) := by
  have nd := sc_depths_in.nd
  refine F.ok sc_depths_in (fun vs H Q E h => h.len) (fun cdv A outer s H vs Q E hr h => ?_)
  obtain ⟨v1, rfl, h⟩ := h
  refine ⟨_, PSs.nox (pss_cons (ps_if (pt_cmpR op_eq (pe_ix ix_tup (pv 0) pe_int (fun _ _ => rfl)) (pe_glob (v := .str "leaf") (by rfl) g.c_LEAF.choose_spec ⟨_, rfl⟩) (nomark _)) (pss_one (ps_ret (pe_lst (pa_cons pe_int pa_nil)))) pss_nil) (pss_one (ps_ret (pe_lc2 (own := [("box", 1), ("within", 2), ("depth", 3)]) (vs1 := [3]) (g := _) (g1 := gName 3) (by rfl) nd (pi_tup (pe_ix ix_tup (pv 0) pe_int (fun _ _ => rfl))) (blkOk_by (N := ["form", "box", "within", "depth"]) (sc := defScope s_depths_in) (own := [("box", 1), ("within", 2), ("depth", 3)]) (by decide +kernel)) (by decide) (fun _ _ _ _ _ => (show PG _ _ (gTup K 2 _) from (pg_tup (by rfl) (pgs_cons (pg_name (i := 1) nd rfl (Or.inl rfl)) (pgs_cons (pg_name (i := 2) nd rfl (Or.inl rfl)) pgs_nil))))) (fun _ _ _ _ _ => pts_nil) (fun _ _ _ _ _ => (show PI _ _ _ (iList K _) from (pi_list (pc c_depths_in hr (by first | decide | omega) (by rfl) (pa_cons (pv 2) pa_nil))))) (fun _ _ _ _ _ => (pg_name (i := 3) nd rfl (Or.inl rfl))) (fun _ _ _ _ _ => pts_nil) (fun _ _ _ _ _ => (pe_op op_add pe_int (pv 3))))))), ?_⟩
  obtain ⟨m, e, hn, t, h1, hs, q⟩ := h
  cases m with
  | zero =>
    unfold foD at h1
    wtm_at "go0"
    rename_i p H2 hp e2 hh
    exact q p H2 hp e2 (.lst (Evl.sq_of hh) (.cons (.int _) .nil))
  | succ m =>
    unfold foD at h1
    wtm_at "go0"
    refine i_lc2U ?_
    wtm_at "go"
    rename_i xu hx
    refine i_lc2 (enc := brD m) (enc1 := PyData.int) (xs := foB t) (fun p => deps m p.2) (fun _ k => .int (1 + k)) hx (by have := hs.1; omega) (fun x hx => ?_) (fun _ _ y _ => rfl) (fun _ _ y _ => rfl) (fun u x H2 R S e2 hm hu hS => ?_) (fun p H2 hp e2 hl => ?_)
    · exact Nat.le_trans (deps_len m x.2 (hs.2 x hx)) (pow4 (by omega))
    · unfold brD at hu
      wtm_at "nrm"
      wtm_at "go"
      refine ⟨rfl, ?_⟩
      wtm_at "go"
      have hsx := hs.2 x hm
      wtm_at "uent"
      intro p H3 hp3 e3 hl3
      refine hS _ p H3 e3 hp3 hl3 (fun u1 y H5 R1 Y e5 hy hu1 hY => ?_)
      cases dpInt hu1
      wtm_at "nrm"
      wtm_at "go"
      refine ⟨rfl, ?_⟩
      wtm_at "go"
      exact hY _ _ (Ex.refl _) (Dp.int _)
    · refine q p H2 hp e2 ?_
      have e : (deps (m + 1) t).map PyData.int = (foB t).flatMap fun p => (deps m p.2).map fun k => .int (1 + k) := by
        show ((foB t).flatMap fun p => (deps m p.2).map (1 + ·)).map PyData.int = _
        rw [List.map_flatMap]
        congr 1
        funext p
        rw [List.map_map]
        rfl
      rw [e]
      exact hl
theorem i_tstar {te : TE} {t : TA} {σ : L2.St} {R : List V → Hp → Prop} (q : te σ H fun y H1 => ∃ a xs, y = V.ref a ∧ (SqT K H1 a xs ∨ SqL K H1 a xs) ∧ t σ H1 fun vs H2 => R (xs ++ vs) H2) : tStar K te t σ H R := q
def sp_forms_in (K : PySem.W.Frag) (n : Nat) : Sp := A1 fun v1 H Q => ∃ m, m < n ∧ m ≤ 3 ∧ ∃ t : Fo m, Dp K H v1 (foD m t) ∧ Sm m t ∧ RetL K (subs m t) H Q
theorem use_forms_in {n m : Nat} {t : Fo m} (hlt : m < n) (hn : m ≤ 3) (h : Dp K H v1 (foD m t)) (hs : Sm m t) (q : ∀ p H2, H p = none → Ex H H2 → Dp K H2 (.ref p) (.list (subs m t)) → Q (.ref p) H2) : sp_forms_in K n [v1] H Q E := ⟨_, rfl, m, hlt, hn, t, h, hs, q⟩
local macro_rules | `(tactic| wtm_at "uent") => `(tactic| ((with_reducible refine' use_forms_in ?u00 ?u0 ?u1 ?u2 ?uq); (case u1 => wtm_at "dp"); (case u00 => omega); (case u0 => omega); (case u2 => with_reducible assumption)))
abbrev s_forms_in : Stmt := top 34
theorem sc_forms_in : FnScope ["form", "box", "within", "one"] ["form"] (defScope s_forms_in) := ⟨rfl, rfl, rfl, by decide +kernel, rfl, by decide +kernel, by decide +kernel⟩
theorem ok_forms_in {f : Addr} {fd : FuncData} (F : FnP K "forms_in" s_forms_in f fd) (g : G mg) {n : Nat} (c_forms_in : Cl P w K mg base n "forms_in" (sp_forms_in K n)) : FnOk P w K mg base CX0 (n + 1) f fd ["form"] (sp_forms_in K (n + 1)) := by
  have nd := sc_forms_in.nd
  refine F.ok sc_forms_in (fun vs H Q E h => h.len) (fun cdv A outer s H vs Q E hr h => ?_)
  obtain ⟨v1, rfl, h⟩ := h
  refine ⟨_, PSs.nox (pss_cons (ps_if (pt_cmpR op_eq (pe_ix ix_tup (pv 0) pe_int (fun _ _ => rfl)) (pe_glob (v := .str "leaf") (by rfl) g.c_LEAF.choose_spec ⟨_, rfl⟩) (nomark _)) (pss_one (ps_ret (pe_lst pa_nil))) pss_nil) (pss_one (ps_ret (pe_lc2 (own := [("box", 1), ("within", 2), ("one", 3)]) (vs1 := [3]) (g := _) (g1 := gName 3) (by rfl) nd (pi_tup (pe_ix ix_tup (pv 0) pe_int (fun _ _ => rfl))) (blkOk_by (N := ["form", "box", "within", "one"]) (sc := defScope s_forms_in) (own := [("box", 1), ("within", 2), ("one", 3)]) (by decide +kernel)) (by decide) (fun _ _ _ _ _ => (show PG _ _ (gTup K 2 _) from (pg_tup (by rfl) (pgs_cons (pg_name (i := 1) nd rfl (Or.inl rfl)) (pgs_cons (pg_name (i := 2) nd rfl (Or.inl rfl)) pgs_nil))))) (fun _ _ _ _ _ => pts_nil) (fun _ _ _ _ _ => (show PI _ _ _ (iList K _) from (pi_list (pe_lst (pa_cons (pv 2) (show PA _ _ (tStar K _ _) from pa_star (pc c_forms_in hr (by first | decide | omega) (by rfl) (pa_cons (pv 2) pa_nil)) pa_nil)))))) (fun _ _ _ _ _ => (pg_name (i := 3) nd rfl (Or.inl rfl))) (fun _ _ _ _ _ => pts_nil) (fun _ _ _ _ _ => (pv 3)))))), ?_⟩
  obtain ⟨m, e, hn, t, h1, hs, q⟩ := h
  cases m with
  | zero =>
    unfold foD at h1
    wtm_at "go0"
    rename_i p H2 hp e2 hh
    exact q p H2 hp e2 (.lst (Evl.sq_of hh) .nil)
  | succ m =>
    unfold foD at h1
    wtm_at "go0"
    refine i_lc2U ?_
    wtm_at "go"
    rename_i xu hx
    refine i_lc2 (enc := brD m) (enc1 := fun d : PyData => d) (xs := foB t) (fun p => foD m p.2 :: subs m p.2) (fun _ d => d) hx (by have := hs.1; omega) (fun x hx => ?_) (fun x _ y hy => ?_) (fun x _ y hy => ?_) (fun u x H2 R S e2 hm hu hS => ?_) (fun p H2 hp e2 hl => ?_)
    · have := subs_len m x.2 (hs.2 x hx)
      have := pow4b (n := m) (by omega)
      rw [List.length_cons]
      omega
    · rcases List.mem_cons.mp hy with rfl | hy
      · exact noL_fo m x.2
      · exact noL_subs m x.2 y hy
    · rcases List.mem_cons.mp hy with rfl | hy
      · exact noL_fo m x.2
      · exact noL_subs m x.2 y hy
    · unfold brD at hu
      wtm_at "nrm"
      wtm_at "go"
      refine ⟨rfl, ?_⟩
      wtm_at "go"
      refine i_tstar ?_
      wtm_at "go"
      have hsx := hs.2 x hm
      wtm_at "uent"
      intro p H3 hp3 e3 hl3
      obtain ⟨a, us, ea, hus, hua⟩ := dpLst hl3
      cases ea
      refine ⟨p, us, rfl, .inr hus, ?_⟩
      wtm_at "go"
      rename_i gv gr gh1 gh2
      refine i_mkL (by
        have := subs_len' (hs.2 x hm) (show m ≤ 2 by omega)
        rw [List.length_cons, List.length_append, dpLen hua, List.length_nil]
        omega) (fun np H4 nfr nhe nhp => ?_)
      rw [List.append_nil] at nhp
      refine hS _ np H4 (e3.trans nhe) (ex_none nfr e3) (.lst (Evl.sq_of nhp) (by rw [List.map_id']; exact .cons (dpMono (e3.trans nhe) gh1) (dpMonoA nhe hua))) (fun u1 y H5 R1 Y e5 hy hu1 hY => ?_)
      wtm_at "nrm"
      wtm_at "go"
      refine ⟨rfl, ?_⟩
      wtm_at "go"
      exact hY _ _ (Ex.refl _) hu1
    · refine q p H2 hp e2 ?_
      simp only [List.map_id'] at hl
      exact hl
def sp_branches_in (K : PySem.W.Frag) (n : Nat) : Sp := A1 fun v1 H Q => ∃ m, m < n ∧ m ≤ 3 ∧ ∃ t : Fo m, Dp K H v1 (foD m t) ∧ Sm m t ∧ RetL K (brns m t) H Q
theorem use_branches_in {n m : Nat} {t : Fo m} (hlt : m < n) (hn : m ≤ 3) (h : Dp K H v1 (foD m t)) (hs : Sm m t) (q : ∀ p H2, H p = none → Ex H H2 → Dp K H2 (.ref p) (.list (brns m t)) → Q (.ref p) H2) : sp_branches_in K n [v1] H Q E := ⟨_, rfl, m, hlt, hn, t, h, hs, q⟩
local macro_rules | `(tactic| wtm_at "uent") => `(tactic| ((with_reducible refine' use_branches_in ?u00 ?u0 ?u1 ?u2 ?uq); (case u1 => wtm_at "dp"); (case u00 => omega); (case u0 => omega); (case u2 => with_reducible assumption)))
abbrev s_branches_in : Stmt := top 35
theorem sc_branches_in : FnScope ["form", "branch", "one"] ["form"] (defScope s_branches_in) := ⟨rfl, rfl, rfl, by decide +kernel, rfl, by decide +kernel, by decide +kernel⟩
theorem ok_branches_in {f : Addr} {fd : FuncData} (F : FnP K "branches_in" s_branches_in f fd) (g : G mg) {n : Nat} (c_branches_in : Cl P w K mg base n "branches_in" (sp_branches_in K n)) : FnOk P w K mg base CX0 (n + 1) f fd ["form"] (sp_branches_in K (n + 1)) := by
  have nd := sc_branches_in.nd
  refine F.ok sc_branches_in (fun vs H Q E h => h.len) (fun cdv A outer s H vs Q E hr h => ?_)
  obtain ⟨v1, rfl, h⟩ := h
  refine ⟨_, PSs.nox (pss_cons (ps_if (pt_cmpR op_eq (pe_ix ix_tup (pv 0) pe_int (fun _ _ => rfl)) (pe_glob (v := .str "leaf") (by rfl) g.c_LEAF.choose_spec ⟨_, rfl⟩) (nomark _)) (pss_one (ps_ret (pe_lst pa_nil))) pss_nil) (pss_one (ps_ret (pe_lc2 (own := [("branch", 1), ("one", 2)]) (vs1 := [2]) (g := gName 1) (g1 := gName 2) (by rfl) nd (pi_tup (pe_ix ix_tup (pv 0) pe_int (fun _ _ => rfl))) (blkOk_by (N := ["form", "branch", "one"]) (sc := defScope s_branches_in) (own := [("branch", 1), ("one", 2)]) (by decide +kernel)) (by decide) (fun _ _ _ _ _ => (pg_name (i := 1) nd rfl (Or.inl rfl))) (fun _ _ _ _ _ => pts_nil) (fun _ _ _ _ _ => (show PI _ _ _ (iList K _) from (pi_list (pe_lst (pa_cons (pv 1) (show PA _ _ (tStar K _ _) from pa_star (pc c_branches_in hr (by first | decide | omega) (by rfl) (pa_cons (pe_ix (show IxR _ (rIxT K) from ix_tup) (pv 1) pe_int (fun _ _ => rfl)) pa_nil)) pa_nil)))))) (fun _ _ _ _ _ => (pg_name (i := 2) nd rfl (Or.inl rfl))) (fun _ _ _ _ _ => pts_nil) (fun _ _ _ _ _ => (pv 2)))))), ?_⟩
  obtain ⟨m, e, hn, t, h1, hs, q⟩ := h
  cases m with
  | zero =>
    unfold foD at h1
    wtm_at "go0"
    rename_i p H2 hp e2 hh
    exact q p H2 hp e2 (.lst (Evl.sq_of hh) .nil)
  | succ m =>
    unfold foD at h1
    wtm_at "go0"
    refine i_lc2U ?_
    wtm_at "go"
    rename_i xu hx
    refine i_lc2 (enc := brD m) (enc1 := fun d : PyData => d) (xs := foB t) (fun p => brD m p :: brns m p.2) (fun _ d => d) hx (by have := hs.1; omega) (fun x hx => ?_) (fun x _ y hy => ?_) (fun x _ y hy => ?_) (fun u x H2 R S e2 hm hu hS => ?_) (fun p H2 hp e2 hl => ?_)
    · have := brns_len' (hs.2 x hx) (show m ≤ 2 by omega)
      rw [List.length_cons]
      omega
    · rcases List.mem_cons.mp hy with rfl | hy
      · exact noL_br m x
      · exact noL_brns m x.2 y hy
    · rcases List.mem_cons.mp hy with rfl | hy
      · exact noL_br m x
      · exact noL_brns m x.2 y hy
    · have hu' := hu
      unfold brD at hu
      wtm_at "nrm"
      wtm_at "go"
      refine ⟨rfl, ?_⟩
      wtm_at "go"
      refine i_tstar ?_
      wtm_at "go"
      have hsx := hs.2 x hm
      wtm_at "uent"
      intro p H3 hp3 e3 hl3
      obtain ⟨a, us, ea, hus, hua⟩ := dpLst hl3
      cases ea
      refine ⟨p, us, rfl, .inr hus, ?_⟩
      wtm_at "go"
      refine i_mkL (by
        have := brns_len' (hs.2 x hm) (show m ≤ 2 by omega)
        rw [List.length_cons, List.length_append, dpLen hua, List.length_nil]
        omega) (fun np H4 nfr nhe nhp => ?_)
      rw [List.append_nil] at nhp
      refine hS _ np H4 (e3.trans nhe) (ex_none nfr e3) (.lst (Evl.sq_of nhp) (by rw [List.map_id']; exact .cons (dpMono (e3.trans nhe) hu') (dpMonoA nhe hua))) (fun u1 y H5 R1 Y e5 hy hu1 hY => ?_)
      wtm_at "nrm"
      wtm_at "go"
      refine ⟨rfl, ?_⟩
      wtm_at "go"
      exact hY _ _ (Ex.refl _) hu1
    · refine q p H2 hp e2 ?_
      simp only [List.map_id'] at hl
      exact hl
end
end Wb

namespace Wb
open PySem PySem.Spec PyProof.Rows L2 StX
open Evl (Ex Ex.refl Ex.trans Ex.new)
local macro_rules | `(tactic| wtm_at "dp") => `(tactic| first | with_reducible assumption | with_reducible exact Dp.int _ | with_reducible exact Dp.bl _ | with_reducible exact Dp.str _ | with_reducible exact Dp.non | ((with_reducible refine' dpMono ?dme (by with_reducible assumption)); (case dme => wtm_at "ex")) | ((with_reducible refine' Dp.tup (Evl.st_of ?dph) ?dpa); (case dph => wtm_at "hs"); (case dpa => wtm_at "dpa")) | ((with_reducible refine' Dp.lst (Evl.sq_of ?dph) ?dpa); (case dph => wtm_at "hs"); (case dpa => wtm_at "dpa")))
local macro_rules | `(tactic| wtm_at "dpa") => `(tactic| first | with_reducible exact DpAll.nil | ((with_reducible refine' DpAll.cons ?dp1 ?dp2); (case dp1 => wtm_at "dp"); (case dp2 => wtm_at "dpa")) | with_reducible assumption | ((with_reducible refine' dpMonoA ?dme (by with_reducible assumption)); (case dme => wtm_at "ex")))
local macro_rules | `(tactic| wtm_at "sz") => `(tactic| first | with_reducible assumption | ((with_reducible refine' sz_mul ?sz1 ?sz2); (case sz1 => wtm_at "sz"); (case sz2 => wtm_at "sz")) | ((with_reducible refine' sz_add ?sz1 ?sz2); (case sz1 => wtm_at "sz"); (case sz2 => wtm_at "sz")) | ((with_reducible refine' sz_sub ?sz1 ?sz2); (case sz1 => wtm_at "sz"); (case sz2 => wtm_at "sz")) | ((with_reducible refine' sz_neg ?sz1); (case sz1 => wtm_at "sz")) | ((with_reducible refine' sz_div ?sz1); (case sz1 => wtm_at "sz")) | ((with_reducible refine' sz_fdiv ?sz1); (case sz1 => wtm_at "sz")) | exact sz_lit (by decide) | wtm_at "sz2")
local macro_rules | `(tactic| wtm_at "szb") => `(tactic| first | with_reducible assumption | ((with_reducible refine' sz_mono ?szb1 ?szb2); (case szb1 => wtm_at "sz"); (case szb2 => decide)))
local macro_rules | `(tactic| wtm_at "nz") => `(tactic| first | assumption | decide | omega)
local macro_rules | `(tactic| wtm_at "shaped") => `(tactic| first | rfl | decide)
local macro_rules | `(tactic| wtm_at "sset") => `(tactic| ((dsimp only [L2.wipe, List.set, List.set_cons_zero, List.set_cons_succ]) <;> exact rfl))
local macro_rules | `(tactic| wtm_at "nrm") => `(tactic| dsimp only [L2.start, L2.wipe, List.set, List.append, List.map, List.map_cons, List.map_nil, List.length_cons, List.length_nil, Nat.reduceAdd, Nat.reduceSub, List.reduceReplicate, List.replicate, List.cons_append, List.nil_append, List.set_cons_zero, List.set_cons_succ])
local macro_rules | `(tactic| wtm_at "st") => `(tactic| first
  | ((with_reducible refine' i_var (v := ?u0) ?u1 ?uq); (case u1 => exact rfl))
  | ((with_reducible refine' i_nameN ?u0 ?uq); (case u0 => wtm_at "sset"))
  | (with_reducible refine' i_op ?uq)
  | (with_reducible refine' i_c ?uq)
  | (with_reducible refine' i_I0 ?uq)
  | ((with_reducible refine' i_ixTI (i := ?u0) ?u1 ?u2 ?u3 ?uq); (case u1 => wtm_at "dp"); (case u2 => wtm_at "ex"); (case u3 => exact rfl))
  | ((with_reducible refine' i_ixT (d := ?u0) ?u1 ?u2 ?u3 (fun xu hxu => ?uq)); (case u1 => wtm_at "dp"); (case u2 => wtm_at "ex"); (case u3 => exact rfl))
  | ((with_reducible refine' i_mul ?u0 ?u1 ?u2 ?uq); (case u0 => wtm_at "sz"); (case u1 => wtm_at "sz"); (case u2 => first | decide | omega))
  | (with_reducible refine' i_seq ?uq)
  | (with_reducible refine' i_asg ?uq)
  | (with_reducible refine' i_ret ?uq)
  | (with_reducible refine' i_ifs ?uq)
  | (with_reducible refine' i_drop ?uq)
  | (with_reducible refine' i_next ?uq)
  | (with_reducible refine' i_cons ?uq)
  | (with_reducible refine' i_nil ?uq)
  | (with_reducible refine' i_cl ?uq)
  | (with_reducible refine' i_cb ?uq)
  | (with_reducible refine' i_tup ?uq)
  | (with_reducible refine' i_lst ?uq)
  | ((with_reducible refine' i_mkT ?u0 (fun np nH nhe nhp => ?uq)); (case u0 => exact Nat.le_of_ble_eq_true rfl))
  | (with_reducible refine' i_test ?uq)
  | (with_reducible refine' i_B ?uq)
  | (with_reducible refine' i_k ?uq)
  | (with_reducible refine' i_and ?uq)
  | (with_reducible refine' i_or ?uq)
  | (with_reducible refine' i_not ?uq)
  | (with_reducible refine' i_andV ?uq)
  | (with_reducible refine' i_orV ?uq)
  | (with_reducible refine' i_notV ?uq)
  | (with_reducible refine' i_if ?uq)
  | (with_reducible refine' i_un ?uq)
  | (with_reducible refine' i_U ?uq)
  | (with_reducible refine' i_iteT ?uq)
  | (with_reducible refine' i_iteF ?uq)
  | ((with_reducible refine' i_iteTr ?u0 ?uq); (case u0 => first | with_reducible rfl | decide | (simp only [dIsInt, dIsBool, dIsTup, dIsStr, dIsLst, Bool.not_true, Bool.not_false]; done)))
  | ((with_reducible refine' i_iteFr ?u0 ?uq); (case u0 => first | with_reducible rfl | decide | (simp only [dIsInt, dIsBool, dIsTup, dIsStr, dIsLst, Bool.not_true, Bool.not_false]; done)))
  | (with_reducible refine' i_ite (fun hif => ?uqa) (fun hif => ?uqb))
  | (with_reducible refine' i_iteN (fun hif => ?uqa) (fun hif => ?uqb))
  | (with_reducible refine' i_iteBN (fun hif => ?uqa) (fun hif => ?uqb))
  | (with_reducible refine' i_iteB (fun hif => ?uqa) (fun hif => ?uqb))
  | ((with_reducible refine' i_modN ?u0 ?uq); (case u0 => wtm_at "nz"))
  | ((with_reducible refine' i_fdX ?u0 ?u1 ?u2 ?uq); (case u0 => wtm_at "nz"); (case u1 => wtm_at "sz"); (case u2 => first | decide | omega))
  | ((with_reducible refine' i_pow ?u0 ?uq); (case u0 => exact ⟨by decide, by decide +kernel⟩))
  | (with_reducible refine' i_eqI ?uq)
  | (with_reducible refine' i_neI ?uq)
  | (with_reducible refine' i_gcd ?uq)
  | (with_reducible refine' i_qabs ?uq)
  | (with_reducible refine' i_qint ?uq)
  | (with_reducible refine' i_qintB ?uq)
  | (with_reducible refine' i_qmax2 ?uq)
  | (with_reducible refine' i_qmin2 ?uq)
  | (with_reducible refine' i_isB ?uq)
  | (with_reducible refine' i_notB ?uq)
  | (with_reducible refine' i_chain ?uq)
  | (with_reducible refine' i_qisN ?uq)
  | (with_reducible refine' i_qnotN ?uq)
  | (with_reducible refine' i_yes ?uq)
  | (with_reducible refine' i_par ?uq)
  | (with_reducible refine' i_par3 ?uq)
  | ((with_reducible refine' i_par2 ?u0 ?uq); (case u0 => wtm_at "sset"))
  | ((with_reducible refine' i_par33 ?u0 ?uq); (case u0 => wtm_at "sset"))
  | ((with_reducible refine' i_ixLI (i := ?u0) ?u1 ?u2 ?u3 ?uq); (case u1 => wtm_at "dp"); (case u2 => wtm_at "ex"); (case u3 => exact rfl))
  | ((with_reducible refine' i_ixL (d := ?u0) ?u1 ?u2 ?u3 (fun xu hxu => ?uq)); (case u1 => wtm_at "dp"); (case u2 => wtm_at "ex"); (case u3 => exact rfl))
  | ((with_reducible refine' i_qlenT ?u0 ?uq); (case u0 => wtm_at "dp"))
  | ((with_reducible refine' i_qlenL ?u0 ?uq); (case u0 => wtm_at "dp"))
  | ((with_reducible refine' i_gtup ?u0 ?u1 ?u2 (fun gvs gdp => ?uq)); (case u0 => wtm_at "dp"); (case u1 => wtm_at "ex"); (case u2 => exact rfl))
  | ((with_reducible refine' i_glst ?u0 ?u1 ?u2 (fun gvs gdp => ?uq)); (case u0 => wtm_at "dp"); (case u1 => wtm_at "ex"); (case u2 => exact rfl))
  | ((with_reducible refine' i_gconsI ?u0 (fun gr gh => ?uq)); (case u0 => with_reducible assumption))
  | ((with_reducible refine' i_gconsA ?u0 (fun gv gr gh1 gh2 => ?uq)); (case u0 => with_reducible assumption))
  | ((with_reducible refine' i_gnilA ?u0 ?uq); (case u0 => with_reducible assumption))
  | ((with_reducible refine' i_isiI ?u0 ?uq); (case u0 => wtm_at "dp"))
  | ((with_reducible refine' i_isiB ?u0 ?uq); (case u0 => wtm_at "dp"))
  | ((with_reducible refine' i_isiT ?u0 ?uq); (case u0 => wtm_at "dp"))
  | ((with_reducible refine' i_isiS ?u0 ?uq); (case u0 => wtm_at "dp"))
  | ((with_reducible refine' i_isiL ?u0 ?uq); (case u0 => wtm_at "dp"))
  | ((with_reducible refine' i_eqD ?u0 ?u1 ?u2 ?u3 ?uq); (case u0 => wtm_at "dp"); (case u1 => wtm_at "dp"); (case u2 => wtm_at "shaped"); (case u3 => wtm_at "shaped"))
  | ((with_reducible refine' i_neD ?u0 ?u1 ?u2 ?u3 ?uq); (case u0 => wtm_at "dp"); (case u1 => wtm_at "dp"); (case u2 => wtm_at "shaped"); (case u3 => wtm_at "shaped"))
  | wtm_at "st2"
  | wtm_at "use")
local macro_rules | `(tactic| wtm_at "go") => `(tactic| repeat' (wtm_at "st"))
local macro_rules | `(tactic| wtm_at "go0") => `(tactic| ((try dsimp only [L2.cxOf, L2.Cx.nox, L2.Cx.wish, L2.Cx.tr, L2.Cx.blk]); (try wtm_at "nrm"); wtm_at "go"))
local macro_rules | `(tactic| wtm_at "fin") => `(tactic| ((try dsimp only); first | with_reducible assumption | assumption | ((with_reducible refine' Ret.use ?rur ?rue ?rud); (case rur => with_reducible assumption); (case rue => wtm_at "ex"); (case rud => wtm_at "dp"))))
local macro_rules | `(tactic| wtm_at "exh") => `(tactic| first | with_reducible assumption | with_reducible exact Ex.refl _ | with_reducible exact ex_hid | ((with_reducible refine' Ex.trans ?exe (by with_reducible assumption)); (case exe => wtm_at "exh")) | ((with_reducible refine' Ex.trans ?exe (hid_ex (by with_reducible assumption))); (case exe => wtm_at "exh")))
local macro_rules | `(tactic| wtm_at "ex") => `(tactic| first | with_reducible assumption | with_reducible exact Ex.refl _ | with_reducible exact ex_hid | ((with_reducible refine' Ex.trans ?exe (by with_reducible assumption)); (case exe => wtm_at "ex")) | ((with_reducible refine' Ex.trans ?exe (hid_ex (by with_reducible assumption))); (case exe => wtm_at "ex")) | ((with_reducible refine' Ex.trans ?exe ex_hid); (case exe => wtm_at "exh")))
local macro_rules | `(tactic| wtm_at "bag") => `(tactic| first | with_reducible assumption | ((with_reducible refine' Bag.mono ?bgm (by with_reducible assumption)); (case bgm => wtm_at "bag")))
local macro_rules | `(tactic| wtm_at "hs") => `(tactic| first | with_reducible assumption | ((with_reducible refine' hid_tup ?hb ?hp); (case hp => with_reducible assumption); (case hb => wtm_at "bag")) | ((with_reducible refine' hid_new ?hb ?hn ?hp); (case hp => with_reducible assumption); (case hn => with_reducible assumption); (case hb => wtm_at "bag")) | ((with_reducible refine' ex_at ?exe (by with_reducible assumption)); (case exe => wtm_at "ex")))
local macro_rules | `(tactic| wtm_at "st2") => `(tactic| first
  | ((with_reducible refine' i_mulC ?u0 ?uq); (case u0 => first | exact cmul_l (by decide) | exact cmul_r (by decide)))
  | ((with_reducible refine' i_ixLr (v := ?u0) ?u1 ?u2 ?uq); (case u1 => with_reducible assumption); (case u2 => exact rfl))
  | (with_reducible refine' i_sub ?uq)
  | ((with_reducible refine' i_mkL ?u0 (fun np nH nfr nhe nhp => ?uq)); (case u0 => exact Nat.le_of_ble_eq_true rfl))
  | ((with_reducible refine' i_setL (n := ?u0) ?u1 ?u2 (fun sH sh se => ?uq)); (case u1 => with_reducible assumption); (case u2 => exact rfl))
  | (with_reducible refine' i_sl ?uq)
  | (with_reducible refine' i_nopart ?uq)
  | (with_reducible refine' i_part ?uq)
  | (with_reducible refine' i_part1 ?uq))
local macro_rules | `(tactic| wtm_at "sz2") => `(tactic| ((with_reducible refine' sz_fmod ?sz1 ?sz2); (case sz1 => wtm_at "nz"); (case sz2 => wtm_at "sz")))
local macro_rules | `(tactic| wtm_at "stb") => `(tactic| first
  | ((with_reducible refine' i_mkTB ?u0 ?u1 (fun np nH nhe nhb nhp => ?uq)); (case u0 => exact Nat.le_of_ble_eq_true rfl); (case u1 => wtm_at "bag"))
  | ((with_reducible refine' i_mkLB ?u0 ?u1 (fun np nH nfr nhe nhb nhp => ?uq)); (case u0 => exact Nat.le_of_ble_eq_true rfl); (case u1 => wtm_at "bag"))
  | wtm_at "st")
local macro_rules | `(tactic| wtm_at "gob") => `(tactic| repeat' (wtm_at "stb"))
local macro_rules | `(tactic| wtm_at "gob0") => `(tactic| ((try dsimp only [L2.cxOf, L2.Cx.nox, L2.Cx.wish, L2.Cx.tr, L2.Cx.blk]); (try wtm_at "nrm"); wtm_at "gob"))
local macro_rules | `(tactic| wtm_at "use") => `(tactic| ((with_reducible refine' use_is_integer ?u0 ?uq); (case u0 => wtm_at "dp")))
local macro_rules | `(tactic| wtm_at "use") => `(tactic| ((with_reducible refine' use_is_box ?u0 ?u1 (fun uH ue => ?uq)); (case u0 => wtm_at "dp"); (case u1 => with_reducible assumption)))
local macro_rules | `(tactic| wtm_at "use") => `(tactic| ((with_reducible refine' use_require_box ?u0 ?u1 (fun uH ue => ?uq)); (case u0 => wtm_at "dp"); (case u1 => with_reducible assumption)))
local macro_rules | `(tactic| wtm_at "use") => `(tactic| ((with_reducible refine' use_do_meet_in ?u0 ?u1 ?uq); (case u0 => wtm_at "dp"); (case u1 => wtm_at "dp")))
local macro_rules | `(tactic| wtm_at "use") => `(tactic| ((with_reducible refine' use_apart_word ?u0 ?u1 ?uq); (case u0 => wtm_at "dp"); (case u1 => wtm_at "dp")))
local macro_rules | `(tactic| wtm_at "st") => `(tactic| first | ((with_reducible refine' i_ixTS (z := ?u0) ?u1 ?u2 ?u3 ?uq); (case u1 => wtm_at "dp"); (case u2 => wtm_at "ex"); (case u3 => exact rfl)) | fail)
local macro_rules | `(tactic| wtm_at "st2") => `(tactic| first | ((with_reducible refine' i_eqST ?u0 ?uq); (case u0 => with_reducible rfl)) | ((with_reducible refine' i_eqSF ?u0 ?uq); (case u0 => decide +kernel)) | ((with_reducible refine' i_neST ?u0 ?uq); (case u0 => with_reducible rfl)) | ((with_reducible refine' i_neSF ?u0 ?uq); (case u0 => decide +kernel)) | fail)
section
variable {P : Program} {w : World} {K : PySem.W.Frag} {mg : Str → Option Value} {base : Heap} {H H' : Hp} {Q : VK} {E : XK} {v1 v2 v3 v4 v5 : V}
theorem mn_mem : ∀ {ns : List Int}, ns ≠ [] → mnI ns ∈ ns ∧ ∀ y ∈ ns, mnI ns ≤ y
  | [], h => absurd rfl h
  | [x], _ => ⟨List.mem_singleton.mpr rfl, fun y hy => by rcases List.mem_singleton.mp hy with rfl; exact Int.le_refl _⟩
  | x :: y :: r, _ => by
    obtain ⟨h1, h2⟩ := mn_mem (ns := y :: r) (List.cons_ne_nil _ _)
    have e : mnI (x :: y :: r) = min x (mnI (y :: r)) := rfl
    rw [e]
    refine ⟨?_, fun z hz => ?_⟩
    · by_cases h : x ≤ mnI (y :: r)
      · rw [Int.min_eq_left h]
        exact List.mem_cons_self
      · rw [Int.min_eq_right (by omega)]
        exact List.mem_cons_of_mem _ h1
    · rcases List.mem_cons.mp hz with rfl | hz
      · exact Int.min_le_left _ _
      · exact Int.le_trans (Int.min_le_right _ _) (h2 z hz)
theorem mx_mem : ∀ {ns : List Int}, ns ≠ [] → mxI ns ∈ ns ∧ ∀ y ∈ ns, y ≤ mxI ns
  | [], h => absurd rfl h
  | [x], _ => ⟨List.mem_singleton.mpr rfl, fun y hy => by rcases List.mem_singleton.mp hy with rfl; exact Int.le_refl _⟩
  | x :: y :: r, _ => by
    obtain ⟨h1, h2⟩ := mx_mem (ns := y :: r) (List.cons_ne_nil _ _)
    have e : mxI (x :: y :: r) = max x (mxI (y :: r)) := rfl
    rw [e]
    refine ⟨?_, fun z hz => ?_⟩
    · by_cases h : x ≤ mxI (y :: r)
      · rw [Int.max_eq_right h]
        exact List.mem_cons_of_mem _ h1
      · rw [Int.max_eq_left (by omega)]
        exact List.mem_cons_self
    · rcases List.mem_cons.mp hz with rfl | hz
      · exact Int.le_max_left _ _
      · exact Int.le_trans (h2 z hz) (Int.le_max_right _ _)
theorem dp_ints_eq : ∀ {us : List V} {ns : List Int}, DpAll K H us (ns.map PyData.int) → us = ns.map V.int
  | _, [], .nil => rfl
  | _, n :: ns, .cons h t => by
    cases dpInt h
    rw [dp_ints_eq t]
    rfl
theorem i_min {ns : List Int} {v : V} (h : Dp K H v (.list (ns.map PyData.int))) (hne : ns ≠ []) (q : Q (.int (mnI ns)) H) : rMin K [v] H Q := by
  obtain ⟨a, us, rfl, hs, ha⟩ := dpLst h
  rw [dp_ints_eq ha] at hs
  refine ⟨a, ns, rfl, hs, List.length_pos_iff.mpr hne, fun m h1 h2 => ?_⟩
  obtain ⟨h3, h4⟩ := mn_mem hne
  rw [Int.le_antisymm (h2 _ h3) (h4 _ h1)]
  exact q
theorem i_max {ns : List Int} {v : V} (h : Dp K H v (.list (ns.map PyData.int))) (hne : ns ≠ []) (q : Q (.int (mxI ns)) H) : rMax K [v] H Q := by
  obtain ⟨a, us, rfl, hs, ha⟩ := dpLst h
  rw [dp_ints_eq ha] at hs
  refine ⟨a, ns, rfl, hs, List.length_pos_iff.mpr hne, fun m h1 h2 => ?_⟩
  obtain ⟨h3, h4⟩ := mx_mem hne
  rw [Int.le_antisymm (h4 _ h1) (h2 _ h3)]
  exact q
theorem lc_fld {bs : List Bx} {v : V} {j : Nat} {vs : List Nat} {σ : L2.St} (h : Dp K H v (.list (bs.map bxD))) (hl : bs.length ≤ 1000) (f : Bx → Int) (k : Int) (hk : ∀ b : Bx, atI [PyData.int b.1, .int b.2.1, .int b.2.2.1, .int b.2.2.2] k = some (.int (f b)))
    (hσ : ∀ u, ((wipe σ vs).set j (some u))[j]? = some (some u)) (hw : ∀ u, wipe ((wipe σ vs).set j (some u)) vs = wipe σ vs)
    (q : ∀ p H2, H p = none → Ex H H2 → Dp K H2 (.ref p) (.list ((bs.map f).map PyData.int)) → Q (.ref p) H2) : tLc (iList K (tC v)) (gName j) tYes (tOp (rIxT K) (tVar j) (tC (.int k))) vs σ H Q := by
  refine i_lcGL (enc := bxD) (fun _ => true) (fun b => .int (f b)) h (by omega) (fun _ _ => rfl) (fun u x H2 R Y e2 hm hu hn hy => ?_) (fun p H2 hp e2 hd => q p H2 hp e2 ?_)
  · refine ⟨hw u, ?_⟩
    refine i_yes ?_
    refine (if_pos rfl).mpr ?_
    refine ⟨u, hσ u, ?_⟩
    refine i_ixTI (i := f x) hu (Ex.refl _) (hk x) ?_
    exact hy rfl _ _ (Ex.refl _) (Dp.int _)
  · rw [List.map_map]
    have e : (bs.filter fun _ => true) = bs := List.filter_eq_self.mpr fun _ _ => rfl
    rw [e] at hd
    exact hd
def sp_joint_in (K : PySem.W.Frag) : Sp := A1 fun v1 H Q => ∃ bs : List Bx, Dp K H v1 (.list (bs.map bxD)) ∧ bs ≠ [] ∧ bs.length ≤ 1000 ∧ Ret K (bxD (joint bs)) H Q
abbrev s_joint_in : Stmt := top 19
theorem sc_joint_in : FnScope ["boxes", "left", "bottom", "box"] ["boxes"] (defScope s_joint_in) := ⟨rfl, rfl, rfl, by decide +kernel, rfl, by decide +kernel, by decide +kernel⟩
theorem ok_joint_in {f : Addr} {fd : FuncData} (F : FnP K "joint_in" s_joint_in f fd) (g : G mg)   : FnOk P w K mg base CX0 1 f fd ["boxes"] (sp_joint_in K) := by
  have nd := sc_joint_in.nd
  refine F.ok sc_joint_in (fun vs H Q E h => h.len) (fun cdv A outer s H vs Q E hr h => ?_)
  obtain ⟨v1, rfl, h⟩ := h
  refine ⟨_, PSs.nox (pss_cons (ps_par (i := 1) (j := 2) (by rfl) nd rfl rfl (by decide) rfl rfl (pa_cons (pe_callB (cr_min rfl) (by rfl) g.f_min boot_min (pa_cons (pe_lc (own := [("box", 3)]) (g := gName 3) (by rfl) nd (pi_list (pv 0)) (blkOk_by (N := ["boxes", "left", "bottom", "box"]) (sc := defScope s_joint_in) (own := [("box", 3)]) (by decide +kernel)) (fun _ _ _ _ _ => (pg_name (i := 3) nd rfl (Or.inl rfl))) (fun _ _ _ _ _ => pts_nil) (fun _ _ _ _ _ => (pe_ix (show IxR _ (rIxT K) from ix_tup) (pv 3) pe_int (fun _ _ => rfl)))) pa_nil)) (pa_cons (pe_callB (cr_min rfl) (by rfl) g.f_min boot_min (pa_cons (pe_lc (own := [("box", 3)]) (g := gName 3) (by rfl) nd (pi_list (pv 0)) (blkOk_by (N := ["boxes", "left", "bottom", "box"]) (sc := defScope s_joint_in) (own := [("box", 3)]) (by decide +kernel)) (fun _ _ _ _ _ => (pg_name (i := 3) nd rfl (Or.inl rfl))) (fun _ _ _ _ _ => pts_nil) (fun _ _ _ _ _ => (pe_ix (show IxR _ (rIxT K) from ix_tup) (pv 3) pe_int (fun _ _ => rfl)))) pa_nil)) pa_nil)) (by rfl)) (pss_one (ps_ret (pe_tup (pa_cons (pv 1) (pa_cons (pv 2) (pa_cons (pe_callB (cr_max rfl) (by rfl) g.f_max boot_max (pa_cons (pe_lc (own := [("box", 3)]) (g := gName 3) (by rfl) nd (pi_list (pv 0)) (blkOk_by (N := ["boxes", "left", "bottom", "box"]) (sc := defScope s_joint_in) (own := [("box", 3)]) (by decide +kernel)) (fun _ _ _ _ _ => (pg_name (i := 3) nd rfl (Or.inl rfl))) (fun _ _ _ _ _ => pts_nil) (fun _ _ _ _ _ => (pe_ix (show IxR _ (rIxT K) from ix_tup) (pv 3) pe_int (fun _ _ => rfl)))) pa_nil)) (pa_cons (pe_callB (cr_max rfl) (by rfl) g.f_max boot_max (pa_cons (pe_lc (own := [("box", 3)]) (g := gName 3) (by rfl) nd (pi_list (pv 0)) (blkOk_by (N := ["boxes", "left", "bottom", "box"]) (sc := defScope s_joint_in) (own := [("box", 3)]) (by decide +kernel)) (fun _ _ _ _ _ => (pg_name (i := 3) nd rfl (Or.inl rfl))) (fun _ _ _ _ _ => pts_nil) (fun _ _ _ _ _ => (pe_ix (show IxR _ (rIxT K) from ix_tup) (pv 3) pe_int (fun _ _ => rfl)))) pa_nil)) pa_nil)))))))), ?_⟩
  obtain ⟨bs, h1, hne, hl, q⟩ := h
  have q2 : Ret K (.tuple [.int (mnI (bs.map (·.1))), .int (mnI (bs.map (·.2.1))), .int (mxI (bs.map (·.2.2.1))), .int (mxI (bs.map (·.2.2.2)))]) H Q := q
  clear q
  have n0 : ∀ f : Bx → Int, bs.map f ≠ [] := fun f e => hne (List.map_eq_nil_iff.mp e)
  wtm_at "go0"
  refine i_lcLU ?_
  wtm_at "go"
  refine lc_fld (bs := bs) (by wtm_at "dp") hl (·.1) 0 (fun _ => rfl) (fun _ => rfl) (fun _ => rfl) (fun p0 H2 hp0 e0 d0 => ?_)
  wtm_at "go"
  refine i_min d0 (n0 _) ?_
  wtm_at "go"
  refine i_lcLU ?_
  wtm_at "go"
  refine lc_fld (bs := bs) (by wtm_at "dp") hl (·.2.1) 1 (fun _ => rfl) (fun _ => rfl) (fun _ => rfl) (fun p1 H3 hp1 e1 d1 => ?_)
  wtm_at "go"
  refine i_min d1 (n0 _) ?_
  wtm_at "go"
  refine i_lcLU ?_
  wtm_at "go"
  refine lc_fld (bs := bs) (by wtm_at "dp") hl (·.2.2.1) 2 (fun _ => rfl) (fun _ => rfl) (fun _ => rfl) (fun p2 H4 hp2 e2 d2 => ?_)
  wtm_at "go"
  refine i_max d2 (n0 _) ?_
  wtm_at "go"
  refine i_lcLU ?_
  wtm_at "go"
  refine lc_fld (bs := bs) (by wtm_at "dp") hl (·.2.2.2) 3 (fun _ => rfl) (fun _ => rfl) (fun _ => rfl) (fun p3 H5 hp3 e3 d3 => ?_)
  wtm_at "go"
  refine i_max d3 (n0 _) ?_
  wtm_at "go"
  all_goals wtm_at "fin"
theorem use_joint_in {bs : List Bx} (h : Dp K H v1 (.list (bs.map bxD))) (hne : bs ≠ []) (hl : bs.length ≤ 1000) (q : ∀ v H2, Ex H H2 → Dp K H2 v (bxD (joint bs)) → Q v H2) : sp_joint_in K [v1] H Q E := ⟨_, rfl, bs, h, hne, hl, q⟩
def sp_has_size (K : PySem.W.Frag) : Sp := A2 fun v1 v2 H Q => ∃ (s : Str) (ds : List PyData) (l : Int), Dp K H v1 (.tuple [.str s, .tuple ds]) ∧ v2 = .int l ∧ Q (.bl (decide (l ≤ ds.length) && decide ((ds.length : Int) ≤ 4))) H
abbrev s_has_size : Stmt := top 36
theorem sc_has_size : FnScope ["form", "least"] ["form", "least"] (defScope s_has_size) := ⟨rfl, rfl, rfl, by decide +kernel, rfl, by decide +kernel, by decide +kernel⟩
theorem ok_has_size {f : Addr} {fd : FuncData} (F : FnP K "has_size" s_has_size f fd) (g : G mg)   : FnOk P w K mg base CX0 1 f fd ["form", "least"] (sp_has_size K) := by
  have nd := sc_has_size.nd
  refine F.ok sc_has_size (fun vs H Q E h => h.len) (fun cdv A outer s H vs Q E hr h => ?_)
  obtain ⟨v1, v2, rfl, h⟩ := h
  refine ⟨_, PSs.nox (pss_one (ps_ret (pe_chain op_le op_le (pv 1) (pe_callB call_qlen (by rfl) g.f_len boot_len (pa_cons (pe_ix ix_tup (pv 0) pe_int (fun _ _ => rfl)) pa_nil)) (pe_glob (v := .int 4) (by rfl) g.c_MOST.choose_spec ⟨_, rfl⟩)))), ?_⟩
  obtain ⟨s, ds, l, h1, rfl, q⟩ := h
  wtm_at "go0"
  all_goals (dsimp only; simpa only [*, decide_true, decide_false, Bool.and_true, Bool.true_and, Bool.and_false, Bool.false_and] using q)
theorem use_has_size {s : Str} {ds : List PyData} {l : Int} (h : Dp K H v1 (.tuple [.str s, .tuple ds])) (q : Q (.bl (decide (l ≤ ds.length) && decide ((ds.length : Int) ≤ 4))) H) : sp_has_size K [v1, .int l] H Q E := ⟨_, _, rfl, s, ds, l, h, rfl, q⟩
/-- box_at: an entry's box, a branch's box -/
def sp_box_at (K : PySem.W.Frag) : Sp := A2 fun v1 v2 H Q => ∃ (s : Str) (ds : List PyData) (a b : PyData), Dp K H v1 (.tuple [.str s, .tuple ds]) ∧ Dp K H v2 (.tuple [a, b]) ∧ (s = "leaf" → ∀ v, Dp K H v b → Q v H) ∧ ((s == ("leaf" : Str)) = false → ∀ v, Dp K H v a → Q v H)
abbrev s_box_at : Stmt := top 40
theorem sc_box_at : FnScope ["form", "item"] ["form", "item"] (defScope s_box_at) := ⟨rfl, rfl, rfl, by decide +kernel, rfl, by decide +kernel, by decide +kernel⟩
theorem ok_box_at {f : Addr} {fd : FuncData} (F : FnP K "box_at" s_box_at f fd) (g : G mg)   : FnOk P w K mg base CX0 1 f fd ["form", "item"] (sp_box_at K) := by
  have nd := sc_box_at.nd
  refine F.ok sc_box_at (fun vs H Q E h => h.len) (fun cdv A outer s H vs Q E hr h => ?_)
  obtain ⟨v1, v2, rfl, h⟩ := h
  refine ⟨_, PSs.nox (pss_one (ps_ret (pe_ifExp (pt_cmpR op_eq (pe_ix ix_tup (pv 0) pe_int (fun _ _ => rfl)) (pe_glob (v := .str "leaf") (by rfl) g.c_LEAF.choose_spec ⟨_, rfl⟩) (nomark _)) (pe_ix ix_tup (pv 1) pe_int (fun _ _ => rfl)) (pe_ix ix_tup (pv 1) pe_int (fun _ _ => rfl))))), ?_⟩
  obtain ⟨s, ds, a, b, h1, h2, q1, q2⟩ := h
  by_cases hs : s = ("leaf" : Str)
  · subst hs
    have q1 := q1 rfl
    wtm_at "go0"
    exact q1 _ (by assumption)
  · have hs' : (s == ("leaf" : Str)) = false := beq_eq_false_iff_ne.mpr hs
    have q2 := q2 hs'
    wtm_at "go0"
    refine i_eqSF hs' ?_
    wtm_at "go"
    exact q2 _ (by assumption)
end
end Wb

namespace Wb
open PySem PySem.Spec PyProof.Rows L2 StX
open Evl (Ex Ex.refl Ex.trans Ex.new)
local macro_rules | `(tactic| wtm_at "dp") => `(tactic| first | with_reducible assumption | with_reducible exact Dp.int _ | with_reducible exact Dp.bl _ | with_reducible exact Dp.str _ | with_reducible exact Dp.non | ((with_reducible refine' dpMono ?dme (by with_reducible assumption)); (case dme => wtm_at "ex")) | ((with_reducible refine' Dp.tup (Evl.st_of ?dph) ?dpa); (case dph => wtm_at "hs"); (case dpa => wtm_at "dpa")) | ((with_reducible refine' Dp.lst (Evl.sq_of ?dph) ?dpa); (case dph => wtm_at "hs"); (case dpa => wtm_at "dpa")))
local macro_rules | `(tactic| wtm_at "dpa") => `(tactic| first | with_reducible exact DpAll.nil | ((with_reducible refine' DpAll.cons ?dp1 ?dp2); (case dp1 => wtm_at "dp"); (case dp2 => wtm_at "dpa")) | with_reducible assumption | ((with_reducible refine' dpMonoA ?dme (by with_reducible assumption)); (case dme => wtm_at "ex")))
local macro_rules | `(tactic| wtm_at "sz") => `(tactic| first | with_reducible assumption | ((with_reducible refine' sz_mul ?sz1 ?sz2); (case sz1 => wtm_at "sz"); (case sz2 => wtm_at "sz")) | ((with_reducible refine' sz_add ?sz1 ?sz2); (case sz1 => wtm_at "sz"); (case sz2 => wtm_at "sz")) | ((with_reducible refine' sz_sub ?sz1 ?sz2); (case sz1 => wtm_at "sz"); (case sz2 => wtm_at "sz")) | ((with_reducible refine' sz_neg ?sz1); (case sz1 => wtm_at "sz")) | ((with_reducible refine' sz_div ?sz1); (case sz1 => wtm_at "sz")) | ((with_reducible refine' sz_fdiv ?sz1); (case sz1 => wtm_at "sz")) | exact sz_lit (by decide) | wtm_at "sz2")
local macro_rules | `(tactic| wtm_at "szb") => `(tactic| first | with_reducible assumption | ((with_reducible refine' sz_mono ?szb1 ?szb2); (case szb1 => wtm_at "sz"); (case szb2 => decide)))
local macro_rules | `(tactic| wtm_at "nz") => `(tactic| first | assumption | decide | omega)
local macro_rules | `(tactic| wtm_at "shaped") => `(tactic| first | rfl | decide)
local macro_rules | `(tactic| wtm_at "sset") => `(tactic| ((dsimp only [L2.wipe, List.set, List.set_cons_zero, List.set_cons_succ]) <;> exact rfl))
local macro_rules | `(tactic| wtm_at "nrm") => `(tactic| dsimp only [L2.start, L2.wipe, List.set, List.append, List.map, List.map_cons, List.map_nil, List.length_cons, List.length_nil, Nat.reduceAdd, Nat.reduceSub, List.reduceReplicate, List.replicate, List.cons_append, List.nil_append, List.set_cons_zero, List.set_cons_succ])
local macro_rules | `(tactic| wtm_at "st") => `(tactic| first
  | ((with_reducible refine' i_var (v := ?u0) ?u1 ?uq); (case u1 => exact rfl))
  | ((with_reducible refine' i_nameN ?u0 ?uq); (case u0 => wtm_at "sset"))
  | (with_reducible refine' i_op ?uq)
  | (with_reducible refine' i_c ?uq)
  | (with_reducible refine' i_I0 ?uq)
  | ((with_reducible refine' i_ixTI (i := ?u0) ?u1 ?u2 ?u3 ?uq); (case u1 => wtm_at "dp"); (case u2 => wtm_at "ex"); (case u3 => exact rfl))
  | ((with_reducible refine' i_ixT (d := ?u0) ?u1 ?u2 ?u3 (fun xu hxu => ?uq)); (case u1 => wtm_at "dp"); (case u2 => wtm_at "ex"); (case u3 => exact rfl))
  | ((with_reducible refine' i_mul ?u0 ?u1 ?u2 ?uq); (case u0 => wtm_at "sz"); (case u1 => wtm_at "sz"); (case u2 => first | decide | omega))
  | (with_reducible refine' i_seq ?uq)
  | (with_reducible refine' i_asg ?uq)
  | (with_reducible refine' i_ret ?uq)
  | (with_reducible refine' i_ifs ?uq)
  | (with_reducible refine' i_drop ?uq)
  | (with_reducible refine' i_next ?uq)
  | (with_reducible refine' i_cons ?uq)
  | (with_reducible refine' i_nil ?uq)
  | (with_reducible refine' i_cl ?uq)
  | (with_reducible refine' i_cb ?uq)
  | (with_reducible refine' i_tup ?uq)
  | (with_reducible refine' i_lst ?uq)
  | ((with_reducible refine' i_mkT ?u0 (fun np nH nhe nhp => ?uq)); (case u0 => exact Nat.le_of_ble_eq_true rfl))
  | (with_reducible refine' i_test ?uq)
  | (with_reducible refine' i_B ?uq)
  | (with_reducible refine' i_k ?uq)
  | (with_reducible refine' i_and ?uq)
  | (with_reducible refine' i_or ?uq)
  | (with_reducible refine' i_not ?uq)
  | (with_reducible refine' i_andV ?uq)
  | (with_reducible refine' i_orV ?uq)
  | (with_reducible refine' i_notV ?uq)
  | (with_reducible refine' i_if ?uq)
  | (with_reducible refine' i_un ?uq)
  | (with_reducible refine' i_U ?uq)
  | (with_reducible refine' i_iteT ?uq)
  | (with_reducible refine' i_iteF ?uq)
  | ((with_reducible refine' i_iteTr ?u0 ?uq); (case u0 => first | with_reducible rfl | decide | (simp only [dIsInt, dIsBool, dIsTup, dIsStr, dIsLst, Bool.not_true, Bool.not_false]; done)))
  | ((with_reducible refine' i_iteFr ?u0 ?uq); (case u0 => first | with_reducible rfl | decide | (simp only [dIsInt, dIsBool, dIsTup, dIsStr, dIsLst, Bool.not_true, Bool.not_false]; done)))
  | (with_reducible refine' i_ite (fun hif => ?uqa) (fun hif => ?uqb))
  | (with_reducible refine' i_iteN (fun hif => ?uqa) (fun hif => ?uqb))
  | (with_reducible refine' i_iteBN (fun hif => ?uqa) (fun hif => ?uqb))
  | (with_reducible refine' i_iteB (fun hif => ?uqa) (fun hif => ?uqb))
  | ((with_reducible refine' i_modN ?u0 ?uq); (case u0 => wtm_at "nz"))
  | ((with_reducible refine' i_fdX ?u0 ?u1 ?u2 ?uq); (case u0 => wtm_at "nz"); (case u1 => wtm_at "sz"); (case u2 => first | decide | omega))
  | ((with_reducible refine' i_pow ?u0 ?uq); (case u0 => exact ⟨by decide, by decide +kernel⟩))
  | (with_reducible refine' i_eqI ?uq)
  | (with_reducible refine' i_neI ?uq)
  | (with_reducible refine' i_gcd ?uq)
  | (with_reducible refine' i_qabs ?uq)
  | (with_reducible refine' i_qint ?uq)
  | (with_reducible refine' i_qintB ?uq)
  | (with_reducible refine' i_qmax2 ?uq)
  | (with_reducible refine' i_qmin2 ?uq)
  | (with_reducible refine' i_isB ?uq)
  | (with_reducible refine' i_notB ?uq)
  | (with_reducible refine' i_chain ?uq)
  | (with_reducible refine' i_qisN ?uq)
  | (with_reducible refine' i_qnotN ?uq)
  | (with_reducible refine' i_yes ?uq)
  | (with_reducible refine' i_par ?uq)
  | (with_reducible refine' i_par3 ?uq)
  | ((with_reducible refine' i_par2 ?u0 ?uq); (case u0 => wtm_at "sset"))
  | ((with_reducible refine' i_par33 ?u0 ?uq); (case u0 => wtm_at "sset"))
  | ((with_reducible refine' i_ixLI (i := ?u0) ?u1 ?u2 ?u3 ?uq); (case u1 => wtm_at "dp"); (case u2 => wtm_at "ex"); (case u3 => exact rfl))
  | ((with_reducible refine' i_ixL (d := ?u0) ?u1 ?u2 ?u3 (fun xu hxu => ?uq)); (case u1 => wtm_at "dp"); (case u2 => wtm_at "ex"); (case u3 => exact rfl))
  | ((with_reducible refine' i_qlenT ?u0 ?uq); (case u0 => wtm_at "dp"))
  | ((with_reducible refine' i_qlenL ?u0 ?uq); (case u0 => wtm_at "dp"))
  | ((with_reducible refine' i_gtup ?u0 ?u1 ?u2 (fun gvs gdp => ?uq)); (case u0 => wtm_at "dp"); (case u1 => wtm_at "ex"); (case u2 => exact rfl))
  | ((with_reducible refine' i_glst ?u0 ?u1 ?u2 (fun gvs gdp => ?uq)); (case u0 => wtm_at "dp"); (case u1 => wtm_at "ex"); (case u2 => exact rfl))
  | ((with_reducible refine' i_gconsI ?u0 (fun gr gh => ?uq)); (case u0 => with_reducible assumption))
  | ((with_reducible refine' i_gconsA ?u0 (fun gv gr gh1 gh2 => ?uq)); (case u0 => with_reducible assumption))
  | ((with_reducible refine' i_gnilA ?u0 ?uq); (case u0 => with_reducible assumption))
  | ((with_reducible refine' i_isiI ?u0 ?uq); (case u0 => wtm_at "dp"))
  | ((with_reducible refine' i_isiB ?u0 ?uq); (case u0 => wtm_at "dp"))
  | ((with_reducible refine' i_isiT ?u0 ?uq); (case u0 => wtm_at "dp"))
  | ((with_reducible refine' i_isiS ?u0 ?uq); (case u0 => wtm_at "dp"))
  | ((with_reducible refine' i_isiL ?u0 ?uq); (case u0 => wtm_at "dp"))
  | ((with_reducible refine' i_eqD ?u0 ?u1 ?u2 ?u3 ?uq); (case u0 => wtm_at "dp"); (case u1 => wtm_at "dp"); (case u2 => wtm_at "shaped"); (case u3 => wtm_at "shaped"))
  | ((with_reducible refine' i_neD ?u0 ?u1 ?u2 ?u3 ?uq); (case u0 => wtm_at "dp"); (case u1 => wtm_at "dp"); (case u2 => wtm_at "shaped"); (case u3 => wtm_at "shaped"))
  | wtm_at "st2"
  | wtm_at "use")
local macro_rules | `(tactic| wtm_at "go") => `(tactic| repeat' (wtm_at "st"))
local macro_rules | `(tactic| wtm_at "go0") => `(tactic| ((try dsimp only [L2.cxOf, L2.Cx.nox, L2.Cx.wish, L2.Cx.tr, L2.Cx.blk]); (try wtm_at "nrm"); wtm_at "go"))
local macro_rules | `(tactic| wtm_at "fin") => `(tactic| ((try dsimp only); first | with_reducible assumption | assumption | ((with_reducible refine' Ret.use ?rur ?rue ?rud); (case rur => with_reducible assumption); (case rue => wtm_at "ex"); (case rud => wtm_at "dp"))))
local macro_rules | `(tactic| wtm_at "exh") => `(tactic| first | with_reducible assumption | with_reducible exact Ex.refl _ | with_reducible exact ex_hid | ((with_reducible refine' Ex.trans ?exe (by with_reducible assumption)); (case exe => wtm_at "exh")) | ((with_reducible refine' Ex.trans ?exe (hid_ex (by with_reducible assumption))); (case exe => wtm_at "exh")))
local macro_rules | `(tactic| wtm_at "ex") => `(tactic| first | with_reducible assumption | with_reducible exact Ex.refl _ | with_reducible exact ex_hid | ((with_reducible refine' Ex.trans ?exe (by with_reducible assumption)); (case exe => wtm_at "ex")) | ((with_reducible refine' Ex.trans ?exe (hid_ex (by with_reducible assumption))); (case exe => wtm_at "ex")) | ((with_reducible refine' Ex.trans ?exe ex_hid); (case exe => wtm_at "exh")))
local macro_rules | `(tactic| wtm_at "bag") => `(tactic| first | with_reducible assumption | ((with_reducible refine' Bag.mono ?bgm (by with_reducible assumption)); (case bgm => wtm_at "bag")))
local macro_rules | `(tactic| wtm_at "hs") => `(tactic| first | with_reducible assumption | ((with_reducible refine' hid_tup ?hb ?hp); (case hp => with_reducible assumption); (case hb => wtm_at "bag")) | ((with_reducible refine' hid_new ?hb ?hn ?hp); (case hp => with_reducible assumption); (case hn => with_reducible assumption); (case hb => wtm_at "bag")) | ((with_reducible refine' ex_at ?exe (by with_reducible assumption)); (case exe => wtm_at "ex")))
local macro_rules | `(tactic| wtm_at "st2") => `(tactic| first
  | ((with_reducible refine' i_mulC ?u0 ?uq); (case u0 => first | exact cmul_l (by decide) | exact cmul_r (by decide)))
  | ((with_reducible refine' i_ixLr (v := ?u0) ?u1 ?u2 ?uq); (case u1 => with_reducible assumption); (case u2 => exact rfl))
  | (with_reducible refine' i_sub ?uq)
  | ((with_reducible refine' i_mkL ?u0 (fun np nH nfr nhe nhp => ?uq)); (case u0 => exact Nat.le_of_ble_eq_true rfl))
  | ((with_reducible refine' i_setL (n := ?u0) ?u1 ?u2 (fun sH sh se => ?uq)); (case u1 => with_reducible assumption); (case u2 => exact rfl))
  | (with_reducible refine' i_sl ?uq)
  | (with_reducible refine' i_nopart ?uq)
  | (with_reducible refine' i_part ?uq)
  | (with_reducible refine' i_part1 ?uq))
local macro_rules | `(tactic| wtm_at "sz2") => `(tactic| ((with_reducible refine' sz_fmod ?sz1 ?sz2); (case sz1 => wtm_at "nz"); (case sz2 => wtm_at "sz")))
local macro_rules | `(tactic| wtm_at "stb") => `(tactic| first
  | ((with_reducible refine' i_mkTB ?u0 ?u1 (fun np nH nhe nhb nhp => ?uq)); (case u0 => exact Nat.le_of_ble_eq_true rfl); (case u1 => wtm_at "bag"))
  | ((with_reducible refine' i_mkLB ?u0 ?u1 (fun np nH nfr nhe nhb nhp => ?uq)); (case u0 => exact Nat.le_of_ble_eq_true rfl); (case u1 => wtm_at "bag"))
  | wtm_at "st")
local macro_rules | `(tactic| wtm_at "gob") => `(tactic| repeat' (wtm_at "stb"))
local macro_rules | `(tactic| wtm_at "gob0") => `(tactic| ((try dsimp only [L2.cxOf, L2.Cx.nox, L2.Cx.wish, L2.Cx.tr, L2.Cx.blk]); (try wtm_at "nrm"); wtm_at "gob"))
local macro_rules | `(tactic| wtm_at "use") => `(tactic| ((with_reducible refine' use_is_integer ?u0 ?uq); (case u0 => wtm_at "dp")))
local macro_rules | `(tactic| wtm_at "use") => `(tactic| ((with_reducible refine' use_is_box ?u0 ?u1 (fun uH ue => ?uq)); (case u0 => wtm_at "dp"); (case u1 => with_reducible assumption)))
local macro_rules | `(tactic| wtm_at "use") => `(tactic| ((with_reducible refine' use_require_box ?u0 ?u1 (fun uH ue => ?uq)); (case u0 => wtm_at "dp"); (case u1 => with_reducible assumption)))
local macro_rules | `(tactic| wtm_at "use") => `(tactic| ((with_reducible refine' use_do_meet_in ?u0 ?u1 ?uq); (case u0 => wtm_at "dp"); (case u1 => wtm_at "dp")))
local macro_rules | `(tactic| wtm_at "use") => `(tactic| ((with_reducible refine' use_apart_word ?u0 ?u1 ?uq); (case u0 => wtm_at "dp"); (case u1 => wtm_at "dp")))
section
variable {P : Program} {w : World} {K : PySem.W.Frag} {mg : Str → Option Value} {base : Heap} {H H' : Hp} {Q : VK} {E : XK} {v1 v2 v3 v4 v5 : V}
theorem use_is_entry {e : En} (h : Dp K H v1 (enD e)) (ho : e.2.ok) (q : ∀ H2, Ex H H2 → Q (.bl true) H2) : sp_is_entry K [v1] H Q E := ⟨_, rfl, e, h, ho, ret_bl q⟩
theorem i_ninT {a : Addr} {xs : List V} {x : V} {b : Bool} (h : H a = some (.tup xs)) (hx : flatV x = true) (hs : xs.all flatV = true) (e : (!inV x xs) = b) (q : Q (.bl b) H) : rIn K true x (.ref a) H Q := by
  subst e
  exact ⟨a, xs, rfl, .inr (Evl.st_of h), hx, hs, q⟩
local macro_rules | `(tactic| wtm_at "use") => `(tactic| (first | ((with_reducible refine' use_is_entry ?u0 ?u1 (fun uH ue => ?uq)); (case u0 => wtm_at "dp"); (case u1 => with_reducible assumption)) | fail))
local macro_rules | `(tactic| wtm_at "use") => `(tactic| (first | ((with_reducible refine' use_has_size ?u0 ?uq); (case u0 => wtm_at "dp")) | fail))
local macro_rules | `(tactic| wtm_at "uent") => `(tactic| ((with_reducible refine' use_entries_in ?u00 ?u0 ?u1 ?u2 ?uq); (case u1 => wtm_at "dp"); (case u00 => omega); (case u0 => omega); (case u2 => with_reducible assumption)))
local macro_rules | `(tactic| wtm_at "uent") => `(tactic| ((with_reducible refine' use_depths_in ?u00 ?u0 ?u1 ?u2 ?uq); (case u1 => wtm_at "dp"); (case u00 => omega); (case u0 => omega); (case u2 => with_reducible assumption)))
local macro_rules | `(tactic| wtm_at "uent") => `(tactic| ((with_reducible refine' use_forms_in ?u00 ?u0 ?u1 ?u2 ?uq); (case u1 => wtm_at "dp"); (case u00 => omega); (case u0 => omega); (case u2 => with_reducible assumption)))
local macro_rules | `(tactic| wtm_at "uent") => `(tactic| ((with_reducible refine' use_branches_in ?u00 ?u0 ?u1 ?u2 ?uq); (case u1 => wtm_at "dp"); (case u00 => omega); (case u0 => omega); (case u2 => with_reducible assumption)))
local macro_rules | `(tactic| wtm_at "st") => `(tactic| first | ((with_reducible refine' i_ixTS (z := ?u0) ?u1 ?u2 ?u3 ?uq); (case u1 => wtm_at "dp"); (case u2 => wtm_at "ex"); (case u3 => exact rfl)) | fail)
local macro_rules | `(tactic| wtm_at "st2") => `(tactic| first | ((with_reducible refine' i_eqST ?u0 ?uq); (case u0 => with_reducible rfl)) | ((with_reducible refine' i_eqSF ?u0 ?uq); (case u0 => decide +kernel)) | ((with_reducible refine' i_neST ?u0 ?uq); (case u0 => with_reducible rfl)) | ((with_reducible refine' i_neSF ?u0 ?uq); (case u0 => decide +kernel)) | fail)
/-- boxes that are boxes -/
def Bok : (n : Nat) → Fo n → Prop
  | 0, t => ∀ e ∈ foL t, e.2.ok
  | n + 1, t => ∀ p ∈ foB t, p.1.ok ∧ Bok n p.2
def sp_is_built (K : PySem.W.Frag) (n : Nat) : Sp := A1 fun v1 H Q => ∃ m, m < n ∧ m ≤ 3 ∧ ∃ t : Fo m, Dp K H v1 (foD m t) ∧ Sm m t ∧ Bok m t ∧ Ret K (.bool true) H Q
def sp_is_branch (K : PySem.W.Frag) (n : Nat) : Sp := A1 fun v1 H Q => ∃ m, m < n ∧ m ≤ 3 ∧ ∃ p : Bx × Fo m, Dp K H v1 (brD m p) ∧ p.1.ok ∧ Sm m p.2 ∧ Bok m p.2 ∧ Ret K (.bool true) H Q
theorem use_is_built {n m : Nat} {t : Fo m} (hlt : m < n) (hn : m ≤ 3) (h : Dp K H v1 (foD m t)) (hs : Sm m t) (hb : Bok m t) (q : ∀ H2, Ex H H2 → Q (.bl true) H2) : sp_is_built K n [v1] H Q E := ⟨_, rfl, m, hlt, hn, t, h, hs, hb, ret_bl q⟩
theorem use_is_branch {n m : Nat} {p : Bx × Fo m} (hlt : m < n) (hn : m ≤ 3) (h : Dp K H v1 (brD m p)) (ho : p.1.ok) (hs : Sm m p.2) (hb : Bok m p.2) (q : ∀ H2, Ex H H2 → Q (.bl true) H2) : sp_is_branch K n [v1] H Q E := ⟨_, rfl, m, hlt, hn, p, h, ho, hs, hb, ret_bl q⟩
theorem layA {k : Nat} : ∀ {ds : List PyData}, (∀ d ∈ ds, PyData.canLay0 d = true ∧ PyData.depth d ≤ k) → PyData.canLayAll0 ds = true ∧ PyData.depthAll ds ≤ k
  | [], _ => ⟨rfl, Nat.zero_le _⟩
  | d :: ds, h => by
    obtain ⟨h1, h2⟩ := h d List.mem_cons_self
    obtain ⟨h3, h4⟩ := layA (k := k) fun x hx => h x (List.mem_cons_of_mem _ hx)
    exact ⟨by show (PyData.canLay0 d && PyData.canLayAll0 ds) = true; rw [h1, h3]; rfl, by show max (PyData.depth d) (PyData.depthAll ds) ≤ k; omega⟩
theorem shp_list {k : Nat} {ds : List PyData} (hk : k ≤ 63) (h : ∀ d ∈ ds, PyData.canLay0 d = true ∧ PyData.depth d ≤ k) : SeqAt.shaped (.list ds) = true := by
  obtain ⟨h1, h2⟩ := layA h
  unfold SeqAt.shaped
  have e1 : PyData.canLay0 (.list ds) = true := h1
  have e2 : PyData.depth (.list ds) ≤ 64 := by
    show PyData.depthAll ds + 1 ≤ 64
    omega
  rw [e1, decide_eq_true e2]
  rfl
theorem shp_tup {k : Nat} {ds : List PyData} (hk : k ≤ 63) (h : ∀ d ∈ ds, PyData.canLay0 d = true ∧ PyData.depth d ≤ k) : SeqAt.shaped (.tuple ds) = true := by
  obtain ⟨h1, h2⟩ := layA h
  unfold SeqAt.shaped
  have e1 : PyData.canLay0 (.tuple ds) = true := h1
  have e2 : PyData.depth (.tuple ds) ≤ 64 := by
    show PyData.depthAll ds + 1 ≤ 64
    omega
  rw [e1, decide_eq_true e2]
  rfl
theorem lay_bx (b : Bx) : PyData.canLay0 (bxD b) = true ∧ PyData.depth (bxD b) ≤ 1 := ⟨rfl, Nat.le_of_ble_eq_true rfl⟩
theorem shp_bx (b : Bx) : SeqAt.shaped (bxD b) = true := rfl
theorem shp_bxs (bs : List Bx) : SeqAt.shaped (.list (bs.map bxD)) = true := shp_list (k := 1) (by decide) fun d hd => by
  obtain ⟨b, _, rfl⟩ := List.mem_map.mp hd
  exact lay_bx b
theorem eqv_self {d : PyData} (h : SeqAt.shaped d = true) : PyData.eqv d d = true := SeqAt.eqv_refl d (SeqAt.canLay_of_shaped h)
theorem i_allT {α : Type} {xs : List α} {v : V} (h : Dp K H v (.list (xs.map fun _ => .bool true))) (q : Q (.bl true) H) : rAll K [v] H Q := by
  refine i_all (bs := xs.map fun _ => true) h (by rw [List.map_map]; rfl) ?_
  have e : (xs.map fun _ => true).all id = true := by
    rw [List.all_map]
    exact List.all_eq_true.mpr fun _ _ => rfl
  rw [e]
  exact q
abbrev s_is_branch : Stmt := top 31
theorem sc_is_branch : FnScope ["value"] ["value"] (defScope s_is_branch) := ⟨rfl, rfl, rfl, by decide +kernel, rfl, by decide +kernel, by decide +kernel⟩
theorem ok_is_branch {f : Addr} {fd : FuncData} (F : FnP K "is_branch" s_is_branch f fd) (g : G mg) {n : Nat} (c_is_box : Cl P w K mg base 2 "is_box" (sp_is_box K)) (c_is_built : Cl P w K mg base (2 * n + 2) "is_built" (sp_is_built K n)) : FnOk P w K mg base CX0 (2 * n + 3) f fd ["value"] (sp_is_branch K n) := by
  have nd := sc_is_branch.nd
  refine F.ok sc_is_branch (fun vs H Q E h => h.len) (fun cdv A outer s H vs Q E hr h => ?_)
  obtain ⟨v1, rfl, h⟩ := h
  refine ⟨_, PSs.nox (pss_one (ps_ret (pe_and (pe_callB call_isi (by rfl) g.f_isinstance boot_isinstance (pa_cons (pv 0) (pa_cons (pe_bltn (v := .ty "tuple") (by rfl) g.f_tuple boot_tuple rfl) pa_nil))) (pe_and (pe_cmpR op_eq (pe_callB call_qlen (by rfl) g.f_len boot_len (pa_cons (pv 0) pa_nil)) pe_int (nomark _)) (pe_and (pc c_is_box hr (by first | decide | omega) (by rfl) (pa_cons (pe_ix ix_tup (pv 0) pe_int (fun _ _ => rfl)) pa_nil)) (pe_one (pc c_is_built hr (by first | decide | omega) (by rfl) (pa_cons (pe_ix ix_tup (pv 0) pe_int (fun _ _ => rfl)) pa_nil)))))))), ?_⟩
  obtain ⟨m, e, hn, ⟨b, t⟩, h1, ho, hs, hb, q⟩ := h
  unfold brD at h1
  dsimp only at h1 ho hs hb
  wtm_at "go0"
  · refine use_is_built (by omega) (by omega) (by wtm_at "dp") hs hb (fun H2 e2 => ?_)
    exact Ret.bl q (by wtm_at "ex")
  · rename_i hz
    exact absurd rfl hz
abbrev s_is_built : Stmt := top 30
theorem sc_is_built : FnScope ["value", "one"] ["value"] (defScope s_is_built) := ⟨rfl, rfl, rfl, by decide +kernel, rfl, by decide +kernel, by decide +kernel⟩
theorem ok_is_built {f : Addr} {fd : FuncData} (F : FnP K "is_built" s_is_built f fd) (g : G mg) {n : Nat} (c_is_entry : Cl P w K mg base 3 "is_entry" (sp_is_entry K)) (c_is_branch : Cl P w K mg base (2 * n + 3) "is_branch" (sp_is_branch K n)) : FnOk P w K mg base CX0 (2 * n + 4) f fd ["value"] (sp_is_built K (n + 1)) := by
  have nd := sc_is_built.nd
  refine F.ok sc_is_built (fun vs H Q E h => h.len) (fun cdv A outer s H vs Q E hr h => ?_)
  obtain ⟨v1, rfl, h⟩ := h
  refine ⟨_, PSs.nox (pss_cons (ps_if (PW.pt (pw_or (pt_not (pt_val (pe_callB call_isi (by rfl) g.f_isinstance boot_isinstance (pa_cons (pv 0) (pa_cons (pe_bltn (v := .ty "tuple") (by rfl) g.f_tuple boot_tuple rfl) pa_nil))))) (pw_or (pt_cmpR op_ne (pe_callB call_qlen (by rfl) g.f_len boot_len (pa_cons (pv 0) pa_nil)) pe_int (nomark _)) (pw_or1 (pt_not (pt_val (pe_callB call_isi (by rfl) g.f_isinstance boot_isinstance (pa_cons (pe_ix ix_tup (pv 0) pe_int (fun _ _ => rfl)) (pa_cons (pe_bltn (v := .ty "tuple") (by rfl) g.f_tuple boot_tuple rfl) pa_nil))))))))) (pss_one (ps_ret pe_bl)) pss_nil) (pss_cons (ps_if (PW.pt (pw_or (pt_not (pt_val (pe_callB call_isi (by rfl) g.f_isinstance boot_isinstance (pa_cons (pe_ix ix_tup (pv 0) pe_int (fun _ _ => rfl)) (pa_cons (pe_bltn (v := .ty "str") (by rfl) g.f_str boot_str rfl) pa_nil))))) (pw_or1 (pt_cmpR op_notIn_seq (pe_ix ix_tup (pv 0) pe_int (fun _ _ => rfl)) (pe_tup (pa_cons (pe_glob (v := .str "leaf") (by rfl) g.c_LEAF.choose_spec ⟨_, rfl⟩) (pa_cons (pe_glob (v := .str "node") (by rfl) g.c_NODE.choose_spec ⟨_, rfl⟩) pa_nil))) (by rfl))))) (pss_one (ps_ret pe_bl)) pss_nil) (pss_cons (ps_if (pt_cmpR op_eq (pe_ix ix_tup (pv 0) pe_int (fun _ _ => rfl)) (pe_glob (v := .str "leaf") (by rfl) g.c_LEAF.choose_spec ⟨_, rfl⟩) (nomark _)) (pss_one (ps_ret (pe_callB (cr_all rfl) (by rfl) g.f_all boot_all (pa_cons (pe_lc (own := [("one", 1)]) (g := gName 1) (by rfl) nd (pi_tup (pe_ix ix_tup (pv 0) pe_int (fun _ _ => rfl))) (blkOk_by (N := ["value", "one"]) (sc := defScope s_is_built) (own := [("one", 1)]) (by decide +kernel)) (fun _ _ _ _ _ => (pg_name (i := 1) nd rfl (Or.inl rfl))) (fun _ _ _ _ _ => pts_nil) (fun _ _ _ _ _ => (pc c_is_entry hr (by first | decide | omega) (by rfl) (pa_cons (pv 1) pa_nil)))) pa_nil)))) pss_nil) (pss_one (ps_ret (pe_callB (cr_all rfl) (by rfl) g.f_all boot_all (pa_cons (pe_lc (own := [("one", 1)]) (g := gName 1) (by rfl) nd (pi_tup (pe_ix ix_tup (pv 0) pe_int (fun _ _ => rfl))) (blkOk_by (N := ["value", "one"]) (sc := defScope s_is_built) (own := [("one", 1)]) (by decide +kernel)) (fun _ _ _ _ _ => (pg_name (i := 1) nd rfl (Or.inl rfl))) (fun _ _ _ _ _ => pts_nil) (fun _ _ _ _ _ => (pc c_is_branch hr (by first | decide | omega) (by rfl) (pa_cons (pv 1) pa_nil)))) pa_nil))))))), ?_⟩
  obtain ⟨m, e, hn, t, h1, hs, hb, q⟩ := h
  cases m with
  | zero =>
    unfold foD at h1
    wtm_at "go0"
    · rename_i hz
      exact absurd rfl hz
    rename_i nH nhe nhp
    refine i_ninT (b := false) nhp rfl rfl (by decide +kernel) ?_
    wtm_at "go"
    refine i_lcTU ?_
    wtm_at "go"
    rename_i xu hx
    refine i_lcGT (enc := enD) (xs := foL t) (fun _ => true) (fun _ => .bool true) (dpMono nhe hx) (by have : (foL t).length ≤ 4 := hs; omega) (fun _ _ => rfl) (fun u x H2 R Y e2 hm hu hn hy => ?_) (fun p H2 hp e2 hl => ?_)
    · refine ⟨rfl, ?_⟩
      have ho := hb x hm
      wtm_at "nrm"
      wtm_at "go"
      exact hy rfl _ _ (by wtm_at "ex") (Dp.bl _)
    · wtm_at "go"
      refine i_allT hl ?_
      wtm_at "go"
      exact Ret.bl q (by wtm_at "ex")
  | succ m =>
    unfold foD at h1
    wtm_at "go0"
    · rename_i hz
      exact absurd rfl hz
    rename_i nH nhe nhp
    refine i_ninT (b := false) nhp rfl rfl (by decide +kernel) ?_
    wtm_at "go"
    refine i_lcTU ?_
    wtm_at "go"
    rename_i xu hx
    refine i_lcGT (enc := brD m) (xs := foB t) (fun _ => true) (fun _ => .bool true) (dpMono nhe hx) (by have : (foB t).length ≤ 4 := hs.1; omega) (fun _ _ => rfl) (fun u x H2 R Y e2 hm hu hn hy => ?_) (fun p H2 hp e2 hl => ?_)
    · refine ⟨rfl, ?_⟩
      obtain ⟨ho, hb2⟩ := hb x hm
      have hs2 := hs.2 x hm
      wtm_at "nrm"
      wtm_at "go"
      refine use_is_branch (p := x) (by omega) (by omega) (by wtm_at "dp") ho hs2 hb2 (fun H3 e3 => ?_)
      exact hy rfl _ _ (by wtm_at "ex") (Dp.bl _)
    · wtm_at "go"
      refine i_allT hl ?_
      wtm_at "go"
      exact Ret.bl q (by wtm_at "ex")
def sp_has_box (K : PySem.W.Frag) (n : Nat) : Sp := A1 fun v1 H Q => ∃ m, m < n ∧ m ≤ 3 ∧ ∃ p : Bx × Fo m, Dp K H v1 (brD m p) ∧ Sm m p.2 ∧ p.1 = joint ((ents m p.2).map (·.2)) ∧ ents m p.2 ≠ [] ∧ Ret K (.bool true) H Q
theorem use_has_box {n m : Nat} {p : Bx × Fo m} (hlt : m < n) (hn : m ≤ 3) (h : Dp K H v1 (brD m p)) (hs : Sm m p.2) (ho : p.1 = joint ((ents m p.2).map (·.2))) (hne : ents m p.2 ≠ []) (q : ∀ H2, Ex H H2 → Q (.bl true) H2) : sp_has_box K n [v1] H Q E := ⟨_, rfl, m, hlt, hn, p, h, hs, ho, hne, ret_bl q⟩
abbrev s_has_box : Stmt := top 37
theorem sc_has_box : FnScope ["branch", "boxes", "number", "box"] ["branch"] (defScope s_has_box) := ⟨rfl, rfl, rfl, by decide +kernel, rfl, by decide +kernel, by decide +kernel⟩
theorem ok_has_box {f : Addr} {fd : FuncData} (F : FnP K "has_box" s_has_box f fd) (g : G mg) {n : Nat} (c_entries_in : Cl P w K mg base n "entries_in" (sp_entries_in K n)) (c_joint_in : Cl P w K mg base 1 "joint_in" (sp_joint_in K)) : FnOk P w K mg base CX0 (n + 2) f fd ["branch"] (sp_has_box K n) := by
  have nd := sc_has_box.nd
  refine F.ok sc_has_box (fun vs H Q E h => h.len) (fun cdv A outer s H vs Q E hr h => ?_)
  obtain ⟨v1, rfl, h⟩ := h
  refine ⟨_, PSs.nox (pss_cons (ps_setLc (i := 1) (own := [("number", 2), ("box", 3)]) (g := _) (by rfl) nd rfl rfl (sw_true rfl rfl rfl (by decide +kernel)) (pi_list (pc c_entries_in hr (by first | decide | omega) (by rfl) (pa_cons (pe_ix ix_tup (pv 0) pe_int (fun _ _ => rfl)) pa_nil))) (blkOk_by (N := ["branch", "boxes", "number", "box"]) (sc := defScope s_has_box) (own := [("number", 2), ("box", 3)]) (by decide +kernel)) (fun _ _ _ _ _ => (show PG _ _ (gTup K 2 _) from (pg_tup (by rfl) (pgs_cons (pg_name (i := 2) nd rfl (Or.inl rfl)) (pgs_cons (pg_name (i := 3) nd rfl (Or.inl rfl)) pgs_nil))))) (fun _ _ _ _ _ => pts_nil) (fun _ _ _ _ _ => (pv 3))) (pss_one (ps_ret (pe_and (pe_cmpR (op_neD hr.units) (pv 1) (pe_lst pa_nil) (nomark _)) (pe_one (pe_cmpR (op_eqD hr.units) (pe_ix ix_tup (pv 0) pe_int (fun _ _ => rfl)) (pc c_joint_in hr (by first | decide | omega) (by rfl) (pa_cons (pv 1) pa_nil)) (nomark _))))))), ?_⟩
  obtain ⟨m, e, hn, ⟨b, t⟩, h1, hs, ho, hne, q⟩ := h
  unfold brD at h1
  dsimp only at h1 hs ho hne
  wtm_at "go0"
  refine i_lcLU ?_
  wtm_at "go"
  wtm_at "uent"
  intro p H3 hp3 e3 hl3
  have hlen : (ents m t).length ≤ 1000 := by
    have := ents_len m t hs
    have h4 : 4 ^ (m + 1) ≤ 256 := by
      have hm : m = 0 ∨ m = 1 ∨ m = 2 ∨ m = 3 := by omega
      rcases hm with rfl | rfl | rfl | rfl <;> decide
    omega
  refine i_lcGL (enc := enD) (xs := ents m t) (fun _ => true) (fun e => bxD e.2) hl3 (by omega) (fun x _ => noL_bx x.2) (fun u x H2 R Y e2 hm hu hn hy => ?_) (fun p2 H4 hp4 e4 hl => ?_)
  · unfold enD at hu
    wtm_at "nrm"
    wtm_at "go"
    refine ⟨rfl, ?_⟩
    wtm_at "go"
    exact hy rfl _ _ (Ex.refl _) (by assumption)
  have hl2 : Dp K H4 (.ref p2) (.list (((ents m t).map (·.2)).map bxD)) := by
    rw [List.map_map]
    have e : ((ents m t).filter fun _ => true) = ents m t := List.filter_eq_self.mpr fun _ _ => rfl
    rw [e] at hl
    exact hl
  clear hl
  generalize hbs : (ents m t).map (·.2) = bs at *
  have hnb : bs ≠ [] := fun z => hne (List.map_eq_nil_iff.mp (hbs.trans z))
  have hlb : bs.length ≤ 1000 := by rw [← hbs, List.length_map]; exact hlen
  wtm_at "nrm"
  wtm_at "go"
  rename_i nH nfr nhe nhp
  refine i_neD (dpMono nhe hl2) (.lst (Evl.sq_of nhp) .nil) (shp_bxs bs) rfl ?_
  have en : (!PyData.eqv (.list (bs.map bxD)) (.list [])) = true := by
    cases bs with
    | nil => exact absurd rfl hnb
    | cons b r => rfl
  rw [en]
  wtm_at "go"
  rename_i xu hxu
  refine use_joint_in (bs := bs) (by wtm_at "dp") hnb hlb (fun v5 H5 e5 hd5 => ?_)
  refine i_eqD (dpMono ((e3.trans e4).trans (nhe.trans e5)) hxu) hd5 (shp_bx _) (shp_bx _) ?_
  rw [ho, eqv_self (shp_bx _)]
  exact Ret.bl q (by wtm_at "ex")
end
end Wb

/-! dict comprehensions over typed lists: the keys -/
namespace Wb
open PySem PySem.Spec PyProof.Rows L2 
open Evl (Ex Ex.refl Ex.trans Ex.new)
theorem putK_mem {kvs : List (Key × V)} {k j : Key} {v : V} : j ∈ (putK kvs k v).map (·.1) ↔ j ∈ kvs.map (·.1) ∨ j = k := by
  unfold putK
  split
  · rename_i h
    obtain ⟨p, hp, e⟩ := List.any_eq_true.mp h
    have e := of_decide_eq_true e
    have e2 : ((kvs.map fun kv => if kv.1 = k then (kv.1, v) else kv).map (·.1)) = kvs.map (·.1) := by
      rw [List.map_map]
      refine List.map_congr_left fun q _ => ?_
      show (if q.1 = k then (q.1, v) else q).1 = q.1
      split <;> rfl
    rw [e2]
    constructor
    · exact .inl
    · rintro (h | rfl)
      · exact h
      · exact List.mem_map.mpr ⟨p, hp, e⟩
  · rw [List.map_append, List.mem_append]
    constructor
    · rintro (h | h)
      · exact .inl h
      · exact .inr (List.mem_singleton.mp h)
    · rintro (h | rfl)
      · exact .inl h
      · exact .inr (List.mem_singleton.mpr rfl)
theorem putK_nodup {kvs : List (Key × V)} {k : Key} {v : V} (h : (kvs.map (·.1)).Nodup) : ((putK kvs k v).map (·.1)).Nodup := by
  unfold putK
  split
  · have e2 : ((kvs.map fun kv => if kv.1 = k then (kv.1, v) else kv).map (·.1)) = kvs.map (·.1) := by
      rw [List.map_map]
      refine List.map_congr_left fun q _ => ?_
      show (if q.1 = k then (q.1, v) else q).1 = q.1
      split <;> rfl
    rw [e2]
    exact h
  · rename_i hn
    rw [List.map_append]
    refine List.nodup_append.mpr ⟨h, by simp, fun a ha b hb e => ?_⟩
    have hb : b = k := List.mem_singleton.mp hb
    subst hb
    subst e
    obtain ⟨p, hp, e⟩ := List.mem_map.mp ha
    exact hn (List.any_eq_true.mpr ⟨p, hp, decide_eq_true e⟩)
section
variable {K : PySem.W.Frag} {H H' : Hp} {Q : VK} {v : V} {σ : L2.St} {vs : List Nat} {tk tv : TE} {tt : TT} {g : TG} {α : Type} {enc : α → PyData} {xs : List α}
theorem i_dcU {tl : TE} (q : tl σ H fun x H1 => tDc (iList K (tC x)) g tt tk tv vs σ H1 Q) : tDc (iList K tl) g tt tk tv vs σ H Q := q
theorem i_dcK (kf : α → Key) (h : Dp K H v (.list (xs.map enc))) (hl : xs.length ≤ 1000)
    (ht : ∀ (u : V) (x : α) (H2 : Hp) (R : Hp → Prop) (Y : V → V → Hp → Prop), Ex H H2 → x ∈ xs → Dp K H2 u (enc x) → (∀ z H3, Ex H2 H3 → Y (kV (kf x)) z H3) →
      g u (wipe σ vs) H2 fun σ2 H3 => wipe σ2 vs = wipe σ vs ∧ tt σ2 H3 fun b H4 => if b = true then tk σ2 H4 fun y H5 => tv σ2 H5 fun z H6 => Y y z H6 else R H4)
    (q : ∀ D H2 kvs, H D = none → Ex H H2 → H2 D = some (.dK kvs) → (kvs.map (·.1)).Nodup → (∀ k, k ∈ kvs.map (·.1) ↔ k ∈ xs.map kf) → Q (.ref D) H2) : tDc (iList K (tC v)) g tt tk tv vs σ H Q := by
  obtain ⟨a, us, rfl, hs, ha⟩ := dpLst h
  have el : us.length = xs.length := by rw [dpLen ha, List.length_map]
  refine ⟨a, rfl, ⟨us, hs⟩, fun D hD => ?_⟩
  refine ⟨fun i m H5 => m = us.length - i ∧ i ≤ us.length ∧ Ex H H5 ∧ ∃ kvs, H5 D = some (.dK kvs) ∧ kvs.length ≤ i ∧ (kvs.map (·.1)).Nodup ∧ ∀ k, k ∈ kvs.map (·.1) ↔ k ∈ (xs.take i).map kf, ⟨us.length, by simp, Nat.zero_le _, Ex.new hD, [], upd_same, Nat.zero_le _, by simp, by simp⟩, ?_⟩
  rintro i m H5 ⟨rfl, hi, e5, kvs, hd, hk, hn, hm⟩
  have hs5 := Evl.ex_l e5 hs
  by_cases hlt : i < us.length
  · refine .inr ⟨⟨us, us[i], hs5, by simp [hlt]⟩, fun H6 => Ex H H6 ∧ ∃ kvs, H6 D = some (.dK kvs) ∧ kvs.length ≤ i + 1 ∧ (kvs.map (·.1)).Nodup ∧ ∀ k, k ∈ kvs.map (·.1) ↔ k ∈ (xs.take (i + 1)).map kf, fun H6 p' => ⟨us.length - (i + 1), by omega, rfl, hlt, p'⟩, fun u H6 y => ?_⟩
    obtain ⟨e, y⟩ := y
    subst e
    have hx := y us hs5
    obtain ⟨d, hd1, hu⟩ := dpIdx ha hx
    rw [List.getElem?_map] at hd1
    obtain ⟨z, hz, rfl⟩ := Option.map_eq_some_iff.mp hd1
    have ht1 : xs.take (i + 1) = xs.take i ++ [z] := by rw [List.take_add_one, hz]; rfl
    refine ht u z H6 _ _ e5 (List.mem_of_getElem? hz) (dpMono e5 hu) fun w H7 e7 => ?_
    refine ⟨kvs, kf z, rfl, e7 _ _ hd, Evl.sz_lt (by omega), Evl.Ex.mut (e5.trans e7) hD, putK kvs (kf z) w, upd_same, ?_, putK_nodup hn, fun k => ?_⟩
    · have := length_putK kvs (kf z) w
      omega
    · rw [putK_mem, hm k, ht1, List.map_append, List.mem_append]
      constructor
      · rintro (h | rfl)
        · exact .inl h
        · exact .inr (List.mem_singleton.mpr rfl)
      · rintro (h | h)
        · exact .inl h
        · exact .inr (List.mem_singleton.mp h)
  · have e : i = us.length := by omega
    subst e
    refine .inl ⟨⟨us, hs5, Nat.le_refl _⟩, ?_⟩
    rw [el, List.take_length] at hm
    exact q D H5 kvs hD e5 hd hn hm
def qLenD : List V → Hp → VK → Prop := fun xs H Q => ∃ a kvs, xs = [V.ref a] ∧ H a = some (.dK kvs) ∧ Q (.int kvs.length) H
theorem call_qlenD {X : Cx} : CallR X (.builtin "len") qLenD := call_lenD
theorem i_qlenD {a : Addr} {kvs : List (Key × V)} (h : H a = some (.dK kvs)) (q : Q (.int kvs.length) H) : qLenD [.ref a] H Q := ⟨a, kvs, rfl, h, q⟩
end
theorem keys_nodup {α : Type} {ks : List Key} {xs : List α} {kf : α → Key} (hn : ks.Nodup) (hm : ∀ k, k ∈ ks ↔ k ∈ xs.map kf) (hx : (xs.map kf).Nodup) : ks.length = xs.length := by
  have p : ks.Perm (xs.map kf) := (List.perm_ext_iff_of_nodup hn hx).mpr hm
  rw [p.length_eq, List.length_map]
theorem keys_one {α : Type} {ks : List Key} {xs : List α} {kf : α → Key} {k0 : Key} (hn : ks.Nodup) (hm : ∀ k, k ∈ ks ↔ k ∈ xs.map kf) (h : ∀ x ∈ xs, kf x = k0) : ks.length ≤ 1 := by
  match ks, hn, hm with
  | [], _, _ => exact Nat.zero_le _
  | [_], _, _ => exact Nat.le_refl _
  | a :: b :: r, hn, hm =>
    exfalso
    have h1 : a = k0 := by
      obtain ⟨x, hx, e⟩ := List.mem_map.mp ((hm a).mp List.mem_cons_self)
      rw [← e, h x hx]
    have h2 : b = k0 := by
      obtain ⟨x, hx, e⟩ := List.mem_map.mp ((hm b).mp (List.mem_cons_of_mem _ List.mem_cons_self))
      rw [← e, h x hx]
    have := (List.nodup_cons.mp hn).1
    exact this (by rw [h1, h2]; exact List.mem_cons_self)
end Wb

namespace Wb
open PySem PySem.Spec PyProof.Rows L2 StX
open Evl (Ex Ex.refl Ex.trans Ex.new)
local macro_rules | `(tactic| wtm_at "dp") => `(tactic| first | with_reducible assumption | with_reducible exact Dp.int _ | with_reducible exact Dp.bl _ | with_reducible exact Dp.str _ | with_reducible exact Dp.non | ((with_reducible refine' dpMono ?dme (by with_reducible assumption)); (case dme => wtm_at "ex")) | ((with_reducible refine' Dp.tup (Evl.st_of ?dph) ?dpa); (case dph => wtm_at "hs"); (case dpa => wtm_at "dpa")) | ((with_reducible refine' Dp.lst (Evl.sq_of ?dph) ?dpa); (case dph => wtm_at "hs"); (case dpa => wtm_at "dpa")))
local macro_rules | `(tactic| wtm_at "dpa") => `(tactic| first | with_reducible exact DpAll.nil | ((with_reducible refine' DpAll.cons ?dp1 ?dp2); (case dp1 => wtm_at "dp"); (case dp2 => wtm_at "dpa")) | with_reducible assumption | ((with_reducible refine' dpMonoA ?dme (by with_reducible assumption)); (case dme => wtm_at "ex")))
local macro_rules | `(tactic| wtm_at "sz") => `(tactic| first | with_reducible assumption | ((with_reducible refine' sz_mul ?sz1 ?sz2); (case sz1 => wtm_at "sz"); (case sz2 => wtm_at "sz")) | ((with_reducible refine' sz_add ?sz1 ?sz2); (case sz1 => wtm_at "sz"); (case sz2 => wtm_at "sz")) | ((with_reducible refine' sz_sub ?sz1 ?sz2); (case sz1 => wtm_at "sz"); (case sz2 => wtm_at "sz")) | ((with_reducible refine' sz_neg ?sz1); (case sz1 => wtm_at "sz")) | ((with_reducible refine' sz_div ?sz1); (case sz1 => wtm_at "sz")) | ((with_reducible refine' sz_fdiv ?sz1); (case sz1 => wtm_at "sz")) | exact sz_lit (by decide) | wtm_at "sz2")
local macro_rules | `(tactic| wtm_at "szb") => `(tactic| first | with_reducible assumption | ((with_reducible refine' sz_mono ?szb1 ?szb2); (case szb1 => wtm_at "sz"); (case szb2 => decide)))
local macro_rules | `(tactic| wtm_at "nz") => `(tactic| first | assumption | decide | omega)
local macro_rules | `(tactic| wtm_at "shaped") => `(tactic| first | rfl | decide)
local macro_rules | `(tactic| wtm_at "sset") => `(tactic| ((dsimp only [L2.wipe, List.set, List.set_cons_zero, List.set_cons_succ]) <;> exact rfl))
local macro_rules | `(tactic| wtm_at "nrm") => `(tactic| dsimp only [L2.start, L2.wipe, List.set, List.append, List.map, List.map_cons, List.map_nil, List.length_cons, List.length_nil, Nat.reduceAdd, Nat.reduceSub, List.reduceReplicate, List.replicate, List.cons_append, List.nil_append, List.set_cons_zero, List.set_cons_succ])
local macro_rules | `(tactic| wtm_at "st") => `(tactic| first
  | ((with_reducible refine' i_var (v := ?u0) ?u1 ?uq); (case u1 => exact rfl))
  | ((with_reducible refine' i_nameN ?u0 ?uq); (case u0 => wtm_at "sset"))
  | (with_reducible refine' i_op ?uq)
  | (with_reducible refine' i_c ?uq)
  | (with_reducible refine' i_I0 ?uq)
  | ((with_reducible refine' i_ixTI (i := ?u0) ?u1 ?u2 ?u3 ?uq); (case u1 => wtm_at "dp"); (case u2 => wtm_at "ex"); (case u3 => exact rfl))
  | ((with_reducible refine' i_ixT (d := ?u0) ?u1 ?u2 ?u3 (fun xu hxu => ?uq)); (case u1 => wtm_at "dp"); (case u2 => wtm_at "ex"); (case u3 => exact rfl))
  | ((with_reducible refine' i_mul ?u0 ?u1 ?u2 ?uq); (case u0 => wtm_at "sz"); (case u1 => wtm_at "sz"); (case u2 => first | decide | omega))
  | (with_reducible refine' i_seq ?uq)
  | (with_reducible refine' i_asg ?uq)
  | (with_reducible refine' i_ret ?uq)
  | (with_reducible refine' i_ifs ?uq)
  | (with_reducible refine' i_drop ?uq)
  | (with_reducible refine' i_next ?uq)
  | (with_reducible refine' i_cons ?uq)
  | (with_reducible refine' i_nil ?uq)
  | (with_reducible refine' i_cl ?uq)
  | (with_reducible refine' i_cb ?uq)
  | (with_reducible refine' i_tup ?uq)
  | (with_reducible refine' i_lst ?uq)
  | ((with_reducible refine' i_mkT ?u0 (fun np nH nhe nhp => ?uq)); (case u0 => exact Nat.le_of_ble_eq_true rfl))
  | (with_reducible refine' i_test ?uq)
  | (with_reducible refine' i_B ?uq)
  | (with_reducible refine' i_k ?uq)
  | (with_reducible refine' i_and ?uq)
  | (with_reducible refine' i_or ?uq)
  | (with_reducible refine' i_not ?uq)
  | (with_reducible refine' i_andV ?uq)
  | (with_reducible refine' i_orV ?uq)
  | (with_reducible refine' i_notV ?uq)
  | (with_reducible refine' i_if ?uq)
  | (with_reducible refine' i_un ?uq)
  | (with_reducible refine' i_U ?uq)
  | (with_reducible refine' i_iteT ?uq)
  | (with_reducible refine' i_iteF ?uq)
  | ((with_reducible refine' i_iteTr ?u0 ?uq); (case u0 => first | with_reducible rfl | decide | (simp only [dIsInt, dIsBool, dIsTup, dIsStr, dIsLst, Bool.not_true, Bool.not_false]; done)))
  | ((with_reducible refine' i_iteFr ?u0 ?uq); (case u0 => first | with_reducible rfl | decide | (simp only [dIsInt, dIsBool, dIsTup, dIsStr, dIsLst, Bool.not_true, Bool.not_false]; done)))
  | (with_reducible refine' i_ite (fun hif => ?uqa) (fun hif => ?uqb))
  | (with_reducible refine' i_iteN (fun hif => ?uqa) (fun hif => ?uqb))
  | (with_reducible refine' i_iteBN (fun hif => ?uqa) (fun hif => ?uqb))
  | (with_reducible refine' i_iteB (fun hif => ?uqa) (fun hif => ?uqb))
  | ((with_reducible refine' i_modN ?u0 ?uq); (case u0 => wtm_at "nz"))
  | ((with_reducible refine' i_fdX ?u0 ?u1 ?u2 ?uq); (case u0 => wtm_at "nz"); (case u1 => wtm_at "sz"); (case u2 => first | decide | omega))
  | ((with_reducible refine' i_pow ?u0 ?uq); (case u0 => exact ⟨by decide, by decide +kernel⟩))
  | (with_reducible refine' i_eqI ?uq)
  | (with_reducible refine' i_neI ?uq)
  | (with_reducible refine' i_gcd ?uq)
  | (with_reducible refine' i_qabs ?uq)
  | (with_reducible refine' i_qint ?uq)
  | (with_reducible refine' i_qintB ?uq)
  | (with_reducible refine' i_qmax2 ?uq)
  | (with_reducible refine' i_qmin2 ?uq)
  | (with_reducible refine' i_isB ?uq)
  | (with_reducible refine' i_notB ?uq)
  | (with_reducible refine' i_chain ?uq)
  | (with_reducible refine' i_qisN ?uq)
  | (with_reducible refine' i_qnotN ?uq)
  | (with_reducible refine' i_yes ?uq)
  | (with_reducible refine' i_par ?uq)
  | (with_reducible refine' i_par3 ?uq)
  | ((with_reducible refine' i_par2 ?u0 ?uq); (case u0 => wtm_at "sset"))
  | ((with_reducible refine' i_par33 ?u0 ?uq); (case u0 => wtm_at "sset"))
  | ((with_reducible refine' i_ixLI (i := ?u0) ?u1 ?u2 ?u3 ?uq); (case u1 => wtm_at "dp"); (case u2 => wtm_at "ex"); (case u3 => exact rfl))
  | ((with_reducible refine' i_ixL (d := ?u0) ?u1 ?u2 ?u3 (fun xu hxu => ?uq)); (case u1 => wtm_at "dp"); (case u2 => wtm_at "ex"); (case u3 => exact rfl))
  | ((with_reducible refine' i_qlenT ?u0 ?uq); (case u0 => wtm_at "dp"))
  | ((with_reducible refine' i_qlenL ?u0 ?uq); (case u0 => wtm_at "dp"))
  | ((with_reducible refine' i_gtup ?u0 ?u1 ?u2 (fun gvs gdp => ?uq)); (case u0 => wtm_at "dp"); (case u1 => wtm_at "ex"); (case u2 => exact rfl))
  | ((with_reducible refine' i_glst ?u0 ?u1 ?u2 (fun gvs gdp => ?uq)); (case u0 => wtm_at "dp"); (case u1 => wtm_at "ex"); (case u2 => exact rfl))
  | ((with_reducible refine' i_gconsI ?u0 (fun gr gh => ?uq)); (case u0 => with_reducible assumption))
  | ((with_reducible refine' i_gconsA ?u0 (fun gv gr gh1 gh2 => ?uq)); (case u0 => with_reducible assumption))
  | ((with_reducible refine' i_gnilA ?u0 ?uq); (case u0 => with_reducible assumption))
  | ((with_reducible refine' i_isiI ?u0 ?uq); (case u0 => wtm_at "dp"))
  | ((with_reducible refine' i_isiB ?u0 ?uq); (case u0 => wtm_at "dp"))
  | ((with_reducible refine' i_isiT ?u0 ?uq); (case u0 => wtm_at "dp"))
  | ((with_reducible refine' i_isiS ?u0 ?uq); (case u0 => wtm_at "dp"))
  | ((with_reducible refine' i_isiL ?u0 ?uq); (case u0 => wtm_at "dp"))
  | ((with_reducible refine' i_eqD ?u0 ?u1 ?u2 ?u3 ?uq); (case u0 => wtm_at "dp"); (case u1 => wtm_at "dp"); (case u2 => wtm_at "shaped"); (case u3 => wtm_at "shaped"))
  | ((with_reducible refine' i_neD ?u0 ?u1 ?u2 ?u3 ?uq); (case u0 => wtm_at "dp"); (case u1 => wtm_at "dp"); (case u2 => wtm_at "shaped"); (case u3 => wtm_at "shaped"))
  | wtm_at "st2"
  | wtm_at "use")
local macro_rules | `(tactic| wtm_at "go") => `(tactic| repeat' (wtm_at "st"))
local macro_rules | `(tactic| wtm_at "go0") => `(tactic| ((try dsimp only [L2.cxOf, L2.Cx.nox, L2.Cx.wish, L2.Cx.tr, L2.Cx.blk]); (try wtm_at "nrm"); wtm_at "go"))
local macro_rules | `(tactic| wtm_at "fin") => `(tactic| ((try dsimp only); first | with_reducible assumption | assumption | ((with_reducible refine' Ret.use ?rur ?rue ?rud); (case rur => with_reducible assumption); (case rue => wtm_at "ex"); (case rud => wtm_at "dp"))))
local macro_rules | `(tactic| wtm_at "exh") => `(tactic| first | with_reducible assumption | with_reducible exact Ex.refl _ | with_reducible exact ex_hid | ((with_reducible refine' Ex.trans ?exe (by with_reducible assumption)); (case exe => wtm_at "exh")) | ((with_reducible refine' Ex.trans ?exe (hid_ex (by with_reducible assumption))); (case exe => wtm_at "exh")))
local macro_rules | `(tactic| wtm_at "ex") => `(tactic| first | with_reducible assumption | with_reducible exact Ex.refl _ | with_reducible exact ex_hid | ((with_reducible refine' Ex.trans ?exe (by with_reducible assumption)); (case exe => wtm_at "ex")) | ((with_reducible refine' Ex.trans ?exe (hid_ex (by with_reducible assumption))); (case exe => wtm_at "ex")) | ((with_reducible refine' Ex.trans ?exe ex_hid); (case exe => wtm_at "exh")))
local macro_rules | `(tactic| wtm_at "bag") => `(tactic| first | with_reducible assumption | ((with_reducible refine' Bag.mono ?bgm (by with_reducible assumption)); (case bgm => wtm_at "bag")))
local macro_rules | `(tactic| wtm_at "hs") => `(tactic| first | with_reducible assumption | ((with_reducible refine' hid_tup ?hb ?hp); (case hp => with_reducible assumption); (case hb => wtm_at "bag")) | ((with_reducible refine' hid_new ?hb ?hn ?hp); (case hp => with_reducible assumption); (case hn => with_reducible assumption); (case hb => wtm_at "bag")) | ((with_reducible refine' ex_at ?exe (by with_reducible assumption)); (case exe => wtm_at "ex")))
local macro_rules | `(tactic| wtm_at "st2") => `(tactic| first
  | ((with_reducible refine' i_mulC ?u0 ?uq); (case u0 => first | exact cmul_l (by decide) | exact cmul_r (by decide)))
  | ((with_reducible refine' i_ixLr (v := ?u0) ?u1 ?u2 ?uq); (case u1 => with_reducible assumption); (case u2 => exact rfl))
  | (with_reducible refine' i_sub ?uq)
  | ((with_reducible refine' i_mkL ?u0 (fun np nH nfr nhe nhp => ?uq)); (case u0 => exact Nat.le_of_ble_eq_true rfl))
  | ((with_reducible refine' i_setL (n := ?u0) ?u1 ?u2 (fun sH sh se => ?uq)); (case u1 => with_reducible assumption); (case u2 => exact rfl))
  | (with_reducible refine' i_sl ?uq)
  | (with_reducible refine' i_nopart ?uq)
  | (with_reducible refine' i_part ?uq)
  | (with_reducible refine' i_part1 ?uq))
local macro_rules | `(tactic| wtm_at "sz2") => `(tactic| ((with_reducible refine' sz_fmod ?sz1 ?sz2); (case sz1 => wtm_at "nz"); (case sz2 => wtm_at "sz")))
local macro_rules | `(tactic| wtm_at "stb") => `(tactic| first
  | ((with_reducible refine' i_mkTB ?u0 ?u1 (fun np nH nhe nhb nhp => ?uq)); (case u0 => exact Nat.le_of_ble_eq_true rfl); (case u1 => wtm_at "bag"))
  | ((with_reducible refine' i_mkLB ?u0 ?u1 (fun np nH nfr nhe nhb nhp => ?uq)); (case u0 => exact Nat.le_of_ble_eq_true rfl); (case u1 => wtm_at "bag"))
  | wtm_at "st")
local macro_rules | `(tactic| wtm_at "gob") => `(tactic| repeat' (wtm_at "stb"))
local macro_rules | `(tactic| wtm_at "gob0") => `(tactic| ((try dsimp only [L2.cxOf, L2.Cx.nox, L2.Cx.wish, L2.Cx.tr, L2.Cx.blk]); (try wtm_at "nrm"); wtm_at "gob"))
local macro_rules | `(tactic| wtm_at "use") => `(tactic| ((with_reducible refine' use_is_integer ?u0 ?uq); (case u0 => wtm_at "dp")))
local macro_rules | `(tactic| wtm_at "use") => `(tactic| ((with_reducible refine' use_is_box ?u0 ?u1 (fun uH ue => ?uq)); (case u0 => wtm_at "dp"); (case u1 => with_reducible assumption)))
local macro_rules | `(tactic| wtm_at "use") => `(tactic| ((with_reducible refine' use_require_box ?u0 ?u1 (fun uH ue => ?uq)); (case u0 => wtm_at "dp"); (case u1 => with_reducible assumption)))
local macro_rules | `(tactic| wtm_at "use") => `(tactic| ((with_reducible refine' use_do_meet_in ?u0 ?u1 ?uq); (case u0 => wtm_at "dp"); (case u1 => wtm_at "dp")))
local macro_rules | `(tactic| wtm_at "use") => `(tactic| ((with_reducible refine' use_apart_word ?u0 ?u1 ?uq); (case u0 => wtm_at "dp"); (case u1 => wtm_at "dp")))
local macro_rules | `(tactic| wtm_at "use") => `(tactic| (first | ((with_reducible refine' use_is_entry ?u0 ?u1 (fun uH ue => ?uq)); (case u0 => wtm_at "dp"); (case u1 => with_reducible assumption)) | fail))
local macro_rules | `(tactic| wtm_at "use") => `(tactic| (first | ((with_reducible refine' use_has_size ?u0 ?uq); (case u0 => wtm_at "dp")) | fail))
local macro_rules | `(tactic| wtm_at "uent") => `(tactic| ((with_reducible refine' use_entries_in ?u00 ?u0 ?u1 ?u2 ?uq); (case u1 => wtm_at "dp"); (case u00 => omega); (case u0 => omega); (case u2 => with_reducible assumption)))
local macro_rules | `(tactic| wtm_at "uent") => `(tactic| ((with_reducible refine' use_depths_in ?u00 ?u0 ?u1 ?u2 ?uq); (case u1 => wtm_at "dp"); (case u00 => omega); (case u0 => omega); (case u2 => with_reducible assumption)))
local macro_rules | `(tactic| wtm_at "uent") => `(tactic| ((with_reducible refine' use_forms_in ?u00 ?u0 ?u1 ?u2 ?uq); (case u1 => wtm_at "dp"); (case u00 => omega); (case u0 => omega); (case u2 => with_reducible assumption)))
local macro_rules | `(tactic| wtm_at "uent") => `(tactic| ((with_reducible refine' use_branches_in ?u00 ?u0 ?u1 ?u2 ?uq); (case u1 => wtm_at "dp"); (case u00 => omega); (case u0 => omega); (case u2 => with_reducible assumption)))
local macro_rules | `(tactic| wtm_at "st") => `(tactic| first | ((with_reducible refine' i_ixTS (z := ?u0) ?u1 ?u2 ?u3 ?uq); (case u1 => wtm_at "dp"); (case u2 => wtm_at "ex"); (case u3 => exact rfl)) | fail)
local macro_rules | `(tactic| wtm_at "st2") => `(tactic| first | ((with_reducible refine' i_eqST ?u0 ?uq); (case u0 => with_reducible rfl)) | ((with_reducible refine' i_eqSF ?u0 ?uq); (case u0 => decide +kernel)) | ((with_reducible refine' i_neST ?u0 ?uq); (case u0 => with_reducible rfl)) | ((with_reducible refine' i_neSF ?u0 ?uq); (case u0 => decide +kernel)) | fail)
section
variable {P : Program} {w : World} {K : PySem.W.Frag} {mg : Str → Option Value} {base : Heap} {H H' : Hp} {Q : VK} {E : XK} {v1 v2 v3 v4 v5 : V}
theorem foD_eq : ∀ (n : Nat) (t : Fo n), ∃ (s : Str) (ds : List PyData), foD n t = .tuple [.str s, .tuple ds] ∧ ds.length = foSz n t ∧ ((n = 0 ∧ s = "leaf") ∨ (0 < n ∧ s = "node"))
  | 0, t => ⟨"leaf", (foL t).map enD, rfl, List.length_map _, .inl ⟨rfl, rfl⟩⟩
  | n + 1, t => ⟨"node", (foB t).map fun p => .tuple [bxD p.1, foD n p.2], rfl, List.length_map _, .inr ⟨Nat.succ_pos n, rfl⟩⟩
theorem ents_ne : ∀ (n : Nat) (t : Fo n), 2 ≤ foSz n t → Right n t → ents n t ≠ []
  | 0, t, h, _ => fun e => by
    have e' : foL t = [] := e
    have h' : 2 ≤ (foL t).length := h
    rw [e'] at h'
    exact absurd h' (Nat.not_succ_le_zero 1)
  | n + 1, t, h, r => fun e => by
    have e' : ((foB t).flatMap fun p => ents n p.2) = [] := e
    have h' : 2 ≤ (foB t).length := h
    cases q : foB t with
    | nil =>
      rw [q] at h'
      exact absurd h' (Nat.not_succ_le_zero 1)
    | cons p r2 =>
      obtain ⟨r1, r2, r3, r4⟩ := r p (by rw [q]; exact List.mem_cons_self)
      rw [q, List.flatMap_cons] at e'
      exact ents_ne n p.2 r2 r4 (List.append_eq_nil_iff.mp e').1
theorem brns_in : ∀ (n : Nat) (t : Fo n), Right n t → Sm n t → ∀ d ∈ brns n t, ∃ (k : Nat) (p : Bx × Fo k), k < n ∧ d = brD k p ∧ Sm k p.2 ∧ p.1 = joint ((ents k p.2).map (·.2)) ∧ ents k p.2 ≠ []
  | 0, _, _, _, _, h => by cases h
  | n + 1, t, r, s, d, h => by
    obtain ⟨p, hp, h⟩ := List.mem_flatMap.mp h
    obtain ⟨r1, r2, r3, r4⟩ := r p hp
    rcases List.mem_cons.mp h with rfl | h
    · exact ⟨n, p, Nat.lt_succ_self n, rfl, s.2 p hp, r1, ents_ne n p.2 r2 r4⟩
    · obtain ⟨k, q, h1, h2⟩ := brns_in n p.2 r4 (s.2 p hp) d h
      exact ⟨k, q, Nat.lt_succ_of_lt h1, h2⟩
theorem subs_in : ∀ (n : Nat) (t : Fo n), Right n t → ∀ d ∈ subs n t, ∃ (s : Str) (ds : List PyData), d = .tuple [.str s, .tuple ds] ∧ 2 ≤ ds.length ∧ ds.length ≤ 4
  | 0, _, _, _, h => by cases h
  | n + 1, t, r, d, h => by
    obtain ⟨p, hp, h⟩ := List.mem_flatMap.mp h
    obtain ⟨r1, r2, r3, r4⟩ := r p hp
    rcases List.mem_cons.mp h with rfl | h
    · obtain ⟨s, ds, e, hl, _⟩ := foD_eq n p.2
      exact ⟨s, ds, e, by omega, by omega⟩
    · exact subs_in n p.2 r4 d h
theorem deps_all : ∀ (n : Nat) (t : Fo n), ∀ x ∈ deps n t, x = (n : Int) + 1
  | 0, _, x, h => by
    rcases List.mem_singleton.mp h with rfl
    rfl
  | n + 1, t, x, h => by
    obtain ⟨p, _, h⟩ := List.mem_flatMap.mp h
    obtain ⟨y, hy, rfl⟩ := List.mem_map.mp h
    rw [deps_all n p.2 y hy]
    omega
theorem nodup_inl : ∀ {ns : List Int}, ns.Nodup → (ns.map fun i => (Sum.inl i : Key)).Nodup
  | [], _ => by simp
  | n :: ns, h => by
    obtain ⟨h1, h2⟩ := List.nodup_cons.mp h
    rw [List.map_cons]
    refine List.nodup_cons.mpr ⟨fun q => ?_, nodup_inl h2⟩
    obtain ⟨x, hx, e⟩ := List.mem_map.mp q
    cases e
    exact h1 hx
def sp_flaws_of (K : PySem.W.Frag) (n : Nat) : Sp := A1 fun v1 H Q => ∃ m, m < n ∧ m ≤ 3 ∧ ∃ t : Fo m, Dp K H v1 (foD m t) ∧ Sm m t ∧ Bok m t ∧ Right m t ∧ (0 < m → 2 ≤ foSz m t) ∧ foSz m t ≤ 4 ∧ ((ents m t).map (·.1)).Nodup ∧ RetL K [] H Q
abbrev s_flaws_of : Stmt := top 38
theorem sc_flaws_of : FnScope ["value", "found", "numbers", "least", "number", "box", "branch", "depth", "one"] ["value"] (defScope s_flaws_of) := ⟨rfl, rfl, rfl, by decide +kernel, rfl, by decide +kernel, by decide +kernel⟩
theorem ok_flaws_of {f : Addr} {fd : FuncData} (F : FnP K "flaws_of" s_flaws_of f fd) (g : G mg) {n : Nat} (c_is_built : Cl P w K mg base (2 * n + 2) "is_built" (sp_is_built K n)) (c_entries_in : Cl P w K mg base n "entries_in" (sp_entries_in K n)) (c_has_box : Cl P w K mg base (n + 2) "has_box" (sp_has_box K n)) (c_branches_in : Cl P w K mg base n "branches_in" (sp_branches_in K n)) (c_depths_in : Cl P w K mg base n "depths_in" (sp_depths_in K n)) (c_has_size : Cl P w K mg base 1 "has_size" (sp_has_size K)) (c_forms_in : Cl P w K mg base n "forms_in" (sp_forms_in K n)) : FnOk P w K mg base CX0 (2 * n + 3) f fd ["value"] (sp_flaws_of K n) := by
  have nd := sc_flaws_of.nd
  refine F.ok sc_flaws_of (fun vs H Q E h => h.len) (fun cdv A outer s H vs Q E hr h => ?_)
  obtain ⟨v1, rfl, h⟩ := h
  refine ⟨_, PSs.nox (pss_cons (ps_if (pt_not (pt_val (pc c_is_built hr (by first | decide | omega) (by rfl) (pa_cons (pv 0) pa_nil)))) (pss_one (ps_ret (pe_lst (pa_cons pe_str pa_nil)))) pss_nil) (pss_cons (ps_par (i := 1) (j := 2) (by rfl) nd rfl rfl (by decide) rfl rfl (pa_cons (pe_lst pa_nil) (pa_cons (pe_lc (own := [("number", 4), ("box", 5)]) (g := _) (by rfl) nd (pi_list (pc c_entries_in hr (by first | decide | omega) (by rfl) (pa_cons (pv 0) pa_nil))) (blkOk_by (N := ["value", "found", "numbers", "least", "number", "box", "branch", "depth", "one"]) (sc := defScope s_flaws_of) (own := [("number", 4), ("box", 5)]) (by decide +kernel)) (fun _ _ _ _ _ => (show PG _ _ (gTup K 2 _) from (pg_tup (by rfl) (pgs_cons (pg_name (i := 4) nd rfl (Or.inl rfl)) (pgs_cons (pg_name (i := 5) nd rfl (Or.inl rfl)) pgs_nil))))) (fun _ _ _ _ _ => pts_nil) (fun _ _ _ _ _ => (pv 4))) pa_nil)) (by rfl)) (pss_cons (ps_if (pt_not (pt_val (pe_callB (cr_all rfl) (by rfl) g.f_all boot_all (pa_cons (pe_lc (own := [("branch", 6)]) (g := gName 6) (by rfl) nd (pi_list (pc c_branches_in hr (by first | decide | omega) (by rfl) (pa_cons (pv 0) pa_nil))) (blkOk_by (N := ["value", "found", "numbers", "least", "number", "box", "branch", "depth", "one"]) (sc := defScope s_flaws_of) (own := [("branch", 6)]) (by decide +kernel)) (fun _ _ _ _ _ => (pg_name (i := 6) nd rfl (Or.inl rfl))) (fun _ _ _ _ _ => pts_nil) (fun _ _ _ _ _ => (pc c_has_box hr (by first | decide | omega) (by rfl) (pa_cons (pv 6) pa_nil)))) pa_nil)))) (pss_one ps_never) pss_nil) (pss_cons (ps_if (pt_cmpR op_gt (pe_callB call_qlenD (by rfl) g.f_len boot_len (pa_cons (pe_dc (own := [("depth", 7)]) (g := gName 7) (by rfl) nd (pi_list (pc c_depths_in hr (by first | decide | omega) (by rfl) (pa_cons (pv 0) pa_nil))) (blkOk_by (N := ["value", "found", "numbers", "least", "number", "box", "branch", "depth", "one"]) (sc := defScope s_flaws_of) (own := [("depth", 7)]) (by decide +kernel)) (fun _ _ _ _ _ => (pg_name (i := 7) nd rfl (Or.inl rfl))) (fun _ _ _ _ _ => pts_nil) (fun _ _ _ _ _ => (pv 7)) (fun _ _ _ _ _ => pe_bl)) pa_nil)) pe_int (nomark _)) (pss_one ps_never) pss_nil) (pss_cons (ps_if (pt_cmpR op_gt (pe_callB call_qlen (by rfl) g.f_len boot_len (pa_cons (pv 2) pa_nil)) (pe_glob (v := .int 300) (by rfl) g.c_MAX_ENTRIES.choose_spec ⟨_, rfl⟩) (nomark _)) (pss_one ps_never) pss_nil) (pss_cons (ps_set (i := 3) nd rfl (Or.inl rfl) (pe_ifExp (pt_cmpR op_eq (pe_ix ix_tup (pv 0) pe_int (fun _ _ => rfl)) (pe_glob (v := .str "leaf") (by rfl) g.c_LEAF.choose_spec ⟨_, rfl⟩) (nomark _)) pe_int (pe_glob (v := .int 2) (by rfl) g.c_LEAST.choose_spec ⟨_, rfl⟩))) (pss_cons (ps_if (PW.pt (pw_or (pt_not (pt_val (pc c_has_size hr (by first | decide | omega) (by rfl) (pa_cons (pv 0) (pa_cons (pv 3) pa_nil))))) (pw_or1 (pt_not (pt_val (pe_callB (cr_all rfl) (by rfl) g.f_all boot_all (pa_cons (pe_lc (own := [("one", 8)]) (g := gName 8) (by rfl) nd (pi_list (pc c_forms_in hr (by first | decide | omega) (by rfl) (pa_cons (pv 0) pa_nil))) (blkOk_by (N := ["value", "found", "numbers", "least", "number", "box", "branch", "depth", "one"]) (sc := defScope s_flaws_of) (own := [("one", 8)]) (by decide +kernel)) (fun _ _ _ _ _ => (pg_name (i := 8) nd rfl (Or.inl rfl))) (fun _ _ _ _ _ => pts_nil) (fun _ _ _ _ _ => (pc c_has_size hr (by first | decide | omega) (by rfl) (pa_cons (pv 8) (pa_cons (pe_glob (v := .int 2) (by rfl) g.c_LEAST.choose_spec ⟨_, rfl⟩) pa_nil))))) pa_nil))))))) (pss_one ps_never) pss_nil) (pss_cons (ps_if (pt_cmpR op_lt (pe_callB call_qlenD (by rfl) g.f_len boot_len (pa_cons (pe_dc (own := [("number", 4)]) (g := gName 4) (by rfl) nd (pi_list (pv 2)) (blkOk_by (N := ["value", "found", "numbers", "least", "number", "box", "branch", "depth", "one"]) (sc := defScope s_flaws_of) (own := [("number", 4)]) (by decide +kernel)) (fun _ _ _ _ _ => (pg_name (i := 4) nd rfl (Or.inl rfl))) (fun _ _ _ _ _ => pts_nil) (fun _ _ _ _ _ => (pv 4)) (fun _ _ _ _ _ => pe_bl)) pa_nil)) (pe_callB call_qlen (by rfl) g.f_len boot_len (pa_cons (pv 2) pa_nil)) (nomark _)) (pss_one ps_never) pss_nil) (pss_one (ps_ret (pv 1))))))))))), ?_⟩
  obtain ⟨m, hlt, hn, t, h1, hs, hb, hr', h2, h4, hd, q⟩ := h
  wtm_at "go0"
  refine use_is_built hlt hn h1 hs hb (fun H2 e2 => ?_)
  wtm_at "go"
  refine i_lcLU ?_
  wtm_at "go"
  wtm_at "uent"
  intro p3 H3 hp3 e3 hl3
  have hpx : 4 ^ (m + 1) ≤ 256 := by
    have hm : m = 0 ∨ m = 1 ∨ m = 2 ∨ m = 3 := by omega
    rcases hm with rfl | rfl | rfl | rfl <;> decide
  have hlen : (ents m t).length ≤ 256 := Nat.le_trans (ents_len m t hs) hpx
  refine i_lcGL (enc := enD) (xs := ents m t) (fun _ => true) (fun e => .int e.1) hl3 (by omega) (fun x _ => rfl) (fun u x H2 R Y e2 hm hu hn hy => ?_) (fun p4 H4 hp4 e4 hl4 => ?_)
  · unfold enD at hu
    wtm_at "nrm"
    wtm_at "go"
    refine ⟨rfl, ?_⟩
    wtm_at "go"
    exact hy rfl _ _ (Ex.refl _) (Dp.int _)
  have hl4' : Dp K H4 (.ref p4) (.list (((ents m t).map (·.1)).map PyData.int)) := by
    rw [List.map_map]
    have e : ((ents m t).filter fun _ => true) = ents m t := List.filter_eq_self.mpr fun _ _ => rfl
    rw [e] at hl4
    exact hl4
  clear hl4
  have hlen2 : ((ents m t).map (·.1)).length ≤ 256 := by rw [List.length_map]; exact hlen
  generalize (ents m t).map (·.1) = ns at *
  wtm_at "nrm"
  rename_i np nH nfr nhe nhp
  wtm_at "go"
  have hpw : 2 * 4 ^ m ≤ 128 := by
    have hm : m = 0 ∨ m = 1 ∨ m = 2 ∨ m = 3 := by omega
    rcases hm with rfl | rfl | rfl | rfl <;> decide
  have hsub : (subs m t).length ≤ 128 := by
    have := subs_len m t hs
    omega
  refine i_lcLU ?_
  wtm_at "go"
  wtm_at "uent"
  intro p5 H5 hp5 e5 hl5
  refine i_lcGL (enc := fun d : PyData => d) (xs := brns m t) (fun _ => true) (fun _ => .bool true) (by rw [List.map_id']; exact hl5) (by rw [brns_len]; omega) (fun _ _ => rfl) (fun u x H6 R Y e6 hm hu hn hy => ?_) (fun p6 H6 hp6 e6 hl6 => ?_)
  · obtain ⟨k, pp, hk, rfl, s1, s2, s3⟩ := brns_in m t hr' hs x hm
    wtm_at "nrm"
    refine ⟨rfl, ?_⟩
    wtm_at "go"
    refine use_has_box (p := pp) (by omega) (by omega) hu s1 s2 s3 (fun H7 e7 => ?_)
    exact hy rfl _ _ e7 (Dp.bl _)
  wtm_at "go"
  refine i_allT hl6 ?_
  wtm_at "go"
  refine i_dcU ?_
  wtm_at "go"
  wtm_at "uent"
  intro p7 H7 hp7 e7 hl7
  refine i_dcK (enc := PyData.int) (xs := deps m t) (fun i => Sum.inl i) hl7 (by have := deps_len m t hs; omega) (fun u x H8 R Y e8 hm hu hy => ?_) (fun D H8 kvs hD e8 hd8 hn8 hm8 => ?_)
  · cases dpInt hu
    wtm_at "nrm"
    refine ⟨rfl, ?_⟩
    wtm_at "go"
    exact hy _ _ (Ex.refl _)
  have hk1 := keys_one hn8 hm8 (k0 := Sum.inl ((m : Int) + 1)) fun x hx => by rw [deps_all m t x hx]
  rw [List.length_map] at hk1
  wtm_at "go"
  refine i_qlenD hd8 ?_
  wtm_at "go"
  · rename_i hz
    omega
  · rename_i hz
    rw [List.length_map] at hz
    omega
  obtain ⟨s, ds, ef, hds, hcase⟩ := foD_eq m t
  have h1t : Dp K H v1 (.tuple [.str s, .tuple ds]) := by rw [← ef]; exact h1
  rcases hcase with ⟨hm0, rfl⟩ | ⟨hm0, rfl⟩
  · have hsz : (decide ((0 : Int) ≤ (ds.length : Int)) && decide ((ds.length : Int) ≤ 4)) = true := by
      rw [decide_eq_true (by omega), decide_eq_true (by omega)]
      rfl
    wtm_at "go"
    · rename_i hz
      rw [hsz] at hz
      cases hz
    refine i_lcLU ?_
    wtm_at "go"
    wtm_at "uent"
    intro p9 H9 hp9 e9 hl9
    refine i_lcGL (enc := fun d : PyData => d) (xs := subs m t) (fun _ => true) (fun _ => .bool true) (by rw [List.map_id']; exact hl9) (by omega) (fun _ _ => rfl) (fun u x H10 R Y e10 hm hu hn hy => ?_) (fun p10 H10 hp10 e10 hl10 => ?_)
    · obtain ⟨s5, ds5, rfl, z1, z2⟩ := subs_in m t hr' x hm
      have hsz5 : (decide ((2 : Int) ≤ (ds5.length : Int)) && decide ((ds5.length : Int) ≤ 4)) = true := by
        rw [decide_eq_true (by omega), decide_eq_true (by omega)]
        rfl
      wtm_at "nrm"
      refine ⟨rfl, ?_⟩
      wtm_at "go"
      rw [hsz5]
      exact hy rfl _ _ (Ex.refl _) (Dp.bl _)
    wtm_at "go"
    refine i_allT hl10 ?_
    wtm_at "go"
    refine i_dcU ?_
    wtm_at "go"
    have hl5' : Dp K H10 (.ref p4) (.list (ns.map PyData.int)) := dpMono (by wtm_at "ex") hl4'
    refine i_dcK (enc := PyData.int) (xs := ns) (fun i => Sum.inl i) hl5' (by omega) (fun u x H11 R Y e11 hm hu hy => ?_) (fun D2 H11 kvs2 hD2 e11 hd11 hn11 hm11 => ?_)
    · cases dpInt hu
      wtm_at "nrm"
      refine ⟨rfl, ?_⟩
      wtm_at "go"
      exact hy _ _ (Ex.refl _)
    have hk2 := keys_nodup hn11 hm11 (nodup_inl hd)
    rw [List.length_map] at hk2
    wtm_at "go"
    refine i_qlenD hd11 ?_
    wtm_at "go"
    · rename_i hz
      rw [List.length_map] at hz
      omega
    exact q _ _ (ex_none nfr e2) (by wtm_at "ex") (.lst (Evl.sq_of (ex_at (by wtm_at "ex") nhp)) .nil)
  · have hsz : (decide ((2 : Int) ≤ (ds.length : Int)) && decide ((ds.length : Int) ≤ 4)) = true := by
      have := h2 hm0
      rw [decide_eq_true (by omega), decide_eq_true (by omega)]
      rfl
    wtm_at "go"
    · rename_i hz
      rw [hsz] at hz
      cases hz
    refine i_lcLU ?_
    wtm_at "go"
    wtm_at "uent"
    intro p9 H9 hp9 e9 hl9
    refine i_lcGL (enc := fun d : PyData => d) (xs := subs m t) (fun _ => true) (fun _ => .bool true) (by rw [List.map_id']; exact hl9) (by omega) (fun _ _ => rfl) (fun u x H10 R Y e10 hm hu hn hy => ?_) (fun p10 H10 hp10 e10 hl10 => ?_)
    · obtain ⟨s5, ds5, rfl, z1, z2⟩ := subs_in m t hr' x hm
      have hsz5 : (decide ((2 : Int) ≤ (ds5.length : Int)) && decide ((ds5.length : Int) ≤ 4)) = true := by
        rw [decide_eq_true (by omega), decide_eq_true (by omega)]
        rfl
      wtm_at "nrm"
      refine ⟨rfl, ?_⟩
      wtm_at "go"
      rw [hsz5]
      exact hy rfl _ _ (Ex.refl _) (Dp.bl _)
    wtm_at "go"
    refine i_allT hl10 ?_
    wtm_at "go"
    refine i_dcU ?_
    wtm_at "go"
    have hl5' : Dp K H10 (.ref p4) (.list (ns.map PyData.int)) := dpMono (by wtm_at "ex") hl4'
    refine i_dcK (enc := PyData.int) (xs := ns) (fun i => Sum.inl i) hl5' (by omega) (fun u x H11 R Y e11 hm hu hy => ?_) (fun D2 H11 kvs2 hD2 e11 hd11 hn11 hm11 => ?_)
    · cases dpInt hu
      wtm_at "nrm"
      refine ⟨rfl, ?_⟩
      wtm_at "go"
      exact hy _ _ (Ex.refl _)
    have hk2 := keys_nodup hn11 hm11 (nodup_inl hd)
    rw [List.length_map] at hk2
    wtm_at "go"
    refine i_qlenD hd11 ?_
    wtm_at "go"
    · rename_i hz
      rw [List.length_map] at hz
      omega
    exact q _ _ (ex_none nfr e2) (by wtm_at "ex") (.lst (Evl.sq_of (ex_at (by wtm_at "ex") nhp)) .nil)
end
end Wb

namespace Wb
open PySem PySem.Spec PyProof.Rows L2 StX
open Evl (Ex Ex.refl Ex.trans Ex.new)
local macro_rules | `(tactic| wtm_at "dp") => `(tactic| first | with_reducible assumption | with_reducible exact Dp.int _ | with_reducible exact Dp.bl _ | with_reducible exact Dp.str _ | with_reducible exact Dp.non | ((with_reducible refine' dpMono ?dme (by with_reducible assumption)); (case dme => wtm_at "ex")) | ((with_reducible refine' Dp.tup (Evl.st_of ?dph) ?dpa); (case dph => wtm_at "hs"); (case dpa => wtm_at "dpa")) | ((with_reducible refine' Dp.lst (Evl.sq_of ?dph) ?dpa); (case dph => wtm_at "hs"); (case dpa => wtm_at "dpa")))
local macro_rules | `(tactic| wtm_at "dpa") => `(tactic| first | with_reducible exact DpAll.nil | ((with_reducible refine' DpAll.cons ?dp1 ?dp2); (case dp1 => wtm_at "dp"); (case dp2 => wtm_at "dpa")) | with_reducible assumption | ((with_reducible refine' dpMonoA ?dme (by with_reducible assumption)); (case dme => wtm_at "ex")))
local macro_rules | `(tactic| wtm_at "sz") => `(tactic| first | with_reducible assumption | ((with_reducible refine' sz_mul ?sz1 ?sz2); (case sz1 => wtm_at "sz"); (case sz2 => wtm_at "sz")) | ((with_reducible refine' sz_add ?sz1 ?sz2); (case sz1 => wtm_at "sz"); (case sz2 => wtm_at "sz")) | ((with_reducible refine' sz_sub ?sz1 ?sz2); (case sz1 => wtm_at "sz"); (case sz2 => wtm_at "sz")) | ((with_reducible refine' sz_neg ?sz1); (case sz1 => wtm_at "sz")) | ((with_reducible refine' sz_div ?sz1); (case sz1 => wtm_at "sz")) | ((with_reducible refine' sz_fdiv ?sz1); (case sz1 => wtm_at "sz")) | exact sz_lit (by decide) | wtm_at "sz2")
local macro_rules | `(tactic| wtm_at "szb") => `(tactic| first | with_reducible assumption | ((with_reducible refine' sz_mono ?szb1 ?szb2); (case szb1 => wtm_at "sz"); (case szb2 => decide)))
local macro_rules | `(tactic| wtm_at "nz") => `(tactic| first | assumption | decide | omega)
local macro_rules | `(tactic| wtm_at "shaped") => `(tactic| first | rfl | decide)
local macro_rules | `(tactic| wtm_at "sset") => `(tactic| ((dsimp only [L2.wipe, List.set, List.set_cons_zero, List.set_cons_succ]) <;> exact rfl))
local macro_rules | `(tactic| wtm_at "nrm") => `(tactic| dsimp only [L2.start, L2.wipe, List.set, List.append, List.map, List.map_cons, List.map_nil, List.length_cons, List.length_nil, Nat.reduceAdd, Nat.reduceSub, List.reduceReplicate, List.replicate, List.cons_append, List.nil_append, List.set_cons_zero, List.set_cons_succ])
local macro_rules | `(tactic| wtm_at "st") => `(tactic| first
  | ((with_reducible refine' i_var (v := ?u0) ?u1 ?uq); (case u1 => exact rfl))
  | ((with_reducible refine' i_nameN ?u0 ?uq); (case u0 => wtm_at "sset"))
  | (with_reducible refine' i_op ?uq)
  | (with_reducible refine' i_c ?uq)
  | (with_reducible refine' i_I0 ?uq)
  | ((with_reducible refine' i_ixTI (i := ?u0) ?u1 ?u2 ?u3 ?uq); (case u1 => wtm_at "dp"); (case u2 => wtm_at "ex"); (case u3 => exact rfl))
  | ((with_reducible refine' i_ixT (d := ?u0) ?u1 ?u2 ?u3 (fun xu hxu => ?uq)); (case u1 => wtm_at "dp"); (case u2 => wtm_at "ex"); (case u3 => exact rfl))
  | ((with_reducible refine' i_mul ?u0 ?u1 ?u2 ?uq); (case u0 => wtm_at "sz"); (case u1 => wtm_at "sz"); (case u2 => first | decide | omega))
  | (with_reducible refine' i_seq ?uq)
  | (with_reducible refine' i_asg ?uq)
  | (with_reducible refine' i_ret ?uq)
  | (with_reducible refine' i_ifs ?uq)
  | (with_reducible refine' i_drop ?uq)
  | (with_reducible refine' i_next ?uq)
  | (with_reducible refine' i_cons ?uq)
  | (with_reducible refine' i_nil ?uq)
  | (with_reducible refine' i_cl ?uq)
  | (with_reducible refine' i_cb ?uq)
  | (with_reducible refine' i_tup ?uq)
  | (with_reducible refine' i_lst ?uq)
  | ((with_reducible refine' i_mkT ?u0 (fun np nH nhe nhp => ?uq)); (case u0 => exact Nat.le_of_ble_eq_true rfl))
  | (with_reducible refine' i_test ?uq)
  | (with_reducible refine' i_B ?uq)
  | (with_reducible refine' i_k ?uq)
  | (with_reducible refine' i_and ?uq)
  | (with_reducible refine' i_or ?uq)
  | (with_reducible refine' i_not ?uq)
  | (with_reducible refine' i_andV ?uq)
  | (with_reducible refine' i_orV ?uq)
  | (with_reducible refine' i_notV ?uq)
  | (with_reducible refine' i_if ?uq)
  | (with_reducible refine' i_un ?uq)
  | (with_reducible refine' i_U ?uq)
  | (with_reducible refine' i_iteT ?uq)
  | (with_reducible refine' i_iteF ?uq)
  | ((with_reducible refine' i_iteTr ?u0 ?uq); (case u0 => first | with_reducible rfl | decide | (simp only [dIsInt, dIsBool, dIsTup, dIsStr, dIsLst, Bool.not_true, Bool.not_false]; done)))
  | ((with_reducible refine' i_iteFr ?u0 ?uq); (case u0 => first | with_reducible rfl | decide | (simp only [dIsInt, dIsBool, dIsTup, dIsStr, dIsLst, Bool.not_true, Bool.not_false]; done)))
  | (with_reducible refine' i_ite (fun hif => ?uqa) (fun hif => ?uqb))
  | (with_reducible refine' i_iteN (fun hif => ?uqa) (fun hif => ?uqb))
  | (with_reducible refine' i_iteBN (fun hif => ?uqa) (fun hif => ?uqb))
  | (with_reducible refine' i_iteB (fun hif => ?uqa) (fun hif => ?uqb))
  | ((with_reducible refine' i_modN ?u0 ?uq); (case u0 => wtm_at "nz"))
  | ((with_reducible refine' i_fdX ?u0 ?u1 ?u2 ?uq); (case u0 => wtm_at "nz"); (case u1 => wtm_at "sz"); (case u2 => first | decide | omega))
  | ((with_reducible refine' i_pow ?u0 ?uq); (case u0 => exact ⟨by decide, by decide +kernel⟩))
  | (with_reducible refine' i_eqI ?uq)
  | (with_reducible refine' i_neI ?uq)
  | (with_reducible refine' i_gcd ?uq)
  | (with_reducible refine' i_qabs ?uq)
  | (with_reducible refine' i_qint ?uq)
  | (with_reducible refine' i_qintB ?uq)
  | (with_reducible refine' i_qmax2 ?uq)
  | (with_reducible refine' i_qmin2 ?uq)
  | (with_reducible refine' i_isB ?uq)
  | (with_reducible refine' i_notB ?uq)
  | (with_reducible refine' i_chain ?uq)
  | (with_reducible refine' i_qisN ?uq)
  | (with_reducible refine' i_qnotN ?uq)
  | (with_reducible refine' i_yes ?uq)
  | (with_reducible refine' i_par ?uq)
  | (with_reducible refine' i_par3 ?uq)
  | ((with_reducible refine' i_par2 ?u0 ?uq); (case u0 => wtm_at "sset"))
  | ((with_reducible refine' i_par33 ?u0 ?uq); (case u0 => wtm_at "sset"))
  | ((with_reducible refine' i_ixLI (i := ?u0) ?u1 ?u2 ?u3 ?uq); (case u1 => wtm_at "dp"); (case u2 => wtm_at "ex"); (case u3 => exact rfl))
  | ((with_reducible refine' i_ixL (d := ?u0) ?u1 ?u2 ?u3 (fun xu hxu => ?uq)); (case u1 => wtm_at "dp"); (case u2 => wtm_at "ex"); (case u3 => exact rfl))
  | ((with_reducible refine' i_qlenT ?u0 ?uq); (case u0 => wtm_at "dp"))
  | ((with_reducible refine' i_qlenL ?u0 ?uq); (case u0 => wtm_at "dp"))
  | ((with_reducible refine' i_gtup ?u0 ?u1 ?u2 (fun gvs gdp => ?uq)); (case u0 => wtm_at "dp"); (case u1 => wtm_at "ex"); (case u2 => exact rfl))
  | ((with_reducible refine' i_glst ?u0 ?u1 ?u2 (fun gvs gdp => ?uq)); (case u0 => wtm_at "dp"); (case u1 => wtm_at "ex"); (case u2 => exact rfl))
  | ((with_reducible refine' i_gconsI ?u0 (fun gr gh => ?uq)); (case u0 => with_reducible assumption))
  | ((with_reducible refine' i_gconsA ?u0 (fun gv gr gh1 gh2 => ?uq)); (case u0 => with_reducible assumption))
  | ((with_reducible refine' i_gnilA ?u0 ?uq); (case u0 => with_reducible assumption))
  | ((with_reducible refine' i_isiI ?u0 ?uq); (case u0 => wtm_at "dp"))
  | ((with_reducible refine' i_isiB ?u0 ?uq); (case u0 => wtm_at "dp"))
  | ((with_reducible refine' i_isiT ?u0 ?uq); (case u0 => wtm_at "dp"))
  | ((with_reducible refine' i_isiS ?u0 ?uq); (case u0 => wtm_at "dp"))
  | ((with_reducible refine' i_isiL ?u0 ?uq); (case u0 => wtm_at "dp"))
  | ((with_reducible refine' i_eqD ?u0 ?u1 ?u2 ?u3 ?uq); (case u0 => wtm_at "dp"); (case u1 => wtm_at "dp"); (case u2 => wtm_at "shaped"); (case u3 => wtm_at "shaped"))
  | ((with_reducible refine' i_neD ?u0 ?u1 ?u2 ?u3 ?uq); (case u0 => wtm_at "dp"); (case u1 => wtm_at "dp"); (case u2 => wtm_at "shaped"); (case u3 => wtm_at "shaped"))
  | wtm_at "st2"
  | wtm_at "use")
local macro_rules | `(tactic| wtm_at "go") => `(tactic| repeat' (wtm_at "st"))
local macro_rules | `(tactic| wtm_at "go0") => `(tactic| ((try dsimp only [L2.cxOf, L2.Cx.nox, L2.Cx.wish, L2.Cx.tr, L2.Cx.blk]); (try wtm_at "nrm"); wtm_at "go"))
local macro_rules | `(tactic| wtm_at "fin") => `(tactic| ((try dsimp only); first | with_reducible assumption | assumption | ((with_reducible refine' Ret.use ?rur ?rue ?rud); (case rur => with_reducible assumption); (case rue => wtm_at "ex"); (case rud => wtm_at "dp"))))
local macro_rules | `(tactic| wtm_at "exh") => `(tactic| first | with_reducible assumption | with_reducible exact Ex.refl _ | with_reducible exact ex_hid | ((with_reducible refine' Ex.trans ?exe (by with_reducible assumption)); (case exe => wtm_at "exh")) | ((with_reducible refine' Ex.trans ?exe (hid_ex (by with_reducible assumption))); (case exe => wtm_at "exh")))
local macro_rules | `(tactic| wtm_at "ex") => `(tactic| first | with_reducible assumption | with_reducible exact Ex.refl _ | with_reducible exact ex_hid | ((with_reducible refine' Ex.trans ?exe (by with_reducible assumption)); (case exe => wtm_at "ex")) | ((with_reducible refine' Ex.trans ?exe (hid_ex (by with_reducible assumption))); (case exe => wtm_at "ex")) | ((with_reducible refine' Ex.trans ?exe ex_hid); (case exe => wtm_at "exh")))
local macro_rules | `(tactic| wtm_at "bag") => `(tactic| first | with_reducible assumption | ((with_reducible refine' Bag.mono ?bgm (by with_reducible assumption)); (case bgm => wtm_at "bag")))
local macro_rules | `(tactic| wtm_at "hs") => `(tactic| first | with_reducible assumption | ((with_reducible refine' hid_tup ?hb ?hp); (case hp => with_reducible assumption); (case hb => wtm_at "bag")) | ((with_reducible refine' hid_new ?hb ?hn ?hp); (case hp => with_reducible assumption); (case hn => with_reducible assumption); (case hb => wtm_at "bag")) | ((with_reducible refine' ex_at ?exe (by with_reducible assumption)); (case exe => wtm_at "ex")))
local macro_rules | `(tactic| wtm_at "st2") => `(tactic| first
  | ((with_reducible refine' i_mulC ?u0 ?uq); (case u0 => first | exact cmul_l (by decide) | exact cmul_r (by decide)))
  | ((with_reducible refine' i_ixLr (v := ?u0) ?u1 ?u2 ?uq); (case u1 => with_reducible assumption); (case u2 => exact rfl))
  | (with_reducible refine' i_sub ?uq)
  | ((with_reducible refine' i_mkL ?u0 (fun np nH nfr nhe nhp => ?uq)); (case u0 => exact Nat.le_of_ble_eq_true rfl))
  | ((with_reducible refine' i_setL (n := ?u0) ?u1 ?u2 (fun sH sh se => ?uq)); (case u1 => with_reducible assumption); (case u2 => exact rfl))
  | (with_reducible refine' i_sl ?uq)
  | (with_reducible refine' i_nopart ?uq)
  | (with_reducible refine' i_part ?uq)
  | (with_reducible refine' i_part1 ?uq))
local macro_rules | `(tactic| wtm_at "sz2") => `(tactic| ((with_reducible refine' sz_fmod ?sz1 ?sz2); (case sz1 => wtm_at "nz"); (case sz2 => wtm_at "sz")))
local macro_rules | `(tactic| wtm_at "stb") => `(tactic| first
  | ((with_reducible refine' i_mkTB ?u0 ?u1 (fun np nH nhe nhb nhp => ?uq)); (case u0 => exact Nat.le_of_ble_eq_true rfl); (case u1 => wtm_at "bag"))
  | ((with_reducible refine' i_mkLB ?u0 ?u1 (fun np nH nfr nhe nhb nhp => ?uq)); (case u0 => exact Nat.le_of_ble_eq_true rfl); (case u1 => wtm_at "bag"))
  | wtm_at "st")
local macro_rules | `(tactic| wtm_at "gob") => `(tactic| repeat' (wtm_at "stb"))
local macro_rules | `(tactic| wtm_at "gob0") => `(tactic| ((try dsimp only [L2.cxOf, L2.Cx.nox, L2.Cx.wish, L2.Cx.tr, L2.Cx.blk]); (try wtm_at "nrm"); wtm_at "gob"))
local macro_rules | `(tactic| wtm_at "use") => `(tactic| ((with_reducible refine' use__law_draw ?u0 ?u1 ?u2 (fun dn dH dn0 dn1 de db => ?uq)); (case u0 => wtm_at "bag"); (case u1 => wtm_at "pos"); (case u2 => wtm_at "szb")))
local macro_rules | `(tactic| wtm_at "pos") => `(tactic| first | assumption | decide | omega)
local macro_rules | `(tactic| wtm_at "oneof") => `(tactic| ((with_reducible refine' use__law_one_of ?u0 ?u1 ?u2 ?u3 ?uq); (case u0 => wtm_at "bag"); (case u1 => wtm_at "dp"); (case u2 => exact Nat.le_of_ble_eq_true rfl); (case u3 => exact Nat.le_of_ble_eq_true rfl)))
local macro_rules | `(tactic| wtm_at "st") => `(tactic| first | ((with_reducible refine' i_ixTS (z := ?u0) ?u1 ?u2 ?u3 ?uq); (case u1 => wtm_at "dp"); (case u2 => wtm_at "ex"); (case u3 => exact rfl)) | fail)
local macro_rules | `(tactic| wtm_at "st2") => `(tactic| first | ((with_reducible refine' i_eqST ?u0 ?uq); (case u0 => with_reducible rfl)) | ((with_reducible refine' i_eqSF ?u0 ?uq); (case u0 => decide +kernel)) | ((with_reducible refine' i_neST ?u0 ?uq); (case u0 => with_reducible rfl)) | ((with_reducible refine' i_neSF ?u0 ?uq); (case u0 => decide +kernel)) | fail)
section
variable {P : Program} {w : World} {K : PySem.W.Frag} {mg : Str → Option Value} {base : Heap} {H H' : Hp} {Q : VK} {E : XK} {v1 v2 v3 v4 v5 : V}
def sp__law_apart_word (K : PySem.W.Frag) : Sp := A2 fun v1 v2 H Q => ∃ b c : Bx, Dp K H v1 (bxD b) ∧ Dp K H v2 (bxD c) ∧ Q (wdV (apart b c)) H
abbrev s__law_apart_word : Stmt := top 66
theorem sc__law_apart_word : FnScope ["_law_box", "_law_other"] ["_law_box", "_law_other"] (defScope s__law_apart_word) := ⟨rfl, rfl, rfl, by decide +kernel, rfl, by decide +kernel, by decide +kernel⟩
theorem ok__law_apart_word {f : Addr} {fd : FuncData} (F : FnP K "_law_apart_word" s__law_apart_word f fd) (g : G mg)   : FnOk P w K mg base CX0 1 f fd ["_law_box", "_law_other"] (sp__law_apart_word K) := by
  have nd := sc__law_apart_word.nd
  refine F.ok sc__law_apart_word (fun vs H Q E h => h.len) (fun cdv A outer s H vs Q E hr h => ?_)
  obtain ⟨v1, v2, rfl, h⟩ := h
  refine ⟨_, PSs.nox (pss_cons (ps_if (pt_cmpR op_lt (pe_ix ix_tup (pv 0) pe_int (fun _ _ => rfl)) (pe_ix ix_tup (pv 1) pe_int (fun _ _ => rfl)) (nomark _)) (pss_one (ps_ret pe_str)) pss_nil) (pss_cons (ps_if (pt_cmpR op_gt (pe_ix ix_tup (pv 0) pe_int (fun _ _ => rfl)) (pe_ix ix_tup (pv 1) pe_int (fun _ _ => rfl)) (nomark _)) (pss_one (ps_ret pe_str)) pss_nil) (pss_cons (ps_if (pt_cmpR op_lt (pe_ix ix_tup (pv 0) pe_int (fun _ _ => rfl)) (pe_ix ix_tup (pv 1) pe_int (fun _ _ => rfl)) (nomark _)) (pss_one (ps_ret pe_str)) pss_nil) (pss_one (ps_ret (pe_ifExp (pt_cmpR op_gt (pe_ix ix_tup (pv 0) pe_int (fun _ _ => rfl)) (pe_ix ix_tup (pv 1) pe_int (fun _ _ => rfl)) (nomark _)) pe_str pe_non)))))), ?_⟩
  obtain ⟨⟨x0, x1, x2, x3⟩, ⟨y0, y1, y2, y3⟩, h1, h2, q⟩ := h
  unfold bxD at h1 h2
  unfold apart at q
  dsimp only at h1 h2 q
  wtm_at "go0"
  all_goals (dsimp only; simpa only [*, if_true, if_false, wdV] using q)
theorem use__law_apart_word {b c : Bx} (h : Dp K H v1 (bxD b)) (h2 : Dp K H v2 (bxD c)) (q : Q (wdV (apart b c)) H) : sp__law_apart_word K [v1, v2] H Q E := ⟨_, _, rfl, b, c, h, h2, q⟩
def sp__law_small_box (K : PySem.W.Frag) : Sp := A1 fun v1 H Q => ∃ b : Addr, v1 = .ref b ∧ Bag b H ∧ ∀ v H2 (x : Bx), x.ok → Ex (hid b H) (hid b H2) → Bag b H2 → Dp K (hid b H2) v (bxD x) → Q v H2
abbrev s__law_small_box : Stmt := top 64
theorem sc__law_small_box : FnScope ["_law_bag_here", "_law_left", "_law_bottom", "_law_wide", "_law_high", "_law_far"] ["_law_bag_here"] (defScope s__law_small_box) := ⟨rfl, rfl, rfl, by decide +kernel, rfl, by decide +kernel, by decide +kernel⟩
theorem ok__law_small_box {f : Addr} {fd : FuncData} (F : FnP K "_law_small_box" s__law_small_box f fd) (g : G mg) (c__law_one_of : Cl P w K mg base 2 "_law_one_of" (sp__law_one_of K)) (c__law_draw : Cl P w K mg base 1 "_law_draw" (sp__law_draw K))  : FnOk P w K mg base CX0 3 f fd ["_law_bag_here"] (sp__law_small_box K) := by
  have nd := sc__law_small_box.nd
  refine F.ok sc__law_small_box (fun vs H Q E h => h.len) (fun cdv A outer s H vs Q E hr h => ?_)
  obtain ⟨v1, rfl, h⟩ := h
  refine ⟨_, PSs.nox (pss_cons (ps_par (i := 1) (j := 2) (by rfl) nd rfl rfl (by decide) rfl rfl (pa_cons (pe_op op_sub (pc c__law_draw hr (by first | decide | omega) (by rfl) (pa_cons (pv 0) (pa_cons pe_int pa_nil))) pe_int) (pa_cons (pe_op op_sub (pc c__law_draw hr (by first | decide | omega) (by rfl) (pa_cons (pv 0) (pa_cons pe_int pa_nil))) pe_int) pa_nil)) (by rfl)) (pss_cons (ps_asg (pc c__law_one_of hr (by first | decide | omega) (by rfl) (pa_cons (pv 0) (pa_cons (pe_lst (pa_cons (pe_tup (pa_cons pe_int (pa_cons pe_int pa_nil))) (pa_cons (pe_tup (pa_cons pe_int (pa_cons pe_int pa_nil))) (pa_cons (pe_tup (pa_cons pe_int (pa_cons pe_int pa_nil))) (pa_cons (pe_tup (pa_cons pe_int (pa_cons pe_int pa_nil))) (pa_cons (pe_tup (pa_cons pe_int (pa_cons pe_int pa_nil))) (pa_cons (pe_tup (pa_cons pe_int (pa_cons pe_int pa_nil))) (pa_cons (pe_tup (pa_cons pe_int (pa_cons pe_int pa_nil))) (pa_cons (pe_tup (pa_cons pe_int (pa_cons pe_int pa_nil))) pa_nil))))))))) pa_nil))) (pg_tup (n := 2) (by rfl) (pgs_cons (pg_name (i := 3) nd rfl (Or.inl rfl)) (pgs_cons (pg_name (i := 4) nd rfl (Or.inl rfl)) pgs_nil)))) (pss_cons (ps_set (i := 5) nd rfl (Or.inl rfl) (pe_ifExp (pt_cmpR op_eq (pc c__law_draw hr (by first | decide | omega) (by rfl) (pa_cons (pv 0) (pa_cons pe_int pa_nil))) pe_int (nomark _)) (pe_op op_powX pe_int pe_int) pe_int)) (pss_one (ps_ret (pe_tup (pa_cons (pv 1) (pa_cons (pe_op op_sub (pv 2) (pv 5)) (pa_cons (pe_op op_add (pv 1) (pv 3)) (pa_cons (pe_op op_add (pv 2) (pv 4)) pa_nil)))))))))), ?_⟩
  obtain ⟨b, rfl, hb, q⟩ := h
  have p25 : 0 < (10 : Int) ^ (25 : Int).toNat := by decide +kernel
  wtm_at "gob0"
  wtm_at "oneof"
  intro d v H2 hd e2 b2 hv
  obtain ⟨wd, hg, rfl, hw0, hg0⟩ : ∃ p q : Int, d = .tuple [.int p, .int q] ∧ 0 ≤ p ∧ 0 ≤ q := by
    simp only [List.mem_cons, List.not_mem_nil, or_false] at hd
    rcases hd with rfl | rfl | rfl | rfl | rfl | rfl | rfl | rfl <;> exact ⟨_, _, rfl, by decide, by decide⟩
  clear hd
  wtm_at "gob"
  · rename_i nH nhe nhb nhp
    refine q _ _ (_, _, _, _) ⟨?_, ?_⟩ (by wtm_at "ex") nhb (.tup (Evl.st_of nhp) (.cons (.int _) (.cons (.int _) (.cons (.int _) (.cons (.int _) .nil)))))
    · dsimp only
      omega
    · dsimp only
      omega
  · rename_i nH nhe nhb nhp
    refine q _ _ (_, _, _, _) ⟨?_, ?_⟩ (by wtm_at "ex") nhb (.tup (Evl.st_of nhp) (.cons (.int _) (.cons (.int _) (.cons (.int _) (.cons (.int _) .nil)))))
    · dsimp only
      omega
    · dsimp only
      omega
theorem use__law_small_box {b : Addr} (hb : Bag b H) (q : ∀ v H2 (x : Bx), x.ok → Ex (hid b H) (hid b H2) → Bag b H2 → Dp K (hid b H2) v (bxD x) → Q v H2) : sp__law_small_box K [.ref b] H Q E := ⟨_, rfl, b, rfl, hb, q⟩
def sp__law_joint_box (K : PySem.W.Frag) : Sp := A1 fun v1 H Q => ∃ bs : List Bx, Dp K H v1 (.list (bs.map bxD)) ∧ bs ≠ [] ∧ bs.length ≤ 1000 ∧ Ret K (bxD (joint bs)) H Q
abbrev s__law_joint_box : Stmt := top 65
theorem sc__law_joint_box : FnScope ["_law_boxes", "_law_low", "_law_box"] ["_law_boxes"] (defScope s__law_joint_box) := ⟨rfl, rfl, rfl, by decide +kernel, rfl, by decide +kernel, by decide +kernel⟩
theorem ok__law_joint_box {f : Addr} {fd : FuncData} (F : FnP K "_law_joint_box" s__law_joint_box f fd) (g : G mg)   : FnOk P w K mg base CX0 1 f fd ["_law_boxes"] (sp__law_joint_box K) := by
  have nd := sc__law_joint_box.nd
  refine F.ok sc__law_joint_box (fun vs H Q E h => h.len) (fun cdv A outer s H vs Q E hr h => ?_)
  obtain ⟨v1, rfl, h⟩ := h
  refine ⟨_, PSs.nox (pss_cons (ps_if (pt_cmpR (op_eqD hr.units) (pv 0) (pe_lst pa_nil) (nomark _)) (pss_one (ps_ret pe_non)) pss_nil) (pss_cons (ps_set (i := 1) nd rfl (Or.inl rfl) (pe_tup (pa_cons (pe_callB (cr_min rfl) (by rfl) g.f_min boot_min (pa_cons (pe_lc (own := [("_law_box", 2)]) (g := gName 2) (by rfl) nd (pi_list (pv 0)) (blkOk_by (N := ["_law_boxes", "_law_low", "_law_box"]) (sc := defScope s__law_joint_box) (own := [("_law_box", 2)]) (by decide +kernel)) (fun _ _ _ _ _ => (pg_name (i := 2) nd rfl (Or.inl rfl))) (fun _ _ _ _ _ => pts_nil) (fun _ _ _ _ _ => (pe_ix (show IxR _ (rIxT K) from ix_tup) (pv 2) pe_int (fun _ _ => rfl)))) pa_nil)) (pa_cons (pe_callB (cr_min rfl) (by rfl) g.f_min boot_min (pa_cons (pe_lc (own := [("_law_box", 2)]) (g := gName 2) (by rfl) nd (pi_list (pv 0)) (blkOk_by (N := ["_law_boxes", "_law_low", "_law_box"]) (sc := defScope s__law_joint_box) (own := [("_law_box", 2)]) (by decide +kernel)) (fun _ _ _ _ _ => (pg_name (i := 2) nd rfl (Or.inl rfl))) (fun _ _ _ _ _ => pts_nil) (fun _ _ _ _ _ => (pe_ix (show IxR _ (rIxT K) from ix_tup) (pv 2) pe_int (fun _ _ => rfl)))) pa_nil)) pa_nil)))) (pss_one (ps_ret (pe_op op_catA (pv 1) (pe_tup (pa_cons (pe_callB (cr_max rfl) (by rfl) g.f_max boot_max (pa_cons (pe_lc (own := [("_law_box", 2)]) (g := gName 2) (by rfl) nd (pi_list (pv 0)) (blkOk_by (N := ["_law_boxes", "_law_low", "_law_box"]) (sc := defScope s__law_joint_box) (own := [("_law_box", 2)]) (by decide +kernel)) (fun _ _ _ _ _ => (pg_name (i := 2) nd rfl (Or.inl rfl))) (fun _ _ _ _ _ => pts_nil) (fun _ _ _ _ _ => (pe_ix (show IxR _ (rIxT K) from ix_tup) (pv 2) pe_int (fun _ _ => rfl)))) pa_nil)) (pa_cons (pe_callB (cr_max rfl) (by rfl) g.f_max boot_max (pa_cons (pe_lc (own := [("_law_box", 2)]) (g := gName 2) (by rfl) nd (pi_list (pv 0)) (blkOk_by (N := ["_law_boxes", "_law_low", "_law_box"]) (sc := defScope s__law_joint_box) (own := [("_law_box", 2)]) (by decide +kernel)) (fun _ _ _ _ _ => (pg_name (i := 2) nd rfl (Or.inl rfl))) (fun _ _ _ _ _ => pts_nil) (fun _ _ _ _ _ => (pe_ix (show IxR _ (rIxT K) from ix_tup) (pv 2) pe_int (fun _ _ => rfl)))) pa_nil)) pa_nil)))))))), ?_⟩
  obtain ⟨bs, h1, hne, hl, q⟩ := h
  have q2 : Ret K (.tuple [.int (mnI (bs.map (·.1))), .int (mnI (bs.map (·.2.1))), .int (mxI (bs.map (·.2.2.1))), .int (mxI (bs.map (·.2.2.2)))]) H Q := q
  clear q
  have n0 : ∀ f : Bx → Int, bs.map f ≠ [] := fun f e => hne (List.map_eq_nil_iff.mp e)
  wtm_at "go0"
  rename_i nH nfr nhe nhp
  refine i_eqD (dpMono nhe h1) (.lst (Evl.sq_of nhp) .nil) (shp_bxs bs) rfl ?_
  have en : PyData.eqv (.list (bs.map bxD)) (.list []) = false := by
    cases bs with
    | nil => exact absurd rfl hne
    | cons b r => rfl
  rw [en]
  wtm_at "go"
  refine i_lcLU ?_
  wtm_at "go"
  refine lc_fld (bs := bs) (by wtm_at "dp") hl (·.1) 0 (fun _ => rfl) (fun _ => rfl) (fun _ => rfl) (fun p0 H2 hp0 e0 d0 => ?_)
  wtm_at "go"
  refine i_min d0 (n0 _) ?_
  wtm_at "go"
  refine i_lcLU ?_
  wtm_at "go"
  refine lc_fld (bs := bs) (by wtm_at "dp") hl (·.2.1) 1 (fun _ => rfl) (fun _ => rfl) (fun _ => rfl) (fun p1 H3 hp1 e1 d1 => ?_)
  wtm_at "go"
  refine i_min d1 (n0 _) ?_
  wtm_at "go"
  refine i_lcLU ?_
  wtm_at "go"
  refine lc_fld (bs := bs) (by wtm_at "dp") hl (·.2.2.1) 2 (fun _ => rfl) (fun _ => rfl) (fun _ => rfl) (fun p2 H4 hp2 e2 d2 => ?_)
  wtm_at "go"
  refine i_max d2 (n0 _) ?_
  wtm_at "go"
  refine i_lcLU ?_
  wtm_at "go"
  refine lc_fld (bs := bs) (by wtm_at "dp") hl (·.2.2.2) 3 (fun _ => rfl) (fun _ => rfl) (fun _ => rfl) (fun p3 H5 hp3 e3 d3 => ?_)
  wtm_at "go"
  refine i_max d3 (n0 _) ?_
  wtm_at "go"
  refine i_catAD (by wtm_at "dp") (by wtm_at "dp") (Nat.le_of_ble_eq_true rfl) (fun y H9 e9 hy => ?_)
  exact q2 _ _ (by wtm_at "ex") hy
theorem use__law_joint_box {bs : List Bx} (h : Dp K H v1 (.list (bs.map bxD))) (hne : bs ≠ []) (hl : bs.length ≤ 1000) (q : ∀ v H2, Ex H H2 → Dp K H2 v (bxD (joint bs)) → Q v H2) : sp__law_joint_box K [v1] H Q E := ⟨_, rfl, bs, h, hne, hl, q⟩
end
end Wb

/-! right forms: their boxes -/
namespace Wb
open PySem PySem.Spec
theorem joint_ok {bs : List Bx} (hne : bs ≠ []) (h : ∀ b ∈ bs, b.ok) : (joint bs).ok := by
  cases bs with
  | nil => exact absurd rfl hne
  | cons b r =>
    have hb := h b List.mem_cons_self
    have m1 := (mn_mem (ns := (b :: r).map (·.1)) (List.cons_ne_nil _ _)).2 b.1 (List.mem_map.mpr ⟨b, List.mem_cons_self, rfl⟩)
    have m2 := (mn_mem (ns := (b :: r).map (·.2.1)) (List.cons_ne_nil _ _)).2 b.2.1 (List.mem_map.mpr ⟨b, List.mem_cons_self, rfl⟩)
    have m3 := (mx_mem (ns := (b :: r).map (·.2.2.1)) (List.cons_ne_nil _ _)).2 b.2.2.1 (List.mem_map.mpr ⟨b, List.mem_cons_self, rfl⟩)
    have m4 := (mx_mem (ns := (b :: r).map (·.2.2.2)) (List.cons_ne_nil _ _)).2 b.2.2.2 (List.mem_map.mpr ⟨b, List.mem_cons_self, rfl⟩)
    exact ⟨Int.le_trans m1 (Int.le_trans hb.1 m3), Int.le_trans m2 (Int.le_trans hb.2 m4)⟩
theorem ents_ok : ∀ (n : Nat) (t : Fo n), Right n t → ∀ e ∈ ents n t, e.2.ok
  | 0, t, r, e, he => r e he
  | n + 1, t, r, e, he => by
    obtain ⟨p, hp, he⟩ := List.mem_flatMap.mp he
    exact ents_ok n p.2 (r p hp).2.2.2 e he
theorem bok_of : ∀ (n : Nat) (t : Fo n), Right n t → Bok n t
  | 0, t, r => r
  | n + 1, t, r => fun p hp => by
    obtain ⟨r1, r2, r3, r4⟩ := r p hp
    refine ⟨?_, bok_of n p.2 r4⟩
    rw [r1]
    refine joint_ok (fun e => ents_ne n p.2 r2 r4 (List.map_eq_nil_iff.mp e)) fun b hb => ?_
    obtain ⟨e, he, rfl⟩ := List.mem_map.mp hb
    exact ents_ok n p.2 r4 e he
theorem sm_of : ∀ (n : Nat) (t : Fo n), foSz n t ≤ 4 → Right n t → Sm n t
  | 0, t, h, _ => h
  | n + 1, t, h, r => ⟨h, fun p hp => sm_of n p.2 (r p hp).2.2.1 (r p hp).2.2.2⟩
/-- a box that holds b -/
def holdsB (c b : Bx) : Prop := c.1 ≤ b.1 ∧ c.2.1 ≤ b.2.1 ∧ b.2.2.1 ≤ c.2.2.1 ∧ b.2.2.2 ≤ c.2.2.2
theorem joint_holds {bs : List Bx} {b : Bx} (h : b ∈ bs) : holdsB (joint bs) b := by
  have hne : ∀ f : Bx → Int, bs.map f ≠ [] := fun f e => by
    rw [List.map_eq_nil_iff.mp e] at h
    cases h
  exact ⟨(mn_mem (hne _)).2 _ (List.mem_map.mpr ⟨b, h, rfl⟩), (mn_mem (hne _)).2 _ (List.mem_map.mpr ⟨b, h, rfl⟩), (mx_mem (hne _)).2 _ (List.mem_map.mpr ⟨b, h, rfl⟩), (mx_mem (hne _)).2 _ (List.mem_map.mpr ⟨b, h, rfl⟩)⟩
/-- what meets a held box meets the holder -/
theorem apart_held {c b w : Bx} (h : holdsB c b) (hm : apart b w = none) : apart c w = none := by
  have e : meetB b w = true := by rw [meet_apart, hm]; rfl
  have e2 : meetB c w = true := by
    unfold meetB at e ⊢
    obtain ⟨h1, h2, h3, h4⟩ := h
    simp only [Bool.and_eq_true, decide_eq_true_eq] at e ⊢
    omega
  rw [meet_apart] at e2
  exact of_decide_eq_true e2
end Wb

/-! own lists that change: found, waits, .. -/
namespace Wb
open PySem PySem.Spec PyProof.Rows L2
open Evl (Ex Ex.refl Ex.trans Ex.new)
section
variable {K : PySem.W.Frag} {G0 G G' H H' : Hp} {ls : List (Addr × List PyData)} {a : Addr} {ds es : List PyData} {us : List V} {i : Nat}
structure Lsts (K : PySem.W.Frag) (G0 : Hp) (ls : List (Addr × List PyData)) (G : Hp) : Prop where
  nd : (ls.map (·.1)).Nodup
  fr : ∀ p ∈ ls, G0 p.1 = none
  ex : Ex G0 G
  no : ∀ p ∈ ls, noLs p.2 = true
  at_ : ∀ p ∈ ls, ∃ us, G p.1 = some (.lst us) ∧ DpAll K G us p.2
theorem Lsts.nil : Lsts K G0 [] G0 := ⟨List.nodup_nil, fun p h => (by cases h), Ex.refl _, fun p h => (by cases h), fun p h => (by cases h)⟩
theorem Lsts.up (L : Lsts K G0 ls G) (e : Ex G G') : Lsts K G0 ls G' := ⟨L.nd, L.fr, L.ex.trans e, L.no, fun p hp => by
  obtain ⟨us, h1, h2⟩ := L.at_ p hp
  exact ⟨us, e _ _ h1, dpMonoA e h2⟩⟩
theorem Lsts.ref (L : Lsts K G0 ls G) (e : ls[i]? = some (a, ds)) : Dp K G (.ref a) (.list ds) := by
  obtain ⟨us, h1, h2⟩ := L.at_ _ (List.mem_of_getElem? e)
  exact .lst (Evl.sq_of h1) h2
theorem Lsts.fresh (L : Lsts K G0 ls G) (h : G a = none) : G0 a = none := Evl.fresh_back L.ex h
theorem Lsts.add (L : Lsts K G0 ls G) (hn : G a = none) (e : Ex G G') (h : G' a = some (.lst us)) (hd : DpAll K G' us ds) (hno : noLs ds = true) : Lsts K G0 ((a, ds) :: ls) G' := by
  refine ⟨List.nodup_cons.mpr ⟨fun q => ?_, L.nd⟩, fun p hp => ?_, L.ex.trans e, fun p hp => ?_, fun p hp => ?_⟩
  · obtain ⟨p, hp, e1⟩ := List.mem_map.mp q
    obtain ⟨us, h1, h2⟩ := L.at_ p hp
    have e1 : p.1 = a := e1
    rw [e1, hn] at h1
    cases h1
  · rcases List.mem_cons.mp hp with rfl | hp
    · exact L.fresh hn
    · exact L.fr p hp
  · rcases List.mem_cons.mp hp with rfl | hp
    · exact hno
    · exact L.no p hp
  · rcases List.mem_cons.mp hp with rfl | hp
    · exact ⟨us, h, hd⟩
    · obtain ⟨us, h1, h2⟩ := L.at_ p hp
      exact ⟨us, e _ _ h1, dpMonoA e h2⟩
theorem Lsts.set (L : Lsts K G0 ls G) (e : ls[i]? = some (a, ds)) (hd : DpAll K G us es) (hno : noLs es = true) : Lsts K G0 (ls.set i (a, es)) (upd G a (.lst us)) := by
  have hm := List.mem_of_getElem? e
  obtain ⟨ws, w1, w2⟩ := L.at_ _ hm
  have em : (ls.set i (a, es)).map (·.1) = ls.map (·.1) := by
    refine List.ext_getElem? fun j => ?_
    rw [List.getElem?_map, List.getElem?_map, List.getElem?_set]
    by_cases hj : i = j
    · subst hj
      rw [if_pos rfl, e]
      have : i < ls.length := (List.getElem?_eq_some_iff.mp e).1
      rw [if_pos this]
      rfl
    · rw [if_neg hj]
  have g : ∀ p ∈ ls.set i (a, es), p = (a, es) ∨ (p ∈ ls ∧ p.1 ≠ a) := fun p hp => by
    obtain ⟨j, hj⟩ := List.getElem?_of_mem hp
    rw [List.getElem?_set] at hj
    by_cases hij : i = j
    · rw [if_pos hij] at hj
      split at hj
      · exact .inl (Option.some.inj hj).symm
      · cases hj
    · rw [if_neg hij] at hj
      refine .inr ⟨List.mem_of_getElem? hj, fun z => hij ?_⟩
      have hil : i < (ls.map (·.1)).length := by
        rw [List.length_map]
        exact (List.getElem?_eq_some_iff.mp e).1
      refine (List.getElem?_inj hil L.nd).mp ?_
      rw [List.getElem?_map, List.getElem?_map, e, hj]
      show some a = some p.1
      rw [z]
  refine ⟨by rw [em]; exact L.nd, fun p hp => ?_, Evl.Ex.mut L.ex (L.fr _ hm), fun p hp => ?_, fun p hp => ?_⟩
  · rcases g p hp with rfl | ⟨h, _⟩
    · exact (L.fr _ hm : G0 a = none)
    · exact L.fr _ h
  · rcases g p hp with rfl | ⟨h, _⟩
    · exact hno
    · exact L.no _ h
  · rcases g p hp with rfl | ⟨h, hne⟩
    · exact ⟨us, upd_same, dpUpdA w1 hno hd⟩
    · obtain ⟨vs, h1, h2⟩ := L.at_ _ h
      exact ⟨vs, by rw [upd_ne hne]; exact h1, dpUpdA w1 (L.no _ h) h2⟩
theorem hid_updn {b a : Addr} {o : HO} (h : a ≠ b) : hid b (upd H a o) = upd (hid b H) a o := by
  funext c
  unfold hid upd
  by_cases h1 : c = b
  · have h2 : c ≠ a := fun z => h (z.symm.trans h1)
    simp [h1, h2]
    intro z
    exact absurd z.symm h
  · by_cases h2 : c = a
    · simp [h1, h2]
      intro z
      exact absurd z h
    · simp [h1, h2]
theorem Lsts.keep (L : Lsts K G0 ls G) (e : ls[i]? = some (a, ds)) {v : V} {d : PyData} (hn : noL d = true) (h : Dp K G v d) : Dp K (upd G a (.lst us)) v d := by
  obtain ⟨ws, w1, w2⟩ := L.at_ _ (List.mem_of_getElem? e)
  exact dpUpd w1 hn h
end
section
variable {K : PySem.W.Frag} {G0 H : Hp} {ls : List (Addr × List PyData)} {a : Addr} {ds : List PyData} {d : PyData} {i : Nat} {Q : VK} {v : V} {σ : L2.St}
theorem i_bm0 {T : String} {r : V → List V → Hp → VK → Prop} {to : TE} (q : to σ H fun x H1 => tyV K T x H1 ∧ r x [] H1 Q) : tBM0 K T r to σ H Q := q
theorem i_bmA {T : String} {r : V → List V → Hp → VK → Prop} {to : TE} {t : TA} (q : to σ H fun x H1 => tyV K T x H1 ∧ t σ H1 fun xs H2 => r x xs H2 Q) : tBM K T r to t σ H Q := q
theorem Lsts.ty (L : Lsts K G0 ls H) (e : ls[i]? = some (a, ds)) {R : Prop} (q : R) : tyV K "list" (.ref a) H ∧ R := by
  obtain ⟨us, h1, _⟩ := L.at_ _ (List.mem_of_getElem? e)
  exact ⟨.inl ⟨rfl, us, Evl.sq_of h1⟩, q⟩
theorem dpSplit : ∀ {ds : List PyData} {us : List V}, DpAll K H us (ds ++ [d]) → ∃ ws y, us = ws ++ [y] ∧ DpAll K H ws ds ∧ Dp K H y d
  | [], _, h => by
    cases h with
    | cons h1 h2 =>
      cases h2
      exact ⟨[], _, rfl, .nil, h1⟩
  | c :: ds, _, h => by
    cases h with
    | cons h1 h2 =>
      obtain ⟨ws, y, rfl, h3, h4⟩ := dpSplit h2
      exact ⟨_ :: ws, y, rfl, .cons h1 h3, h4⟩
theorem noLs_split {ds es : List PyData} (h : noLs (ds ++ es) = true) : noLs ds = true ∧ noLs es = true := by
  induction ds with
  | nil => exact ⟨rfl, h⟩
  | cons c ds ih =>
    obtain ⟨h1, h2⟩ := Bool.and_eq_true_iff.mp (show (noL c && noLs (ds ++ es)) = true from h)
    obtain ⟨h3, h4⟩ := ih h2
    exact ⟨by show (noL c && noLs ds) = true; rw [h1, h3]; rfl, h4⟩
theorem noLs_app {ds es : List PyData} (h1 : noLs ds = true) (h2 : noLs es = true) : noLs (ds ++ es) = true := by
  induction ds with
  | nil => exact h2
  | cons c ds ih =>
    obtain ⟨h3, h4⟩ := Bool.and_eq_true_iff.mp (show (noL c && noLs ds) = true from h1)
    show (noL c && noLs (ds ++ es)) = true
    rw [h3, ih h4]
    rfl
/-- pop of the last item -/
theorem Lsts.pop (L : Lsts K G0 ls H) (e : ls[i]? = some (a, ds ++ [d])) (q : ∀ y H2, Lsts K G0 (ls.set i (a, ds)) H2 → Dp K H2 y d → (∀ {v : V} {c : PyData}, noL c = true → Dp K H v c → Dp K H2 v c) → Q y H2) : rPop (.ref a) [] H Q := by
  obtain ⟨us, h1, h2⟩ := L.at_ _ (List.mem_of_getElem? e)
  have hno := noLs_split (L.no _ (List.mem_of_getElem? e))
  have hnd : noL d = true := by
    have := hno.2
    exact (Bool.and_eq_true_iff.mp (show (noL d && noLs []) = true from this)).1
  obtain ⟨ws, y, rfl, h3, h4⟩ := dpSplit h2
  refine ⟨a, ws ++ [y], y, rfl, rfl, h1, by simp, ?_⟩
  rw [List.dropLast_concat]
  exact q y _ (L.set e h3 hno.1) (L.keep e hnd h4) fun hn h => L.keep e hn h
theorem Lsts.extend (L : Lsts K G0 ls H) (e : ls[i]? = some (a, ds)) {b : Addr} {zs : List V} {es : List PyData} (hb : H b = some (.lst zs)) (hz : DpAll K H zs es) (hn : noLs es = true) (hl : ds.length + es.length ≤ 100000)
    (q : ∀ H2, Lsts K G0 (ls.set i (a, ds ++ es)) H2 → (∀ {v : V} {c : PyData}, noL c = true → Dp K H v c → Dp K H2 v c) → Q .non H2) : rExtend (.ref a) [.ref b] H Q := by
  obtain ⟨us, h1, h2⟩ := L.at_ _ (List.mem_of_getElem? e)
  refine ⟨a, b, us, zs, rfl, rfl, h1, hb, Evl.sz_of (by rw [dpLen h2, dpLen hz]; exact hl), ?_⟩
  exact q _ (L.set e (dpAllApp h2 hz) (noLs_app (L.no _ (List.mem_of_getElem? e)) hn)) fun hn h => L.keep e hn h
theorem Lsts.append (L : Lsts K G0 ls H) (e : ls[i]? = some (a, ds)) (hd : Dp K H v d) (hn : noL d = true) (hl : ds.length < 100000)
    (q : ∀ H2, Lsts K G0 (ls.set i (a, ds ++ [d])) H2 → (∀ {v : V} {c : PyData}, noL c = true → Dp K H v c → Dp K H2 v c) → Q .non H2) : rAppend (.ref a) [v] H Q := by
  obtain ⟨us, h1, h2⟩ := L.at_ _ (List.mem_of_getElem? e)
  refine ⟨a, us, v, rfl, rfl, h1, Evl.sz_lt (by rw [dpLen h2]; exact hl), ?_⟩
  exact q _ (L.set e (dpAllApp h2 (.cons hd .nil)) (noLs_app (L.no _ (List.mem_of_getElem? e)) (by show (noL d && noLs []) = true; rw [hn]; rfl))) fun hn h => L.keep e hn h
variable {α : Type} {enc : α → PyData} {xs : List α} {te : TE} {tt : TT} {g : TG} {vs : List Nat}
/-- as i_lcGT, the new list told as one of the frame's own -/
theorem lcg_endR {c : α → Bool} {f : α → PyData} {us : List V} {D : Addr} {H' : Hp} (ha : DpAll K H us (xs.map enc)) (p : Acc K H D (((xs.take us.length).filter c).map f) H') (q : ∀ p H2 zs, H p = none → Ex H H2 → H2 p = some (.lst zs) → DpAll K H2 zs ((xs.filter c).map f) → Q (.ref p) H2) : Q (.ref D) H' := by
  have e : us.length = xs.length := by rw [dpLen ha, List.length_map]
  rw [e, List.take_length] at p
  obtain ⟨p1, p2, acc, p3, p4⟩ := p
  exact q D H' acc p1 p2 p3 p4
theorem i_lcGTR (c : α → Bool) (f : α → PyData) (h : Dp K H v (.tuple (xs.map enc))) (hl : xs.length ≤ 100000) (hn : ∀ x ∈ xs, noL (f x) = true) (ht : LcTurn K H enc xs c f g tt te vs σ)
    (q : ∀ p H2 zs, H p = none → Ex H H2 → H2 p = some (.lst zs) → DpAll K H2 zs ((xs.filter c).map f) → Q (.ref p) H2) : tLc (iTup K (tC v)) g tt te vs σ H Q := by
  obtain ⟨a, us, rfl, hs, ha⟩ := dpTup h
  exact ⟨a, rfl, ⟨us, hs⟩, fun D hD => lc_tup (xs := us) (fun i H' => Acc K H D (((xs.take i).filter c).map f) H') (Acc.new hD) (fun i H' _ p => Evl.ex_t p.2.1 hs) (fun i u H' hi p => lcg_step c f hl hn ht ha hi p) (fun H' p => lcg_endR ha p q)⟩
theorem i_lcGLR (c : α → Bool) (f : α → PyData) (h : Dp K H v (.list (xs.map enc))) (hl : xs.length ≤ 100000) (hn : ∀ x ∈ xs, noL (f x) = true) (ht : LcTurn K H enc xs c f g tt te vs σ)
    (q : ∀ p H2 zs, H p = none → Ex H H2 → H2 p = some (.lst zs) → DpAll K H2 zs ((xs.filter c).map f) → Q (.ref p) H2) : tLc (iList K (tC v)) g tt te vs σ H Q := by
  obtain ⟨a, us, rfl, hs, ha⟩ := dpLst h
  exact ⟨a, rfl, ⟨us, hs⟩, fun D hD => lc_list (xs := us) (fun i H' => Acc K H D (((xs.take i).filter c).map f) H') (Acc.new hD) (fun i H' _ p => Evl.ex_l p.2.1 hs) (fun i u H' hi p => lcg_step c f hl hn ht ha hi p) (fun H' p => lcg_endR ha p q)⟩
end
end Wb

namespace Wb
open PySem PySem.Spec PyProof.Rows L2 StX
open Evl (Ex Ex.refl Ex.trans Ex.new)
local macro_rules | `(tactic| wtm_at "dp") => `(tactic| first | with_reducible assumption | with_reducible exact Dp.int _ | with_reducible exact Dp.bl _ | with_reducible exact Dp.str _ | with_reducible exact Dp.non | ((with_reducible refine' dpMono ?dme (by with_reducible assumption)); (case dme => wtm_at "ex")) | ((with_reducible refine' Dp.tup (Evl.st_of ?dph) ?dpa); (case dph => wtm_at "hs"); (case dpa => wtm_at "dpa")) | ((with_reducible refine' Dp.lst (Evl.sq_of ?dph) ?dpa); (case dph => wtm_at "hs"); (case dpa => wtm_at "dpa")))
local macro_rules | `(tactic| wtm_at "dpa") => `(tactic| first | with_reducible exact DpAll.nil | ((with_reducible refine' DpAll.cons ?dp1 ?dp2); (case dp1 => wtm_at "dp"); (case dp2 => wtm_at "dpa")) | with_reducible assumption | ((with_reducible refine' dpMonoA ?dme (by with_reducible assumption)); (case dme => wtm_at "ex")))
local macro_rules | `(tactic| wtm_at "sz") => `(tactic| first | with_reducible assumption | ((with_reducible refine' sz_mul ?sz1 ?sz2); (case sz1 => wtm_at "sz"); (case sz2 => wtm_at "sz")) | ((with_reducible refine' sz_add ?sz1 ?sz2); (case sz1 => wtm_at "sz"); (case sz2 => wtm_at "sz")) | ((with_reducible refine' sz_sub ?sz1 ?sz2); (case sz1 => wtm_at "sz"); (case sz2 => wtm_at "sz")) | ((with_reducible refine' sz_neg ?sz1); (case sz1 => wtm_at "sz")) | ((with_reducible refine' sz_div ?sz1); (case sz1 => wtm_at "sz")) | ((with_reducible refine' sz_fdiv ?sz1); (case sz1 => wtm_at "sz")) | exact sz_lit (by decide) | wtm_at "sz2")
local macro_rules | `(tactic| wtm_at "szb") => `(tactic| first | with_reducible assumption | ((with_reducible refine' sz_mono ?szb1 ?szb2); (case szb1 => wtm_at "sz"); (case szb2 => decide)))
local macro_rules | `(tactic| wtm_at "nz") => `(tactic| first | assumption | decide | omega)
local macro_rules | `(tactic| wtm_at "shaped") => `(tactic| first | rfl | decide)
local macro_rules | `(tactic| wtm_at "sset") => `(tactic| ((dsimp only [L2.wipe, List.set, List.set_cons_zero, List.set_cons_succ]) <;> exact rfl))
local macro_rules | `(tactic| wtm_at "nrm") => `(tactic| dsimp only [L2.start, L2.wipe, List.set, List.append, List.map, List.map_cons, List.map_nil, List.length_cons, List.length_nil, Nat.reduceAdd, Nat.reduceSub, List.reduceReplicate, List.replicate, List.cons_append, List.nil_append, List.set_cons_zero, List.set_cons_succ])
local macro_rules | `(tactic| wtm_at "st") => `(tactic| first
  | ((with_reducible refine' i_var (v := ?u0) ?u1 ?uq); (case u1 => exact rfl))
  | ((with_reducible refine' i_nameN ?u0 ?uq); (case u0 => wtm_at "sset"))
  | (with_reducible refine' i_op ?uq)
  | (with_reducible refine' i_c ?uq)
  | (with_reducible refine' i_I0 ?uq)
  | ((with_reducible refine' i_ixTI (i := ?u0) ?u1 ?u2 ?u3 ?uq); (case u1 => wtm_at "dp"); (case u2 => wtm_at "ex"); (case u3 => exact rfl))
  | ((with_reducible refine' i_ixT (d := ?u0) ?u1 ?u2 ?u3 (fun xu hxu => ?uq)); (case u1 => wtm_at "dp"); (case u2 => wtm_at "ex"); (case u3 => exact rfl))
  | ((with_reducible refine' i_mul ?u0 ?u1 ?u2 ?uq); (case u0 => wtm_at "sz"); (case u1 => wtm_at "sz"); (case u2 => first | decide | omega))
  | (with_reducible refine' i_seq ?uq)
  | (with_reducible refine' i_asg ?uq)
  | (with_reducible refine' i_ret ?uq)
  | (with_reducible refine' i_ifs ?uq)
  | (with_reducible refine' i_drop ?uq)
  | (with_reducible refine' i_next ?uq)
  | (with_reducible refine' i_cons ?uq)
  | (with_reducible refine' i_nil ?uq)
  | (with_reducible refine' i_cl ?uq)
  | (with_reducible refine' i_cb ?uq)
  | (with_reducible refine' i_tup ?uq)
  | (with_reducible refine' i_lst ?uq)
  | ((with_reducible refine' i_mkT ?u0 (fun np nH nhe nhp => ?uq)); (case u0 => exact Nat.le_of_ble_eq_true rfl))
  | (with_reducible refine' i_test ?uq)
  | (with_reducible refine' i_B ?uq)
  | (with_reducible refine' i_k ?uq)
  | (with_reducible refine' i_and ?uq)
  | (with_reducible refine' i_or ?uq)
  | (with_reducible refine' i_not ?uq)
  | (with_reducible refine' i_andV ?uq)
  | (with_reducible refine' i_orV ?uq)
  | (with_reducible refine' i_notV ?uq)
  | (with_reducible refine' i_if ?uq)
  | (with_reducible refine' i_un ?uq)
  | (with_reducible refine' i_U ?uq)
  | (with_reducible refine' i_iteT ?uq)
  | (with_reducible refine' i_iteF ?uq)
  | ((with_reducible refine' i_iteTr ?u0 ?uq); (case u0 => first | with_reducible rfl | decide | (simp only [dIsInt, dIsBool, dIsTup, dIsStr, dIsLst, Bool.not_true, Bool.not_false]; done)))
  | ((with_reducible refine' i_iteFr ?u0 ?uq); (case u0 => first | with_reducible rfl | decide | (simp only [dIsInt, dIsBool, dIsTup, dIsStr, dIsLst, Bool.not_true, Bool.not_false]; done)))
  | (with_reducible refine' i_ite (fun hif => ?uqa) (fun hif => ?uqb))
  | (with_reducible refine' i_iteN (fun hif => ?uqa) (fun hif => ?uqb))
  | (with_reducible refine' i_iteBN (fun hif => ?uqa) (fun hif => ?uqb))
  | (with_reducible refine' i_iteB (fun hif => ?uqa) (fun hif => ?uqb))
  | ((with_reducible refine' i_modN ?u0 ?uq); (case u0 => wtm_at "nz"))
  | ((with_reducible refine' i_fdX ?u0 ?u1 ?u2 ?uq); (case u0 => wtm_at "nz"); (case u1 => wtm_at "sz"); (case u2 => first | decide | omega))
  | ((with_reducible refine' i_pow ?u0 ?uq); (case u0 => exact ⟨by decide, by decide +kernel⟩))
  | (with_reducible refine' i_eqI ?uq)
  | (with_reducible refine' i_neI ?uq)
  | (with_reducible refine' i_gcd ?uq)
  | (with_reducible refine' i_qabs ?uq)
  | (with_reducible refine' i_qint ?uq)
  | (with_reducible refine' i_qintB ?uq)
  | (with_reducible refine' i_qmax2 ?uq)
  | (with_reducible refine' i_qmin2 ?uq)
  | (with_reducible refine' i_isB ?uq)
  | (with_reducible refine' i_notB ?uq)
  | (with_reducible refine' i_chain ?uq)
  | (with_reducible refine' i_qisN ?uq)
  | (with_reducible refine' i_qnotN ?uq)
  | (with_reducible refine' i_yes ?uq)
  | (with_reducible refine' i_par ?uq)
  | (with_reducible refine' i_par3 ?uq)
  | ((with_reducible refine' i_par2 ?u0 ?uq); (case u0 => wtm_at "sset"))
  | ((with_reducible refine' i_par33 ?u0 ?uq); (case u0 => wtm_at "sset"))
  | ((with_reducible refine' i_ixLI (i := ?u0) ?u1 ?u2 ?u3 ?uq); (case u1 => wtm_at "dp"); (case u2 => wtm_at "ex"); (case u3 => exact rfl))
  | ((with_reducible refine' i_ixL (d := ?u0) ?u1 ?u2 ?u3 (fun xu hxu => ?uq)); (case u1 => wtm_at "dp"); (case u2 => wtm_at "ex"); (case u3 => exact rfl))
  | ((with_reducible refine' i_qlenT ?u0 ?uq); (case u0 => wtm_at "dp"))
  | ((with_reducible refine' i_qlenL ?u0 ?uq); (case u0 => wtm_at "dp"))
  | ((with_reducible refine' i_gtup ?u0 ?u1 ?u2 (fun gvs gdp => ?uq)); (case u0 => wtm_at "dp"); (case u1 => wtm_at "ex"); (case u2 => exact rfl))
  | ((with_reducible refine' i_glst ?u0 ?u1 ?u2 (fun gvs gdp => ?uq)); (case u0 => wtm_at "dp"); (case u1 => wtm_at "ex"); (case u2 => exact rfl))
  | ((with_reducible refine' i_gconsI ?u0 (fun gr gh => ?uq)); (case u0 => with_reducible assumption))
  | ((with_reducible refine' i_gconsA ?u0 (fun gv gr gh1 gh2 => ?uq)); (case u0 => with_reducible assumption))
  | ((with_reducible refine' i_gnilA ?u0 ?uq); (case u0 => with_reducible assumption))
  | ((with_reducible refine' i_isiI ?u0 ?uq); (case u0 => wtm_at "dp"))
  | ((with_reducible refine' i_isiB ?u0 ?uq); (case u0 => wtm_at "dp"))
  | ((with_reducible refine' i_isiT ?u0 ?uq); (case u0 => wtm_at "dp"))
  | ((with_reducible refine' i_isiS ?u0 ?uq); (case u0 => wtm_at "dp"))
  | ((with_reducible refine' i_isiL ?u0 ?uq); (case u0 => wtm_at "dp"))
  | ((with_reducible refine' i_eqD ?u0 ?u1 ?u2 ?u3 ?uq); (case u0 => wtm_at "dp"); (case u1 => wtm_at "dp"); (case u2 => wtm_at "shaped"); (case u3 => wtm_at "shaped"))
  | ((with_reducible refine' i_neD ?u0 ?u1 ?u2 ?u3 ?uq); (case u0 => wtm_at "dp"); (case u1 => wtm_at "dp"); (case u2 => wtm_at "shaped"); (case u3 => wtm_at "shaped"))
  | wtm_at "st2"
  | wtm_at "use")
local macro_rules | `(tactic| wtm_at "go") => `(tactic| repeat' (wtm_at "st"))
local macro_rules | `(tactic| wtm_at "go0") => `(tactic| ((try dsimp only [L2.cxOf, L2.Cx.nox, L2.Cx.wish, L2.Cx.tr, L2.Cx.blk]); (try wtm_at "nrm"); wtm_at "go"))
local macro_rules | `(tactic| wtm_at "fin") => `(tactic| ((try dsimp only); first | with_reducible assumption | assumption | ((with_reducible refine' Ret.use ?rur ?rue ?rud); (case rur => with_reducible assumption); (case rue => wtm_at "ex"); (case rud => wtm_at "dp"))))
local macro_rules | `(tactic| wtm_at "exh") => `(tactic| first | with_reducible assumption | with_reducible exact Ex.refl _ | with_reducible exact ex_hid | ((with_reducible refine' Ex.trans ?exe (by with_reducible assumption)); (case exe => wtm_at "exh")) | ((with_reducible refine' Ex.trans ?exe (hid_ex (by with_reducible assumption))); (case exe => wtm_at "exh")))
local macro_rules | `(tactic| wtm_at "ex") => `(tactic| first | with_reducible assumption | with_reducible exact Ex.refl _ | with_reducible exact ex_hid | ((with_reducible refine' Ex.trans ?exe (by with_reducible assumption)); (case exe => wtm_at "ex")) | ((with_reducible refine' Ex.trans ?exe (hid_ex (by with_reducible assumption))); (case exe => wtm_at "ex")) | ((with_reducible refine' Ex.trans ?exe ex_hid); (case exe => wtm_at "exh")))
local macro_rules | `(tactic| wtm_at "bag") => `(tactic| first | with_reducible assumption | ((with_reducible refine' Bag.mono ?bgm (by with_reducible assumption)); (case bgm => wtm_at "bag")))
local macro_rules | `(tactic| wtm_at "hs") => `(tactic| first | with_reducible assumption | ((with_reducible refine' hid_tup ?hb ?hp); (case hp => with_reducible assumption); (case hb => wtm_at "bag")) | ((with_reducible refine' hid_new ?hb ?hn ?hp); (case hp => with_reducible assumption); (case hn => with_reducible assumption); (case hb => wtm_at "bag")) | ((with_reducible refine' ex_at ?exe (by with_reducible assumption)); (case exe => wtm_at "ex")))
local macro_rules | `(tactic| wtm_at "st2") => `(tactic| first
  | ((with_reducible refine' i_mulC ?u0 ?uq); (case u0 => first | exact cmul_l (by decide) | exact cmul_r (by decide)))
  | ((with_reducible refine' i_ixLr (v := ?u0) ?u1 ?u2 ?uq); (case u1 => with_reducible assumption); (case u2 => exact rfl))
  | (with_reducible refine' i_sub ?uq)
  | ((with_reducible refine' i_mkL ?u0 (fun np nH nfr nhe nhp => ?uq)); (case u0 => exact Nat.le_of_ble_eq_true rfl))
  | ((with_reducible refine' i_setL (n := ?u0) ?u1 ?u2 (fun sH sh se => ?uq)); (case u1 => with_reducible assumption); (case u2 => exact rfl))
  | (with_reducible refine' i_sl ?uq)
  | (with_reducible refine' i_nopart ?uq)
  | (with_reducible refine' i_part ?uq)
  | (with_reducible refine' i_part1 ?uq))
local macro_rules | `(tactic| wtm_at "sz2") => `(tactic| ((with_reducible refine' sz_fmod ?sz1 ?sz2); (case sz1 => wtm_at "nz"); (case sz2 => wtm_at "sz")))
local macro_rules | `(tactic| wtm_at "stb") => `(tactic| first
  | ((with_reducible refine' i_mkTB ?u0 ?u1 (fun np nH nhe nhb nhp => ?uq)); (case u0 => exact Nat.le_of_ble_eq_true rfl); (case u1 => wtm_at "bag"))
  | ((with_reducible refine' i_mkLB ?u0 ?u1 (fun np nH nfr nhe nhb nhp => ?uq)); (case u0 => exact Nat.le_of_ble_eq_true rfl); (case u1 => wtm_at "bag"))
  | wtm_at "st")
local macro_rules | `(tactic| wtm_at "gob") => `(tactic| repeat' (wtm_at "stb"))
local macro_rules | `(tactic| wtm_at "gob0") => `(tactic| ((try dsimp only [L2.cxOf, L2.Cx.nox, L2.Cx.wish, L2.Cx.tr, L2.Cx.blk]); (try wtm_at "nrm"); wtm_at "gob"))
local macro_rules | `(tactic| wtm_at "st") => `(tactic| first | ((with_reducible refine' i_ixTS (z := ?u0) ?u1 ?u2 ?u3 ?uq); (case u1 => wtm_at "dp"); (case u2 => wtm_at "ex"); (case u3 => exact rfl)) | fail)
local macro_rules | `(tactic| wtm_at "st2") => `(tactic| first | ((with_reducible refine' i_eqST ?u0 ?uq); (case u0 => with_reducible rfl)) | ((with_reducible refine' i_eqSF ?u0 ?uq); (case u0 => decide +kernel)) | ((with_reducible refine' i_neST ?u0 ?uq); (case u0 => with_reducible rfl)) | ((with_reducible refine' i_neSF ?u0 ?uq); (case u0 => decide +kernel)) | fail)
section
variable {P : Program} {w : World} {K : PySem.W.Frag} {mg : Str → Option Value} {base : Heap} {H H' : Hp} {Q : VK} {E : XK} {v1 v2 v3 v4 v5 : V}
/-- a form that waits -/
abbrev Fs : Type := (k : Nat) × Fo k
def fsD (s : Fs) : PyData := foD s.1 s.2
def fsE (s : Fs) : List En := ents s.1 s.2
def fsN (s : Fs) : Nat := (subs s.1 s.2).length + 1
def stN : List Fs → Nat
  | [] => 0
  | s :: r => fsN s + stN r
theorem stN_app : ∀ (xs ys : List Fs), stN (xs ++ ys) = stN xs + stN ys
  | [], ys => by simp [stN]
  | s :: r, ys => by
    rw [List.cons_append, stN, stN, stN_app r ys]
    omega
theorem noL_fs (s : Fs) : noL (fsD s) = true := noL_fo s.1 s.2
def kids {n : Nat} (t : Fo (n + 1)) : List Fs := (foB t).map fun p => ⟨n, p.2⟩
theorem kids_N {n : Nat} (t : Fo (n + 1)) : stN (kids t) = (subs (n + 1) t).length := by
  show stN ((foB t).map fun p => (⟨n, p.2⟩ : Fs)) = ((foB t).flatMap fun p => foD n p.2 :: subs n p.2).length
  induction (foB t) with
  | nil => rfl
  | cons p r ih =>
    rw [List.map_cons, List.flatMap_cons, List.length_append, stN, ih]
    show (subs n p.2).length + 1 + _ = _
    rw [List.length_cons]
theorem kids_E {n : Nat} (t : Fo (n + 1)) : (kids t).flatMap fsE = ents (n + 1) t := by
  show ((foB t).map fun p => (⟨n, p.2⟩ : Fs)).flatMap fsE = (foB t).flatMap fun p => ents n p.2
  rw [List.flatMap_map]
  rfl
theorem eqv_nil (ds : List PyData) : PyData.eqv (.list ds) (.list []) = decide (ds = []) := by
  cases ds with
  | nil => rfl
  | cons d r => rfl
theorem lay_tup {k : Nat} {ds : List PyData} (h : ∀ d ∈ ds, PyData.canLay0 d = true ∧ PyData.depth d ≤ k) : PyData.canLay0 (.tuple ds) = true ∧ PyData.depth (.tuple ds) ≤ k + 1 := by
  obtain ⟨h1, h2⟩ := layA h
  exact ⟨h1, by show PyData.depthAll ds + 1 ≤ k + 1; omega⟩
theorem lay_lst {k : Nat} {ds : List PyData} (h : ∀ d ∈ ds, PyData.canLay0 d = true ∧ PyData.depth d ≤ k) : PyData.canLay0 (.list ds) = true ∧ PyData.depth (.list ds) ≤ k + 1 := by
  obtain ⟨h1, h2⟩ := layA h
  exact ⟨h1, by show PyData.depthAll ds + 1 ≤ k + 1; omega⟩
theorem lay_two {k : Nat} {a b : PyData} (h1 : PyData.canLay0 a = true ∧ PyData.depth a ≤ k) (h2 : PyData.canLay0 b = true ∧ PyData.depth b ≤ k) : PyData.canLay0 (.tuple [a, b]) = true ∧ PyData.depth (.tuple [a, b]) ≤ k + 1 := lay_tup fun d hd => by
  simp only [List.mem_cons, List.not_mem_nil, or_false] at hd
  rcases hd with rfl | rfl
  · exact h1
  · exact h2
theorem lay_en (e : En) : PyData.canLay0 (enD e) = true ∧ PyData.depth (enD e) ≤ 2 := ⟨rfl, Nat.le_of_ble_eq_true rfl⟩
theorem lay_leaf (k : Nat) : PyData.canLay0 (.str "leaf") = true ∧ PyData.depth (.str "leaf") ≤ k := ⟨by decide +kernel, Nat.zero_le _⟩
theorem lay_node (k : Nat) : PyData.canLay0 (.str "node") = true ∧ PyData.depth (.str "node") ≤ k := ⟨by decide +kernel, Nat.zero_le _⟩
theorem lay_fo : ∀ (n : Nat) (t : Fo n), PyData.canLay0 (foD n t) = true ∧ PyData.depth (foD n t) ≤ 4 + 3 * n
  | 0, t => by
    unfold foD
    refine lay_two (k := 3) (lay_leaf _) (lay_tup (k := 2) fun d hd => ?_)
    obtain ⟨e, _, rfl⟩ := List.mem_map.mp hd
    exact lay_en e
  | n + 1, t => by
    have h : ∀ d ∈ (foB t).map fun p => PyData.tuple [bxD p.1, foD n p.2], PyData.canLay0 d = true ∧ PyData.depth d ≤ 4 + 3 * n + 1 := fun d hd => by
      obtain ⟨p, _, rfl⟩ := List.mem_map.mp hd
      obtain ⟨h1, h2⟩ := lay_fo n p.2
      exact lay_two (k := 4 + 3 * n) ⟨rfl, Nat.le_trans (lay_bx p.1).2 (by omega)⟩ ⟨h1, h2⟩
    obtain ⟨h1, h2⟩ := lay_two (lay_node _) (lay_tup h)
    exact ⟨h1, Nat.le_trans h2 (by omega)⟩
theorem shp_of {d : PyData} (h : PyData.canLay0 d = true ∧ PyData.depth d ≤ 64) : SeqAt.shaped d = true := by
  unfold SeqAt.shaped
  rw [h.1, decide_eq_true h.2]
  rfl
theorem shp_fs {st : List Fs} (h : ∀ s ∈ st, s.1 ≤ 3) : SeqAt.shaped (.list (st.map fsD)) = true := shp_list (k := 13) (by decide) fun d hd => by
  obtain ⟨s, hs, rfl⟩ := List.mem_map.mp hd
  obtain ⟨h1, h2⟩ := lay_fo s.1 s.2
  have := h s hs
  exact ⟨h1, by show PyData.depth (foD s.1 s.2) ≤ 13; omega⟩
theorem kids_Sm {n : Nat} {t : Fo (n + 1)} (h : Sm (n + 1) t) : ∀ s ∈ kids t, Sm s.1 s.2 ∧ s.1 = n := fun s hs => by
  obtain ⟨p, hp, rfl⟩ := List.mem_map.mp hs
  exact ⟨h.2 p hp, rfl⟩
theorem noLs_fs (st : List Fs) : noLs (st.map fsD) = true := noLs_map _ noL_fs st
theorem st_last {st : List Fs} (h : st ≠ []) : ∃ r s, st = r ++ [s] := ⟨st.dropLast, st.getLast h, (List.dropLast_concat_getLast h).symm⟩
theorem stN_len : ∀ st : List Fs, st.length ≤ stN st
  | [] => Nat.le_refl _
  | s :: r => by
    have := stN_len r
    have e : stN (s :: r) = (subs s.1 s.2).length + 1 + stN r := rfl
    rw [List.length_cons, e]
    omega
theorem subs_le {m : Nat} {t : Fo m} (hm : m ≤ 3) (h : Sm m t) : (subs m t).length ≤ 128 := by
  have := subs_len m t h
  have hm : m = 0 ∨ m = 1 ∨ m = 2 ∨ m = 3 := by omega
  have : 2 * 4 ^ m ≤ 128 := by rcases hm with rfl | rfl | rfl | rfl <;> decide
  omega
theorem ents_le {m : Nat} {t : Fo m} (hm : m ≤ 3) (h : Sm m t) : (ents m t).length ≤ 256 := by
  have := ents_len m t h
  have hm : m = 0 ∨ m = 1 ∨ m = 2 ∨ m = 3 := by omega
  have : 4 ^ (m + 1) ≤ 256 := by rcases hm with rfl | rfl | rfl | rfl <;> decide
  omega
def sp__law_entries_in (K : PySem.W.Frag) : Sp := A1 fun v1 H Q => ∃ m, m ≤ 3 ∧ ∃ t : Fo m, Dp K H v1 (foD m t) ∧ Sm m t ∧ ∀ es : List En, es.Perm (ents m t) → RetL K (es.map enD) H Q
abbrev s__law_entries_in : Stmt := top 67
theorem sc__law_entries_in : FnScope ["_law_form", "_law_found", "_law_waits", "_law_word", "_law_items", "_law_branch"] ["_law_form"] (defScope s__law_entries_in) := ⟨rfl, rfl, rfl, by decide +kernel, rfl, by decide +kernel, by decide +kernel⟩
theorem ok__law_entries_in {f : Addr} {fd : FuncData} (F : FnP K "_law_entries_in" s__law_entries_in f fd) (g : G mg)   : FnOk P w K mg base CX0 1 f fd ["_law_form"] (sp__law_entries_in K) := by
  have nd := sc__law_entries_in.nd
  refine F.ok sc__law_entries_in (fun vs H Q E h => h.len) (fun cdv A outer s H vs Q E hr h => ?_)
  obtain ⟨v1, rfl, h⟩ := h
  refine ⟨_, PSs.nox (pss_cons (ps_par (i := 1) (j := 2) (by rfl) nd rfl rfl (by decide) rfl rfl (pa_cons (pe_lst pa_nil) (pa_cons (pe_lst (pa_cons (pv 0) pa_nil)) pa_nil)) (by rfl)) (pss_cons (ps_while PassesOwn.never (pt_cmpR (op_neD hr.units) (pv 2) (pe_lst pa_nil) (nomark _)) (pss_cons (ps_asg (pe_bm0 PySem.F.plainAttrs_list PySem.F.slot_list_pop PySem.F.type_list_pop mt_pop (pv 2) ) (pg_tup (n := 2) (by rfl) (pgs_cons (pg_name (i := 3) nd rfl (Or.inl rfl)) (pgs_cons (pg_name (i := 4) nd rfl (Or.inl rfl)) pgs_nil)))) (pss_one (ps_if (pt_cmpR op_eq (pv 3) pe_str (nomark _)) (pss_one (ps_expr (pe_bm PySem.F.plainAttrs_list PySem.F.slot_list_extend PySem.F.type_list_extend mt_extend (pv 1) (pa_cons (pe_callTy call_qlist (by rfl) g.f_list boot_list (pa_cons (pv 4) pa_nil)) pa_nil)))) (pss_one (ps_expr (pe_bm PySem.F.plainAttrs_list PySem.F.slot_list_extend PySem.F.type_list_extend mt_extend (pv 2) (pa_cons (pe_lc (own := [("_law_branch", 5)]) (g := gName 5) (by rfl) nd (pi_tup (pv 4)) (blkOk_by (N := ["_law_form", "_law_found", "_law_waits", "_law_word", "_law_items", "_law_branch"]) (sc := defScope s__law_entries_in) (own := [("_law_branch", 5)]) (by decide +kernel)) (fun _ _ _ _ _ => (pg_name (i := 5) nd rfl (Or.inl rfl))) (fun _ _ _ _ _ => pts_nil) (fun _ _ _ _ _ => (pe_ix (show IxR _ (rIxT K) from ix_tup) (pv 5) pe_int (fun _ _ => rfl)))) pa_nil)))))))) (pss_one (ps_ret (pv 1))))), ?_⟩
  obtain ⟨m, hm, t, h1, hs, q⟩ := h
  wtm_at "go0"
  rename_i fA H1 fn1 fe1 fp1 wA H2 fn2 fe2 fp2
  have L0 : Lsts K H [(wA, [foD m t]), (fA, [])] H2 := (((Lsts.nil (K := K) (G0 := H)).add fn1 fe1 fp1 .nil rfl).add fn2 fe2 fp2 (.cons (dpMono (fe1.trans fe2) h1) .nil) (noLs_fs [⟨m, t⟩]))
  have hle := ents_le hm hs
  have hls := subs_le hm hs
  refine i_tw (fun μ σ' H' => ∃ (st : List Fs) (fs : List En) (a b c : Option V), σ' = [some v1, some (.ref fA), some (.ref wA), a, b, c] ∧ Lsts K H [(wA, st.map fsD), (fA, fs.map enD)] H' ∧ (fs ++ st.flatMap fsE).Perm (ents m t) ∧ (∀ s ∈ st, Sm s.1 s.2 ∧ s.1 ≤ 3) ∧ stN st = μ ∧ stN st ≤ 129) (stN [⟨m, t⟩])
    ⟨[⟨m, t⟩], [], _, _, _, rfl, L0, by simp [fsE], fun s h => by rcases List.mem_singleton.mp h with rfl; exact ⟨hs, hm⟩, rfl, by show (subs m t).length + 1 + 0 ≤ 129; omega⟩ ?_
  rintro μ σ' H' ⟨st, fs, a, b, c, rfl, L, hp, hsm, rfl, h129⟩
  wtm_at "go"
  rename_i np nH nfr nhe nhp
  have L1 := L.up nhe
  refine i_neD (L1.ref (i := 0) rfl) (.lst (Evl.sq_of nhp) .nil) (shp_fs fun s h => (hsm s h).2) rfl ?_
  rw [eqv_nil]
  wtm_at "go"
  · rename_i hne
    have hne' : st ≠ [] := fun z => hne (by rw [z]; rfl)
    obtain ⟨r, s, rfl⟩ := st_last hne'
    rw [List.map_append] at L1
    refine ⟨fun σ2 G2 => ∃ μ', μ' < stN (r ++ [s]) ∧ ∃ (st : List Fs) (fs : List En) (a b c : Option V), σ2 = [some v1, some (.ref fA), some (.ref wA), a, b, c] ∧ Lsts K H [(wA, st.map fsD), (fA, fs.map enD)] G2 ∧ (fs ++ st.flatMap fsE).Perm (ents m t) ∧ (∀ s ∈ st, Sm s.1 s.2 ∧ s.1 ≤ 3) ∧ stN st = μ' ∧ stN st ≤ 129, fun _ _ h => h, ?_⟩
    wtm_at "go"
    refine i_bm0 ?_
    wtm_at "go"
    refine L1.ty (i := 0) rfl ?_
    refine L1.pop (i := 0) (ds := r.map fsD) (d := fsD s) rfl (fun y H3 L3 hy hk => ?_)
    have L3' : Lsts K H [(wA, r.map fsD), (fA, fs.map enD)] H3 := L3
    obtain ⟨k, ft⟩ := s
    obtain ⟨sk, k3⟩ := hsm ⟨k, ft⟩ (List.mem_append_right _ List.mem_cons_self)
    have hsm' : ∀ s ∈ r, Sm s.1 s.2 ∧ s.1 ≤ 3 := fun s h => hsm s (List.mem_append_left _ h)
    have hN : stN (r ++ [⟨k, ft⟩]) = stN r + ((subs k ft).length + 1) := by rw [stN_app]; rfl
    rw [List.flatMap_append] at hp
    have hp' : (fs ++ (r.flatMap fsE ++ ents k ft)).Perm (ents m t) := by simpa [fsE] using hp
    have hlf : fs.length ≤ 256 := by
      have := hp'.length_eq
      rw [List.length_append] at this
      omega
    have hrl := stN_len r
    cases k with
    | zero =>
      have hy : Dp K H3 y (.tuple [.str "leaf", .tuple ((foL ft).map enD)]) := hy
      wtm_at "go"
      rename_i gv gr gh1 gh2 gv2 gr2 gh3 gh4
      cases dpStr gh1
      wtm_at "go"
      refine i_bmA ?_
      wtm_at "go"
      refine L3'.ty (i := 1) rfl ?_
      wtm_at "go"
      refine i_qlistT gh3 (fun p H4 hp4 e4 hh => ?_)
      obtain ⟨zs, hz1, hz2⟩ := hh
      wtm_at "go"
      refine (L3'.up e4).extend (i := 1) rfl hz1 hz2 (noLs_map _ noL_en _) (by have : (foL ft).length ≤ 4 := sk; rw [List.length_map, List.length_map]; omega) (fun H5 L5 hk5 => ?_)
      wtm_at "go"
      refine ⟨stN r, by omega, r, fs ++ foL ft, _, _, _, rfl, ?_, ?_, hsm', rfl, by omega⟩
      · rw [List.map_append]
        exact L5
      · refine List.Perm.trans ?_ hp'
        rw [List.append_assoc]
        exact (List.perm_append_comm).append_left fs
    | succ k =>
      have sk : Sm (k + 1) ft := sk
      have k3 : k + 1 ≤ 3 := k3
      have hy : Dp K H3 y (.tuple [.str "node", .tuple ((foB ft).map fun p => .tuple [bxD p.1, foD k p.2])]) := hy
      wtm_at "go"
      rename_i gv gr gh1 gh2 gv2 gr2 gh3 gh4
      cases dpStr gh1
      wtm_at "go"
      refine i_bmA ?_
      wtm_at "go"
      refine L3'.ty (i := 0) rfl ?_
      wtm_at "go"
      refine i_lcTU ?_
      wtm_at "go"
      refine i_lcGTR (enc := brD k) (xs := foB ft) (fun _ => true) (fun p => foD k p.2) gh3 (by have := sk.1; omega) (fun p _ => noL_fo k p.2) (fun u x H4 R Y e4 hm4 hu hn4 hy4 => ?_) (fun p H4 zs hp4 e4 hz1 hz2 => ?_)
      · unfold brD at hu
        wtm_at "nrm"
        refine ⟨rfl, ?_⟩
        wtm_at "go"
        rename_i xu hxu
        exact hy4 rfl _ _ (Ex.refl _) hxu
      wtm_at "go"
      have ek : ((foB ft).filter fun _ => true).map (fun p => foD k p.2) = (kids ft).map fsD := by
        rw [List.filter_eq_self.mpr fun _ _ => rfl]
        show _ = ((foB ft).map fun p => (⟨k, p.2⟩ : Fs)).map fsD
        rw [List.map_map]
        rfl
      rw [ek] at hz2
      have h4 : (kids ft).length ≤ 4 := by
        show ((foB ft).map fun p => (⟨k, p.2⟩ : Fs)).length ≤ 4
        rw [List.length_map]
        exact sk.1
      refine (L3'.up e4).extend (i := 0) rfl hz1 hz2 (noLs_fs _) (by rw [List.length_map, List.length_map]; omega) (fun H5 L5 hk5 => ?_)
      wtm_at "go"
      have hN2 : stN (r ++ kids ft) = stN r + (subs (k + 1) ft).length := by rw [stN_app, kids_N]
      refine ⟨stN (r ++ kids ft), by omega, r ++ kids ft, fs, _, _, _, rfl, ?_, ?_, ?_, rfl, by omega⟩
      · rw [List.map_append]
        exact L5
      · rw [List.flatMap_append, kids_E]
        exact hp'
      · intro s h
        rcases List.mem_append.mp h with h | h
        · exact hsm' s h
        · obtain ⟨a1, a2⟩ := kids_Sm sk s h
          exact ⟨a1, by omega⟩
  · rename_i hz
    have hz' : st = [] := List.map_eq_nil_iff.mp hz
    subst hz'
    have hp' : fs.Perm (ents m t) := by simpa using hp
    wtm_at "go"
    exact q fs hp' fA nH (Evl.fresh_back (Ex.refl _) (by have := L1.fr (fA, fs.map enD) (List.mem_cons_of_mem _ List.mem_cons_self); exact this)) L1.ex (L1.ref (i := 1) rfl)
theorem use__law_entries_in {m : Nat} {t : Fo m} (hm : m ≤ 3) (h : Dp K H v1 (foD m t)) (hs : Sm m t) (q : ∀ es : List En, es.Perm (ents m t) → ∀ p H2, H p = none → Ex H H2 → Dp K H2 (.ref p) (.list (es.map enD)) → Q (.ref p) H2) : sp__law_entries_in K [v1] H Q E := ⟨_, rfl, m, hm, t, h, hs, q⟩
end
end Wb

namespace Wb
open PySem PySem.Spec PyProof.Rows L2 StX
open Evl (Ex Ex.refl Ex.trans Ex.new)
local macro_rules | `(tactic| wtm_at "dp") => `(tactic| first | with_reducible assumption | with_reducible exact Dp.int _ | with_reducible exact Dp.bl _ | with_reducible exact Dp.str _ | with_reducible exact Dp.non | ((with_reducible refine' dpMono ?dme (by with_reducible assumption)); (case dme => wtm_at "ex")) | ((with_reducible refine' Dp.tup (Evl.st_of ?dph) ?dpa); (case dph => wtm_at "hs"); (case dpa => wtm_at "dpa")) | ((with_reducible refine' Dp.lst (Evl.sq_of ?dph) ?dpa); (case dph => wtm_at "hs"); (case dpa => wtm_at "dpa")))
local macro_rules | `(tactic| wtm_at "dpa") => `(tactic| first | with_reducible exact DpAll.nil | ((with_reducible refine' DpAll.cons ?dp1 ?dp2); (case dp1 => wtm_at "dp"); (case dp2 => wtm_at "dpa")) | with_reducible assumption | ((with_reducible refine' dpMonoA ?dme (by with_reducible assumption)); (case dme => wtm_at "ex")))
local macro_rules | `(tactic| wtm_at "sz") => `(tactic| first | with_reducible assumption | ((with_reducible refine' sz_mul ?sz1 ?sz2); (case sz1 => wtm_at "sz"); (case sz2 => wtm_at "sz")) | ((with_reducible refine' sz_add ?sz1 ?sz2); (case sz1 => wtm_at "sz"); (case sz2 => wtm_at "sz")) | ((with_reducible refine' sz_sub ?sz1 ?sz2); (case sz1 => wtm_at "sz"); (case sz2 => wtm_at "sz")) | ((with_reducible refine' sz_neg ?sz1); (case sz1 => wtm_at "sz")) | ((with_reducible refine' sz_div ?sz1); (case sz1 => wtm_at "sz")) | ((with_reducible refine' sz_fdiv ?sz1); (case sz1 => wtm_at "sz")) | exact sz_lit (by decide) | wtm_at "sz2")
local macro_rules | `(tactic| wtm_at "szb") => `(tactic| first | with_reducible assumption | ((with_reducible refine' sz_mono ?szb1 ?szb2); (case szb1 => wtm_at "sz"); (case szb2 => decide)))
local macro_rules | `(tactic| wtm_at "nz") => `(tactic| first | assumption | decide | omega)
local macro_rules | `(tactic| wtm_at "shaped") => `(tactic| first | rfl | decide)
local macro_rules | `(tactic| wtm_at "sset") => `(tactic| ((dsimp only [L2.wipe, List.set, List.set_cons_zero, List.set_cons_succ]) <;> exact rfl))
local macro_rules | `(tactic| wtm_at "nrm") => `(tactic| dsimp only [L2.start, L2.wipe, List.set, List.append, List.map, List.map_cons, List.map_nil, List.length_cons, List.length_nil, Nat.reduceAdd, Nat.reduceSub, List.reduceReplicate, List.replicate, List.cons_append, List.nil_append, List.set_cons_zero, List.set_cons_succ])
local macro_rules | `(tactic| wtm_at "st") => `(tactic| first
  | ((with_reducible refine' i_var (v := ?u0) ?u1 ?uq); (case u1 => exact rfl))
  | ((with_reducible refine' i_nameN ?u0 ?uq); (case u0 => wtm_at "sset"))
  | (with_reducible refine' i_op ?uq)
  | (with_reducible refine' i_c ?uq)
  | (with_reducible refine' i_I0 ?uq)
  | ((with_reducible refine' i_ixTI (i := ?u0) ?u1 ?u2 ?u3 ?uq); (case u1 => wtm_at "dp"); (case u2 => wtm_at "ex"); (case u3 => exact rfl))
  | ((with_reducible refine' i_ixT (d := ?u0) ?u1 ?u2 ?u3 (fun xu hxu => ?uq)); (case u1 => wtm_at "dp"); (case u2 => wtm_at "ex"); (case u3 => exact rfl))
  | ((with_reducible refine' i_mul ?u0 ?u1 ?u2 ?uq); (case u0 => wtm_at "sz"); (case u1 => wtm_at "sz"); (case u2 => first | decide | omega))
  | (with_reducible refine' i_seq ?uq)
  | (with_reducible refine' i_asg ?uq)
  | (with_reducible refine' i_ret ?uq)
  | (with_reducible refine' i_ifs ?uq)
  | (with_reducible refine' i_drop ?uq)
  | (with_reducible refine' i_next ?uq)
  | (with_reducible refine' i_cons ?uq)
  | (with_reducible refine' i_nil ?uq)
  | (with_reducible refine' i_cl ?uq)
  | (with_reducible refine' i_cb ?uq)
  | (with_reducible refine' i_tup ?uq)
  | (with_reducible refine' i_lst ?uq)
  | ((with_reducible refine' i_mkT ?u0 (fun np nH nhe nhp => ?uq)); (case u0 => exact Nat.le_of_ble_eq_true rfl))
  | (with_reducible refine' i_test ?uq)
  | (with_reducible refine' i_B ?uq)
  | (with_reducible refine' i_k ?uq)
  | (with_reducible refine' i_and ?uq)
  | (with_reducible refine' i_or ?uq)
  | (with_reducible refine' i_not ?uq)
  | (with_reducible refine' i_andV ?uq)
  | (with_reducible refine' i_orV ?uq)
  | (with_reducible refine' i_notV ?uq)
  | (with_reducible refine' i_if ?uq)
  | (with_reducible refine' i_un ?uq)
  | (with_reducible refine' i_U ?uq)
  | (with_reducible refine' i_iteT ?uq)
  | (with_reducible refine' i_iteF ?uq)
  | ((with_reducible refine' i_iteTr ?u0 ?uq); (case u0 => first | with_reducible rfl | decide | (simp only [dIsInt, dIsBool, dIsTup, dIsStr, dIsLst, Bool.not_true, Bool.not_false]; done)))
  | ((with_reducible refine' i_iteFr ?u0 ?uq); (case u0 => first | with_reducible rfl | decide | (simp only [dIsInt, dIsBool, dIsTup, dIsStr, dIsLst, Bool.not_true, Bool.not_false]; done)))
  | (with_reducible refine' i_ite (fun hif => ?uqa) (fun hif => ?uqb))
  | (with_reducible refine' i_iteN (fun hif => ?uqa) (fun hif => ?uqb))
  | (with_reducible refine' i_iteBN (fun hif => ?uqa) (fun hif => ?uqb))
  | (with_reducible refine' i_iteB (fun hif => ?uqa) (fun hif => ?uqb))
  | ((with_reducible refine' i_modN ?u0 ?uq); (case u0 => wtm_at "nz"))
  | ((with_reducible refine' i_fdX ?u0 ?u1 ?u2 ?uq); (case u0 => wtm_at "nz"); (case u1 => wtm_at "sz"); (case u2 => first | decide | omega))
  | ((with_reducible refine' i_pow ?u0 ?uq); (case u0 => exact ⟨by decide, by decide +kernel⟩))
  | (with_reducible refine' i_eqI ?uq)
  | (with_reducible refine' i_neI ?uq)
  | (with_reducible refine' i_gcd ?uq)
  | (with_reducible refine' i_qabs ?uq)
  | (with_reducible refine' i_qint ?uq)
  | (with_reducible refine' i_qintB ?uq)
  | (with_reducible refine' i_qmax2 ?uq)
  | (with_reducible refine' i_qmin2 ?uq)
  | (with_reducible refine' i_isB ?uq)
  | (with_reducible refine' i_notB ?uq)
  | (with_reducible refine' i_chain ?uq)
  | (with_reducible refine' i_qisN ?uq)
  | (with_reducible refine' i_qnotN ?uq)
  | (with_reducible refine' i_yes ?uq)
  | (with_reducible refine' i_par ?uq)
  | (with_reducible refine' i_par3 ?uq)
  | ((with_reducible refine' i_par2 ?u0 ?uq); (case u0 => wtm_at "sset"))
  | ((with_reducible refine' i_par33 ?u0 ?uq); (case u0 => wtm_at "sset"))
  | ((with_reducible refine' i_ixLI (i := ?u0) ?u1 ?u2 ?u3 ?uq); (case u1 => wtm_at "dp"); (case u2 => wtm_at "ex"); (case u3 => exact rfl))
  | ((with_reducible refine' i_ixL (d := ?u0) ?u1 ?u2 ?u3 (fun xu hxu => ?uq)); (case u1 => wtm_at "dp"); (case u2 => wtm_at "ex"); (case u3 => exact rfl))
  | ((with_reducible refine' i_qlenT ?u0 ?uq); (case u0 => wtm_at "dp"))
  | ((with_reducible refine' i_qlenL ?u0 ?uq); (case u0 => wtm_at "dp"))
  | ((with_reducible refine' i_gtup ?u0 ?u1 ?u2 (fun gvs gdp => ?uq)); (case u0 => wtm_at "dp"); (case u1 => wtm_at "ex"); (case u2 => exact rfl))
  | ((with_reducible refine' i_glst ?u0 ?u1 ?u2 (fun gvs gdp => ?uq)); (case u0 => wtm_at "dp"); (case u1 => wtm_at "ex"); (case u2 => exact rfl))
  | ((with_reducible refine' i_gconsI ?u0 (fun gr gh => ?uq)); (case u0 => with_reducible assumption))
  | ((with_reducible refine' i_gconsA ?u0 (fun gv gr gh1 gh2 => ?uq)); (case u0 => with_reducible assumption))
  | ((with_reducible refine' i_gnilA ?u0 ?uq); (case u0 => with_reducible assumption))
  | ((with_reducible refine' i_isiI ?u0 ?uq); (case u0 => wtm_at "dp"))
  | ((with_reducible refine' i_isiB ?u0 ?uq); (case u0 => wtm_at "dp"))
  | ((with_reducible refine' i_isiT ?u0 ?uq); (case u0 => wtm_at "dp"))
  | ((with_reducible refine' i_isiS ?u0 ?uq); (case u0 => wtm_at "dp"))
  | ((with_reducible refine' i_isiL ?u0 ?uq); (case u0 => wtm_at "dp"))
  | ((with_reducible refine' i_eqD ?u0 ?u1 ?u2 ?u3 ?uq); (case u0 => wtm_at "dp"); (case u1 => wtm_at "dp"); (case u2 => wtm_at "shaped"); (case u3 => wtm_at "shaped"))
  | ((with_reducible refine' i_neD ?u0 ?u1 ?u2 ?u3 ?uq); (case u0 => wtm_at "dp"); (case u1 => wtm_at "dp"); (case u2 => wtm_at "shaped"); (case u3 => wtm_at "shaped"))
  | wtm_at "st2"
  | wtm_at "use")
local macro_rules | `(tactic| wtm_at "go") => `(tactic| repeat' (wtm_at "st"))
local macro_rules | `(tactic| wtm_at "go0") => `(tactic| ((try dsimp only [L2.cxOf, L2.Cx.nox, L2.Cx.wish, L2.Cx.tr, L2.Cx.blk]); (try wtm_at "nrm"); wtm_at "go"))
local macro_rules | `(tactic| wtm_at "fin") => `(tactic| ((try dsimp only); first | with_reducible assumption | assumption | ((with_reducible refine' Ret.use ?rur ?rue ?rud); (case rur => with_reducible assumption); (case rue => wtm_at "ex"); (case rud => wtm_at "dp"))))
local macro_rules | `(tactic| wtm_at "exh") => `(tactic| first | with_reducible assumption | with_reducible exact Ex.refl _ | with_reducible exact ex_hid | ((with_reducible refine' Ex.trans ?exe (by with_reducible assumption)); (case exe => wtm_at "exh")) | ((with_reducible refine' Ex.trans ?exe (hid_ex (by with_reducible assumption))); (case exe => wtm_at "exh")))
local macro_rules | `(tactic| wtm_at "ex") => `(tactic| first | with_reducible assumption | with_reducible exact Ex.refl _ | with_reducible exact ex_hid | ((with_reducible refine' Ex.trans ?exe (by with_reducible assumption)); (case exe => wtm_at "ex")) | ((with_reducible refine' Ex.trans ?exe (hid_ex (by with_reducible assumption))); (case exe => wtm_at "ex")) | ((with_reducible refine' Ex.trans ?exe ex_hid); (case exe => wtm_at "exh")))
local macro_rules | `(tactic| wtm_at "bag") => `(tactic| first | with_reducible assumption | ((with_reducible refine' Bag.mono ?bgm (by with_reducible assumption)); (case bgm => wtm_at "bag")))
local macro_rules | `(tactic| wtm_at "hs") => `(tactic| first | with_reducible assumption | ((with_reducible refine' hid_tup ?hb ?hp); (case hp => with_reducible assumption); (case hb => wtm_at "bag")) | ((with_reducible refine' hid_new ?hb ?hn ?hp); (case hp => with_reducible assumption); (case hn => with_reducible assumption); (case hb => wtm_at "bag")) | ((with_reducible refine' ex_at ?exe (by with_reducible assumption)); (case exe => wtm_at "ex")))
local macro_rules | `(tactic| wtm_at "st2") => `(tactic| first
  | ((with_reducible refine' i_mulC ?u0 ?uq); (case u0 => first | exact cmul_l (by decide) | exact cmul_r (by decide)))
  | ((with_reducible refine' i_ixLr (v := ?u0) ?u1 ?u2 ?uq); (case u1 => with_reducible assumption); (case u2 => exact rfl))
  | (with_reducible refine' i_sub ?uq)
  | ((with_reducible refine' i_mkL ?u0 (fun np nH nfr nhe nhp => ?uq)); (case u0 => exact Nat.le_of_ble_eq_true rfl))
  | ((with_reducible refine' i_setL (n := ?u0) ?u1 ?u2 (fun sH sh se => ?uq)); (case u1 => with_reducible assumption); (case u2 => exact rfl))
  | (with_reducible refine' i_sl ?uq)
  | (with_reducible refine' i_nopart ?uq)
  | (with_reducible refine' i_part ?uq)
  | (with_reducible refine' i_part1 ?uq))
local macro_rules | `(tactic| wtm_at "sz2") => `(tactic| ((with_reducible refine' sz_fmod ?sz1 ?sz2); (case sz1 => wtm_at "nz"); (case sz2 => wtm_at "sz")))
local macro_rules | `(tactic| wtm_at "stb") => `(tactic| first
  | ((with_reducible refine' i_mkTB ?u0 ?u1 (fun np nH nhe nhb nhp => ?uq)); (case u0 => exact Nat.le_of_ble_eq_true rfl); (case u1 => wtm_at "bag"))
  | ((with_reducible refine' i_mkLB ?u0 ?u1 (fun np nH nfr nhe nhb nhp => ?uq)); (case u0 => exact Nat.le_of_ble_eq_true rfl); (case u1 => wtm_at "bag"))
  | wtm_at "st")
local macro_rules | `(tactic| wtm_at "gob") => `(tactic| repeat' (wtm_at "stb"))
local macro_rules | `(tactic| wtm_at "gob0") => `(tactic| ((try dsimp only [L2.cxOf, L2.Cx.nox, L2.Cx.wish, L2.Cx.tr, L2.Cx.blk]); (try wtm_at "nrm"); wtm_at "gob"))
local macro_rules | `(tactic| wtm_at "st") => `(tactic| first | ((with_reducible refine' i_ixTS (z := ?u0) ?u1 ?u2 ?u3 ?uq); (case u1 => wtm_at "dp"); (case u2 => wtm_at "ex"); (case u3 => exact rfl)) | fail)
local macro_rules | `(tactic| wtm_at "st2") => `(tactic| first | ((with_reducible refine' i_eqST ?u0 ?uq); (case u0 => with_reducible rfl)) | ((with_reducible refine' i_eqSF ?u0 ?uq); (case u0 => decide +kernel)) | ((with_reducible refine' i_neST ?u0 ?uq); (case u0 => with_reducible rfl)) | ((with_reducible refine' i_neSF ?u0 ?uq); (case u0 => decide +kernel)) | fail)
section
variable {P : Program} {w : World} {K : PySem.W.Frag} {mg : Str → Option Value} {base : Heap} {H H' : Hp} {Q : VK} {E : XK} {v1 v2 v3 v4 v5 : V}
local macro_rules | `(tactic| wtm_at "use") => `(tactic| ((with_reducible refine' use__law_draw ?u0 ?u1 ?u2 (fun dn dH dn0 dn1 de db => ?uq)); (case u0 => wtm_at "bag"); (case u1 => wtm_at "pos"); (case u2 => wtm_at "szb")))
local macro_rules | `(tactic| wtm_at "pos") => `(tactic| first | assumption | decide | omega)
local macro_rules | `(tactic| wtm_at "oneof") => `(tactic| ((with_reducible refine' use__law_one_of ?u0 ?u1 ?u2 ?u3 ?uq); (case u0 => wtm_at "bag"); (case u1 => wtm_at "dp"); (case u2 => exact Nat.le_of_ble_eq_true rfl); (case u3 => exact Nat.le_of_ble_eq_true rfl)))
theorem perm_map_inv {α β : Type} {enc : α → β} : ∀ {xs : List α} {es : List β}, es.Perm (xs.map enc) → ∃ ys : List α, ys.Perm xs ∧ es = ys.map enc
  | [], es, h => ⟨[], List.Perm.refl _, List.Perm.eq_nil h⟩
  | x :: xs, es, h => by
    have hm : enc x ∈ es := h.mem_iff.mpr (by rw [List.map_cons]; exact List.mem_cons_self)
    obtain ⟨l1, l2, rfl⟩ := List.append_of_mem hm
    have h2 : (l1 ++ l2).Perm (xs.map enc) := by
      have := List.perm_middle.symm.trans h
      rw [List.map_cons] at this
      exact this.cons_inv
    obtain ⟨ys, h3, h4⟩ := perm_map_inv h2
    obtain ⟨y1, y2, e1, e2, e3⟩ := List.append_eq_map_iff.mp h4
    subst e1 e2 e3
    exact ⟨y1 ++ x :: y2, List.perm_middle.trans (h3.cons x), by rw [List.map_append, List.map_cons]⟩
theorem dpIntsOf : ∀ {ns : List Int}, DpAll K H (ns.map V.int) (ns.map PyData.int)
  | [] => .nil
  | n :: ns => .cons (.int n) dpIntsOf
section
variable {σ : L2.St} {te tl : TE} {tt : TT} {g : TG} {vs : List Nat} {j : Nat} {v : V}
/-- [.. for j in range(n)], nothing but new things made -/
theorem i_lcRG {n : Nat} (f : Nat → PyData) (hn : n ≤ 1000) (hf : ∀ i, noL (f i) = true) (hw : ∀ x, wipe ((wipe σ vs).set j (some x)) vs = wipe σ vs)
    (he : ∀ (i : Nat) (H2 : Hp) (R : VK), i < n → Ex H H2 → (∀ w H3, Ex H2 H3 → Dp K H3 w (f i) → R w H3) → te ((wipe σ vs).set j (some (.int (i : Int)))) H2 R)
    (q : ∀ p H2 zs, H p = none → Ex H H2 → H2 p = some (.lst zs) → DpAll K H2 zs ((List.range n).map f) → Q (.ref p) H2) : tLc (iRng1 (kA [.int (n : Int)])) (gName j) tYes te vs σ H Q := by
  refine ⟨(n : Int), rfl, by omega, by omega, fun D0 hD => ?_⟩
  refine lc_range (lo := 0) (n := ((n : Int)).toNat) (fun i H' => Acc K H D0 ((List.range i).map f) H') (Acc.new hD) (fun i H' hi p => ?_) (fun H' p => ?_)
  · have e0 : (0 : Int) + (i : Int) = (i : Int) := Int.zero_add _
    show wipe ((wipe σ vs).set j (some (.int ((0 : Int) + (i : Int))))) vs = wipe σ vs ∧ tYes ((wipe σ vs).set j (some (.int ((0 : Int) + (i : Int))))) H' fun b' H3 => _
    rw [e0]
    refine ⟨hw _, he i H' _ (by omega) p.2.1 fun w H3 e3 hy => ?_⟩
    have := (p.up e3).put (by rw [List.length_map, List.length_range]; omega) (fun z hz => by
      obtain ⟨k, _, rfl⟩ := List.mem_map.mp hz
      exact hf k) (hf i) hy
    rw [List.range_succ, List.map_append]
    exact this
  · obtain ⟨p1, p2, acc, p3, p4⟩ := p
    exact q D0 H' acc p1 p2 p3 p4
/-- [.. for x in xs], each turn draws from the bag -/
theorem i_lcGLB {α β : Type} {enc : α → PyData} {enc2 : β → PyData} {key : β → α} {xs : List α} {P : β → Prop} {b : Addr} (hb : Bag b H) (h : Dp K (hid b H) v (.list (xs.map enc))) (hl : xs.length ≤ 1000) (hn : ∀ y, noL (enc2 y) = true)
    (ht : ∀ (u : V) (x : α) (H2 : Hp) (R : Hp → Prop) (Y : VK), Ex (hid b H) (hid b H2) → Bag b H2 → x ∈ xs → Dp K (hid b H2) u (enc x) → (∀ w H3 y, key y = x → P y → Ex (hid b H2) (hid b H3) → Bag b H3 → Dp K (hid b H3) w (enc2 y) → Y w H3) →
      g u (wipe σ vs) H2 fun σ2 H3 => wipe σ2 vs = wipe σ vs ∧ tt σ2 H3 fun b H4 => if b = true then te σ2 H4 Y else R H4)
    (q : ∀ p H2 (ys : List β), ys.map key = xs → (∀ y ∈ ys, P y) → Ex (hid b H) (hid b H2) → Bag b H2 → Dp K (hid b H2) (.ref p) (.list (ys.map enc2)) → Q (.ref p) H2) : tLc (iList K (tC v)) g tt te vs σ H Q := by
  obtain ⟨a, us, rfl, hs, ha⟩ := dpLst h
  have el : us.length = xs.length := by rw [dpLen ha, List.length_map]
  refine ⟨a, rfl, ⟨us, Evl.ex_l ex_hid hs⟩, fun D hD => ?_⟩
  have hDb : D ≠ b := hb.ne hD
  have hD' : hid b H D = none := by
    unfold hid
    rw [if_neg hDb]
    exact hD
  have n0 : Acc K (hid b H) D [] (hid b (upd H D (.lst []))) := by
    rw [hid_updn hDb]
    exact Acc.new hD'
  refine lc_list (xs := us) (fun i H' => Bag b H' ∧ ∃ ys : List β, ys.map key = xs.take i ∧ (∀ y ∈ ys, P y) ∧ Acc K (hid b H) D (ys.map enc2) (hid b H')) ⟨bag_upd hDb hb, [], by simp, fun y hy => (by cases hy), n0⟩ (fun i H' _ p => ?_) (fun i u H' hi p => ?_) (fun H' p => ?_)
  · obtain ⟨_, ys, _, _, p⟩ := p
    exact Evl.ex_l ex_hid (Evl.ex_l p.2.1 hs)
  · obtain ⟨pb, ys, py, pP, p⟩ := p
    obtain ⟨d, hd, hu⟩ := dpIdx ha hi
    rw [List.getElem?_map] at hd
    obtain ⟨x, hx, rfl⟩ := Option.map_eq_some_iff.mp hd
    have ht1 : xs.take (i + 1) = xs.take i ++ [x] := by rw [List.take_add_one, hx]; rfl
    have hyl : ys.length ≤ i := by
      have : (ys.map key).length = (xs.take i).length := by rw [py]
      rw [List.length_map, List.length_take] at this
      omega
    have hil : i < xs.length := (List.getElem?_eq_some_iff.mp hx).1
    refine ht u x H' _ _ p.2.1 pb (List.mem_of_getElem? hx) (dpMono p.2.1 hu) fun w H3 y hk hP e3 b3 hw => ?_
    obtain ⟨acc, q1, q2, q3⟩ := (p.up e3).put (by rw [List.length_map]; omega) (fun z hz => by
      obtain ⟨k, _, rfl⟩ := List.mem_map.mp hz
      exact hn k) (hn y) hw
    refine ⟨acc, (of_hid q1).2, q2, bag_upd hDb b3, ys ++ [y], ?_, ?_, ?_⟩
    · rw [List.map_append, py, ht1, ← hk]
      rfl
    · intro z hz
      rcases List.mem_append.mp hz with h | h
      · exact pP z h
      · rcases List.mem_singleton.mp h with rfl
        exact hP
    · rw [hid_updn hDb, List.map_append]
      exact q3
  · obtain ⟨pb, ys, py, pP, p⟩ := p
    rw [el, List.take_length] at py
    obtain ⟨p1, p2, acc, p3, p4⟩ := p
    exact q D H' ys py pP p2 pb (.lst (Evl.sq_of p3) p4)
end
def sp__law_boxes_in (K : PySem.W.Frag) : Sp := A1 fun v1 H Q => ∃ m, m ≤ 3 ∧ ∃ t : Fo m, Dp K H v1 (foD m t) ∧ Sm m t ∧ ∀ es : List En, es.Perm (ents m t) → RetL K ((es.map (·.2)).map bxD) H Q
abbrev s__law_boxes_in : Stmt := top 63
theorem sc__law_boxes_in : FnScope ["_law_form", "_law_entry"] ["_law_form"] (defScope s__law_boxes_in) := ⟨rfl, rfl, rfl, by decide +kernel, rfl, by decide +kernel, by decide +kernel⟩
theorem ok__law_boxes_in {f : Addr} {fd : FuncData} (F : FnP K "_law_boxes_in" s__law_boxes_in f fd) (g : G mg) (c__law_entries_in : Cl P w K mg base 1 "_law_entries_in" (sp__law_entries_in K))  : FnOk P w K mg base CX0 2 f fd ["_law_form"] (sp__law_boxes_in K) := by
  have nd := sc__law_boxes_in.nd
  refine F.ok sc__law_boxes_in (fun vs H Q E h => h.len) (fun cdv A outer s H vs Q E hr h => ?_)
  obtain ⟨v1, rfl, h⟩ := h
  refine ⟨_, PSs.nox (pss_one (ps_ret (pe_lc (own := [("_law_entry", 1)]) (g := gName 1) (by rfl) nd (pi_list (pc c__law_entries_in hr (by first | decide | omega) (by rfl) (pa_cons (pv 0) pa_nil))) (blkOk_by (N := ["_law_form", "_law_entry"]) (sc := defScope s__law_boxes_in) (own := [("_law_entry", 1)]) (by decide +kernel)) (fun _ _ _ _ _ => (pg_name (i := 1) nd rfl (Or.inl rfl))) (fun _ _ _ _ _ => pts_nil) (fun _ _ _ _ _ => (pe_ix (show IxR _ (rIxT K) from ix_tup) (pv 1) pe_int (fun _ _ => rfl)))))), ?_⟩
  obtain ⟨m, hm, t, h1, hs, q⟩ := h
  have hle := ents_le hm hs
  wtm_at "go0"
  refine i_lcLU ?_
  wtm_at "go"
  refine use__law_entries_in hm h1 hs (fun es hp p H2 hpn e2 hl => ?_)
  have hel : es.length ≤ 256 := by rw [hp.length_eq]; exact hle
  refine i_lcGL (enc := enD) (xs := es) (fun _ => true) (fun e => bxD e.2) hl (by omega) (fun x _ => noL_bx _) (fun u x H3 R Y e3 hm3 hu hn hy => ?_) (fun p3 H3 hp3 e3 hl3 => ?_)
  · unfold enD at hu
    wtm_at "nrm"
    refine ⟨rfl, ?_⟩
    wtm_at "go"
    rename_i xu hxu
    exact hy rfl _ _ (Ex.refl _) hxu
  · rw [List.filter_eq_self.mpr fun _ _ => rfl] at hl3
    refine q es hp p3 H3 (ex_none hp3 e2) (e2.trans e3) ?_
    rw [List.map_map]
    exact hl3
theorem use__law_boxes_in {m : Nat} {t : Fo m} (hm : m ≤ 3) (h : Dp K H v1 (foD m t)) (hs : Sm m t) (q : ∀ es : List En, es.Perm (ents m t) → ∀ p H2, H p = none → Ex H H2 → Dp K H2 (.ref p) (.list ((es.map (·.2)).map bxD)) → Q (.ref p) H2) : sp__law_boxes_in K [v1] H Q E := ⟨_, rfl, m, hm, t, h, hs, q⟩
/-- drawn entries: different numbers, boxes that are boxes -/
def EnOk (es : List En) : Prop := (es.map (·.1)).Nodup ∧ ∀ e ∈ es, e.2.ok
def sp__law_drawn_entries (K : PySem.W.Frag) : Sp := A2 fun v1 v2 H Q => ∃ (b : Addr) (n : Nat), v1 = .ref b ∧ v2 = .int (n : Int) ∧ n ≤ 14 ∧ Bag b H ∧ ∀ p H2 (es : List En), es.length = n → EnOk es → Ex (hid b H) (hid b H2) → Bag b H2 → Dp K (hid b H2) (.ref p) (.list (es.map enD)) → Q (.ref p) H2
theorem nums_nodup (n : Nat) : ((List.range n).map fun i : Nat => ((i : Int) * 7 - 9)).Nodup := List.Pairwise.map _ (fun a b (h : a ≠ b) => by omega) List.nodup_range
abbrev s__law_drawn_entries : Stmt := top 68
theorem sc__law_drawn_entries : FnScope ["_law_bag_here", "_law_size", "_law_numbers", "_law_number", "_law_at"] ["_law_bag_here", "_law_size"] (defScope s__law_drawn_entries) := ⟨rfl, rfl, rfl, by decide +kernel, rfl, by decide +kernel, by decide +kernel⟩
theorem ok__law_drawn_entries {f : Addr} {fd : FuncData} (F : FnP K "_law_drawn_entries" s__law_drawn_entries f fd) (g : G mg) (c__law_shuffled : Cl P w K mg base 2 "_law_shuffled" (sp__law_shuffled K)) (c__law_small_box : Cl P w K mg base 3 "_law_small_box" (sp__law_small_box K))  : FnOk P w K mg base CX0 4 f fd ["_law_bag_here", "_law_size"] (sp__law_drawn_entries K) := by
  have nd := sc__law_drawn_entries.nd
  refine F.ok sc__law_drawn_entries (fun vs H Q E h => h.len) (fun cdv A outer s H vs Q E hr h => ?_)
  obtain ⟨v1, v2, rfl, h⟩ := h
  refine ⟨_, PSs.nox (pss_cons (ps_set (i := 2) nd rfl (Or.inl rfl) (pc c__law_shuffled hr (by first | decide | omega) (by rfl) (pa_cons (pv 0) (pa_cons (pe_lc (own := [("_law_at", 4)]) (g := gName 4) (by rfl) nd (pi_range1 (by rfl) g.f_range (pa_cons (pv 1) pa_nil)) (blkOk_by (N := ["_law_bag_here", "_law_size", "_law_numbers", "_law_number", "_law_at"]) (sc := defScope s__law_drawn_entries) (own := [("_law_at", 4)]) (by decide +kernel)) (fun _ _ _ _ _ => (pg_name (i := 4) nd rfl (Or.inl rfl))) (fun _ _ _ _ _ => pts_nil) (fun _ _ _ _ _ => (pe_op op_sub (pe_op op_mul (pv 4) pe_int) pe_int))) pa_nil)))) (pss_one (ps_ret (pe_lc (own := [("_law_number", 3)]) (g := gName 3) (by rfl) nd (pi_list (pv 2)) (blkOk_by (N := ["_law_bag_here", "_law_size", "_law_numbers", "_law_number", "_law_at"]) (sc := defScope s__law_drawn_entries) (own := [("_law_number", 3)]) (by decide +kernel)) (fun _ _ _ _ _ => (pg_name (i := 3) nd rfl (Or.inl rfl))) (fun _ _ _ _ _ => pts_nil) (fun _ _ _ _ _ => (pe_tup (pa_cons (pv 3) (pa_cons (pc c__law_small_box hr (by first | decide | omega) (by rfl) (pa_cons (pv 0) pa_nil)) pa_nil)))))))), ?_⟩
  obtain ⟨b, n, rfl, rfl, hn, hb, q⟩ := h
  wtm_at "gob0"
  refine i_lcRU ?_
  wtm_at "gob"
  refine i_lcRG (K := K) (n := n) (fun i => .int ((i : Int) * 7 - 9)) (by omega) (fun _ => rfl) (fun x => wipe1 x) (fun i H2 R hi e2 hr2 => ?_) (fun p H2 zs hp e2 hz1 hz2 => ?_)
  · wtm_at "nrm"
    wtm_at "gob"
    exact hr2 _ _ (Ex.refl _) (Dp.int _)
  have en : (List.range n).map (fun i : Nat => PyData.int ((i : Int) * 7 - 9)) = ((List.range n).map fun i : Nat => ((i : Int) * 7 - 9)).map PyData.int := by rw [List.map_map]; rfl
  rw [en] at hz2
  have hnd := nums_nodup n
  have hln : ((List.range n).map fun i : Nat => ((i : Int) * 7 - 9)).length = n := by rw [List.length_map, List.length_range]
  generalize (List.range n).map (fun i : Nat => ((i : Int) * 7 - 9)) = ns at *
  have hzs := dpInts hz2
  subst hzs
  have hl1 : Dp K (hid b H2) (.ref p) (.list (ns.map PyData.int)) := .lst (Evl.sq_of (hid_new hb hp hz1)) dpIntsOf
  wtm_at "gob"
  refine use__law_shuffled (b := b) (hb.mono e2) hl1 (by rw [List.length_map]; omega) (fun es a us H3 hpm e3 b3 h3 d3 => ?_)
  obtain ⟨ms, hms, rfl⟩ := perm_map_inv hpm
  have hml : ms.length = n := by rw [hms.length_eq, hln]
  wtm_at "gob"
  refine i_lcLU ?_
  wtm_at "gob"
  refine i_lcGLB (enc := PyData.int) (enc2 := enD) (key := fun e : En => e.1) (P := fun e => e.2.ok) b3 (.lst (Evl.sq_of h3) d3) (by omega) noL_en (fun u x H4 R Y e4 b4 hm4 hu hY => ?_) (fun p5 H5 ys hk hP e5 b5 hl5 => ?_)
  · cases dpInt hu
    wtm_at "nrm"
    refine ⟨rfl, ?_⟩
    wtm_at "gob"
    refine use__law_small_box b4 (fun v H5 x5 hok e5 b5 hv => ?_)
    wtm_at "gob"
    rename_i np nH nhe nhb nhp
    exact hY _ _ (x, x5) rfl hok (by wtm_at "ex") nhb (.tup (Evl.st_of nhp) (.cons (.int _) (.cons (dpMono (hid_ex nhe) hv) .nil)))
  · have hyl : ys.length = n := by rw [← List.length_map (f := fun e : En => e.1), hk, hml]
    refine q p5 H5 ys hyl ⟨?_, hP⟩ (by wtm_at "ex") b5 hl5
    rw [hk]
    exact hms.nodup_iff.mpr hnd
theorem use__law_drawn_entries {b : Addr} {n : Nat} (hn : n ≤ 14) (hb : Bag b H) (q : ∀ p H2 (es : List En), es.length = n → EnOk es → Ex (hid b H) (hid b H2) → Bag b H2 → Dp K (hid b H2) (.ref p) (.list (es.map enD)) → Q (.ref p) H2) : sp__law_drawn_entries K [.ref b, .int (n : Int)] H Q E := ⟨_, _, rfl, b, n, rfl, rfl, hn, hb, q⟩
end
end Wb

namespace Wb
open PySem PySem.Spec PyProof.Rows L2 StX
open Evl (Ex Ex.refl Ex.trans Ex.new)
local macro_rules | `(tactic| wtm_at "dp") => `(tactic| first | with_reducible assumption | with_reducible exact Dp.int _ | with_reducible exact Dp.bl _ | with_reducible exact Dp.str _ | with_reducible exact Dp.non | ((with_reducible refine' dpMono ?dme (by with_reducible assumption)); (case dme => wtm_at "ex")) | ((with_reducible refine' Dp.tup (Evl.st_of ?dph) ?dpa); (case dph => wtm_at "hs"); (case dpa => wtm_at "dpa")) | ((with_reducible refine' Dp.lst (Evl.sq_of ?dph) ?dpa); (case dph => wtm_at "hs"); (case dpa => wtm_at "dpa")))
local macro_rules | `(tactic| wtm_at "dpa") => `(tactic| first | with_reducible exact DpAll.nil | ((with_reducible refine' DpAll.cons ?dp1 ?dp2); (case dp1 => wtm_at "dp"); (case dp2 => wtm_at "dpa")) | with_reducible assumption | ((with_reducible refine' dpMonoA ?dme (by with_reducible assumption)); (case dme => wtm_at "ex")))
local macro_rules | `(tactic| wtm_at "sz") => `(tactic| first | with_reducible assumption | ((with_reducible refine' sz_mul ?sz1 ?sz2); (case sz1 => wtm_at "sz"); (case sz2 => wtm_at "sz")) | ((with_reducible refine' sz_add ?sz1 ?sz2); (case sz1 => wtm_at "sz"); (case sz2 => wtm_at "sz")) | ((with_reducible refine' sz_sub ?sz1 ?sz2); (case sz1 => wtm_at "sz"); (case sz2 => wtm_at "sz")) | ((with_reducible refine' sz_neg ?sz1); (case sz1 => wtm_at "sz")) | ((with_reducible refine' sz_div ?sz1); (case sz1 => wtm_at "sz")) | ((with_reducible refine' sz_fdiv ?sz1); (case sz1 => wtm_at "sz")) | exact sz_lit (by decide) | wtm_at "sz2")
local macro_rules | `(tactic| wtm_at "szb") => `(tactic| first | with_reducible assumption | ((with_reducible refine' sz_mono ?szb1 ?szb2); (case szb1 => wtm_at "sz"); (case szb2 => decide)))
local macro_rules | `(tactic| wtm_at "nz") => `(tactic| first | assumption | decide | omega)
local macro_rules | `(tactic| wtm_at "shaped") => `(tactic| first | rfl | decide)
local macro_rules | `(tactic| wtm_at "sset") => `(tactic| ((dsimp only [L2.wipe, List.set, List.set_cons_zero, List.set_cons_succ]) <;> exact rfl))
local macro_rules | `(tactic| wtm_at "nrm") => `(tactic| dsimp only [L2.start, L2.wipe, List.set, List.append, List.map, List.map_cons, List.map_nil, List.length_cons, List.length_nil, Nat.reduceAdd, Nat.reduceSub, List.reduceReplicate, List.replicate, List.cons_append, List.nil_append, List.set_cons_zero, List.set_cons_succ])
local macro_rules | `(tactic| wtm_at "st") => `(tactic| first
  | ((with_reducible refine' i_var (v := ?u0) ?u1 ?uq); (case u1 => exact rfl))
  | ((with_reducible refine' i_nameN ?u0 ?uq); (case u0 => wtm_at "sset"))
  | (with_reducible refine' i_op ?uq)
  | (with_reducible refine' i_c ?uq)
  | (with_reducible refine' i_I0 ?uq)
  | ((with_reducible refine' i_ixTI (i := ?u0) ?u1 ?u2 ?u3 ?uq); (case u1 => wtm_at "dp"); (case u2 => wtm_at "ex"); (case u3 => exact rfl))
  | ((with_reducible refine' i_ixT (d := ?u0) ?u1 ?u2 ?u3 (fun xu hxu => ?uq)); (case u1 => wtm_at "dp"); (case u2 => wtm_at "ex"); (case u3 => exact rfl))
  | ((with_reducible refine' i_mul ?u0 ?u1 ?u2 ?uq); (case u0 => wtm_at "sz"); (case u1 => wtm_at "sz"); (case u2 => first | decide | omega))
  | (with_reducible refine' i_seq ?uq)
  | (with_reducible refine' i_asg ?uq)
  | (with_reducible refine' i_ret ?uq)
  | (with_reducible refine' i_ifs ?uq)
  | (with_reducible refine' i_drop ?uq)
  | (with_reducible refine' i_next ?uq)
  | (with_reducible refine' i_cons ?uq)
  | (with_reducible refine' i_nil ?uq)
  | (with_reducible refine' i_cl ?uq)
  | (with_reducible refine' i_cb ?uq)
  | (with_reducible refine' i_tup ?uq)
  | (with_reducible refine' i_lst ?uq)
  | ((with_reducible refine' i_mkT ?u0 (fun np nH nhe nhp => ?uq)); (case u0 => exact Nat.le_of_ble_eq_true rfl))
  | (with_reducible refine' i_test ?uq)
  | (with_reducible refine' i_B ?uq)
  | (with_reducible refine' i_k ?uq)
  | (with_reducible refine' i_and ?uq)
  | (with_reducible refine' i_or ?uq)
  | (with_reducible refine' i_not ?uq)
  | (with_reducible refine' i_andV ?uq)
  | (with_reducible refine' i_orV ?uq)
  | (with_reducible refine' i_notV ?uq)
  | (with_reducible refine' i_if ?uq)
  | (with_reducible refine' i_un ?uq)
  | (with_reducible refine' i_U ?uq)
  | (with_reducible refine' i_iteT ?uq)
  | (with_reducible refine' i_iteF ?uq)
  | ((with_reducible refine' i_iteTr ?u0 ?uq); (case u0 => first | with_reducible rfl | decide | (simp only [dIsInt, dIsBool, dIsTup, dIsStr, dIsLst, Bool.not_true, Bool.not_false]; done)))
  | ((with_reducible refine' i_iteFr ?u0 ?uq); (case u0 => first | with_reducible rfl | decide | (simp only [dIsInt, dIsBool, dIsTup, dIsStr, dIsLst, Bool.not_true, Bool.not_false]; done)))
  | (with_reducible refine' i_ite (fun hif => ?uqa) (fun hif => ?uqb))
  | (with_reducible refine' i_iteN (fun hif => ?uqa) (fun hif => ?uqb))
  | (with_reducible refine' i_iteBN (fun hif => ?uqa) (fun hif => ?uqb))
  | (with_reducible refine' i_iteB (fun hif => ?uqa) (fun hif => ?uqb))
  | ((with_reducible refine' i_modN ?u0 ?uq); (case u0 => wtm_at "nz"))
  | ((with_reducible refine' i_fdX ?u0 ?u1 ?u2 ?uq); (case u0 => wtm_at "nz"); (case u1 => wtm_at "sz"); (case u2 => first | decide | omega))
  | ((with_reducible refine' i_pow ?u0 ?uq); (case u0 => exact ⟨by decide, by decide +kernel⟩))
  | (with_reducible refine' i_eqI ?uq)
  | (with_reducible refine' i_neI ?uq)
  | (with_reducible refine' i_gcd ?uq)
  | (with_reducible refine' i_qabs ?uq)
  | (with_reducible refine' i_qint ?uq)
  | (with_reducible refine' i_qintB ?uq)
  | (with_reducible refine' i_qmax2 ?uq)
  | (with_reducible refine' i_qmin2 ?uq)
  | (with_reducible refine' i_isB ?uq)
  | (with_reducible refine' i_notB ?uq)
  | (with_reducible refine' i_chain ?uq)
  | (with_reducible refine' i_qisN ?uq)
  | (with_reducible refine' i_qnotN ?uq)
  | (with_reducible refine' i_yes ?uq)
  | (with_reducible refine' i_par ?uq)
  | (with_reducible refine' i_par3 ?uq)
  | ((with_reducible refine' i_par2 ?u0 ?uq); (case u0 => wtm_at "sset"))
  | ((with_reducible refine' i_par33 ?u0 ?uq); (case u0 => wtm_at "sset"))
  | ((with_reducible refine' i_ixLI (i := ?u0) ?u1 ?u2 ?u3 ?uq); (case u1 => wtm_at "dp"); (case u2 => wtm_at "ex"); (case u3 => exact rfl))
  | ((with_reducible refine' i_ixL (d := ?u0) ?u1 ?u2 ?u3 (fun xu hxu => ?uq)); (case u1 => wtm_at "dp"); (case u2 => wtm_at "ex"); (case u3 => exact rfl))
  | ((with_reducible refine' i_qlenT ?u0 ?uq); (case u0 => wtm_at "dp"))
  | ((with_reducible refine' i_qlenL ?u0 ?uq); (case u0 => wtm_at "dp"))
  | ((with_reducible refine' i_gtup ?u0 ?u1 ?u2 (fun gvs gdp => ?uq)); (case u0 => wtm_at "dp"); (case u1 => wtm_at "ex"); (case u2 => exact rfl))
  | ((with_reducible refine' i_glst ?u0 ?u1 ?u2 (fun gvs gdp => ?uq)); (case u0 => wtm_at "dp"); (case u1 => wtm_at "ex"); (case u2 => exact rfl))
  | ((with_reducible refine' i_gconsI ?u0 (fun gr gh => ?uq)); (case u0 => with_reducible assumption))
  | ((with_reducible refine' i_gconsA ?u0 (fun gv gr gh1 gh2 => ?uq)); (case u0 => with_reducible assumption))
  | ((with_reducible refine' i_gnilA ?u0 ?uq); (case u0 => with_reducible assumption))
  | ((with_reducible refine' i_isiI ?u0 ?uq); (case u0 => wtm_at "dp"))
  | ((with_reducible refine' i_isiB ?u0 ?uq); (case u0 => wtm_at "dp"))
  | ((with_reducible refine' i_isiT ?u0 ?uq); (case u0 => wtm_at "dp"))
  | ((with_reducible refine' i_isiS ?u0 ?uq); (case u0 => wtm_at "dp"))
  | ((with_reducible refine' i_isiL ?u0 ?uq); (case u0 => wtm_at "dp"))
  | ((with_reducible refine' i_eqD ?u0 ?u1 ?u2 ?u3 ?uq); (case u0 => wtm_at "dp"); (case u1 => wtm_at "dp"); (case u2 => wtm_at "shaped"); (case u3 => wtm_at "shaped"))
  | ((with_reducible refine' i_neD ?u0 ?u1 ?u2 ?u3 ?uq); (case u0 => wtm_at "dp"); (case u1 => wtm_at "dp"); (case u2 => wtm_at "shaped"); (case u3 => wtm_at "shaped"))
  | wtm_at "st2"
  | wtm_at "use")
local macro_rules | `(tactic| wtm_at "go") => `(tactic| repeat' (wtm_at "st"))
local macro_rules | `(tactic| wtm_at "go0") => `(tactic| ((try dsimp only [L2.cxOf, L2.Cx.nox, L2.Cx.wish, L2.Cx.tr, L2.Cx.blk]); (try wtm_at "nrm"); wtm_at "go"))
local macro_rules | `(tactic| wtm_at "fin") => `(tactic| ((try dsimp only); first | with_reducible assumption | assumption | ((with_reducible refine' Ret.use ?rur ?rue ?rud); (case rur => with_reducible assumption); (case rue => wtm_at "ex"); (case rud => wtm_at "dp"))))
local macro_rules | `(tactic| wtm_at "exh") => `(tactic| first | with_reducible assumption | with_reducible exact Ex.refl _ | with_reducible exact ex_hid | ((with_reducible refine' Ex.trans ?exe (by with_reducible assumption)); (case exe => wtm_at "exh")) | ((with_reducible refine' Ex.trans ?exe (hid_ex (by with_reducible assumption))); (case exe => wtm_at "exh")))
local macro_rules | `(tactic| wtm_at "ex") => `(tactic| first | with_reducible assumption | with_reducible exact Ex.refl _ | with_reducible exact ex_hid | ((with_reducible refine' Ex.trans ?exe (by with_reducible assumption)); (case exe => wtm_at "ex")) | ((with_reducible refine' Ex.trans ?exe (hid_ex (by with_reducible assumption))); (case exe => wtm_at "ex")) | ((with_reducible refine' Ex.trans ?exe ex_hid); (case exe => wtm_at "exh")))
local macro_rules | `(tactic| wtm_at "bag") => `(tactic| first | with_reducible assumption | ((with_reducible refine' Bag.mono ?bgm (by with_reducible assumption)); (case bgm => wtm_at "bag")))
local macro_rules | `(tactic| wtm_at "hs") => `(tactic| first | with_reducible assumption | ((with_reducible refine' hid_tup ?hb ?hp); (case hp => with_reducible assumption); (case hb => wtm_at "bag")) | ((with_reducible refine' hid_new ?hb ?hn ?hp); (case hp => with_reducible assumption); (case hn => with_reducible assumption); (case hb => wtm_at "bag")) | ((with_reducible refine' ex_at ?exe (by with_reducible assumption)); (case exe => wtm_at "ex")))
local macro_rules | `(tactic| wtm_at "st2") => `(tactic| first
  | ((with_reducible refine' i_mulC ?u0 ?uq); (case u0 => first | exact cmul_l (by decide) | exact cmul_r (by decide)))
  | ((with_reducible refine' i_ixLr (v := ?u0) ?u1 ?u2 ?uq); (case u1 => with_reducible assumption); (case u2 => exact rfl))
  | (with_reducible refine' i_sub ?uq)
  | ((with_reducible refine' i_mkL ?u0 (fun np nH nfr nhe nhp => ?uq)); (case u0 => exact Nat.le_of_ble_eq_true rfl))
  | ((with_reducible refine' i_setL (n := ?u0) ?u1 ?u2 (fun sH sh se => ?uq)); (case u1 => with_reducible assumption); (case u2 => exact rfl))
  | (with_reducible refine' i_sl ?uq)
  | (with_reducible refine' i_nopart ?uq)
  | (with_reducible refine' i_part ?uq)
  | (with_reducible refine' i_part1 ?uq))
local macro_rules | `(tactic| wtm_at "sz2") => `(tactic| ((with_reducible refine' sz_fmod ?sz1 ?sz2); (case sz1 => wtm_at "nz"); (case sz2 => wtm_at "sz")))
local macro_rules | `(tactic| wtm_at "stb") => `(tactic| first
  | ((with_reducible refine' i_mkTB ?u0 ?u1 (fun np nH nhe nhb nhp => ?uq)); (case u0 => exact Nat.le_of_ble_eq_true rfl); (case u1 => wtm_at "bag"))
  | ((with_reducible refine' i_mkLB ?u0 ?u1 (fun np nH nfr nhe nhb nhp => ?uq)); (case u0 => exact Nat.le_of_ble_eq_true rfl); (case u1 => wtm_at "bag"))
  | wtm_at "st")
local macro_rules | `(tactic| wtm_at "gob") => `(tactic| repeat' (wtm_at "stb"))
local macro_rules | `(tactic| wtm_at "gob0") => `(tactic| ((try dsimp only [L2.cxOf, L2.Cx.nox, L2.Cx.wish, L2.Cx.tr, L2.Cx.blk]); (try wtm_at "nrm"); wtm_at "gob"))
local macro_rules | `(tactic| wtm_at "st") => `(tactic| first | ((with_reducible refine' i_ixTS (z := ?u0) ?u1 ?u2 ?u3 ?uq); (case u1 => wtm_at "dp"); (case u2 => wtm_at "ex"); (case u3 => exact rfl)) | fail)
local macro_rules | `(tactic| wtm_at "st2") => `(tactic| first | ((with_reducible refine' i_eqST ?u0 ?uq); (case u0 => with_reducible rfl)) | ((with_reducible refine' i_eqSF ?u0 ?uq); (case u0 => decide +kernel)) | ((with_reducible refine' i_neST ?u0 ?uq); (case u0 => with_reducible rfl)) | ((with_reducible refine' i_neSF ?u0 ?uq); (case u0 => decide +kernel)) | fail)
section
variable {P : Program} {w : World} {K : PySem.W.Frag} {mg : Str → Option Value} {base : Heap} {H H' : Hp} {Q : VK} {E : XK} {v1 v2 v3 v4 v5 : V}
local macro_rules | `(tactic| wtm_at "use") => `(tactic| ((with_reducible refine' use__law_draw ?u0 ?u1 ?u2 (fun dn dH dn0 dn1 de db => ?uq)); (case u0 => wtm_at "bag"); (case u1 => wtm_at "pos"); (case u2 => wtm_at "szb")))
local macro_rules | `(tactic| wtm_at "pos") => `(tactic| first | assumption | decide | omega)
local macro_rules | `(tactic| wtm_at "oneof") => `(tactic| ((with_reducible refine' use__law_one_of ?u0 ?u1 ?u2 ?u3 ?uq); (case u0 => wtm_at "bag"); (case u1 => wtm_at "dp"); (case u2 => exact Nat.le_of_ble_eq_true rfl); (case u3 => exact Nat.le_of_ble_eq_true rfl)))
theorem Lsts.drop1 {G0 G : Hp} {x y : Addr × List PyData} {ls : List (Addr × List PyData)} (L : Lsts K G0 (x :: y :: ls) G) : Lsts K G0 (x :: ls) G := by
  have hs : ∀ p ∈ x :: ls, p ∈ x :: y :: ls := fun p hp => by
    rcases List.mem_cons.mp hp with rfl | hp
    · exact List.mem_cons_self
    · exact List.mem_cons_of_mem _ (List.mem_cons_of_mem _ hp)
  refine ⟨?_, fun p hp => L.fr p (hs p hp), L.ex, fun p hp => L.no p (hs p hp), fun p hp => L.at_ p (hs p hp)⟩
  have h := L.nd
  rw [List.map_cons, List.map_cons] at h
  rw [List.map_cons]
  obtain ⟨h1, h2⟩ := List.nodup_cons.mp h
  obtain ⟨h3, h4⟩ := List.nodup_cons.mp h2
  exact List.nodup_cons.mpr ⟨fun z => h1 (List.mem_cons_of_mem _ z), h4⟩
theorem cut_to {xs : List V} {k : Nat} : cutV xs none (some (k : Int)) = xs.take k := by
  unfold cutV
  rw [HT.sIx_none, HT.sIx_nat, List.drop_zero, Nat.sub_zero, ← List.take_take, List.take_length]
theorem cut_from {xs : List V} {k : Nat} : cutV xs (some (k : Int)) none = xs.drop k := by
  unfold cutV
  rw [HT.sIx_none, HT.sIx_nat]
  by_cases h : k ≤ xs.length
  · rw [Nat.min_eq_left h, List.take_of_length_le (by rw [List.length_drop]; omega)]
  · rw [Nat.min_eq_right (by omega), Nat.sub_self, List.take_zero, List.drop_of_length_le (by omega)]
theorem noLs_take {ds : List PyData} (h : noLs ds = true) (k : Nat) : noLs (ds.take k) = true ∧ noLs (ds.drop k) = true := by
  have := noLs_split (ds := ds.take k) (es := ds.drop k) (by rw [List.take_append_drop]; exact h)
  exact this
theorem i_qlistLh {G : Hp} {v : V} {ds : List PyData} (h : Dp K G v (.list ds)) (e : Ex G H) (q : ∀ p H2 us, H p = none → Ex H H2 → H2 p = some (.lst us) → DpAll K G us ds → Q (.ref p) H2) : qListOf K [v] H Q := by
  obtain ⟨a, us, rfl, hs, ha⟩ := dpLst h
  exact ⟨a, us, rfl, .inl (Evl.ex_l e hs), fun l hl => q l _ us hl (ex_upd hl) upd_same ha⟩
theorem i_qtupleR {a : Addr} {us : List V} (h : SqL K H a us) (q : ∀ p H2, H p = none → Ex H H2 → H2 p = some (.tup us) → Q (.ref p) H2) : qTupleOf K [.ref a] H Q := ⟨a, us, rfl, .inl ⟨h, fun l hl => q l _ hl (ex_upd hl) upd_same⟩⟩
theorem hid_none {b p : Addr} (h : H p = none) : hid b H p = none := by
  unfold hid
  split
  · rfl
  · exact h
theorem i_catR {l c : Addr} {xs zs : List V} (h1 : H l = some (.lst xs)) (h2 : H c = some (.lst zs)) (hl : xs.length + zs.length ≤ 100000) (q : ∀ p H2, H p = none → Ex H H2 → H2 p = some (.lst (xs ++ zs)) → Q (.ref p) H2) : rCat (.ref l) (.ref c) H Q :=
  ⟨l, c, xs, zs, rfl, rfl, h1, h2, Evl.sz_of hl, fun p hp => q p _ hp (ex_upd hp) upd_same⟩
theorem Lsts.appendB {b : Addr} {G0 : Hp} {ls : List (Addr × List PyData)} {i : Nat} {a : Addr} {ds : List PyData} {d : PyData} {v : V} (L : Lsts K G0 ls (hid b H)) (hb : Bag b H) (e : ls[i]? = some (a, ds)) (hd : Dp K (hid b H) v d) (hn : noL d = true) (hl : ds.length < 100000)
    (q : ∀ H2, Lsts K G0 (ls.set i (a, ds ++ [d])) (hid b H2) → Bag b H2 → (∀ {v : V} {c : PyData}, noL c = true → Dp K (hid b H) v c → Dp K (hid b H2) v c) → Q .non H2) : rAppend (.ref a) [v] H Q := by
  obtain ⟨us, h1, h2⟩ := L.at_ _ (List.mem_of_getElem? e)
  have hab : a ≠ b := (of_hid h1).1
  refine ⟨a, us, v, rfl, rfl, (of_hid h1).2, Evl.sz_lt (by rw [dpLen h2]; exact hl), ?_⟩
  refine q _ ?_ (bag_upd hab hb) ?_
  · rw [hid_updn hab]
    exact L.set e (dpAllApp h2 (.cons hd .nil)) (noLs_app (L.no _ (List.mem_of_getElem? e)) (by show (noL d && noLs []) = true; rw [hn]; rfl))
  · intro v c hn h
    rw [hid_updn hab]
    exact L.keep e hn h
theorem flat_ge {α : Type} {k : Nat} : ∀ {xss : List (List α)}, (∀ xs ∈ xss, k ≤ xs.length) → xss.length * k ≤ xss.flatten.length
  | [], _ => by simp
  | xs :: r, h => by
    rw [List.flatten_cons, List.length_append, List.length_cons, Nat.succ_mul]
    have h1 := h xs List.mem_cons_self
    have h2 := flat_ge (k := k) fun ys hy => h ys (List.mem_cons_of_mem _ hy)
    omega
def sp__law_lots_of (K : PySem.W.Frag) : Sp := A2 fun v1 v2 H Q => ∃ (b : Addr) (ds : List PyData), v1 = .ref b ∧ Bag b H ∧ Dp K (hid b H) v2 (.list ds) ∧ noLs ds = true ∧ 2 ≤ ds.length ∧ ds.length ≤ 20 ∧
  ∀ p H2 (dss : List (List PyData)), dss.flatten = ds → (∀ es ∈ dss, 2 ≤ es.length ∧ es.length ≤ 4) → Ex (hid b H) (hid b H2) → Bag b H2 → Dp K (hid b H2) (.ref p) (.list (dss.map .tuple)) → Q (.ref p) H2
abbrev s__law_lots_of : Stmt := top 69
theorem sc__law_lots_of : FnScope ["_law_bag_here", "_law_items", "_law_found", "_law_left", "_law_size"] ["_law_bag_here", "_law_items"] (defScope s__law_lots_of) := ⟨rfl, rfl, rfl, by decide +kernel, rfl, by decide +kernel, by decide +kernel⟩
theorem ok__law_lots_of {f : Addr} {fd : FuncData} (F : FnP K "_law_lots_of" s__law_lots_of f fd) (g : G mg) (c__law_draw : Cl P w K mg base 1 "_law_draw" (sp__law_draw K))  : FnOk P w K mg base CX0 2 f fd ["_law_bag_here", "_law_items"] (sp__law_lots_of K) := by
  have nd := sc__law_lots_of.nd
  refine F.ok sc__law_lots_of (fun vs H Q E h => h.len) (fun cdv A outer s H vs Q E hr h => ?_)
  obtain ⟨v1, v2, rfl, h⟩ := h
  refine ⟨_, PSs.nox (pss_cons (ps_par (i := 2) (j := 3) (by rfl) nd rfl rfl (by decide) rfl rfl (pa_cons (pe_lst pa_nil) (pa_cons (pe_callTy call_qlist (by rfl) g.f_list boot_list (pa_cons (pv 1) pa_nil)) pa_nil)) (by rfl)) (pss_cons (ps_while PassesOwn.never (pt_cmpR op_gt (pe_callB call_qlen (by rfl) g.f_len boot_len (pa_cons (pv 3) pa_nil)) pe_int (nomark _)) (pss_cons (ps_set (i := 4) nd rfl (Or.inl rfl) (pe_callB (call_qmin2 rfl) (by rfl) g.f_min boot_min (pa_cons (pe_op op_add pe_int (pc c__law_draw hr (by first | decide | omega) (by rfl) (pa_cons (pv 0) (pa_cons pe_int pa_nil)))) (pa_cons (pe_op op_sub (pe_callB call_qlen (by rfl) g.f_len boot_len (pa_cons (pv 3) pa_nil)) pe_int) pa_nil)))) (pss_cons (ps_expr (pe_bm PySem.F.plainAttrs_list PySem.F.slot_list_append PySem.F.type_list_append mt_append (pv 2) (pa_cons (pe_callTy call_qtuple (by rfl) g.f_tuple boot_tuple (pa_cons (pe_slice sl_list (pv 3) po_none (po_some (pv 4))) pa_nil)) pa_nil))) (pss_one (ps_set (i := 3) nd rfl (Or.inl rfl) (pe_slice sl_list (pv 3) (po_some (pv 4)) po_none)))))) (pss_one (ps_ret (pe_op op_cat (pv 2) (pe_lst (pa_cons (pe_callTy call_qtuple (by rfl) g.f_tuple boot_tuple (pa_cons (pv 3) pa_nil)) pa_nil))))))), ?_⟩
  obtain ⟨b, ds, rfl, hb, hd, hno, hl2, hl20, q⟩ := h
  wtm_at "gob0"
  rename_i fA H1 fn1 fe1 fb1 fp1
  refine i_qlistLh hd (ex_hid.trans fe1) (fun lA H2 us ln2 le2 lp2 ha => ?_)
  have b2 : Bag b H2 := fb1.mono le2
  have L0 : Lsts K (hid b H) [(lA, ds), (fA, [])] (hid b H2) := ((Lsts.nil (K := K) (G0 := hid b H)).add (hid_none fn1) (hid_ex fe1) fp1 .nil rfl).add (hid_none ln2) (hid_ex le2) (hid_new fb1 ln2 lp2) (dpMonoA (hid_ex (fe1.trans le2)) ha) hno
  wtm_at "gob"
  refine i_tw (fun μ σ' H' => ∃ (lA : Addr) (rest : List PyData) (dss : List (List PyData)) (c : Option V), σ' = [some (.ref b), some v2, some (.ref fA), some (.ref lA), c] ∧ Lsts K (hid b H) [(lA, rest), (fA, dss.map .tuple)] (hid b H') ∧ Bag b H' ∧ dss.flatten ++ rest = ds ∧ (∀ es ∈ dss, 2 ≤ es.length ∧ es.length ≤ 4) ∧ 2 ≤ rest.length ∧ rest.length = μ) ds.length
    ⟨lA, ds, [], _, rfl, L0, b2, rfl, fun s h => (by cases h), hl2, rfl⟩ ?_
  rintro μ σ' H' ⟨lA, rest, dss, c, rfl, L, hbg, hfl, hss, hr2, rfl⟩
  obtain ⟨us2, hu1, hu2⟩ := L.at_ (lA, rest) List.mem_cons_self
  have hlD : Dp K H' (.ref lA) (.list rest) := dpMono ex_hid (L.ref (i := 0) rfl)
  have hfl2 : dss.flatten.length + rest.length = ds.length := by rw [← hfl, List.length_append]
  have hd2 := flat_ge fun es h => (hss es h).1
  wtm_at "gob"
  · rename_i h4
    refine ⟨fun σ2 G2 => ∃ μ', μ' < rest.length ∧ ∃ (lA : Addr) (rest : List PyData) (dss : List (List PyData)) (c : Option V), σ2 = [some (.ref b), some v2, some (.ref fA), some (.ref lA), c] ∧ Lsts K (hid b H) [(lA, rest), (fA, dss.map .tuple)] (hid b G2) ∧ Bag b G2 ∧ dss.flatten ++ rest = ds ∧ (∀ es ∈ dss, 2 ≤ es.length ∧ es.length ≤ 4) ∧ 2 ≤ rest.length ∧ rest.length = μ', fun _ _ h => h, ?_⟩
    wtm_at "gob"
    rename_i dn dH dn0 dn1 de db
    have hlD2 : Dp K dH (.ref lA) (.list rest) := dpMono ex_hid (dpMono de (L.ref (i := 0) rfl))
    wtm_at "gob"
    obtain ⟨k, hk, k2, k4, kr⟩ : ∃ k : Nat, (if (rest.length : Int) - 2 < 2 + dn then (rest.length : Int) - 2 else 2 + dn) = (k : Int) ∧ 2 ≤ k ∧ k ≤ 4 ∧ k + 2 ≤ rest.length := by
      split
      · exact ⟨rest.length - 2, by omega, by omega, by omega, by omega⟩
      · exact ⟨(2 + dn).toNat, by omega, by omega, by omega, by omega⟩
    rw [hk]
    wtm_at "gob"
    refine i_bmA ?_
    wtm_at "gob"
    have L1 := L.up de
    obtain ⟨fus, hf1, hf2⟩ := L1.at_ (fA, dss.map .tuple) (List.mem_cons_of_mem _ List.mem_cons_self)
    refine ⟨.inl ⟨rfl, fus, Evl.sq_of (of_hid hf1).2⟩, ?_⟩
    wtm_at "gob"
    refine i_slL (Evl.sq_of (of_hid (de _ _ hu1)).2) (fun p3 H3 hp3 e3 h3 => ?_)
    rw [cut_to] at h3
    wtm_at "gob"
    refine i_qtupleR (Evl.sq_of h3) (fun p4 H4 hp4 e4 h4' => ?_)
    wtm_at "gob"
    have b4 : Bag b H4 := (db.mono e3).mono e4
    have e14 : Ex (hid b dH) (hid b H4) := hid_ex (e3.trans e4)
    refine (L1.up e14).appendB b4 (i := 1) (d := .tuple (rest.take k)) rfl (.tup (Evl.st_of (hid_tup b4 h4')) (dpTakeN (dpMonoA (de.trans e14) hu2))) (noLs_take (L.no _ List.mem_cons_self) k).1 (by rw [List.length_map]; omega) (fun H5 L5 b5 hk5 => ?_)
    have L5' : Lsts K (hid b H) [(lA, rest), (fA, dss.map .tuple ++ [.tuple (rest.take k)])] (hid b H5) := L5
    obtain ⟨us5, h51, h52⟩ := L5'.at_ (lA, rest) List.mem_cons_self
    wtm_at "gob"
    refine i_slL (Evl.sq_of (of_hid h51).2) (fun p6 H6 hp6 e6 h6 => ?_)
    rw [cut_from] at h6
    wtm_at "gob"
    refine ⟨rest.length - k, by omega, p6, rest.drop k, dss ++ [rest.take k], _, rfl, ?_, b5.mono e6, ?_, ?_, ?_, ?_⟩
    · have L6 := (L5'.add (hid_none hp6) (hid_ex e6) (hid_new b5 hp6 h6) (dpMonoA (hid_ex e6) (dpDropN h52)) (noLs_take (L.no _ List.mem_cons_self) k).2).drop1
      rw [List.map_append]
      exact L6
    · rw [List.flatten_append, List.append_assoc]
      have : [rest.take k].flatten ++ rest.drop k = rest := by
        rw [List.flatten_cons, List.flatten_nil, List.append_nil, List.take_append_drop]
      rw [this]
      exact hfl
    · intro es h
      rcases List.mem_append.mp h with h | h
      · exact hss es h
      · rcases List.mem_singleton.mp h with rfl
        rw [List.length_take]
        omega
    · rw [List.length_drop]
      omega
    · rw [List.length_drop]
  · rename_i h4
    wtm_at "gob"
    refine i_qtupleR (Evl.sq_of (of_hid hu1).2) (fun p4 H4 hp4 e4 h4' => ?_)
    wtm_at "gob"
    rename_i p5 H5 hp5 e5 b5 h5
    have L5 := L.up (hid_ex (e4.trans e5))
    obtain ⟨fus, hf1, hf2⟩ := L5.at_ (fA, dss.map .tuple) (List.mem_cons_of_mem _ List.mem_cons_self)
    refine i_catR (of_hid hf1).2 (of_hid h5).2 (by rw [dpLen hf2, List.length_map]; simp; omega) (fun p6 H6 hp6 e6 h6 => ?_)
    have ht4 : hid b H6 p4 = some (.tup us2) := hid_tup (b5.mono e6) (e6 _ _ (e5 _ _ h4'))
    refine q p6 H6 (dss ++ [rest]) ?_ ?_ (L5.ex.trans (hid_ex e6)) (b5.mono e6) (.lst (Evl.sq_of (hid_new b5 hp6 h6)) ?_)
    · rw [List.flatten_append]
      simpa using hfl
    · intro es h
      rcases List.mem_append.mp h with h | h
      · exact hss es h
      · rcases List.mem_singleton.mp h with rfl
        exact ⟨hr2, by omega⟩
    · rw [List.map_append]
      exact dpAllApp (dpMonoA (hid_ex e6) hf2) (.cons (.tup (Evl.st_of ht4) (dpMonoA (hid_ex ((e4.trans e5).trans e6)) hu2)) .nil)
theorem use__law_lots_of {b : Addr} {ds : List PyData} (hb : Bag b H) (hd : Dp K (hid b H) v2 (.list ds)) (hno : noLs ds = true) (h2 : 2 ≤ ds.length) (h20 : ds.length ≤ 20)
    (q : ∀ p H2 (dss : List (List PyData)), dss.flatten = ds → (∀ es ∈ dss, 2 ≤ es.length ∧ es.length ≤ 4) → Ex (hid b H) (hid b H2) → Bag b H2 → Dp K (hid b H2) (.ref p) (.list (dss.map .tuple)) → Q (.ref p) H2) : sp__law_lots_of K [.ref b, v2] H Q E := ⟨_, _, rfl, b, ds, rfl, hb, hd, hno, h2, h20, q⟩
theorem flat_inv {α β : Type} {enc : α → β} : ∀ {dss : List (List β)} {xs : List α}, dss.flatten = xs.map enc → ∃ yss : List (List α), yss.flatten = xs ∧ dss = yss.map (List.map enc)
  | [], xs, h => ⟨[], (List.map_eq_nil_iff.mp h.symm).symm, rfl⟩
  | ds :: r, xs, h => by
    rw [List.flatten_cons] at h
    obtain ⟨x1, x2, e1, e2, e3⟩ := List.append_eq_map_iff.mp h
    subst e1 e2
    obtain ⟨yss, h1, h2⟩ := flat_inv e3.symm
    exact ⟨x1 :: yss, by rw [List.flatten_cons, h1], by rw [List.map_cons, h2]⟩
end
end Wb

namespace Wb
open PySem PySem.Spec PyProof.Rows L2 StX
open Evl (Ex Ex.refl Ex.trans Ex.new)
local macro_rules | `(tactic| wtm_at "dp") => `(tactic| first | with_reducible assumption | with_reducible exact Dp.int _ | with_reducible exact Dp.bl _ | with_reducible exact Dp.str _ | with_reducible exact Dp.non | ((with_reducible refine' dpMono ?dme (by with_reducible assumption)); (case dme => wtm_at "ex")) | ((with_reducible refine' Dp.tup (Evl.st_of ?dph) ?dpa); (case dph => wtm_at "hs"); (case dpa => wtm_at "dpa")) | ((with_reducible refine' Dp.lst (Evl.sq_of ?dph) ?dpa); (case dph => wtm_at "hs"); (case dpa => wtm_at "dpa")))
local macro_rules | `(tactic| wtm_at "dpa") => `(tactic| first | with_reducible exact DpAll.nil | ((with_reducible refine' DpAll.cons ?dp1 ?dp2); (case dp1 => wtm_at "dp"); (case dp2 => wtm_at "dpa")) | with_reducible assumption | ((with_reducible refine' dpMonoA ?dme (by with_reducible assumption)); (case dme => wtm_at "ex")))
local macro_rules | `(tactic| wtm_at "sz") => `(tactic| first | with_reducible assumption | ((with_reducible refine' sz_mul ?sz1 ?sz2); (case sz1 => wtm_at "sz"); (case sz2 => wtm_at "sz")) | ((with_reducible refine' sz_add ?sz1 ?sz2); (case sz1 => wtm_at "sz"); (case sz2 => wtm_at "sz")) | ((with_reducible refine' sz_sub ?sz1 ?sz2); (case sz1 => wtm_at "sz"); (case sz2 => wtm_at "sz")) | ((with_reducible refine' sz_neg ?sz1); (case sz1 => wtm_at "sz")) | ((with_reducible refine' sz_div ?sz1); (case sz1 => wtm_at "sz")) | ((with_reducible refine' sz_fdiv ?sz1); (case sz1 => wtm_at "sz")) | exact sz_lit (by decide) | wtm_at "sz2")
local macro_rules | `(tactic| wtm_at "szb") => `(tactic| first | with_reducible assumption | ((with_reducible refine' sz_mono ?szb1 ?szb2); (case szb1 => wtm_at "sz"); (case szb2 => decide)))
local macro_rules | `(tactic| wtm_at "nz") => `(tactic| first | assumption | decide | omega)
local macro_rules | `(tactic| wtm_at "shaped") => `(tactic| first | rfl | decide)
local macro_rules | `(tactic| wtm_at "sset") => `(tactic| ((dsimp only [L2.wipe, List.set, List.set_cons_zero, List.set_cons_succ]) <;> exact rfl))
local macro_rules | `(tactic| wtm_at "nrm") => `(tactic| dsimp only [L2.start, L2.wipe, List.set, List.append, List.map, List.map_cons, List.map_nil, List.length_cons, List.length_nil, Nat.reduceAdd, Nat.reduceSub, List.reduceReplicate, List.replicate, List.cons_append, List.nil_append, List.set_cons_zero, List.set_cons_succ])
local macro_rules | `(tactic| wtm_at "st") => `(tactic| first
  | ((with_reducible refine' i_var (v := ?u0) ?u1 ?uq); (case u1 => exact rfl))
  | ((with_reducible refine' i_nameN ?u0 ?uq); (case u0 => wtm_at "sset"))
  | (with_reducible refine' i_op ?uq)
  | (with_reducible refine' i_c ?uq)
  | (with_reducible refine' i_I0 ?uq)
  | ((with_reducible refine' i_ixTI (i := ?u0) ?u1 ?u2 ?u3 ?uq); (case u1 => wtm_at "dp"); (case u2 => wtm_at "ex"); (case u3 => exact rfl))
  | ((with_reducible refine' i_ixT (d := ?u0) ?u1 ?u2 ?u3 (fun xu hxu => ?uq)); (case u1 => wtm_at "dp"); (case u2 => wtm_at "ex"); (case u3 => exact rfl))
  | ((with_reducible refine' i_mul ?u0 ?u1 ?u2 ?uq); (case u0 => wtm_at "sz"); (case u1 => wtm_at "sz"); (case u2 => first | decide | omega))
  | (with_reducible refine' i_seq ?uq)
  | (with_reducible refine' i_asg ?uq)
  | (with_reducible refine' i_ret ?uq)
  | (with_reducible refine' i_ifs ?uq)
  | (with_reducible refine' i_drop ?uq)
  | (with_reducible refine' i_next ?uq)
  | (with_reducible refine' i_cons ?uq)
  | (with_reducible refine' i_nil ?uq)
  | (with_reducible refine' i_cl ?uq)
  | (with_reducible refine' i_cb ?uq)
  | (with_reducible refine' i_tup ?uq)
  | (with_reducible refine' i_lst ?uq)
  | ((with_reducible refine' i_mkT ?u0 (fun np nH nhe nhp => ?uq)); (case u0 => exact Nat.le_of_ble_eq_true rfl))
  | (with_reducible refine' i_test ?uq)
  | (with_reducible refine' i_B ?uq)
  | (with_reducible refine' i_k ?uq)
  | (with_reducible refine' i_and ?uq)
  | (with_reducible refine' i_or ?uq)
  | (with_reducible refine' i_not ?uq)
  | (with_reducible refine' i_andV ?uq)
  | (with_reducible refine' i_orV ?uq)
  | (with_reducible refine' i_notV ?uq)
  | (with_reducible refine' i_if ?uq)
  | (with_reducible refine' i_un ?uq)
  | (with_reducible refine' i_U ?uq)
  | (with_reducible refine' i_iteT ?uq)
  | (with_reducible refine' i_iteF ?uq)
  | ((with_reducible refine' i_iteTr ?u0 ?uq); (case u0 => first | with_reducible rfl | decide | (simp only [dIsInt, dIsBool, dIsTup, dIsStr, dIsLst, Bool.not_true, Bool.not_false]; done)))
  | ((with_reducible refine' i_iteFr ?u0 ?uq); (case u0 => first | with_reducible rfl | decide | (simp only [dIsInt, dIsBool, dIsTup, dIsStr, dIsLst, Bool.not_true, Bool.not_false]; done)))
  | (with_reducible refine' i_ite (fun hif => ?uqa) (fun hif => ?uqb))
  | (with_reducible refine' i_iteN (fun hif => ?uqa) (fun hif => ?uqb))
  | (with_reducible refine' i_iteBN (fun hif => ?uqa) (fun hif => ?uqb))
  | (with_reducible refine' i_iteB (fun hif => ?uqa) (fun hif => ?uqb))
  | ((with_reducible refine' i_modN ?u0 ?uq); (case u0 => wtm_at "nz"))
  | ((with_reducible refine' i_fdX ?u0 ?u1 ?u2 ?uq); (case u0 => wtm_at "nz"); (case u1 => wtm_at "sz"); (case u2 => first | decide | omega))
  | ((with_reducible refine' i_pow ?u0 ?uq); (case u0 => exact ⟨by decide, by decide +kernel⟩))
  | (with_reducible refine' i_eqI ?uq)
  | (with_reducible refine' i_neI ?uq)
  | (with_reducible refine' i_gcd ?uq)
  | (with_reducible refine' i_qabs ?uq)
  | (with_reducible refine' i_qint ?uq)
  | (with_reducible refine' i_qintB ?uq)
  | (with_reducible refine' i_qmax2 ?uq)
  | (with_reducible refine' i_qmin2 ?uq)
  | (with_reducible refine' i_isB ?uq)
  | (with_reducible refine' i_notB ?uq)
  | (with_reducible refine' i_chain ?uq)
  | (with_reducible refine' i_qisN ?uq)
  | (with_reducible refine' i_qnotN ?uq)
  | (with_reducible refine' i_yes ?uq)
  | (with_reducible refine' i_par ?uq)
  | (with_reducible refine' i_par3 ?uq)
  | ((with_reducible refine' i_par2 ?u0 ?uq); (case u0 => wtm_at "sset"))
  | ((with_reducible refine' i_par33 ?u0 ?uq); (case u0 => wtm_at "sset"))
  | ((with_reducible refine' i_ixLI (i := ?u0) ?u1 ?u2 ?u3 ?uq); (case u1 => wtm_at "dp"); (case u2 => wtm_at "ex"); (case u3 => exact rfl))
  | ((with_reducible refine' i_ixL (d := ?u0) ?u1 ?u2 ?u3 (fun xu hxu => ?uq)); (case u1 => wtm_at "dp"); (case u2 => wtm_at "ex"); (case u3 => exact rfl))
  | ((with_reducible refine' i_qlenT ?u0 ?uq); (case u0 => wtm_at "dp"))
  | ((with_reducible refine' i_qlenL ?u0 ?uq); (case u0 => wtm_at "dp"))
  | ((with_reducible refine' i_gtup ?u0 ?u1 ?u2 (fun gvs gdp => ?uq)); (case u0 => wtm_at "dp"); (case u1 => wtm_at "ex"); (case u2 => exact rfl))
  | ((with_reducible refine' i_glst ?u0 ?u1 ?u2 (fun gvs gdp => ?uq)); (case u0 => wtm_at "dp"); (case u1 => wtm_at "ex"); (case u2 => exact rfl))
  | ((with_reducible refine' i_gconsI ?u0 (fun gr gh => ?uq)); (case u0 => with_reducible assumption))
  | ((with_reducible refine' i_gconsA ?u0 (fun gv gr gh1 gh2 => ?uq)); (case u0 => with_reducible assumption))
  | ((with_reducible refine' i_gnilA ?u0 ?uq); (case u0 => with_reducible assumption))
  | ((with_reducible refine' i_isiI ?u0 ?uq); (case u0 => wtm_at "dp"))
  | ((with_reducible refine' i_isiB ?u0 ?uq); (case u0 => wtm_at "dp"))
  | ((with_reducible refine' i_isiT ?u0 ?uq); (case u0 => wtm_at "dp"))
  | ((with_reducible refine' i_isiS ?u0 ?uq); (case u0 => wtm_at "dp"))
  | ((with_reducible refine' i_isiL ?u0 ?uq); (case u0 => wtm_at "dp"))
  | ((with_reducible refine' i_eqD ?u0 ?u1 ?u2 ?u3 ?uq); (case u0 => wtm_at "dp"); (case u1 => wtm_at "dp"); (case u2 => wtm_at "shaped"); (case u3 => wtm_at "shaped"))
  | ((with_reducible refine' i_neD ?u0 ?u1 ?u2 ?u3 ?uq); (case u0 => wtm_at "dp"); (case u1 => wtm_at "dp"); (case u2 => wtm_at "shaped"); (case u3 => wtm_at "shaped"))
  | wtm_at "st2"
  | wtm_at "use")
local macro_rules | `(tactic| wtm_at "go") => `(tactic| repeat' (wtm_at "st"))
local macro_rules | `(tactic| wtm_at "go0") => `(tactic| ((try dsimp only [L2.cxOf, L2.Cx.nox, L2.Cx.wish, L2.Cx.tr, L2.Cx.blk]); (try wtm_at "nrm"); wtm_at "go"))
local macro_rules | `(tactic| wtm_at "fin") => `(tactic| ((try dsimp only); first | with_reducible assumption | assumption | ((with_reducible refine' Ret.use ?rur ?rue ?rud); (case rur => with_reducible assumption); (case rue => wtm_at "ex"); (case rud => wtm_at "dp"))))
local macro_rules | `(tactic| wtm_at "exh") => `(tactic| first | with_reducible assumption | with_reducible exact Ex.refl _ | with_reducible exact ex_hid | ((with_reducible refine' Ex.trans ?exe (by with_reducible assumption)); (case exe => wtm_at "exh")) | ((with_reducible refine' Ex.trans ?exe (hid_ex (by with_reducible assumption))); (case exe => wtm_at "exh")))
local macro_rules | `(tactic| wtm_at "ex") => `(tactic| first | with_reducible assumption | with_reducible exact Ex.refl _ | with_reducible exact ex_hid | ((with_reducible refine' Ex.trans ?exe (by with_reducible assumption)); (case exe => wtm_at "ex")) | ((with_reducible refine' Ex.trans ?exe (hid_ex (by with_reducible assumption))); (case exe => wtm_at "ex")) | ((with_reducible refine' Ex.trans ?exe ex_hid); (case exe => wtm_at "exh")))
local macro_rules | `(tactic| wtm_at "bag") => `(tactic| first | with_reducible assumption | ((with_reducible refine' Bag.mono ?bgm (by with_reducible assumption)); (case bgm => wtm_at "bag")))
local macro_rules | `(tactic| wtm_at "hs") => `(tactic| first | with_reducible assumption | ((with_reducible refine' hid_tup ?hb ?hp); (case hp => with_reducible assumption); (case hb => wtm_at "bag")) | ((with_reducible refine' hid_new ?hb ?hn ?hp); (case hp => with_reducible assumption); (case hn => with_reducible assumption); (case hb => wtm_at "bag")) | ((with_reducible refine' ex_at ?exe (by with_reducible assumption)); (case exe => wtm_at "ex")))
local macro_rules | `(tactic| wtm_at "st2") => `(tactic| first
  | ((with_reducible refine' i_mulC ?u0 ?uq); (case u0 => first | exact cmul_l (by decide) | exact cmul_r (by decide)))
  | ((with_reducible refine' i_ixLr (v := ?u0) ?u1 ?u2 ?uq); (case u1 => with_reducible assumption); (case u2 => exact rfl))
  | (with_reducible refine' i_sub ?uq)
  | ((with_reducible refine' i_mkL ?u0 (fun np nH nfr nhe nhp => ?uq)); (case u0 => exact Nat.le_of_ble_eq_true rfl))
  | ((with_reducible refine' i_setL (n := ?u0) ?u1 ?u2 (fun sH sh se => ?uq)); (case u1 => with_reducible assumption); (case u2 => exact rfl))
  | (with_reducible refine' i_sl ?uq)
  | (with_reducible refine' i_nopart ?uq)
  | (with_reducible refine' i_part ?uq)
  | (with_reducible refine' i_part1 ?uq))
local macro_rules | `(tactic| wtm_at "sz2") => `(tactic| ((with_reducible refine' sz_fmod ?sz1 ?sz2); (case sz1 => wtm_at "nz"); (case sz2 => wtm_at "sz")))
local macro_rules | `(tactic| wtm_at "stb") => `(tactic| first
  | ((with_reducible refine' i_mkTB ?u0 ?u1 (fun np nH nhe nhb nhp => ?uq)); (case u0 => exact Nat.le_of_ble_eq_true rfl); (case u1 => wtm_at "bag"))
  | ((with_reducible refine' i_mkLB ?u0 ?u1 (fun np nH nfr nhe nhb nhp => ?uq)); (case u0 => exact Nat.le_of_ble_eq_true rfl); (case u1 => wtm_at "bag"))
  | wtm_at "st")
local macro_rules | `(tactic| wtm_at "gob") => `(tactic| repeat' (wtm_at "stb"))
local macro_rules | `(tactic| wtm_at "gob0") => `(tactic| ((try dsimp only [L2.cxOf, L2.Cx.nox, L2.Cx.wish, L2.Cx.tr, L2.Cx.blk]); (try wtm_at "nrm"); wtm_at "gob"))
local macro_rules | `(tactic| wtm_at "st") => `(tactic| first | ((with_reducible refine' i_ixTS (z := ?u0) ?u1 ?u2 ?u3 ?uq); (case u1 => wtm_at "dp"); (case u2 => wtm_at "ex"); (case u3 => exact rfl)) | fail)
local macro_rules | `(tactic| wtm_at "st2") => `(tactic| first | ((with_reducible refine' i_eqST ?u0 ?uq); (case u0 => with_reducible rfl)) | ((with_reducible refine' i_eqSF ?u0 ?uq); (case u0 => decide +kernel)) | ((with_reducible refine' i_neST ?u0 ?uq); (case u0 => with_reducible rfl)) | ((with_reducible refine' i_neSF ?u0 ?uq); (case u0 => decide +kernel)) | fail)
section
variable {P : Program} {w : World} {K : PySem.W.Frag} {mg : Str → Option Value} {base : Heap} {H H' : Hp} {Q : VK} {E : XK} {v1 v2 v3 v4 v5 : V}
local macro_rules | `(tactic| wtm_at "use") => `(tactic| ((with_reducible refine' use__law_draw ?u0 ?u1 ?u2 (fun dn dH dn0 dn1 de db => ?uq)); (case u0 => wtm_at "bag"); (case u1 => wtm_at "pos"); (case u2 => wtm_at "szb")))
local macro_rules | `(tactic| wtm_at "pos") => `(tactic| first | assumption | decide | omega)
local macro_rules | `(tactic| wtm_at "oneof") => `(tactic| ((with_reducible refine' use__law_one_of ?u0 ?u1 ?u2 ?u3 ?uq); (case u0 => wtm_at "bag"); (case u1 => wtm_at "dp"); (case u2 => exact Nat.le_of_ble_eq_true rfl); (case u3 => exact Nat.le_of_ble_eq_true rfl)))
theorem sqT_hid {b a : Addr} {us : List V} (hb : Bag b H) (h : SqT K H a us) : SqT K (hid b H) a us := by
  obtain ⟨x, y, z, h1, _⟩ := hb.ex
  rcases h with (h | ⟨o, h⟩) | h
  · exact .inl (.inl (hid_of h (ne_of h h1 (by intro z; cases z))))
  · exact .inl (.inr ⟨o, hid_of h (ne_of h h1 (by intro z; cases z))⟩)
  · exact .inr h
mutual
theorem dpHid {b : Addr} (hb : Bag b H) : ∀ {d : PyData} {v : V}, noL d = true → Dp K H v d → Dp K (hid b H) v d
  | .none, _, _, h => by cases h; exact .non
  | .bool _, _, _, h => by cases h; exact .bl _
  | .int _, _, _, h => by cases h; exact .int _
  | .str _, _, _, h => by cases h; exact .str _
  | .list ds, _, n, h => by cases n
  | .tuple ds, _, n, h => by
    cases h with
    | tup hs ha => exact .tup (sqT_hid hb hs) (dpHidA hb n ha)
  | .dict _, _, _, h => by cases h
theorem dpHidA {b : Addr} (hb : Bag b H) : ∀ {ds : List PyData} {vs : List V}, noLs ds = true → DpAll K H vs ds → DpAll K (hid b H) vs ds
  | [], _, _, h => by cases h; exact .nil
  | d :: ds, _, n, h => by
    cases h with
    | cons h1 h2 =>
      have n2 := Bool.and_eq_true_iff.mp (show (noL d && noLs ds) = true from n)
      exact .cons (dpHid hb n2.1 h1) (dpHidA hb n2.2 h2)
end
theorem dpHidL {b p : Addr} {ds : List PyData} (hb : Bag b H) (hne : p ≠ b) (hn : noLs ds = true) (h : Dp K H (.ref p) (.list ds)) : Dp K (hid b H) (.ref p) (.list ds) := by
  obtain ⟨a, us, e, hs, ha⟩ := dpLst h
  cases e
  refine .lst ?_ (dpHidA hb hn ha)
  rcases hs with (h | ⟨o, h⟩) | h
  · exact .inl (.inl (hid_of h hne))
  · exact .inl (.inr ⟨o, hid_of h hne⟩)
  · exact .inr h
theorem mn_perm {ns ms : List Int} (h : ns.Perm ms) : mnI ns = mnI ms := by
  by_cases e : ns = []
  · subst e
    rw [List.Perm.nil_eq h]
  · have e2 : ms ≠ [] := fun z => e (by rw [z] at h; exact List.Perm.eq_nil h)
    have h1 := mn_mem e
    have h2 := mn_mem e2
    have h3 := h1.2 _ (h.mem_iff.mpr h2.1)
    have h4 := h2.2 _ (h.mem_iff.mp h1.1)
    omega
theorem mx_perm {ns ms : List Int} (h : ns.Perm ms) : mxI ns = mxI ms := by
  by_cases e : ns = []
  · subst e
    rw [List.Perm.nil_eq h]
  · have e2 : ms ≠ [] := fun z => e (by rw [z] at h; exact List.Perm.eq_nil h)
    have h1 := mx_mem e
    have h2 := mx_mem e2
    have h3 := h1.2 _ (h.mem_iff.mpr h2.1)
    have h4 := h2.2 _ (h.mem_iff.mp h1.1)
    omega
theorem joint_perm {bs cs : List Bx} (h : bs.Perm cs) : joint bs = joint cs := by
  unfold joint
  rw [mn_perm (h.map (·.1)), mn_perm (h.map (·.2.1)), mx_perm (h.map (·.2.2.1)), mx_perm (h.map (·.2.2.2))]
def brO {k : Nat} (t : Fo k) : Bx × Fo k := (joint ((ents k t).map (·.2)), t)
def upF {k : Nat} (ts : List (Fo k)) : Fo (k + 1) := mkNd (ts.map brO)
/-- a form that may stand below another one -/
def Low (k : Nat) (t : Fo k) : Prop := Right k t ∧ 2 ≤ foSz k t ∧ foSz k t ≤ 4
theorem Low.sm {k : Nat} {t : Fo k} (h : Low k t) : Sm k t := sm_of k t h.2.2 h.1
theorem right_up {k : Nat} {ts : List (Fo k)} (h : ∀ t ∈ ts, Low k t) : Right (k + 1) (upF ts) := fun p hp => by
  obtain ⟨t, ht, rfl⟩ := List.mem_map.mp hp
  exact ⟨rfl, (h t ht).2.1, (h t ht).2.2, (h t ht).1⟩
theorem sz_up {k : Nat} (ts : List (Fo k)) : foSz (k + 1) (upF ts) = ts.length := List.length_map _
theorem ents_up {k : Nat} (ts : List (Fo k)) : ents (k + 1) (upF ts) = ts.flatMap (ents k) := by
  show (ts.map brO).flatMap (fun p => ents k p.2) = _
  rw [List.flatMap_map]
  rfl
theorem foD_up {k : Nat} (ts : List (Fo k)) : foD (k + 1) (upF ts) = .tuple [.str "node", .tuple (ts.map fun t => brD k (brO t))] := by
  show PyData.tuple [.str "node", .tuple ((ts.map brO).map fun p => .tuple [bxD p.1, foD k p.2])] = _
  rw [List.map_map]
  rfl
abbrev brE (K : PySem.W.Frag) (src : TI) : TE := tLc src (gName 5) tYes (tTup (tCons (tCl (sp__law_joint_box K) (tCons (tCl (sp__law_boxes_in K) (tCons (tVar 5) tNil)) tNil)) (tCons (tVar 5) tNil))) [5]
theorem br_turn {k : Nat} {ts : List (Fo k)} {c0 c1 c2 c3 c4 c5 : Option V} (hk : k ≤ 2) (hl : ∀ t ∈ ts, Low k t) :
    LcTurn K H (foD k) ts (fun _ => true) (fun t => brD k (brO t)) (gName 5) tYes (tTup (tCons (tCl (sp__law_joint_box K) (tCons (tCl (sp__law_boxes_in K) (tCons (tVar 5) tNil)) tNil)) (tCons (tVar 5) tNil))) [5] [c0, c1, c2, c3, c4, c5] := by
  intro u x H2 R Y e2 hm hu hn hy
  have hL := hl x hm
  wtm_at "nrm"
  refine ⟨rfl, ?_⟩
  wtm_at "go"
  refine use__law_boxes_in (by omega) hu hL.sm (fun es' hp p H3 hp3 e3 hl3 => ?_)
  wtm_at "go"
  have hne : es' ≠ [] := fun z => ents_ne k x hL.2.1 hL.1 (by rw [z] at hp; exact (List.Perm.nil_eq hp).symm)
  have hle := ents_le (show k ≤ 3 by omega) hL.sm
  refine use__law_joint_box (bs := es'.map (·.2)) hl3 (fun z => hne (List.map_eq_nil_iff.mp z)) (by rw [List.length_map, hp.length_eq]; omega) (fun v H4 e4 hv => ?_)
  rw [joint_perm (hp.map (·.2))] at hv
  wtm_at "go"
  rename_i np nH nhe nhp
  exact hy rfl _ _ (by wtm_at "ex") (.tup (Evl.st_of nhp) (.cons (dpMono nhe hv) (.cons (dpMono (by wtm_at "ex") hu) .nil)))
abbrev lotsE (K : PySem.W.Frag) (i : Nat) : TE := tIf (tTest (tOp (rI0 fun i j => V.bl (decide (j < i))) (tCB (qLen K) (tCons (tVar i) tNil)) (tC (V.int 4)))) (tCl (sp__law_lots_of K) (tCons (tVar 0) (tCons (tVar i) tNil)))
  (tLst (tCons (tCB (qTupleOf K) (tCons (tSl (rSlL K) (tVar i) tNoPart (tPart (tC (V.int 2)))) tNil)) (tCons (tCB (qTupleOf K) (tCons (tSl (rSlL K) (tVar i) (tPart (tC (V.int 2))) tNoPart) tNil)) tNil)))
theorem lots_expr {i : Nat} {σ : L2.St} {b : Addr} {l : V} {ds : List PyData} (h0 : σ[0]? = some (some (.ref b))) (hi : σ[i]? = some (some l)) (hb : Bag b H) (hd : Dp K (hid b H) l (.list ds)) (hno : noLs ds = true) (h4 : 4 ≤ ds.length) (h20 : ds.length ≤ 20)
    (q : ∀ p H2 (dss : List (List PyData)), dss.flatten = ds → (∀ es ∈ dss, 2 ≤ es.length ∧ es.length ≤ 4) → 2 ≤ dss.length → dss.length * 2 ≤ ds.length → Ex (hid b H) (hid b H2) → Bag b H2 → Dp K (hid b H2) (.ref p) (.list (dss.map .tuple)) → Q (.ref p) H2) : lotsE K i σ H Q := by
  have hd1 : Dp K H l (.list ds) := dpMono ex_hid hd
  obtain ⟨a, us, rfl, hs, ha⟩ := dpLst hd
  refine i_if (i_test (i_op (i_cb (i_cons (i_var hi (i_nil (i_qlenL hd1 (i_c (i_I0 (i_k ?_))))))))))
  refine i_ite (fun h => ?_) (fun h => ?_)
  · refine i_cl (i_cons (i_var h0 (i_cons (i_var hi (i_nil ?_)))))
    refine use__law_lots_of hb hd hno (by omega) h20 (fun p H2 dss f1 f2 e2 b2 h2 => ?_)
    have f3 := flat_ge fun es h => (f2 es h).1
    rw [f1] at f3
    have f4 : ∀ {xss : List (List PyData)}, (∀ es ∈ xss, 2 ≤ es.length ∧ es.length ≤ 4) → xss.flatten.length ≤ xss.length * 4 := by
      intro xss
      induction xss with
      | nil => intro _; exact Nat.le_refl _
      | cons y ys ih =>
        intro hy
        rw [List.flatten_cons, List.length_append, List.length_cons, Nat.succ_mul]
        have := (hy y List.mem_cons_self).2
        have := ih fun z hz => hy z (List.mem_cons_of_mem _ hz)
        omega
    have f5 := f4 f2
    rw [f1] at f5
    exact q p H2 dss f1 f2 (by omega) f3 e2 b2 h2
  · have hl4 : ds.length = 4 := by omega
    have hsH : SqL K H a us := Evl.ex_l ex_hid hs
    refine i_lst ?_
    refine i_cons ?_
    refine i_cb ?_
    refine i_cons ?_
    refine i_sl ?_
    refine i_var hi ?_
    refine i_nopart ?_
    refine i_part ?_
    refine i_c ?_
    refine i_part1 ?_
    refine i_slL hsH fun p1 H1 n1 e1 h1 => ?_
    refine i_nil ?_
    refine i_qtupleR (Evl.sq_of h1) fun p2 H2 n2 e2 h2 => ?_
    refine i_cons ?_
    refine i_cb ?_
    refine i_cons ?_
    refine i_sl ?_
    refine i_var hi ?_
    refine i_part ?_
    refine i_c ?_
    refine i_part1 ?_
    refine i_nopart ?_
    refine i_slL (Evl.ex_l (e1.trans e2) hsH) fun p3 H3 n3 e3 h3 => ?_
    refine i_nil ?_
    refine i_qtupleR (Evl.sq_of h3) fun p4 H4 n4 e4 h4' => ?_
    refine i_nil ?_
    rw [show (2 : Int) = ((2 : Nat) : Int) from rfl, cut_to] at h1 h2
    rw [show (2 : Int) = ((2 : Nat) : Int) from rfl, cut_from] at h3 h4'
    refine i_mkL (Nat.le_of_ble_eq_true rfl) (fun p5 H5 n5 e5 h5 => ?_)
    have eH : Ex H H5 := ((e1.trans e2).trans (e3.trans e4)).trans e5
    have b5 : Bag b H5 := hb.mono eH
    have ha5 := dpMonoA (hid_ex eH) ha
    have t2 : hid b H5 p2 = some (.tup (us.take 2)) := hid_tup b5 (e5 _ _ (e4 _ _ (e3 _ _ h2)))
    have t4 : hid b H5 p4 = some (.tup (us.drop 2)) := hid_tup b5 (e5 _ _ h4')
    refine q p5 H5 [ds.take 2, ds.drop 2] (by simp) (fun es h => ?_) (Nat.le_refl _) (by simp; omega) (hid_ex eH) b5 (.lst (Evl.sq_of (hid_new (hb.mono ((e1.trans e2).trans (e3.trans e4))) n5 h5)) ?_)
    · simp only [List.mem_cons, List.not_mem_nil, or_false] at h
      rcases h with rfl | rfl
      · rw [List.length_take]
        omega
      · rw [List.length_drop]
        omega
    · exact .cons (.tup (Evl.st_of t2) (dpTakeN ha5)) (.cons (.tup (Evl.st_of t4) (dpDropN ha5)) .nil)
abbrev nodesE (K : PySem.W.Frag) : TE := tLc (iList K (tVar 3)) (gName 4) tYes (tTup (tCons (tC (V.str "node")) (tCons (tCB (qTupleOf K) (tCons (brE K (iTup K (tVar 4))) tNil)) tNil))) [4]
abbrev leafsE (K : PySem.W.Frag) : TE := tLc (iList K (lotsE K 1)) (gName 4) tYes (tTup (tCons (tC (V.str "leaf")) (tCons (tVar 4) tNil))) [4]
abbrev topE (K : PySem.W.Frag) : TE := tTup (tCons (tC (V.str "node")) (tCons (tCB (qTupleOf K) (tCons (brE K (iList K (tVar 2))) tNil)) tNil))
theorem filt_true {α : Type} (xs : List α) : (xs.filter fun _ => true) = xs := List.filter_eq_self.mpr fun _ _ => rfl
theorem br_end {k : Nat} {ts : List (Fo k)} {p4 : Addr} (hl4 : Dp K H (.ref p4) (.list ((ts.filter fun _ => true).map fun t => brD k (brO t)))) {R : VK} (q : ∀ v H2, Ex H H2 → Dp K H2 v (foD (k + 1) (upF ts)) → R v H2) : qTupleOf K [.ref p4] H fun x H1 => MkT [.str "node", x] H1 R := by
  rw [filt_true] at hl4
  refine i_qtupleL hl4 (fun p5 H5 e5 hh => ?_)
  obtain ⟨vs, h1, h2⟩ := hh
  refine i_mkT (Nat.le_of_ble_eq_true rfl) (fun p6 H6 e6 h6 => q _ _ (e5.trans e6) ?_)
  rw [foD_up]
  exact .tup (Evl.st_of h6) (.cons (.str _) (.cons (.tup (Evl.st_of (e6 _ _ h1)) (dpMonoA e6 h2)) .nil))
theorem lvl_body {k : Nat} {ts : List (Fo k)} {D : Ends} {b : Addr} {lv : V} {c3 c4 c5 : Option V} (hk : k ≤ 1) (hb : Bag b H) (hd : Dp K (hid b H) lv (.list (ts.map (foD k)))) (hl : ∀ t ∈ ts, Low k t) (h4 : 4 ≤ ts.length) (h20 : ts.length ≤ 20)
    (q : ∀ p H2 (tss : List (List (Fo k))) c3' c4' c5', tss.flatten = ts → (∀ l ∈ tss, 2 ≤ l.length ∧ l.length ≤ 4) → 2 ≤ tss.length → tss.length * 2 ≤ ts.length → Ex (hid b H) (hid b H2) → Bag b H2 → Dp K (hid b H2) (.ref p) (.list ((tss.map upF).map (foD (k + 1)))) → D.nx [some (.ref b), some v2, some (.ref p), c3', c4', c5'] H2) :
    tSeq (tAsg (lotsE K 2) (gName 3)) (tAsg (nodesE K) (gName 2)) D [some (.ref b), some v2, some lv, c3, c4, c5] H := by
  refine i_seq (i_asg ?_)
  refine lots_expr (b := b) rfl rfl hb hd (noLs_map _ (noL_fo k) ts) (by rw [List.length_map]; exact h4) (by rw [List.length_map]; exact h20) (fun p H2 dss f1 f2 f3 f4 e2 b2 h2 => ?_)
  obtain ⟨tss, g1, rfl⟩ := flat_inv f1
  have gss : ∀ l ∈ tss, 2 ≤ l.length ∧ l.length ≤ 4 := fun l h => by
    have := f2 (l.map (foD k)) (List.mem_map.mpr ⟨l, h, rfl⟩)
    rw [List.length_map] at this
    exact this
  have gl : ∀ l ∈ tss, ∀ t ∈ l, Low k t := fun l h t ht => hl t (by rw [← g1]; exact List.mem_flatten.mpr ⟨l, h, ht⟩)
  rw [List.length_map] at f3 f4
  rw [List.length_map] at f4
  rw [List.map_map] at h2
  wtm_at "go"
  refine i_lcLU ?_
  wtm_at "go"
  refine i_lcGLR (enc := PyData.tuple ∘ List.map (foD k)) (xs := tss) (fun _ => true) (fun l => foD (k + 1) (upF l)) (dpMono ex_hid h2) (by omega) (fun l _ => noL_fo _ _) (fun u l H3 R Y e3 hm hu hn hy => ?_) (fun p3 H3 zs hp3 e3 hz1 hz2 => ?_)
  · have hu : Dp K H3 u (.tuple (l.map (foD k))) := hu
    wtm_at "nrm"
    refine ⟨rfl, ?_⟩
    wtm_at "go"
    refine i_lcTU ?_
    wtm_at "go"
    refine i_lcGT (fun _ => true) (fun t => brD k (brO t)) hu (by have := (gss l hm).2; omega) (fun t _ => noL_br k _) (br_turn (by omega) (gl l hm)) (fun p4 H4 hp4 e4 hl4 => ?_)
    wtm_at "go"
    refine br_end hl4 (fun v H5 e5 hv => ?_)
    exact hy rfl _ _ (e4.trans e5) hv
  · rw [filt_true] at hz2
    have e9 : (tss.map upF).map (foD (k + 1)) = tss.map fun l => foD (k + 1) (upF l) := by rw [List.map_map]; rfl
    wtm_at "go"
    refine q p3 H3 tss _ _ _ g1 gss f3 f4 (e2.trans (hid_ex e3)) (b2.mono e3) (.lst (Evl.sq_of (hid_new b2 hp3 hz1)) ?_)
    rw [e9]
    exact dpHidA (b2.mono e3) (noLs_map _ (fun l => noL_fo _ _) _) hz2
theorem lvl_first {es : List En} {b : Addr} {c2 c3 c4 c5 : Option V} (hb : Bag b H) (hd : Dp K (hid b H) v2 (.list (es.map enD))) (h4 : 4 ≤ es.length) (h20 : es.length ≤ 20)
    (q : ∀ p H2 (yss : List (List En)), yss.flatten = es → (∀ l ∈ yss, 2 ≤ l.length ∧ l.length ≤ 4) → 2 ≤ yss.length → yss.length * 2 ≤ es.length → Ex (hid b H) (hid b H2) → Bag b H2 → Dp K (hid b H2) (.ref p) (.list ((yss.map mkLf).map (foD 0))) → Q (.ref p) H2) :
    leafsE K [some (.ref b), some v2, c2, c3, c4, c5] H Q := by
  refine i_lcLU ?_
  refine lots_expr (b := b) rfl rfl hb hd (noLs_map _ noL_en es) (by rw [List.length_map]; exact h4) (by rw [List.length_map]; exact h20) (fun p H2 dss f1 f2 f3 f4 e2 b2 h2 => ?_)
  obtain ⟨tss, g1, rfl⟩ := flat_inv f1
  have gss : ∀ l ∈ tss, 2 ≤ l.length ∧ l.length ≤ 4 := fun l h => by
    have := f2 (l.map enD) (List.mem_map.mpr ⟨l, h, rfl⟩)
    rw [List.length_map] at this
    exact this
  rw [List.length_map] at f3 f4
  rw [List.length_map] at f4
  rw [List.map_map] at h2
  refine i_lcGLR (enc := PyData.tuple ∘ List.map enD) (xs := tss) (fun _ => true) (fun l => foD 0 (mkLf l)) (dpMono ex_hid h2) (by omega) (fun l _ => noL_fo _ _) (fun u l H3 R Y e3 hm hu hn hy => ?_) (fun p3 H3 zs hp3 e3 hz1 hz2 => ?_)
  · have hu : Dp K H3 u (.tuple (l.map enD)) := hu
    wtm_at "nrm"
    refine ⟨rfl, ?_⟩
    wtm_at "go"
    rename_i np nH nhe nhp
    exact hy rfl _ _ nhe (.tup (Evl.st_of nhp) (.cons (.str _) (.cons (dpMono nhe hu) .nil)))
  · rw [filt_true] at hz2
    have e9 : (tss.map mkLf).map (foD 0) = tss.map fun l => foD 0 (mkLf l) := by rw [List.map_map]; rfl
    refine q p3 H3 tss g1 gss f3 f4 (e2.trans (hid_ex e3)) (b2.mono e3) (.lst (Evl.sq_of (hid_new b2 hp3 hz1)) ?_)
    rw [e9]
    exact dpHidA (b2.mono e3) (noLs_map _ (fun l => noL_fo _ _) _) hz2
theorem lvl_end {k : Nat} {ts : List (Fo k)} {b : Addr} {lv : V} {c3 c4 c5 : Option V} (hk : k ≤ 2) (hb : Bag b H) (hd : Dp K (hid b H) lv (.list (ts.map (foD k)))) (hl : ∀ t ∈ ts, Low k t) (h20 : ts.length ≤ 20)
    (q : ∀ v H2, Ex (hid b H) (hid b H2) → Bag b H2 → Dp K (hid b H2) v (foD (k + 1) (upF ts)) → Q v H2) :
    topE K [some (.ref b), some v2, some lv, c3, c4, c5] H Q := by
  wtm_at "go"
  refine i_lcLU ?_
  wtm_at "go"
  refine i_lcGL (fun _ => true) (fun t => brD k (brO t)) (dpMono ex_hid hd) (by omega) (fun t _ => noL_br k _) (br_turn hk hl) (fun p4 H4 hp4 e4 hl4 => ?_)
  wtm_at "go"
  refine br_end hl4 (fun v H5 e5 hv => ?_)
  exact q _ _ (hid_ex (e4.trans e5)) (hb.mono (e4.trans e5)) (dpHid (hb.mono (e4.trans e5)) (noL_fo _ _) hv)
def sp__law_drawn_form (K : PySem.W.Frag) : Sp := A2 fun v1 v2 H Q => ∃ (b : Addr) (es : List En), v1 = .ref b ∧ Bag b H ∧ Dp K (hid b H) v2 (.list (es.map enD)) ∧ (∀ e ∈ es, e.2.ok) ∧ es.length ≤ 14 ∧
  ∀ v H2 (n : Nat) (t : Fo n), n ≤ 2 → Right n t → foSz n t ≤ 4 → (0 < n → 2 ≤ foSz n t) → ents n t = es → Ex (hid b H) (hid b H2) → Bag b H2 → Dp K (hid b H2) v (foD n t) → Q v H2
/-- a level that is built -/
def Lvl (es : List En) (k : Nat) (ts : List (Fo k)) : Prop := (∀ t ∈ ts, Low k t) ∧ ts.flatMap (ents k) = es ∧ 2 ≤ ts.length ∧ (k = 0 ∧ ts.length ≤ 7 ∨ k = 1 ∧ ts.length ≤ 3)
theorem lvl_zero {es : List En} {yss : List (List En)} (h : yss.flatten = es) (hs : ∀ l ∈ yss, 2 ≤ l.length ∧ l.length ≤ 4) (h2 : 2 ≤ yss.length) (h3 : yss.length * 2 ≤ es.length) (h14 : es.length ≤ 14) (hok : ∀ e ∈ es, e.2.ok) : Lvl es 0 (yss.map mkLf) := by
  refine ⟨fun t ht => ?_, ?_, by rw [List.length_map]; exact h2, .inl ⟨rfl, by rw [List.length_map]; omega⟩⟩
  · obtain ⟨l, hl, rfl⟩ := List.mem_map.mp ht
    exact ⟨fun e he => hok e (by rw [← h]; exact List.mem_flatten.mpr ⟨l, hl, he⟩), (hs l hl).1, (hs l hl).2⟩
  · rw [List.flatMap_map]
    show yss.flatMap (fun l => l) = es
    rw [← h]
    simp
theorem lvl_up {es : List En} {ts : List (Fo 0)} {tss : List (List (Fo 0))} (L : Lvl es 0 ts) (h : tss.flatten = ts) (hs : ∀ l ∈ tss, 2 ≤ l.length ∧ l.length ≤ 4) (h2 : 2 ≤ tss.length) (h3 : tss.length * 2 ≤ ts.length) : Lvl es 1 (tss.map upF) := by
  obtain ⟨l1, l2, l3, l4⟩ := L
  have l5 : ts.length ≤ 7 := by omega
  refine ⟨fun t ht => ?_, ?_, by rw [List.length_map]; exact h2, .inr ⟨rfl, by rw [List.length_map]; omega⟩⟩
  · obtain ⟨l, hl, rfl⟩ := List.mem_map.mp ht
    exact ⟨right_up fun t ht => l1 t (by rw [← h]; exact List.mem_flatten.mpr ⟨l, hl, ht⟩), by rw [sz_up]; exact (hs l hl).1, by rw [sz_up]; exact (hs l hl).2⟩
  · rw [List.flatMap_map, ← l2, ← h]
    have e : (fun l : List (Fo 0) => ents 1 (upF l)) = fun l => l.flatMap (ents 0) := funext fun l => ents_up l
    rw [e]
    clear h h3 hs h2 e l1 l2 l3 l4
    induction tss with
    | nil => rfl
    | cons x r ih => rw [List.flatMap_cons, ih, List.flatten_cons, List.flatMap_append]
abbrev s__law_drawn_form : Stmt := top 70
theorem sc__law_drawn_form : FnScope ["_law_bag_here", "_law_entries", "_law_level", "_law_lots", "_law_lot", "_law_one"] ["_law_bag_here", "_law_entries"] (defScope s__law_drawn_form) := ⟨rfl, rfl, rfl, by decide +kernel, rfl, by decide +kernel, by decide +kernel⟩
theorem ok__law_drawn_form {f : Addr} {fd : FuncData} (F : FnP K "_law_drawn_form" s__law_drawn_form f fd) (g : G mg) (c__law_lots_of : Cl P w K mg base 2 "_law_lots_of" (sp__law_lots_of K)) (c__law_draw : Cl P w K mg base 1 "_law_draw" (sp__law_draw K)) (c__law_joint_box : Cl P w K mg base 1 "_law_joint_box" (sp__law_joint_box K)) (c__law_boxes_in : Cl P w K mg base 2 "_law_boxes_in" (sp__law_boxes_in K))  : FnOk P w K mg base CX0 3 f fd ["_law_bag_here", "_law_entries"] (sp__law_drawn_form K) := by
  have nd := sc__law_drawn_form.nd
  refine F.ok sc__law_drawn_form (fun vs H Q E h => h.len) (fun cdv A outer s H vs Q E hr h => ?_)
  obtain ⟨v1, v2, rfl, h⟩ := h
  refine ⟨_, PSs.nox (pss_cons (ps_if (PW.pt (pw_and (pt_cmpR op_lt (pe_callB call_qlen (by rfl) g.f_len boot_len (pa_cons (pv 1) pa_nil)) pe_int (nomark _)) (pw_and1 (PW.pt (pw_or (pt_cmpR op_lt (pe_callB call_qlen (by rfl) g.f_len boot_len (pa_cons (pv 1) pa_nil)) pe_int (nomark _)) (pw_or1 (pt_cmpR op_eq (pc c__law_draw hr (by first | decide | omega) (by rfl) (pa_cons (pv 0) (pa_cons pe_int pa_nil))) pe_int (nomark _)))))))) (pss_one (ps_ret (pe_tup (pa_cons pe_str (pa_cons (pe_callTy call_qtuple (by rfl) g.f_tuple boot_tuple (pa_cons (pv 1) pa_nil)) pa_nil))))) pss_nil) (pss_cons (ps_setLc (i := 2) (own := [("_law_lot", 4)]) (g := gName 4) (by rfl) nd rfl rfl (sw_true rfl rfl rfl (by decide +kernel)) (pi_list (pe_ifExp (pt_cmpR op_gt (pe_callB call_qlen (by rfl) g.f_len boot_len (pa_cons (pv 1) pa_nil)) pe_int (nomark _)) (pc c__law_lots_of hr (by first | decide | omega) (by rfl) (pa_cons (pv 0) (pa_cons (pv 1) pa_nil))) (pe_lst (pa_cons (pe_callTy call_qtuple (by rfl) g.f_tuple boot_tuple (pa_cons (pe_slice sl_list (pv 1) po_none (po_some pe_int)) pa_nil)) (pa_cons (pe_callTy call_qtuple (by rfl) g.f_tuple boot_tuple (pa_cons (pe_slice sl_list (pv 1) (po_some pe_int) po_none) pa_nil)) pa_nil))))) (blkOk_by (N := ["_law_bag_here", "_law_entries", "_law_level", "_law_lots", "_law_lot", "_law_one"]) (sc := defScope s__law_drawn_form) (own := [("_law_lot", 4)]) (by decide +kernel)) (fun _ _ _ _ _ => (pg_name (i := 4) nd rfl (Or.inl rfl))) (fun _ _ _ _ _ => pts_nil) (fun _ _ _ _ _ => (pe_tup (pa_cons pe_str (pa_cons (pv 4) pa_nil))))) (pss_cons (ps_while PassesOwn.never (PW.pt (pw_or (pt_cmpR op_gt (pe_callB call_qlen (by rfl) g.f_len boot_len (pa_cons (pv 2) pa_nil)) pe_int (nomark _)) (pw_or1 (PW.pt (pw_and (pt_cmpR op_gt (pe_callB call_qlen (by rfl) g.f_len boot_len (pa_cons (pv 2) pa_nil)) pe_int (nomark _)) (pw_and1 (pt_cmpR op_eq (pc c__law_draw hr (by first | decide | omega) (by rfl) (pa_cons (pv 0) (pa_cons pe_int pa_nil))) pe_int (nomark _)))))))) (pss_cons (ps_set (i := 3) nd rfl (Or.inl rfl) (pe_ifExp (pt_cmpR op_gt (pe_callB call_qlen (by rfl) g.f_len boot_len (pa_cons (pv 2) pa_nil)) pe_int (nomark _)) (pc c__law_lots_of hr (by first | decide | omega) (by rfl) (pa_cons (pv 0) (pa_cons (pv 2) pa_nil))) (pe_lst (pa_cons (pe_callTy call_qtuple (by rfl) g.f_tuple boot_tuple (pa_cons (pe_slice sl_list (pv 2) po_none (po_some pe_int)) pa_nil)) (pa_cons (pe_callTy call_qtuple (by rfl) g.f_tuple boot_tuple (pa_cons (pe_slice sl_list (pv 2) (po_some pe_int) po_none) pa_nil)) pa_nil))))) (pss_one (ps_setLc (i := 2) (own := [("_law_lot", 4)]) (g := gName 4) (by rfl) nd rfl rfl (sw_true rfl rfl rfl (by decide +kernel)) (pi_list (pv 3)) (blkOk_by (N := ["_law_bag_here", "_law_entries", "_law_level", "_law_lots", "_law_lot", "_law_one"]) (sc := defScope s__law_drawn_form) (own := [("_law_lot", 4)]) (by decide +kernel)) (fun _ _ _ _ _ => (pg_name (i := 4) nd rfl (Or.inl rfl))) (fun _ _ _ _ _ => pts_nil) (fun _ _ _ _ _ => (pe_tup (pa_cons pe_str (pa_cons (pe_callTy (show CallR _ _ (qTupleOf K) from call_qtuple) (by rfl) g.f_tuple boot_tuple (pa_cons (pe_lc (own := [("_law_one", 5)]) (g := gName 5) (by rfl) nd (show PI _ _ _ (iTup K _) from (pi_tup (pv 4))) (blkOk_by (by kernel_rfl)) (fun _ _ _ _ _ => (pg_name (i := 5) nd rfl (Or.inl rfl))) (fun _ _ _ _ _ => pts_nil) (fun _ _ _ _ _ => (pe_tup (pa_cons (pc c__law_joint_box hr (by first | decide | omega) (by rfl) (pa_cons (pc c__law_boxes_in hr (by first | decide | omega) (by rfl) (pa_cons (pv 5) pa_nil)) pa_nil)) (pa_cons (pv 5) pa_nil))))) pa_nil)) pa_nil)))))))) (pss_one (ps_ret (pe_tup (pa_cons pe_str (pa_cons (pe_callTy call_qtuple (by rfl) g.f_tuple boot_tuple (pa_cons (pe_lc (own := [("_law_one", 5)]) (g := gName 5) (by rfl) nd (pi_list (pv 2)) (blkOk_by (N := ["_law_bag_here", "_law_entries", "_law_level", "_law_lots", "_law_lot", "_law_one"]) (sc := defScope s__law_drawn_form) (own := [("_law_one", 5)]) (by decide +kernel)) (fun _ _ _ _ _ => (pg_name (i := 5) nd rfl (Or.inl rfl))) (fun _ _ _ _ _ => pts_nil) (fun _ _ _ _ _ => (pe_tup (pa_cons (pc c__law_joint_box hr (by first | decide | omega) (by rfl) (pa_cons (pc c__law_boxes_in hr (by first | decide | omega) (by rfl) (pa_cons (pv 5) pa_nil)) pa_nil)) (pa_cons (pv 5) pa_nil))))) pa_nil)) pa_nil)))))))), ?_⟩
  obtain ⟨b, es, rfl, hb, hd, hok, hl, q⟩ := h
  have hd1 : Dp K H v2 (.list (es.map enD)) := dpMono ex_hid hd
  -- what follows the first level
  have go : ∀ G p (yss : List (List En)), Ex (hid b H) (hid b G) → Bag b G → 4 ≤ es.length → yss.flatten = es → (∀ l ∈ yss, 2 ≤ l.length ∧ l.length ≤ 4) → 2 ≤ yss.length → yss.length * 2 ≤ es.length → Dp K (hid b G) (.ref p) (.list ((yss.map mkLf).map (foD 0))) →
      (tWhile (tOr (tTest (tOp (rI0 fun i j => V.bl (decide (j < i))) (tCB (qLen K) (tCons (tVar 2) tNil)) (tC (V.int 4)))) (tAnd (tTest (tOp (rI0 fun i j => V.bl (decide (j < i))) (tCB (qLen K) (tCons (tVar 2) tNil)) (tC (V.int 3)))) (tTest (tOp rEq (tCl (sp__law_draw K) (tCons (tVar 0) (tCons (tC (V.int 2)) tNil))) (tC (V.int 0))))))
        (tSeq (tAsg (lotsE K 2) (gName 3)) (tAsg (nodesE K) (gName 2)))) { nx := tRet (topE K) { nx := fun x H' => Q V.non H', rt := Q }, rt := Q } [some (.ref b), some v2, some (.ref p), none, none, none] G := by
    intro G p yss eG bG h4 g1 g2 g3 g4 hG
    refine i_tw (fun μ σ' H' => ∃ (lv : V) (k : Nat) (ts : List (Fo k)) (c3 c4 c5 : Option V), σ' = [some (.ref b), some v2, some lv, c3, c4, c5] ∧ Bag b H' ∧ Ex (hid b H) (hid b H') ∧ Dp K (hid b H') lv (.list (ts.map (foD k))) ∧ Lvl es k ts ∧ ts.length = μ) (yss.map mkLf).length
      ⟨.ref p, 0, yss.map mkLf, _, _, _, rfl, bG, eG, hG, lvl_zero g1 g2 g3 g4 hl hok, rfl⟩ ?_
    rintro μ σ' H' ⟨lv, k, ts, c3, c4, c5, rfl, bH, eH, hlv, L, rfl⟩
    have hlv1 : Dp K H' lv (.list (ts.map (foD k))) := dpMono ex_hid hlv
    obtain ⟨l1, l2, l3, l4⟩ := id L
    -- the body
    have body : ∀ G2, Ex (hid b H') (hid b G2) → Bag b G2 → 4 ≤ ts.length → ∃ N : L2.St → Hp → Prop, (∀ σ2 H2, N σ2 H2 → ∃ m', m' < ts.length ∧ ∃ (lv : V) (k : Nat) (ts : List (Fo k)) (c3 c4 c5 : Option V), σ2 = [some (.ref b), some v2, some lv, c3, c4, c5] ∧ Bag b H2 ∧ Ex (hid b H) (hid b H2) ∧ Dp K (hid b H2) lv (.list (ts.map (foD k))) ∧ Lvl es k ts ∧ ts.length = m') ∧
        (tSeq (tAsg (lotsE K 2) (gName 3)) (tAsg (nodesE K) (gName 2))) { nx := N, ct := N, bk := tRet (topE K) { nx := fun x H' => Q V.non H', rt := Q }, rt := Q } [some (.ref b), some v2, some lv, c3, c4, c5] G2 := by
      intro G2 e2 b2 h4
      have hk0 : k = 0 := by omega
      subst hk0
      refine ⟨fun σ2 H2 => ∃ m', m' < ts.length ∧ ∃ (lv : V) (k : Nat) (ts : List (Fo k)) (c3 c4 c5 : Option V), σ2 = [some (.ref b), some v2, some lv, c3, c4, c5] ∧ Bag b H2 ∧ Ex (hid b H) (hid b H2) ∧ Dp K (hid b H2) lv (.list (ts.map (foD k))) ∧ Lvl es k ts ∧ ts.length = m', fun _ _ h => h, ?_⟩
      refine lvl_body (k := 0) (by omega) b2 (dpMono e2 hlv) l1 h4 (by omega) (fun p3 H3 tss c3' c4' c5' t1 t2 t3 t4 e3 b3 h3 => ?_)
      exact ⟨(tss.map upF).length, by rw [List.length_map]; omega, .ref p3, 1, tss.map upF, _, _, _, rfl, b3, (eH.trans e2).trans e3, h3, lvl_up L t1 t2 t3 t4, rfl⟩
    have fin : ∀ G2, Ex (hid b H') (hid b G2) → Bag b G2 → ts.length ≤ 4 → topE K [some (.ref b), some v2, some lv, c3, c4, c5] G2 Q := by
      intro G2 e2 b2 h4
      refine lvl_end (k := k) (by omega) b2 (dpMono e2 hlv) l1 (by omega) (fun v H2 e3 b3 hv => ?_)
      exact q v H2 (k + 1) (upF ts) (by omega) (right_up l1) (by rw [sz_up]; exact h4) (fun _ => by rw [sz_up]; exact l3) (by rw [ents_up]; exact l2) ((eH.trans e2).trans e3) b3 hv
    wtm_at "gob"
    · rename_i h4
      rw [List.length_map] at h4
      exact body _ (Ex.refl _) bH (by omega)
    · rename_i h4 h3 dn dH dn0 dn1 de db hz
      rw [List.length_map] at h4 h3
      exact body _ de db (by omega)
    · rename_i h4 h3 dn dH dn0 dn1 de db hz
      rw [List.length_map] at h4 h3
      exact fin _ de db (by omega)
    · rename_i h4 h3
      rw [List.length_map] at h4 h3
      exact fin _ (Ex.refl _) bH (by omega)
  have leaf : ∀ G, Ex (hid b H) (hid b G) → Bag b G → es.length ≤ 4 → qTupleOf K [v2] G fun x H1 => MkT [.str "leaf", x] H1 Q := by
    intro G eG bG h4
    refine i_qtupleL (dpMono ex_hid (dpMono eG hd)) (fun p5 H5 e5 hh => ?_)
    obtain ⟨vs, h1, h2⟩ := hh
    refine i_mkT (Nat.le_of_ble_eq_true rfl) (fun p6 H6 e6 h6 => ?_)
    have b6 := bG.mono (e5.trans e6)
    exact q _ H6 0 (mkLf es) (by omega) hok h4 (fun h => absurd h (Nat.lt_irrefl 0)) rfl (eG.trans (hid_ex (e5.trans e6))) b6 (dpHid b6 (noL_fo 0 _) (.tup (Evl.st_of h6) (.cons (.str _) (.cons (.tup (Evl.st_of (e6 _ _ h1)) (dpMonoA e6 h2)) .nil))))
  wtm_at "gob0"
  · rename_i h5 h4
    rw [List.length_map] at h5 h4
    exact leaf _ (Ex.refl _) hb (by omega)
  · rename_i h5 h4 dn dH dn0 dn1 de db hz
    rw [List.length_map] at h5 h4
    exact leaf _ de db (by omega)
  · rename_i h5 h4 dn dH dn0 dn1 de db hz
    rw [List.length_map] at h5 h4
    refine lvl_first db (dpMono de hd) (by omega) (by omega) (fun p H2 yss g1 g2 g3 g4 e2 b2 h2 => ?_)
    wtm_at "gob"
    exact go H2 p yss (de.trans e2) b2 (by omega) g1 g2 g3 g4 h2
  · rename_i h5
    rw [List.length_map] at h5
    refine lvl_first hb hd (by omega) (by omega) (fun p H2 yss g1 g2 g3 g4 e2 b2 h2 => ?_)
    wtm_at "gob"
    exact go H2 p yss e2 b2 (by omega) g1 g2 g3 g4 h2
theorem use__law_drawn_form {b : Addr} {es : List En} (hb : Bag b H) (hd : Dp K (hid b H) v2 (.list (es.map enD))) (hok : ∀ e ∈ es, e.2.ok) (hl : es.length ≤ 14)
    (q : ∀ v H2 (n : Nat) (t : Fo n), n ≤ 2 → Right n t → foSz n t ≤ 4 → (0 < n → 2 ≤ foSz n t) → ents n t = es → Ex (hid b H) (hid b H2) → Bag b H2 → Dp K (hid b H2) v (foD n t) → Q v H2) : sp__law_drawn_form K [.ref b, v2] H Q E := ⟨_, _, rfl, b, es, rfl, hb, hd, hok, hl, q⟩
end
end Wb

/-! the search as plain data -/
namespace Wb
open PySem PySem.Spec
/-- its items: a box, and a number or a form -/
def fitems : Fs → List (Bx × (Int ⊕ Fs))
  | ⟨0, t⟩ => (foL t).map fun e => (e.2, .inl e.1)
  | ⟨k + 1, t⟩ => (foB t).map fun p => (p.1, .inr ⟨k, p.2⟩)
structure Ws where
  found : List Int
  left : List (List Nat × String)
  looked : Nat
  waits : List (List Nat × Fs)
def stepI (w : Bx) (pl : List Nat) (i : Nat) (it : Bx × (Int ⊕ Fs)) (S : Ws) : Ws :=
  match apart it.1 w with
  | some x => ⟨S.found, S.left ++ [(pl ++ [i], x)], S.looked + 1, S.waits⟩
  | none => match it.2 with
    | .inl n => ⟨S.found ++ [n], S.left, S.looked + 1, S.waits⟩
    | .inr s => ⟨S.found, S.left, S.looked + 1, S.waits ++ [(pl ++ [i], s)]⟩
/-- the first i items done -/
def stepT (w : Bx) (pl : List Nat) (its : List (Bx × (Int ⊕ Fs))) (S : Ws) : Nat → Ws
  | 0 => S
  | i + 1 => match its[i]? with
    | some it => stepI w pl i it (stepT w pl its S i)
    | none => stepT w pl its S i
theorem stepT_at {w : Bx} {pl : List Nat} {its : List (Bx × (Int ⊕ Fs))} {S : Ws} {i : Nat} {it : Bx × (Int ⊕ Fs)} (h : its[i]? = some it) : stepT w pl its S (i + 1) = stepI w pl i it (stepT w pl its S i) := by
  show (match its[i]? with | some it => _ | none => _) = _
  rw [h]
def stepF (w : Bx) (pl : List Nat) (s : Fs) (S : Ws) : Ws := stepT w pl (fitems s) S (fitems s).length
def stp (w : Bx) (S : Ws) : Ws :=
  match S.waits.reverse with
  | [] => S
  | (pl, s) :: r => stepF w pl s ⟨S.found, S.left, S.looked, r.reverse⟩
def runN (w : Bx) (S : Ws) : Nat → Ws
  | 0 => S
  | n + 1 => stp w (runN w S n)
theorem stp_last {w : Bx} {F : List Int} {L : List (List Nat × String)} {c : Nat} {r : List (List Nat × Fs)} {pl : List Nat} {s : Fs} : stp w ⟨F, L, c, r ++ [(pl, s)]⟩ = stepF w pl s ⟨F, L, c, r⟩ := by
  unfold stp
  simp
theorem stp_end {w : Bx} {S : Ws} (h : S.waits = []) : stp w S = S := by
  unfold stp
  rw [h]
  rfl
theorem run_end {w : Bx} {S : Ws} {n : Nat} (h : (runN w S n).waits = []) : ∀ k, runN w S (n + k) = runN w S n
  | 0 => rfl
  | k + 1 => by
    show stp w (runN w S (n + k)) = _
    rw [run_end h k]
    exact stp_end h
theorem run_uniq {w : Bx} {S : Ws} {n m : Nat} (hn : (runN w S n).waits = []) (hm : (runN w S m).waits = []) : runN w S n = runN w S m := by
  rcases Nat.le_total n m with h | h
  · obtain ⟨k, rfl⟩ := Nat.exists_eq_add_of_le h
    exact (run_end hn k).symm
  · obtain ⟨k, rfl⟩ := Nat.exists_eq_add_of_le h
    exact run_end hm k
def start0 (s : Fs) : Ws := ⟨[], [], 0, [([], s)]⟩
/-- the walk of a form has come to its end with S -/
def Ended (w : Bx) (s : Fs) (S : Ws) : Prop := S.waits = [] ∧ ∃ n, S = runN w (start0 s) n
theorem ended_uniq {w : Bx} {s : Fs} {S T : Ws} (h : Ended w s S) (k : Ended w s T) : S = T := by
  obtain ⟨h1, n, rfl⟩ := h
  obtain ⟨k1, m, rfl⟩ := k
  exact run_uniq h1 k1
/-! sizes: what the loop needs -/
theorem stepI_waits {w : Bx} {pl : List Nat} {i : Nat} {it : Bx × (Int ⊕ Fs)} {S : Ws} : ∀ q ∈ (stepI w pl i it S).waits, q ∈ S.waits ∨ (q.1 = pl ++ [i] ∧ it.2 = .inr q.2) := by
  intro q hq
  unfold stepI at hq
  split at hq
  · exact .inl hq
  · split at hq
    · exact .inl hq
    · rename_i s hs
      rcases List.mem_append.mp hq with h | h
      · exact .inl h
      · rcases List.mem_singleton.mp h with rfl
        exact .inr ⟨rfl, hs⟩
end Wb

/-! the walk's sizes -/
namespace Wb
open PySem PySem.Spec
theorem stepI_looked {w : Bx} {pl : List Nat} {i : Nat} {it : Bx × (Int ⊕ Fs)} {S : Ws} : (stepI w pl i it S).looked = S.looked + 1 := by
  unfold stepI
  split
  · rfl
  · split <;> rfl
def wsN (S : Ws) : Nat := S.found.length + S.left.length + S.waits.length
theorem stepI_len {w : Bx} {pl : List Nat} {i : Nat} {it : Bx × (Int ⊕ Fs)} {S : Ws} : wsN (stepI w pl i it S) = wsN S + 1 := by
  unfold stepI wsN
  split
  · simp; omega
  · split <;> (simp; omega)
theorem stepT_n {w : Bx} {pl : List Nat} {its : List (Bx × (Int ⊕ Fs))} {S : Ws} : ∀ {i : Nat}, i ≤ its.length → (stepT w pl its S i).looked = S.looked + i ∧ wsN (stepT w pl its S i) = wsN S + i
  | 0, _ => ⟨rfl, rfl⟩
  | i + 1, h => by
    obtain ⟨h1, h2⟩ := stepT_n (w := w) (pl := pl) (its := its) (S := S) (i := i) (by omega)
    have e := stepT_at (w := w) (pl := pl) (S := S) (List.getElem?_eq_getElem (show i < its.length by omega))
    rw [e, stepI_looked, stepI_len, h1, h2]
    omega
def sumW (f : Fs → Nat) : List (List Nat × Fs) → Nat
  | [] => 0
  | q :: r => f q.2 + sumW f r
theorem sumW_app {f : Fs → Nat} : ∀ (xs ys : List (List Nat × Fs)), sumW f (xs ++ ys) = sumW f xs + sumW f ys
  | [], ys => by simp [sumW]
  | q :: r, ys => by
    rw [List.cons_append, sumW, sumW, sumW_app r ys]
    omega
def cst (f : Fs → Nat) (it : Bx × (Int ⊕ Fs)) : Nat :=
  match it.2 with
  | .inl _ => 0
  | .inr s => f s
theorem stepI_sum {f : Fs → Nat} {w : Bx} {pl : List Nat} {i : Nat} {it : Bx × (Int ⊕ Fs)} {S : Ws} : sumW f (stepI w pl i it S).waits ≤ sumW f S.waits + cst f it := by
  unfold stepI cst
  split
  · show sumW f S.waits ≤ _
    omega
  · split
    · exact Nat.le_add_right _ _
    · rename_i s hs
      show sumW f (S.waits ++ [_]) ≤ _
      first
        | (rw [sumW_app, hs]; exact Nat.le_refl _)
        | (rw [sumW_app]; exact Nat.le_refl _)
def cstL (f : Fs → Nat) : List (Bx × (Int ⊕ Fs)) → Nat
  | [] => 0
  | it :: r => cst f it + cstL f r
theorem cstL_app {f : Fs → Nat} : ∀ (xs ys : List (Bx × (Int ⊕ Fs))), cstL f (xs ++ ys) = cstL f xs + cstL f ys
  | [], ys => by simp [cstL]
  | q :: r, ys => by
    rw [List.cons_append, cstL, cstL, cstL_app r ys]
    omega
theorem stepT_sum {f : Fs → Nat} {w : Bx} {pl : List Nat} {its : List (Bx × (Int ⊕ Fs))} {S : Ws} : ∀ {i : Nat}, i ≤ its.length → sumW f (stepT w pl its S i).waits ≤ sumW f S.waits + cstL f (its.take i)
  | 0, _ => Nat.le_add_right _ _
  | i + 1, h => by
    have h1 := stepT_sum (f := f) (w := w) (pl := pl) (its := its) (S := S) (i := i) (by omega)
    have hg := List.getElem?_eq_getElem (show i < its.length by omega)
    have e := stepT_at (w := w) (pl := pl) (S := S) hg
    rw [e]
    have h2 := stepI_sum (f := f) (w := w) (pl := pl) (i := i) (it := its[i]) (S := stepT w pl its S i)
    have ht : its.take (i + 1) = its.take i ++ [its[i]] := by rw [List.take_add_one, hg]; rfl
    rw [ht, cstL_app]
    show _ ≤ _ + (_ + (cst f its[i] + 0))
    omega
theorem stepT_waits {w : Bx} {pl : List Nat} {its : List (Bx × (Int ⊕ Fs))} {S : Ws} : ∀ {i : Nat}, i ≤ its.length → ∀ q ∈ (stepT w pl its S i).waits, q ∈ S.waits ∨ ∃ b, (b, .inr q.2) ∈ its
  | 0, _, q, hq => .inl hq
  | i + 1, h, q, hq => by
    have hg := List.getElem?_eq_getElem (show i < its.length by omega)
    rw [stepT_at (w := w) (pl := pl) (S := S) hg] at hq
    rcases stepI_waits q hq with h1 | ⟨_, h2⟩
    · exact stepT_waits (i := i) (by omega) q h1
    · refine .inr ⟨its[i].1, ?_⟩
      rw [← h2]
      exact List.getElem_mem _
/-- all items of a form and within -/
def itN : (n : Nat) → Fo n → Nat
  | 0, t => (foL t).length
  | n + 1, t => ((foB t).map fun p => 1 + itN n p.2).sum
def fsI (s : Fs) : Nat := itN s.1 s.2
theorem itN_le : ∀ (n : Nat) (t : Fo n), Sm n t → 3 * itN n t + 4 ≤ 4 ^ (n + 2)
  | 0, t, h => by
    have h' : (foL t).length ≤ 4 := h
    show 3 * (foL t).length + 4 ≤ 16
    omega
  | n + 1, t, h => by
    have hb : ∀ (l : List (Bx × Fo n)), (∀ p ∈ l, Sm n p.2) → 3 * (l.map fun p => 1 + itN n p.2).sum + l.length ≤ l.length * 4 ^ (n + 2) := by
      intro l
      induction l with
      | nil => intro _; exact Nat.zero_le _
      | cons p r ih =>
        intro hl
        have h1 := itN_le n p.2 (hl p List.mem_cons_self)
        have h2 := ih fun q hq => hl q (List.mem_cons_of_mem _ hq)
        rw [List.map_cons, List.sum_cons, List.length_cons]
        have e9 : (r.length + 1) * 4 ^ (n + 2) = r.length * 4 ^ (n + 2) + 4 ^ (n + 2) := by rw [Nat.add_mul, Nat.one_mul]
        rw [e9]
        omega
    have h1 := hb (foB t) h.2
    show 3 * ((foB t).map fun p => 1 + itN n p.2).sum + 4 ≤ 4 ^ (n + 2 + 1)
    have h4 := h.1
    have h16 : 16 ≤ 4 ^ (n + 2) := by
      have := Nat.pow_le_pow_right (show 0 < 4 by decide) (show 2 ≤ n + 2 by omega)
      exact this
    have hm : (foB t).length * 4 ^ (n + 2) + (4 - (foB t).length) * 4 ^ (n + 2) = 4 * 4 ^ (n + 2) := by
      rw [← Nat.add_mul]
      congr 1
      omega
    have h5 : (4 - (foB t).length) * 16 ≤ (4 - (foB t).length) * 4 ^ (n + 2) := Nat.mul_le_mul_left _ h16
    rw [Nat.pow_succ 4 (n + 2), Nat.mul_comm]
    by_cases h0 : (foB t).length = 4
    · rw [h0] at h1 hm
      omega
    · omega
theorem itN_bd {s : Fs} (h : Sm s.1 s.2) (h3 : s.1 ≤ 3) : fsI s ≤ 340 := by
  have := itN_le s.1 s.2 h
  have hm : s.1 = 0 ∨ s.1 = 1 ∨ s.1 = 2 ∨ s.1 = 3 := by omega
  have : 4 ^ (s.1 + 2) ≤ 1024 := by rcases hm with e | e | e | e <;> rw [e] <;> decide
  show itN s.1 s.2 ≤ 340
  omega
theorem fitems_len (s : Fs) : (fitems s).length = foSz s.1 s.2 := by
  obtain ⟨k, t⟩ := s
  cases k with
  | zero => exact List.length_map _
  | succ k => exact List.length_map _
theorem cst_I : ∀ (s : Fs), cstL fsI (fitems s) + (fitems s).length ≤ fsI s
  | ⟨0, t⟩ => by
    show cstL fsI ((foL t).map _) + ((foL t).map _).length ≤ (foL t).length
    induction (foL t) with
    | nil => exact Nat.le_refl _
    | cons e r ih =>
      rw [List.map_cons, List.length_cons, List.length_cons]
      show 0 + _ + _ ≤ _
      omega
  | ⟨k + 1, t⟩ => by
    show cstL fsI ((foB t).map _) + ((foB t).map _).length ≤ ((foB t).map fun p => 1 + itN k p.2).sum
    induction (foB t) with
    | nil => exact Nat.le_refl _
    | cons p r ih =>
      rw [List.map_cons, List.map_cons, List.length_cons, List.sum_cons]
      show itN k p.2 + _ + _ ≤ _
      omega
theorem cst_N : ∀ (s : Fs), cstL fsN (fitems s) + 1 ≤ fsN s
  | ⟨0, t⟩ => by
    have : ∀ l : List En, cstL fsN (l.map fun e => (e.2, (.inl e.1 : Int ⊕ Fs))) = 0 := by
      intro l
      induction l with
      | nil => rfl
      | cons e r ih =>
        rw [List.map_cons]
        show 0 + _ = 0
        omega
    show cstL fsN ((foL t).map _) + 1 ≤ 0 + 1
    rw [this]
    exact Nat.le_refl _
  | ⟨k + 1, t⟩ => by
    show cstL fsN ((foB t).map fun p => (p.1, .inr ⟨k, p.2⟩)) + 1 ≤ ((foB t).flatMap fun p => foD k p.2 :: subs k p.2).length + 1
    induction (foB t) with
    | nil => exact Nat.le_refl _
    | cons p r ih =>
      rw [List.map_cons, List.flatMap_cons, List.length_append, List.length_cons]
      show (subs k p.2).length + 1 + _ + 1 ≤ _
      omega
/-- what holds ahead of each pop -/
structure WOk (S : Ws) : Prop where
  sm : ∀ q ∈ S.waits, Sm q.2.1 q.2.2 ∧ q.2.1 ≤ 3 ∧ Bok q.2.1 q.2.2
  tot : S.looked + sumW fsI S.waits ≤ 340
  len : wsN S ≤ S.looked + 1
theorem wok_start {s : Fs} (h : Sm s.1 s.2) (h3 : s.1 ≤ 3) (hb : Bok s.1 s.2) : WOk (start0 s) :=
  ⟨fun q hq => by rcases List.mem_singleton.mp hq with rfl; exact ⟨h, h3, hb⟩, by show 0 + (fsI s + 0) ≤ 340; have := itN_bd h h3; omega, Nat.le_refl _⟩
theorem wok_step {w : Bx} {F : List Int} {L : List (List Nat × String)} {c : Nat} {r : List (List Nat × Fs)} {pl : List Nat} {s : Fs} (h : WOk ⟨F, L, c, r ++ [(pl, s)]⟩) :
    WOk (stepF w pl s ⟨F, L, c, r⟩) ∧ sumW fsN (stepF w pl s ⟨F, L, c, r⟩).waits < sumW fsN (r ++ [(pl, s)]) ∧ ∀ i, i ≤ (fitems s).length → (stepT w pl (fitems s) ⟨F, L, c, r⟩ i).looked ≤ 340 ∧ wsN (stepT w pl (fitems s) ⟨F, L, c, r⟩ i) ≤ 341 := by
  obtain ⟨h1, h2, h3⟩ := h
  have hs := h1 (pl, s) (List.mem_append_right _ List.mem_cons_self)
  have e1 : sumW fsI (r ++ [(pl, s)]) = sumW fsI r + fsI s := by rw [sumW_app]; rfl
  have e2 : sumW fsN (r ++ [(pl, s)]) = sumW fsN r + fsN s := by rw [sumW_app]; rfl
  have h2 : c + sumW fsI (r ++ [(pl, s)]) ≤ 340 := h2
  have h3 : F.length + L.length + (r ++ [(pl, s)]).length ≤ c + 1 := h3
  rw [List.length_append, List.length_singleton] at h3
  have i1 := cst_I s
  have i2 := cst_N s
  have t1 := stepT_sum (f := fsI) (w := w) (pl := pl) (its := fitems s) (S := ⟨F, L, c, r⟩) (Nat.le_refl _)
  have t2 := stepT_sum (f := fsN) (w := w) (pl := pl) (its := fitems s) (S := ⟨F, L, c, r⟩) (Nat.le_refl _)
  rw [List.take_length] at t1 t2
  have t1 : _ ≤ sumW fsI r + _ := t1
  have t2 : _ ≤ sumW fsN r + _ := t2
  have t3 := fun i (hi : i ≤ (fitems s).length) => stepT_n (w := w) (pl := pl) (its := fitems s) (S := ⟨F, L, c, r⟩) hi
  have hw : wsN ⟨F, L, c, r⟩ = F.length + L.length + r.length := rfl
  refine ⟨⟨fun q hq => ?_, ?_, ?_⟩, ?_, fun i hi => ?_⟩
  · rcases stepT_waits (Nat.le_refl _) q hq with h | ⟨b, h⟩
    · exact h1 q (List.mem_append_left _ h)
    · obtain ⟨k, t⟩ := s
      cases k with
      | zero =>
        obtain ⟨e, _, he⟩ := List.mem_map.mp h
        cases he
      | succ k =>
        obtain ⟨p, hp, he⟩ := List.mem_map.mp h
        obtain ⟨q1, q2⟩ := q
        have e9 : (⟨k, p.2⟩ : Fs) = q2 := by
          have := congrArg Prod.snd he
          exact Sum.inr.inj this
        subst e9
        obtain ⟨g1, g2, g3⟩ := hs
        have g2 : k + 1 ≤ 3 := g2
        exact ⟨g1.2 p hp, by show k ≤ 3; omega, (g3 p hp).2⟩
  · have := (t3 _ (Nat.le_refl _)).1
    show (stepT w pl (fitems s) ⟨F, L, c, r⟩ (fitems s).length).looked + sumW fsI (stepT w pl (fitems s) ⟨F, L, c, r⟩ (fitems s).length).waits ≤ 340
    rw [this]
    show c + _ + _ ≤ 340
    omega
  · have := t3 _ (Nat.le_refl _)
    show wsN (stepT w pl (fitems s) ⟨F, L, c, r⟩ (fitems s).length) ≤ (stepT w pl (fitems s) ⟨F, L, c, r⟩ (fitems s).length).looked + 1
    rw [this.1, this.2, hw]
    show _ ≤ c + _ + 1
    omega
  · show sumW fsN (stepT w pl (fitems s) ⟨F, L, c, r⟩ (fitems s).length).waits < _
    omega
  · have := t3 i hi
    rw [this.1, this.2, hw]
    have : c + i ≤ 340 := by omega
    exact ⟨this, by omega⟩
end Wb

/-! the plain law of the search -/
namespace Wb
open PySem PySem.Spec
theorem run_ind {w : Bx} {s0 : Fs} {P : Ws → Prop} (h0 : P (start0 s0)) (hs : ∀ F L c r pl s, P ⟨F, L, c, r ++ [(pl, s)]⟩ → P (stepF w pl s ⟨F, L, c, r⟩)) : ∀ n, P (runN w (start0 s0) n)
  | 0 => h0
  | n + 1 => by
    have ih := run_ind h0 hs n
    show P (stp w (runN w (start0 s0) n))
    generalize runN w (start0 s0) n = S at *
    obtain ⟨F, L, c, W⟩ := S
    by_cases hW : W = []
    · rw [stp_end hW]
      exact ih
    · obtain ⟨r, q, rfl⟩ : ∃ r q, W = r ++ [q] := ⟨W.dropLast, W.getLast hW, (List.dropLast_concat_getLast hW).symm⟩
      obtain ⟨pl, s⟩ := q
      rw [stp_last]
      exact hs F L c r pl s ih
theorem ended_ind {w : Bx} {s0 : Fs} {S : Ws} {P : Ws → Prop} (h : Ended w s0 S) (h0 : P (start0 s0)) (hs : ∀ F L c r pl s, P ⟨F, L, c, r ++ [(pl, s)]⟩ → P (stepF w pl s ⟨F, L, c, r⟩)) : P S := by
  obtain ⟨_, n, rfl⟩ := h
  exact run_ind h0 hs n
/-- an invariant by single items -/
theorem stepT_ind {w : Bx} {pl : List Nat} {its : List (Bx × (Int ⊕ Fs))} {S : Ws} {P : Nat → Ws → Prop} (h0 : P 0 S) (hs : ∀ i it T, its[i]? = some it → P i T → P (i + 1) (stepI w pl i it T)) : ∀ {i : Nat}, i ≤ its.length → P i (stepT w pl its S i)
  | 0, _ => h0
  | i + 1, h => by
    have hg := List.getElem?_eq_getElem (show i < its.length by omega)
    rw [stepT_at hg]
    exact hs i _ _ hg (stepT_ind h0 hs (by omega))
/-! places stand apart -/
def inc (p q : List Nat) : Prop := ¬ p <+: q ∧ ¬ q <+: p
theorem inc_symm {p q : List Nat} (h : inc p q) : inc q p := ⟨h.2, h.1⟩
theorem inc_snoc {p q : List Nat} (h : inc p q) (j : Nat) : inc p (q ++ [j]) := by
  refine ⟨fun z => ?_, fun z => ?_⟩
  · rcases List.prefix_concat_iff.mp z with e | e
    · exact h.2 (by rw [e]; exact List.prefix_append _ _)
    · exact h.1 e
  · exact h.2 ((List.prefix_append q [j]).trans z)
theorem inc_new {q : List Nat} {j k : Nat} (h : j ≠ k) : inc (q ++ [j]) (q ++ [k]) := by
  have g : ∀ {a b : Nat}, a ≠ b → ¬ (q ++ [a]) <+: (q ++ [b]) := fun {a b} hab z => by
    have e := z.eq_of_length (by simp)
    have := List.append_cancel_left e
    exact hab (by simpa using this)
  exact ⟨g h, g fun e => h e.symm⟩
def pls (S : Ws) : List (List Nat) := S.left.map (·.1) ++ S.waits.map (·.1)
theorem stepI_pls {w : Bx} {pl : List Nat} {i : Nat} {it : Bx × (Int ⊕ Fs)} {S : Ws} : (pls (stepI w pl i it S)).Perm (pls S) ∨ (pls (stepI w pl i it S)).Perm ((pl ++ [i]) :: pls S) := by
  unfold stepI pls
  split
  · refine .inr ?_
    show (List.map (·.1) (S.left ++ [_]) ++ _).Perm _
    rw [List.map_append, List.append_assoc]
    exact List.perm_middle
  · split
    · exact .inl (List.Perm.refl _)
    · refine .inr ?_
      show (_ ++ List.map (·.1) (S.waits ++ [_])).Perm _
      rw [List.map_append, ← List.append_assoc]
      exact List.perm_append_comm
theorem stepF_inc {w : Bx} {F : List Int} {L : List (List Nat × String)} {c : Nat} {r : List (List Nat × Fs)} {pl : List Nat} {s : Fs} (h : (pls ⟨F, L, c, r ++ [(pl, s)]⟩).Pairwise inc) : (pls (stepF w pl s ⟨F, L, c, r⟩)).Pairwise inc := by
  have h' : (pl :: pls ⟨F, L, c, r⟩).Pairwise inc := by
    refine (List.Perm.pairwise_iff (R := inc) (fun h => inc_symm h) ?_).mp h
    unfold pls
    show (_ ++ List.map (·.1) (r ++ [(pl, s)])).Perm _
    rw [List.map_append, ← List.append_assoc]
    exact List.perm_append_comm
  obtain ⟨hp, h2⟩ := List.pairwise_cons.mp h'
  have key := stepT_ind (w := w) (pl := pl) (its := fitems s) (S := ⟨F, L, c, r⟩) (P := fun i T => (pls T).Pairwise inc ∧ ∀ q ∈ pls T, inc q pl ∨ ∃ j, j < i ∧ q = pl ++ [j]) ⟨h2, fun q hq => .inl (inc_symm (hp q hq))⟩ (fun i it T _ hT => by
    obtain ⟨t1, t2⟩ := hT
    have t2' : ∀ q ∈ pls T, inc q pl ∨ ∃ j, j < i + 1 ∧ q = pl ++ [j] := fun q hq => by
      rcases t2 q hq with h | ⟨j, h1, h2⟩
      · exact .inl h
      · exact .inr ⟨j, by omega, h2⟩
    rcases stepI_pls (w := w) (pl := pl) (i := i) (it := it) (S := T) with hP | hP
    · exact ⟨(List.Perm.pairwise_iff (R := inc) (fun h => inc_symm h) hP).mpr t1, fun q hq => t2' q (hP.mem_iff.mp hq)⟩
    · refine ⟨(List.Perm.pairwise_iff (R := inc) (fun h => inc_symm h) hP).mpr (List.pairwise_cons.mpr ⟨fun q hq => ?_, t1⟩), fun q hq => ?_⟩
      · rcases t2 q hq with h | ⟨j, h1, rfl⟩
        · exact inc_symm (inc_snoc h i)
        · exact inc_new (by omega)
      · rcases List.mem_cons.mp (hP.mem_iff.mp hq) with rfl | hq
        · exact .inr ⟨i, by omega, rfl⟩
        · exact t2' q hq) (Nat.le_refl _)
  exact key.1
theorem ended_nodup {w : Bx} {s0 : Fs} {S : Ws} (h : Ended w s0 S) : (S.left.map (·.1)).Nodup := by
  have hp : (pls S).Pairwise inc := ended_ind h (P := fun T => (pls T).Pairwise inc) (List.pairwise_singleton _ _) fun F L c r pl s h => stepF_inc h
  unfold pls at hp
  have h1 := (List.pairwise_append.mp hp).1
  exact h1.imp fun {a b} hab e => hab.1 (by rw [e]; exact List.prefix_refl b)
/-! places lead to forms -/
def child (s : Fs) (i : Nat) : Option Fs :=
  match s with
  | ⟨0, _⟩ => none
  | ⟨k + 1, t⟩ => (foB t)[i]?.map fun p => ⟨k, p.2⟩
def atF (s : Fs) : List Nat → Option Fs
  | [] => some s
  | i :: r => (child s i).bind fun s' => atF s' r
theorem atF_snoc : ∀ (s : Fs) (pl : List Nat) (i : Nat), atF s (pl ++ [i]) = (atF s pl).bind fun s' => child s' i
  | s, [], i => by
    show (child s i).bind (fun s' => some s') = child s i
    cases child s i <;> rfl
  | s, j :: r, i => by
    show (child s j).bind (fun s' => atF s' (r ++ [i])) = ((child s j).bind fun s' => atF s' r).bind fun s' => child s' i
    cases child s j with
    | none => rfl
    | some s' => exact atF_snoc s' r i
theorem child_item {s s' : Fs} {i : Nat} {b : Bx} (h : (fitems s)[i]? = some (b, .inr s')) : child s i = some s' := by
  obtain ⟨k, t⟩ := s
  cases k with
  | zero =>
    have h : ((foL t).map fun e => (e.2, (.inl e.1 : Int ⊕ Fs)))[i]? = some (b, .inr s') := h
    rw [List.getElem?_map] at h
    obtain ⟨e, _, he⟩ := Option.map_eq_some_iff.mp h
    cases he
  | succ k =>
    have h : ((foB t).map fun p => (p.1, (.inr ⟨k, p.2⟩ : Int ⊕ Fs)))[i]? = some (b, .inr s') := h
    rw [List.getElem?_map] at h
    obtain ⟨p, hp, he⟩ := Option.map_eq_some_iff.mp h
    show (foB t)[i]?.map _ = _
    rw [hp]
    have := Sum.inr.inj (congrArg Prod.snd he)
    rw [← this]
    rfl
/-- what an item stands for -/
def numI (it : Bx × (Int ⊕ Fs)) : List Int :=
  match it.2 with
  | .inl n => [n]
  | .inr s => (fsE s).map (·.1)
def numsAt (s0 : Fs) (q : List Nat) : List Int :=
  match q.reverse with
  | [] => []
  | i :: r => match atF s0 r.reverse with
    | some s => match (fitems s)[i]? with
      | some it => numI it
      | none => []
    | none => []
theorem numsAt_snoc {s0 s : Fs} {pl : List Nat} {i : Nat} {it : Bx × (Int ⊕ Fs)} (h : atF s0 pl = some s) (hi : (fitems s)[i]? = some it) : numsAt s0 (pl ++ [i]) = numI it := by
  unfold numsAt
  simp [h, hi]
structure Good (s0 : Fs) (S : Ws) : Prop where
  wa : ∀ q ∈ S.waits, atF s0 q.1 = some q.2 ∧ Right q.2.1 q.2.2
  le : ∀ q ∈ S.left, ∃ pl i s, q.1 = pl ++ [i] ∧ atF s0 pl = some s ∧ i < (fitems s).length
theorem right_kid {s s' : Fs} {b : Bx} (h : Right s.1 s.2) (hi : (b, .inr s') ∈ fitems s) : Right s'.1 s'.2 ∧ b = joint ((fsE s').map (·.2)) := by
  obtain ⟨k, t⟩ := s
  cases k with
  | zero =>
    obtain ⟨e, _, he⟩ := List.mem_map.mp hi
    cases he
  | succ k =>
    obtain ⟨p, hp, he⟩ := List.mem_map.mp hi
    have e1 := Sum.inr.inj (congrArg Prod.snd he)
    have e2 : p.1 = b := congrArg Prod.fst he
    subst e1 e2
    obtain ⟨r1, r2, r3, r4⟩ := h p hp
    exact ⟨r4, r1⟩
theorem good_step {w : Bx} {s0 : Fs} {F : List Int} {L : List (List Nat × String)} {c : Nat} {r : List (List Nat × Fs)} {pl : List Nat} {s : Fs} (h : Good s0 ⟨F, L, c, r ++ [(pl, s)]⟩) : Good s0 (stepF w pl s ⟨F, L, c, r⟩) := by
  obtain ⟨h1, h2⟩ := h
  obtain ⟨ha, hr⟩ := h1 (pl, s) (List.mem_append_right _ List.mem_cons_self)
  refine stepT_ind (w := w) (pl := pl) (its := fitems s) (S := ⟨F, L, c, r⟩) (P := fun i T => Good s0 T) ⟨fun q hq => h1 q (List.mem_append_left _ hq), h2⟩ (fun i it T hi hT => ?_) (Nat.le_refl _)
  refine ⟨fun q hq => ?_, fun q hq => ?_⟩
  · rcases stepI_waits q hq with h | ⟨e1, e2⟩
    · exact hT.wa q h
    · obtain ⟨b, x⟩ := it
      have e2 : x = .inr q.2 := e2
      subst e2
      rw [e1, atF_snoc, ha]
      exact ⟨child_item hi, (right_kid hr (List.mem_of_getElem? hi)).1⟩
  · have : q ∈ T.left ∨ q.1 = pl ++ [i] := by
      unfold stepI at hq
      split at hq
      · rcases List.mem_append.mp hq with h | h
        · exact .inl h
        · rcases List.mem_singleton.mp h with rfl
          exact .inr rfl
      · split at hq <;> exact .inl hq
    rcases this with h | h
    · exact hT.le q h
    · exact ⟨pl, i, s, h, ha, (List.getElem?_eq_some_iff.mp hi).1⟩
/-! what is told in all -/
def tot (A : List Nat × String → List Int) (C : Fs → List Int) (S : Ws) : List Int := S.left.flatMap A ++ (S.found ++ S.waits.flatMap fun q => C q.2)
theorem tot_step {A : List Nat × String → List Int} {C : Fs → List Int} {B : Bx × (Int ⊕ Fs) → List Int} {w : Bx} {pl : List Nat} {i : Nat} {it : Bx × (Int ⊕ Fs)} {S : Ws}
    (h1 : ∀ x, apart it.1 w = some x → A (pl ++ [i], x) = B it) (h2 : ∀ n, apart it.1 w = none → it.2 = .inl n → B it = [n]) (h3 : ∀ s, apart it.1 w = none → it.2 = .inr s → B it = C s) :
    (tot A C (stepI w pl i it S)).Perm (tot A C S ++ B it) := by
  unfold stepI tot
  split
  · rename_i x hx
    show (List.flatMap A (S.left ++ [_]) ++ _).Perm _
    rw [List.flatMap_append, List.append_assoc, List.append_assoc]
    refine List.Perm.append_left _ ?_
    rw [List.flatMap_cons, List.flatMap_nil, List.append_nil, h1 x hx]
    exact List.perm_append_comm
  · rename_i hx
    split
    · rename_i n hn
      show (_ ++ ((S.found ++ [n]) ++ _)).Perm _
      rw [h2 n hx hn, List.append_assoc, List.append_assoc, List.append_assoc]
      refine List.Perm.append_left _ (List.Perm.append_left _ ?_)
      exact List.perm_append_comm
    · rename_i s hs
      show (_ ++ (_ ++ List.flatMap (fun q => C q.2) (S.waits ++ [_]))).Perm _
      rw [h3 s hx hs, List.flatMap_append, List.append_assoc, List.append_assoc]
      refine List.Perm.append_left _ (List.Perm.append_left _ ?_)
      rw [List.flatMap_cons, List.flatMap_nil, List.append_nil]
theorem tot_form {A : List Nat × String → List Int} {C : Fs → List Int} {B : Bx × (Int ⊕ Fs) → List Int} {w : Bx} {F : List Int} {L : List (List Nat × String)} {c : Nat} {r : List (List Nat × Fs)} {pl : List Nat} {s : Fs}
    (h : ∀ (i : Nat) it, (fitems s)[i]? = some it → (∀ x, apart it.1 w = some x → A (pl ++ [i], x) = B it) ∧ (∀ n, apart it.1 w = none → it.2 = .inl n → B it = [n]) ∧ (∀ s, apart it.1 w = none → it.2 = .inr s → B it = C s)) (hC : C s = (fitems s).flatMap B) :
    (tot A C (stepF w pl s ⟨F, L, c, r⟩)).Perm (tot A C ⟨F, L, c, r ++ [(pl, s)]⟩) := by
  have key := stepT_ind (w := w) (pl := pl) (its := fitems s) (S := ⟨F, L, c, r⟩) (P := fun i T => (tot A C T).Perm (tot A C ⟨F, L, c, r⟩ ++ ((fitems s).take i).flatMap B)) (by simp) (fun i it T hi hT => by
    obtain ⟨a1, a2, a3⟩ := h i it hi
    have ht : (fitems s).take (i + 1) = (fitems s).take i ++ [it] := by rw [List.take_add_one, hi]; rfl
    rw [ht, List.flatMap_append, ← List.append_assoc]
    refine (tot_step a1 a2 a3).trans ?_
    rw [List.flatMap_cons, List.flatMap_nil, List.append_nil]
    exact hT.append_right _) (Nat.le_refl _)
  rw [List.take_length, ← hC] at key
  refine key.trans ?_
  unfold tot
  show (List.flatMap A L ++ (F ++ List.flatMap (fun q => C q.2) r) ++ C s).Perm (List.flatMap A L ++ (F ++ List.flatMap (fun q => C q.2) (r ++ [(pl, s)])))
  rw [List.flatMap_append, List.append_assoc, List.append_assoc, List.flatMap_cons, List.flatMap_nil, List.append_nil]
theorem fsE_items (s : Fs) : (fsE s).map (·.1) = (fitems s).flatMap numI := by
  obtain ⟨k, t⟩ := s
  cases k with
  | zero =>
    show (foL t).map (·.1) = ((foL t).map _).flatMap numI
    induction (foL t) with
    | nil => rfl
    | cons e r ih =>
      rw [List.map_cons, List.map_cons, List.flatMap_cons, ← ih]
      rfl
  | succ k =>
    show ((foB t).flatMap fun p => ents k p.2).map (·.1) = ((foB t).map _).flatMap numI
    rw [List.map_flatMap, List.flatMap_map]
    rfl
theorem good_start {s0 : Fs} (h : Right s0.1 s0.2) : Good s0 (start0 s0) := ⟨fun q hq => by rcases List.mem_singleton.mp hq with rfl; exact ⟨rfl, h⟩, fun q hq => (by cases hq)⟩
theorem ended_good {w : Bx} {s0 : Fs} {S : Ws} (hr : Right s0.1 s0.2) (h : Ended w s0 S) : Good s0 S := ended_ind h (P := Good s0) (good_start hr) fun _ _ _ _ _ _ g => good_step g
/-- each number is found, or left out at one place -/
theorem ended_all {w : Bx} {s0 : Fs} {S : Ws} (hr : Right s0.1 s0.2) (h : Ended w s0 S) : (S.left.flatMap (fun q => numsAt s0 q.1) ++ S.found).Perm ((fsE s0).map (·.1)) := by
  have key := ended_ind h (P := fun T => Good s0 T ∧ (tot (fun q => numsAt s0 q.1) (fun s => (fsE s).map (·.1)) T).Perm ((fsE s0).map (·.1))) ⟨good_start hr, by unfold tot start0; simp⟩ (fun F L c r pl s g => by
    obtain ⟨g1, g2⟩ := g
    refine ⟨good_step g1, List.Perm.trans (tot_form (B := numI) (fun i it hi => ⟨fun x hx => ?_, fun n hx hn => ?_, fun s' hx hs => ?_⟩) (fsE_items s)) g2⟩
    · exact numsAt_snoc (g1.wa (pl, s) (List.mem_append_right _ List.mem_cons_self)).1 hi
    · unfold numI
      rw [hn]
    · unfold numI
      rw [hs])
  have k2 := key.2
  unfold tot at k2
  rw [h.1] at k2
  simpa using k2
def meets (w : Bx) (e : En) : Bool := decide (apart e.2 w = none)
def dueL (w : Bx) (es : List En) : List Int := (es.filter (meets w)).map (·.1)
theorem dueL_app (w : Bx) (xs ys : List En) : dueL w (xs ++ ys) = dueL w xs ++ dueL w ys := by
  unfold dueL
  rw [List.filter_append, List.map_append]
def dueI (w : Bx) (it : Bx × (Int ⊕ Fs)) : List Int :=
  match it.2 with
  | .inl n => if apart it.1 w = none then [n] else []
  | .inr s => dueL w (fsE s)
theorem due_items (w : Bx) (s : Fs) : dueL w (fsE s) = (fitems s).flatMap (dueI w) := by
  obtain ⟨k, t⟩ := s
  cases k with
  | zero =>
    show dueL w (foL t) = ((foL t).map _).flatMap (dueI w)
    induction (foL t) with
    | nil => rfl
    | cons e r ih =>
      rw [List.map_cons, List.flatMap_cons, ← ih]
      have : e :: r = [e] ++ r := rfl
      rw [this, dueL_app]
      congr 1
      unfold dueL dueI meets
      by_cases h : apart e.2 w = none
      · simp [h]
      · simp [h]
  | succ k =>
    show dueL w ((foB t).flatMap fun p => ents k p.2) = ((foB t).map _).flatMap (dueI w)
    induction (foB t) with
    | nil => rfl
    | cons p r ih =>
      rw [List.map_cons, List.flatMap_cons, List.flatMap_cons, dueL_app, ih]
      rfl
theorem dueL_perm {w : Bx} {xs ys : List En} (h : xs.Perm ys) : (dueL w xs).Perm (dueL w ys) := (h.filter _).map _
/-- what a search finds are the numbers whose boxes meet -/
theorem ended_due {w : Bx} {s0 : Fs} {S : Ws} (hr : Right s0.1 s0.2) (h : Ended w s0 S) : S.found.Perm (dueL w (fsE s0)) := by
  have key := ended_ind h (P := fun T => Good s0 T ∧ (tot (fun _ => []) (fun s => dueL w (fsE s)) T).Perm (dueL w (fsE s0))) ⟨good_start hr, by unfold tot start0; simp⟩ (fun F L c r pl s g => by
    obtain ⟨g1, g2⟩ := g
    refine ⟨good_step g1, List.Perm.trans (tot_form (B := dueI w) (fun i it hi => ⟨fun x hx => ?_, fun n hx hn => ?_, fun s' hx hs => ?_⟩) (due_items w s)) g2⟩
    · obtain ⟨b, y⟩ := it
      have hx : apart b w = some x := hx
      cases y with
      | inl n =>
        show [] = if apart b w = none then [n] else []
        rw [hx]
        rfl
      | inr s' =>
        show [] = dueL w (fsE s')
        obtain ⟨r1, r2⟩ := right_kid (g1.wa (pl, s) (List.mem_append_right _ List.mem_cons_self)).2 (List.mem_of_getElem? hi)
        have hn : (fsE s').filter (meets w) = [] := List.filter_eq_nil_iff.mpr fun e he hm => by
          have hm : apart e.2 w = none := of_decide_eq_true hm
          have := apart_held (joint_holds (List.mem_map.mpr ⟨e, he, rfl⟩)) hm
          rw [← r2, hx] at this
          cases this
        unfold dueL
        rw [hn]
        rfl
    · obtain ⟨b, y⟩ := it
      have hx : apart b w = none := hx
      have hn : y = .inl n := hn
      subst hn
      show (if apart b w = none then [n] else []) = [n]
      rw [if_pos hx]
    · obtain ⟨b, y⟩ := it
      have hs : y = .inr s' := hs
      subst hs
      rfl)
  have k2 := key.2
  unfold tot at k2
  rw [h.1] at k2
  have e : ∀ l : List (List Nat × String), l.flatMap (fun _ => ([] : List Int)) = [] := by
    intro l
    induction l with
    | nil => rfl
    | cons x l ih => rw [List.flatMap_cons, ih]; rfl
  rw [e] at k2
  simpa using k2
theorem mem_due {w : Bx} {es : List En} (hn : (es.map (·.1)).Nodup) {e : En} (he : e ∈ es) : e.1 ∈ dueL w es ↔ apart e.2 w = none := by
  unfold dueL
  constructor
  · intro h
    obtain ⟨e2, h2, h3⟩ := List.mem_map.mp h
    obtain ⟨h4, h5⟩ := List.mem_filter.mp h2
    have inj : ∀ {l : List En}, (l.map (·.1)).Nodup → ∀ a ∈ l, ∀ b ∈ l, a.1 = b.1 → a = b := by
      intro l
      induction l with
      | nil => intro _ a ha; cases ha
      | cons x l ih =>
        intro hl a ha b hb hab
        rw [List.map_cons] at hl
        obtain ⟨l1, l2⟩ := List.nodup_cons.mp hl
        rcases List.mem_cons.mp ha with ea | ha
        · rcases List.mem_cons.mp hb with eb | hb
          · rw [ea, eb]
          · exact absurd (List.mem_map.mpr ⟨b, hb, by rw [← hab, ea]⟩) l1
        · rcases List.mem_cons.mp hb with eb | hb
          · exact absurd (List.mem_map.mpr ⟨a, ha, by rw [hab, eb]⟩) l1
          · exact ih l2 a ha b hb hab
    have := inj hn e2 h4 e he h3
    subst this
    exact of_decide_eq_true h5
  · intro h
    exact List.mem_map.mpr ⟨e, List.mem_filter.mpr ⟨he, decide_eq_true h⟩, rfl⟩
/-- two sorted rearrangements are one -/
theorem srt_uniq : ∀ {xs ys : List Int}, xs.Pairwise (· ≤ ·) → ys.Pairwise (· ≤ ·) → xs.Perm ys → xs = ys
  | [], ys, _, _, h => (List.Perm.nil_eq h)
  | x :: xs, [], _, _, h => absurd (List.Perm.eq_nil h) (List.cons_ne_nil _ _)
  | x :: xs, y :: ys, h1, h2, h => by
    obtain ⟨a1, a2⟩ := List.pairwise_cons.mp h1
    obtain ⟨b1, b2⟩ := List.pairwise_cons.mp h2
    have e : x = y := by
      have hx : x ∈ y :: ys := h.mem_iff.mp List.mem_cons_self
      have hy : y ∈ x :: xs := h.mem_iff.mpr List.mem_cons_self
      rcases List.mem_cons.mp hx with e | hx
      · exact e
      · rcases List.mem_cons.mp hy with e | hy
        · exact e.symm
        · have := b1 x hx
          have := a1 y hy
          omega
    subst e
    rw [srt_uniq a2 b2 h.cons_inv]
end Wb

/-! enumerate of a tuple; sorted of tuples whose first items are different ints, or different tuples of ints -/
namespace Wb
open PySem PySem.Spec PyProof.Rows L2
/-! ### enumerate(tuple) -/
theorem meets_enum1 {v : Value} {o : Obj} {H : Heap → Prop} (B : Begins v o H) :
    Meets (Builtin.«enumerate.__new__» ⟨[.type "enumerate", v], []⟩) (fun _ R s => H s.heap ∧
      R (.ok (.ret (.ref (s.heap.push o).objs.size))) { s with heap := (s.heap.push o).push { cls := .type "enumerate", data := .fields #[.none, .bool false, .ref s.heap.objs.size, rawInt 0, .none, .none] } }) :=
  .of_wp fun prog w A R s h => by
    obtain ⟨hp, g, d, tk, os⟩ := s; obtain ⟨h1, h⟩ := h
    have hsub := sub_enumerate
    have q1 : ∀ {A' : Around} {E : Value → Shared → Prop} {Q : Value → Shared → Prop}, Q (.ref hp.objs.size) ⟨hp.push o, g, d, tk, os⟩ → wpAny (model prog w) A' (pyIter v) Q E ⟨hp, g, d, tk, os⟩ :=
      fun q => B.iter prog w _ _ ⟨hp, g, d, tk, os⟩ _ h1 q
    wp_walk using q1
    refine wpAny_stack_any fun st => wpAny_pure ?_
    split
    · rename_i c _ _ _ _ _
      cases (c == Value.type "enumerate")
      · wp_walk using q1
        exact ⟨_, rfl, h⟩
      · wp_walk using q1
        exact ⟨_, rfl, h⟩
    · wp_walk using q1
      exact ⟨_, rfl, h⟩
theorem call_enum_tup {prog : Program} {w : World} {A : Around} {E : Value → Shared → Prop} {s : Shared} {l : Addr} {items : Array Value} {Q : Value → Shared → Prop} (hL : s.heap.IsTuple l items)
    (h : ∀ h', IsEnum h' (s.heap.objs.size + 1) s.heap.objs.size 0 .none → h'.IsTupleIter s.heap.objs.size l 0 → h'.objs.size = s.heap.objs.size + 2 →
      (∀ b o, s.heap.get? b = some o → h'.get? b = some o) → Q (.ref (s.heap.objs.size + 1)) { s with heap := h' }) :
    wpAny (model prog w) A (call (.type "enumerate") [.ref l]) Q E s := by
  refine callType_new F.called_enumerate (by decide) (F.typeCall_enumerate_1 _) (F.newCall_enumerate_1 _) (fun obj => F.args_object_init_2 obj _) F.entry_enumerate_new
    (meets_enum1 (begins_tuple l items)) ⟨hL, ?_⟩
  have hz : (s.heap.push { cls := .type "tuple_iterator", data := .fields #[.ref l, .int 0 0] }).objs.size = s.heap.objs.size + 1 := Heap.size_push ..
  show _ ∧ _
  rw [hz]
  have he : IsEnum ((s.heap.push { cls := .type "tuple_iterator", data := .fields #[.ref l, .int 0 0] }).push
      { cls := .type "enumerate", data := .fields #[.none, .bool false, .ref s.heap.objs.size, rawInt 0, .none, .none] }) (s.heap.objs.size + 1) s.heap.objs.size 0 .none := by
    have := Heap.get?_push_size (s.heap.push { cls := .type "tuple_iterator", data := .fields #[.ref l, .int 0 0] })
      (o := { cls := .type "enumerate", data := .fields #[.none, .bool false, .ref s.heap.objs.size, rawInt 0, .none, .none] }) rfl
    rw [hz] at this; exact this
  refine ⟨⟨_, he, rfl⟩, h _ he ⟨_, Heap.get?_push_of_some _ (Heap.get?_push_size _ rfl), rfl, rfl⟩ (by rw [Heap.size_push, hz]) fun b o x => Heap.get?_push_of_some _ (Heap.get?_push_of_some _ x)⟩
theorem pyNext_enum_endT {prog : Program} {w : World} {A : Around} {E : Value → Shared → Prop} {s : Shared} {e it a : Addr} {i : Nat} {items : List Value} {k : Int} {old : Value} {Q : Option Value → Shared → Prop} (hh : A.handled = none)
    (he : IsEnum s.heap e it k old) (hit : s.heap.IsTupleIter it a i) (ht : s.heap.IsTuple a items.toArray) (hx : items.length ≤ i) (hQ : ∀ h', Heap.ExtBut it s.heap h' → Q none { s with heap := h' }) : wpAny (model prog w) A (pyNext (.ref e)) Q E s := by
  have hT : s.TypeIs (.ref e) "enumerate" := ⟨_, he, rfl⟩
  unfold pyNext
  refine wpAny_bind (wpAny_attempt (wpAny_callSpecial?_slot (name := Str.ofString "__next__") hT F.slot_enumerate_next
    (wpAny_call_entry F.slot_enumerate_next hT F.entry_enumerate_next ?_ (F.args_enumerate_next_1 _))))
  show wpAny _ _ (field (.ref e) 2 >>= _) _ _ _
  refine wpAny_bind (wpAny_field he rfl (x := .ref it) rfl ?_)
  refine wpAny_bind (wpAny_nextOf_tuple_end hh hit ht (by simp; omega) fun h' x he' hx' => ?_)
  obtain ⟨o, ho, hc⟩ := hx'
  refine wpAny_bind (wpAny_isInstance (T := "StopIteration") (b := true) ⟨o, ho, hc⟩ isSubtype_stop ?_)
  exact wpAny_pure (hQ _ he')
/-- the tuple at a, each item in a new pair -/
def Itet (K : PySem.W.Frag) (a : Addr) : It :=
  ⟨fun i H => ∃ (xs : List V) (x : V), SqT K H a xs ∧ xs[i]? = some x, fun i H v H' => ∃ T x, v = .ref T ∧ H T = none ∧ H' = upd H T (.tup [.int (i : Nat), x]) ∧ ∀ xs, SqT K H a xs → xs[i]? = some x, fun i H => ∃ xs : List V, SqT K H a xs ∧ xs.length ≤ i⟩
theorem turn_enumT {P : Program} {w : World} {K : PySem.W.Frag} {elts : List Expr} {kk : Nat} {tpos : Pos} (a e it : Addr) :
    Turn P w K (.Tuple elts kk tpos) (Itet K a) [e, it] e (fun i h => (∃ old, IsEnum h e it ((i : Nat) : Int) old) ∧ h.IsTupleIter it a i ∧ e ≠ it) where
  mem := by simp
  obj := fun i h st b hb => by
    obtain ⟨⟨old, he⟩, ⟨o, ho, hc, hd⟩, _⟩ := st
    have e' : b = e ∨ b = it := by simpa using hb
    rcases e' with z | z
    · rw [z]; exact ⟨_, he, fun v q => nomatch q⟩
    · rw [z]; exact ⟨o, ho, fun v q => by rw [hd] at q; cases q⟩
  keep := fun i h h' st k => let ⟨⟨old, he⟩, hi, hne⟩ := st; ⟨⟨old, k e (by simp) _ he⟩, hi.at fun o q => k it (by simp) o q, hne⟩
  item := by
    intro X hP hw hK hc i pins s σ H E I hf st hg
    subst hP hw hK
    obtain ⟨⟨old, he⟩, hit, hne⟩ := st
    obtain ⟨xs, x, hq, hx⟩ := hg
    obtain ⟨its, rv, p, hz⟩ := I.tuple hq
    obtain ⟨u, hu, ru⟩ := rv.get hx
    have pt : s.heap.IsTuple a its.toArray := p
    have hel : e < s.heap.objs.size := Heap.lt_size he
    have hil : it < s.heap.objs.size := by obtain ⟨_, q, _⟩ := hit; exact Heap.lt_size q
    have hai : a ≠ it := by
      obtain ⟨o, ho, hco, _⟩ := pt
      obtain ⟨o2, ho2, hc2, _⟩ := hit
      intro z
      rw [z, ho2] at ho
      cases ho
      have hh := hc2.symm.trans hco
      exact absurd hh (by simp)
    have hea : e ∉ [it, a] := by
      obtain ⟨o, ho, hco, _⟩ := pt
      intro z
      have z' : e = it ∨ e = a := by simpa using z
      rcases z' with z | z
      · exact hne z
      · have he' : s.heap.get? e = some _ := he
        rw [z, ho] at he'
        cases he'
        have hh : Value.type "enumerate" = Value.type "tuple" := hco
        exact absurd hh (by simp)
    have hlt : i < its.toArray.size := by
      have := (List.getElem?_eq_some_iff.mp hu).1
      rw [List.size_toArray]
      exact this
    refine wpAny_pyNext_enum_itemD (PySem.Draws.tuple (show X.A.in1.handled = none from I.ok.hd hc) it a hai its.toArray) he ⟨hit, pt⟩ hlt hne hea fun x' h' tk hP ho hit' hT hsz hk => ?_
    have ex : x' = u := by
      have h1 : its[i]? = some x' := by simpa using hP
      rw [hu] at h1
      cases h1
      rfl
    subst ex
    refine ⟨_, rfl, wpAny_letOwnedTupleGo_enum (s := { s with heap := h', toks := tk + 1 }) ho fun h'' he' sb => ?_⟩
    have hT2 : h''.get? s.heap.objs.size = some { cls := .type "tuple", data := .seq #[.int i tk, x'] } := (sb.2 _ (Nat.ne_of_gt hel)).trans hT
    have new : ObjOk X.prog X.w (upd H s.heap.objs.size (.tup [.int (i : Nat), x])) h'' s.heap.objs.size (.tup [.int (i : Nat), x]) :=
      ⟨by show 2 ≤ sizeLine; decide, [.int i tk, x'], .cons ⟨_, rfl⟩ (.cons ru .nil), ⟨_, hT2, rfl, _, rfl⟩⟩
    have I1 : Inv X pins σ (upd H s.heap.objs.size (.tup [.int (i : Nat), x])) { s with heap := h'', toks := tk + 1 } :=
      I.turnedNew (ch := [e, it]) (fun b ob hb q => (sb.2 b (fun z => hb (by simp [z]))).trans (hk b ob (fun z => hb (by simp [z])) (fun z => hb (by simp [z])) q)) hf (Nat.le_refl _) new
    refine ⟨.ref s.heap.objs.size, _, I1, rfl, ⟨_, x, rfl, I.hok.fresh (Nat.le_refl _), rfl, fun ys hy => by rw [I.tuple_inj hy hq]; exact hx⟩, ⟨⟨x', ?_⟩, hit'.1.at fun o q => (sb.2 it (Ne.symm hne)).trans q, hne⟩, fun b hb => ?_⟩
    · have e1 : ((i + 1 : Nat) : Int) = (i : Int) + 1 := by omega
      rw [e1]; exact he'
    · have hb' : b < s.heap.objs.size := by
        have e' : b = e ∨ b = it := by simpa using hb
        rcases e' with z | z
        · rw [z]; exact hel
        · rw [z]; exact hil
      rw [upd_ne (Nat.ne_of_lt hb')]
      exact (hf b hb).1
  done := by
    intro X hP hw hK hc i pins s σ H E I hf st hg
    subst hP hw hK
    obtain ⟨⟨old, he⟩, hit, hne⟩ := st
    obtain ⟨xs, hq, hx⟩ := hg
    obtain ⟨its, rv, p, hz⟩ := I.tuple hq
    obtain ⟨f0, f1, f2, f3, f4, f5⟩ := hf it (by simp)
    have hl := rv.length
    have pt : s.heap.IsTuple a its.toArray := p
    have hile : its.length ≤ i := by omega
    refine pyNext_enum_endT (I.ok.hd hc) he hit pt hile fun h' eb => ⟨rfl, I.turned (t' := s.toks) (fun b o hb q => eb b o hb q) f0 f1 f3 f4 f5⟩
  self := fun A i s Q E st h => let ⟨⟨_, he⟩, _⟩ := st; wpAny_pyIter_enum he h
def iEnumT (K : PySem.W.Frag) (ta : TA) : TI := fun σ H R => ta σ H fun vs H1 => ∃ a xs, vs = [.ref a] ∧ SqT K H1 a xs ∧ R (Itet K a) H1
theorem pi_enumT {X : Cx} {e : Expr} {ta : TA} {p pos tpos : Pos} {elts : List Expr} {kk : Nat} (hg : Gl X "enumerate") (hm : X.mg "enumerate" = none) (ha : PA X [e] ta) (hs : starEach [e] X.env = [(false, eval e X.env)] := by rfl) :
    PI X (.Tuple elts kk tpos) (.Call (.Name "enumerate" p) [e] [] pos) (iEnumT X.K ta) := by
  refine ⟨fun pins s σ H R I h => ?_⟩
  refine Call_ (ld_blt I hg hm boot_enumerate (PyProof.Rows.callWith_type1 (thn (ha.run pos pins s σ H _ I h) fun us s1 ⟨vs, H1, I1, r1, q1⟩ => ?_) hs rfl))
  obtain ⟨a, xs, ex, hq, q⟩ := q1
  subst ex
  cases r1 with
  | cons r rr =>
    cases rr
    cases r
    obtain ⟨its, rv, p', hz⟩ := I1.tuple hq
    refine call_enum_tup (show s1.heap.IsTuple a its.toArray from p') fun h' he hit hsz hk => wpAny_pyIter_enum he ?_
    have I2 : Inv X pins σ H1 { s1 with heap := h' } := I1.kept (t' := s1.toks) hk
    refine ⟨s1.heap.objs.size + 1, [s1.heap.objs.size + 1, s1.heap.objs.size], _, _, H1, rfl, I2, turn_enumT a (s1.heap.objs.size + 1) s1.heap.objs.size, ⟨⟨.none, he⟩, hit, Nat.succ_ne_self _⟩, fun b hb => ?_, q⟩
    have e' : b = s1.heap.objs.size + 1 ∨ b = s1.heap.objs.size := by simpa using hb
    have hle : s1.heap.objs.size ≤ b := by
      rcases e' with z | z
      · rw [z]; exact Nat.le_add_right _ _
      · rw [z]; exact Nat.le_refl _
    exact I1.fpOk hle (I1.hok.fresh hle)
/-! ### sorted of tuples by their first items -/
def HeadAt (h : Heap) (v f : Value) : Prop := ∃ a o xs n, v = .ref a ∧ h.get? a = some o ∧ o.cls = .type "tuple" ∧ o.data = .seq (List.toArray (f :: xs)) n
theorem HeadAt.keeps {h h' : Heap} {a : Addr} {v f : Value} (x : HeadAt h v f) (ha : ∀ o, h.get? a = some o → o.cls ≠ .type "tuple") (k : ∀ b o, b ≠ a → h.get? b = some o → h'.get? b = some o) : HeadAt h' v f := by
  obtain ⟨b, o, xs, n, rfl, ho, hc, hd⟩ := x
  exact ⟨b, o, xs, n, rfl, k b o (fun z => ha o (z ▸ ho) hc) ho, hc, hd⟩
theorem katTups_of {h : Heap} {f : Value → Value} : ∀ {vs : List Value}, (∀ v ∈ vs, HeadAt h v (f v)) → PySem.W.KatTups h vs (vs.map f)
  | [], _ => trivial
  | v :: vs, H => by
    obtain ⟨a, o, xs, n, e, ho, hc, hd⟩ := H v List.mem_cons_self
    exact ⟨⟨a, o, _, n, e, ho, hc, hd, by simp⟩, katTups_of fun u hu => H u (List.mem_cons_of_mem _ hu)⟩
section
variable {prog : Program} {w : World} {A : Around} {s : Shared}
theorem kat_same {b fin : Bool} {Q : Bool → Shared → Prop} : ∀ (l : List Value) (i : Nat), Q fin s → PySem.W.KatLex prog w A b fin Q (l.zip l) i s
  | [], i, h => PySem.W.kat_nil h
  | v :: l, i, h => PySem.W.kat_cons (SeqAt.EqAt.same v prog w _ _ (PySem.W.kat_yes (kat_same l (i + 1) h)))
theorem heads_cmp {vs : List Value} {f : Value → Value} {lt : Value → Value → Bool} {b : Bool} (hp : ∀ v ∈ vs, HeadAt s.heap v (f v)) (hr : ∀ v, lt v v = false)
    (hne : ∀ v ∈ vs, ∀ u ∈ vs, v ≠ u → SeqAt.EqAt A s (f v) (f u) false)
    (hlt : ∀ v ∈ vs, ∀ u ∈ vs, v ≠ u → ∀ (Q : Bool → Shared → Prop), Q (lt v u) s → wpAny (model prog w) A (oneLt' (b && (0 : Nat) == 0) (f v) (f u)) Q (fun _ _ => False) s) :
    SrtO.Cmp prog w A s (tuples' b) (fun p => p.1 ∈ vs) (SrtO.lt2 lt) := by
  intro p q hm hm'
  obtain ⟨x, ox, xs, n, ex, hx, hcx, hdx⟩ := hp _ hm
  obtain ⟨y, oy, ys, k, ey, hy, hcy, hdy⟩ := hp _ hm'
  by_cases e : p.1 = q.1
  · have hr' : SrtO.lt2 lt p q = false := by
      show lt p.1 q.1 = false
      rw [e]
      exact hr _
    rw [hr', ← e, ex]
    refine PySem.W.kat_lt hx hdx hx hdx (kat_same _ _ ⟨rfl, ?_⟩)
    exact decide_eq_false (Nat.lt_irrefl _)
  · have h1 := hne _ hm _ hm' e
    have h2 := hlt _ hm _ hm' e
    rw [ex, ey] at h1 h2
    show wpAny (model prog w) A (keyLt' (tuples' b) p.1 q.1) (fun r s' => s' = s ∧ r = lt p.1 q.1) (fun _ _ => False) s
    rw [ex, ey] at *
    exact PySem.W.kat_lt hx hdx hy hdy (PySem.W.kat_cons (h1 prog w _ _ (PySem.W.kat_no (h2 _ ⟨rfl, rfl⟩))))
theorem sorted_heads {E : Value → Shared → Prop} {l : Addr} {vs : List Value} {f : Value → Value} {kv : Value → List Int} {T : Value} {Q : Value → Shared → Prop} (hl : s.heap.IsList l vs.toArray) (hz : vs.length ≤ sizeLine) (hTT : (T == T) = true)
    (hX : ∀ h' : Heap, (∀ b o, s.heap.get? b = some o → h'.get? b = some o) → ∀ v ∈ vs, HeadAt h' v (f v) ∧ PySem.W.Looks (model prog w) h' (typeOf (f v)) T)
    (hC : ∀ h' : Heap, (∀ b o, s.heap.get? b = some o → h'.get? b = some o) → ∀ v ∈ vs, ∀ u ∈ vs, v ≠ u → SeqAt.EqAt A.in1.in1 { s with heap := h' } (f v) (f u) false ∧
      ∀ (Q : Bool → Shared → Prop), Q (HT.lexLt (kv v) (kv u)) { s with heap := h' } → wpAny (model prog w) A.in1.in1 (oneLt' ((T != Value.type "tuple") && (0 : Nat) == 0) (f v) (f u)) Q (fun _ _ => False) { s with heap := h' })
    (h : ∀ (h' : Heap) (d : Addr) (out : List Value), SrtO.Srtd (fun v u => HT.lexLt (kv v) (kv u)) out → out.Perm vs → (∀ b o, s.heap.get? b = some o → h'.get? b = some o) → s.heap.objs.size ≤ d → (∃ n, h'.get? d = some (seqObj "list" out.toArray n)) → Q (.ref d) { s with heap := h' }) :
    wpAny (model prog w) A (call (.builtin "sorted") [.ref l]) Q E s := by
  refine SrtO.sorted_ord (NtL.swo_lexL kv) hl hz (fun h2 h₁ a ha kk => ?_) fun out hs hb => h _ _ out hs hb.perm (fun b o e => PyProof.Rows.sortedAll_old e) (Nat.le_succ _) (PyProof.Rows.sortedAll_at s.heap vs out.toArray)
  intro h' keep
  have kp : ∀ b o, s.heap.get? b = some o → h'.get? b = some o := fun b o e => keep b o (kk b o e).1 (kk b o e).2
  refine ⟨tuples' (T != Value.type "tuple"), fun Q E hq => ?_, ?_⟩
  · refine PySem.W.kat_kind (T := T) (katTups_of fun v hv => (hX h' kp v hv).1) (by rw [List.length_map]; omega) (fun x hm => ?_) hTT hq
    obtain ⟨v, hv, rfl⟩ := List.mem_map.mp hm
    exact (hX h' kp v hv).2
  · exact heads_cmp (s := { s with heap := h' }) (fun v hv => (hX h' kp v hv).1) (fun v => (NtL.swo_lexL kv).refl v) (fun v hv u hu e => (hC h' kp v hv u hu e).1) (fun v hv u hu e => (hC h' kp v hv u hu e).2)
end
/-! the words -/
def valOf : V → Value
  | .ref a => .ref a
  | _ => .none
theorem nodup_inj {α β : Type} {f : α → β} : ∀ {l : List α}, (l.map f).Nodup → ∀ a ∈ l, ∀ b ∈ l, f a = f b → a = b
  | [], _, a, ha, _, _, _ => by cases ha
  | x :: l, h, a, ha, b, hb, e => by
    rw [List.map_cons] at h
    obtain ⟨h1, h2⟩ := List.nodup_cons.mp h
    rcases List.mem_cons.mp ha with ea | ha
    · rcases List.mem_cons.mp hb with eb | hb
      · rw [ea, eb]
      · rw [ea] at e
        exact absurd (List.mem_map.mpr ⟨b, hb, e.symm⟩) h1
    · rcases List.mem_cons.mp hb with eb | hb
      · rw [eb] at e
        exact absurd (List.mem_map.mpr ⟨a, ha, e⟩) h1
      · exact nodup_inj h2 a ha b hb e
/-- the head of a tuple's value -/
def headV (h : Heap) (v : Value) : Value :=
  match v with
  | .ref a => match h.get? a with
    | some o => match o.data with
      | .seq xs _ => xs.toList.headD .none
      | _ => .none
    | none => .none
  | _ => .none
theorem headV_of {h : Heap} {v f : Value} (x : HeadAt h v f) : headV h v = f := by
  obtain ⟨a, o, xs, n, rfl, ho, hc, hd⟩ := x
  unfold headV
  simp only [ho, hd, List.headD_cons]
/-- keys by the head: an int, or a tuple of ints -/
def HedI (K : PySem.W.Frag) (H : Hp) (x : V) (ns : List Int) : Prop := ∃ i, x = .int i ∧ ns = [i]
def HedT (K : PySem.W.Frag) (H : Hp) (x : V) (ns : List Int) : Prop := ∃ u, x = .ref u ∧ SqT K H u (ns.map V.int)
def rSortH (K : PySem.W.Frag) (hed : PySem.W.Frag → Hp → V → List Int → Prop) : List V → Hp → VK → Prop := fun vs H Q => ∃ (a : Addr) (ps : List (V × List Int)), vs = [V.ref a] ∧ SqL K H a (ps.map (·.1)) ∧ (∀ p ∈ ps, ∃ t x ys, p.1 = .ref t ∧ SqT K H t (x :: ys) ∧ hed K H x p.2) ∧ (ps.map (·.2)).Nodup ∧
  ∀ (qs : List (V × List Int)) d, qs.Perm ps → qs.Pairwise (fun p q => HT.lexLt q.2 p.2 = false) → H d = none → Q (.ref d) (upd H d (.lst (qs.map (·.1))))
/-- what the words lean on: KF says of a head's value in a heap which key it has -/
structure KindOk (X : Cx) (T : Value) (hed : PySem.W.Frag → Hp → V → List Int → Prop) (KF : Heap → Value → List Int → Prop) (kh : Heap → Value → List Int) : Prop where
  tt : (T == T) = true
  key : ∀ h f ns, KF h f ns → kh h f = ns
  ext : ∀ h h' f ns, KF h f ns → (∀ b o, h.get? b = some o → h'.get? b = some o) → KF h' f ns
  look : ∀ h f ns, KF h f ns → PySem.W.Looks (model X.prog X.w) h (typeOf f) T
  eq : ∀ (s : Shared) f g ns ms, KF s.heap f ns → KF s.heap g ms → ns ≠ ms → SeqAt.EqAt X.A.in1.in1 s f g false
  lt : ∀ (s : Shared) f g ns ms, KF s.heap f ns → KF s.heap g ms → ∀ (Q : Bool → Shared → Prop), Q (HT.lexLt ns ms) s → wpAny (model X.prog X.w) X.A.in1.in1 (oneLt' ((T != Value.type "tuple") && (0 : Nat) == 0) f g) Q (fun _ _ => False) s
  of : ∀ pins σ H s x f ns, Inv X pins σ H s → hed X.K H x ns → RelV x f → KF s.heap f ns
theorem HeadAt.ext {h h' : Heap} {v f : Value} (x : HeadAt h v f) (k : ∀ b o, h.get? b = some o → h'.get? b = some o) : HeadAt h' v f := by
  obtain ⟨b, o, xs, n, rfl, ho, hc, hd⟩ := x
  exact ⟨b, o, xs, n, rfl, k b o ho, hc, hd⟩
theorem pair_map {α β : Type} {f : α → β} : ∀ {l : List (α × β)}, (∀ p ∈ l, f p.1 = p.2) → l = (l.map (·.1)).map fun x => (x, f x)
  | [], _ => rfl
  | p :: l, h => by
    rw [List.map_cons, List.map_cons, ← pair_map fun q hq => h q (List.mem_cons_of_mem _ hq), h p List.mem_cons_self]
theorem cr_sortH {X : Cx} {T : Value} {hed : PySem.W.Frag → Hp → V → List Int → Prop} {KF : Heap → Value → List Int → Prop} {kh : Heap → Value → List Int} (kk : KindOk X T hed KF kh) : CallR X (.builtin "sorted") (rSortH X.K hed) := by
  intro pins s σ H vs us Q I r h
  obtain ⟨a, ps, rfl, hs, hx, hnd, q⟩ := h
  obtain ⟨its, rv, hl, hz⟩ := I.list hs
  obtain ⟨u, rfl, ru⟩ := vals1 r
  obtain rfl : u = Value.ref a := ru
  obtain ⟨e1, e2⟩ := refs_back rv fun x m => by
    obtain ⟨p, hp, rfl⟩ := List.mem_map.mp m
    obtain ⟨t, _, _, e, _⟩ := hx p hp
    exact ⟨t, e⟩
  have F : ∀ p ∈ ps, ∃ t f, p.1 = .ref t ∧ HeadAt s.heap (.ref t) f ∧ KF s.heap f p.2 := fun p hp => by
    obtain ⟨t, x, ys, e, hq, hh⟩ := hx p hp
    obtain ⟨ts, r2, pt, _⟩ := I.tuple hq
    cases r2 with
    | cons r0 rr =>
      obtain ⟨o, ho, hc, n, hd⟩ := id pt
      exact ⟨t, _, e, ⟨t, o, _, n, rfl, ho, hc, hd⟩, kk.of pins σ H s x _ p.2 I hh r0⟩
  let kv : Value → List Int := fun v => kh s.heap (headV s.heap v)
  have ek : ps = (ps.map (·.1)).map fun x => (x, kv (valOf x)) := pair_map fun p hp => by
    obtain ⟨t, f, e, h1, h2⟩ := F p hp
    rw [e]
    show kh s.heap (headV s.heap (.ref t)) = p.2
    rw [headV_of h1]
    exact kk.key _ _ _ h2
  have ei : ps = its.map fun v => (backV v, kv v) := by
    rw [ek, e1, List.map_map]
    refine List.map_congr_left fun v hv => ?_
    obtain ⟨t, rfl⟩ := e2 v hv
    rfl
  have G : ∀ v ∈ its, ∃ f, HeadAt s.heap v f ∧ KF s.heap f (kv v) := fun v hv => by
    have hp : (backV v, kv v) ∈ ps := by
      rw [ei]
      exact List.mem_map.mpr ⟨v, hv, rfl⟩
    obtain ⟨t, f, e, h1, h2⟩ := F _ hp
    obtain ⟨t', rfl⟩ := e2 v hv
    cases e
    exact ⟨f, h1, h2⟩
  have G2 : ∀ v ∈ its, HeadAt s.heap v (headV s.heap v) ∧ KF s.heap (headV s.heap v) (kv v) := fun v hv => by
    obtain ⟨f, h1, h2⟩ := G v hv
    rw [headV_of h1]
    exact ⟨h1, h2⟩
  have hnd2 : (its.map kv).Nodup := by
    rw [ei, List.map_map] at hnd
    exact hnd
  refine sorted_heads (f := headV s.heap) (kv := kv) (T := T) hl.isList (by rw [← rv.length]; exact hz) kk.tt (fun h' kp v hv => ?_) (fun h' kp v hv u hu hne => ?_) (fun h' d out h1 h2 kp hd hn => ?_)
  · exact ⟨(G2 v hv).1.ext kp, kk.look _ _ _ (kk.ext _ _ _ _ (G2 v hv).2 kp)⟩
  · have h1 := kk.ext _ h' _ _ (G2 v hv).2 kp
    have h2 := kk.ext _ h' _ _ (G2 u hu).2 kp
    exact ⟨kk.eq { s with heap := h' } _ _ _ _ h1 h2 fun e => hne (nodup_inj hnd2 v hv u hu e), kk.lt { s with heap := h' } _ _ _ _ h1 h2⟩
  · have h3 : ∀ u ∈ out, ∃ a, u = Value.ref a := fun u hu => e2 u (h2.mem_iff.mp hu)
    obtain ⟨n, hn⟩ := hn
    have hb : (out.map backV).length = its.length := by rw [List.length_map, h2.length_eq]
    have hqs : (out.map fun v => (backV v, kv v)).Perm ps := by
      rw [ei]
      exact h2.map _
    have hpw : (out.map fun v => (backV v, kv v)).Pairwise fun p q => HT.lexLt q.2 p.2 = false := List.pairwise_map.mpr h1
    have hq := q _ d hqs hpw (I.hok.fresh hd)
    rw [List.map_map] at hq
    refine ⟨.ref d, upd H d (.lst (out.map backV)), I.laid (t' := s.toks) kp hd ⟨?_, out, n, vals_back h3, hn⟩, rfl, hq⟩
    rw [hb, ← rv.length]
    exact hz
/-! the two kinds -/
def KFI (_ : Heap) (f : Value) (ns : List Int) : Prop := ∃ i t, f = .int i t ∧ ns = [i]
def khI (_ : Heap) (f : Value) : List Int :=
  match f with
  | .int i _ => [i]
  | _ => []
theorem kindI {X : Cx} : KindOk X (.type "int") HedI KFI khI where
  tt := by decide +kernel
  key := fun h f ns ⟨i, t, e1, e2⟩ => by
    subst e1 e2
    rfl
  ext := fun h h' f ns k _ => k
  look := fun h f ns ⟨i, t, e1, e2⟩ => by
    subst e1
    exact PySem.W.Looks.now
  eq := fun s f g ns ms ⟨i, t, e1, e2⟩ ⟨j, u, e3, e4⟩ hne => by
    subst e1 e2 e3 e4
    have e : (i == j) = false := by
      refine beq_eq_false_iff_ne.mpr fun z => hne ?_
      rw [z]
    rw [← e]
    exact SeqAt.EqAt.int_int i t j u
  lt := fun s f g ns ms ⟨i, t, e1, e2⟩ ⟨j, u, e3, e4⟩ Q hq => by
    subst e1 e2 e3 e4
    refine TS.oneLt_ints _ ?_
    rw [HT.lexLt_cons, HT.lexLt_nil_nil] at hq
    by_cases e : i = j
    · rw [if_pos e] at hq
      rw [decide_eq_false (by omega)]
      exact hq
    · rw [if_neg e] at hq
      exact hq
  of := fun pins σ H s x f ns I ⟨i, e1, e2⟩ r => by
    subst e1 e2
    obtain ⟨t, rfl⟩ := r
    exact ⟨i, t, rfl, rfl⟩
theorem cr_sortHI {X : Cx} : CallR X (.builtin "sorted") (rSortH X.K HedI) := cr_sortH kindI
theorem intsAre_get : ∀ {vs : List Value} {ns : List Int}, IntsAre vs ns → vs.length = ns.length ∧ ∀ j (h : j < vs.length), ∃ n t, vs[j] = .int n t ∧ ns[j]? = some n
  | _, _, .nil => ⟨rfl, fun j h => absurd h (Nat.not_lt_zero j)⟩
  | _, _, .cons n t r => by
    obtain ⟨h1, h2⟩ := intsAre_get r
    refine ⟨by rw [List.length_cons, List.length_cons, h1], fun j h => ?_⟩
    cases j with
    | zero => exact ⟨n, t, rfl, rfl⟩
    | succ j => exact h2 j (by simpa using h)
theorem eqAt_ints_ne {A : Around} {s : Shared} {l b : Addr} {its its2 : Array Value} {ns ms : List Int} (hl : s.heap.IsTuple l its) (hb : s.heap.IsTuple b its2) (hi : IntsAre its.toList ns) (hj : IntsAre its2.toList ms) (hu : A.units < cLine) (hne : ns ≠ ms) :
    SeqAt.EqAt A s (.ref l) (.ref b) false := by
  obtain ⟨l1, g1⟩ := intsAre_get hi
  obtain ⟨l2, g2⟩ := intsAre_get hj
  have inj : ∀ {vs : List Value} {ns ms : List Int}, IntsAre vs ns → IntsAre vs ms → ns = ms := by
    intro vs
    induction vs with
    | nil => intro ns ms h k; cases h; cases k; rfl
    | cons v vs ih =>
      intro ns ms h k
      cases h with
      | cons n t h => cases k with
        | cons _ _ k => rw [ih h k]
  refine SeqAt.EqAt.of_refs (fun e => ?_) ?_
  · subst e
    obtain ⟨o, ho, _, n, hd⟩ := hl
    obtain ⟨o2, ho2, _, n2, hd2⟩ := hb
    rw [ho] at ho2
    cases ho2
    rw [hd] at hd2
    cases hd2
    exact hne (inj hi hj)
  · have R := SeqAt.RcAt.tuples (e := fun j => decide (ns[j]? = ms[j]?)) hl hb hu fun j h1 h2 => by
      obtain ⟨n, t, e1, e2⟩ := g1 j (by simpa using h1)
      obtain ⟨m, u, e3, e4⟩ := g2 j (by simpa using h2)
      have e1' : its[j] = .int n t := by simpa using e1
      have e3' : its2[j] = .int m u := by simpa using e3
      rw [e1', e3', e2, e4]
      have e5 : decide (some n = some m) = (n == m) := by
        by_cases z : n = m
        · subst z; simp
        · simp [z]
      rw [e5]
      exact SeqAt.EqAt.int_int n t m u
    have ef : ((List.range (min its.size its2.size)).all (fun j => decide (ns[j]? = ms[j]?)) && its.size == its2.size) = false := by
      cases hc : ((List.range (min its.size its2.size)).all (fun j => decide (ns[j]? = ms[j]?)) && its.size == its2.size) with
      | false => rfl
      | true =>
        exfalso
        obtain ⟨c1, c2⟩ := Bool.and_eq_true_iff.mp hc
        have c2 : its.size = its2.size := by simpa using c2
        have z1 : ns.length = its.size := by rw [← l1]; simp
        have z2 : ms.length = its2.size := by rw [← l2]; simp
        refine hne (List.ext_getElem? fun j => ?_)
        by_cases hjl : j < its.size
        · have := List.all_eq_true.mp c1 j (List.mem_range.mpr (by omega))
          exact of_decide_eq_true this
        · rw [List.getElem?_eq_none (by omega), List.getElem?_eq_none (by omega)]
    rw [ef] at R
    exact R
def KFT (h : Heap) (f : Value) (ns : List Int) : Prop := ∃ u its, f = .ref u ∧ h.IsTuple u its ∧ IntsAre its.toList ns
def intOf : Value → Int
  | .int i _ => i
  | _ => 0
def khT (h : Heap) (f : Value) : List Int :=
  match f with
  | .ref a => match h.get? a with
    | some o => match o.data with
      | .seq xs _ => xs.toList.map intOf
      | _ => []
    | none => []
  | _ => []
theorem intsAre_map : ∀ {vs : List Value} {ns : List Int}, IntsAre vs ns → vs.map intOf = ns
  | _, _, .nil => rfl
  | _, _, .cons n t r => by rw [List.map_cons, intsAre_map r]; rfl
theorem kindT {X : Cx} (hu : X.A.in1.in1.units < cLine) : KindOk X (.type "tuple") HedT KFT khT where
  tt := by decide +kernel
  key := fun h f ns ⟨u, its, e1, ht, hi⟩ => by
    subst e1
    obtain ⟨o, ho, _, n, hd⟩ := ht
    unfold khT
    simp only [ho, hd]
    exact intsAre_map hi
  ext := fun h h' f ns ⟨u, its, e1, ht, hi⟩ k => ⟨u, its, e1, ht.at fun o e => k u o e, hi⟩
  look := fun h f ns ⟨u, its, e1, ht, hi⟩ => by
    subst e1
    obtain ⟨o, ho, hc, n, hd⟩ := ht
    have := (show PySem.W.Looks (model X.prog X.w) h (typeOf (.ref u)) o.cls from (PySem.W.Looks.ld ho).andThen .now)
    rw [hc] at this
    exact this
  eq := fun s f g ns ms ⟨u, its, e1, ht, hi⟩ ⟨u2, its2, e2, ht2, hi2⟩ hne => by
    subst e1 e2
    exact eqAt_ints_ne ht ht2 hi hi2 hu hne
  lt := fun s f g ns ms ⟨u, its, e1, ht, hi⟩ ⟨u2, its2, e2, ht2, hi2⟩ Q hq => by
    subst e1 e2
    have e : ((Value.type "tuple" != Value.type "tuple") && (0 : Nat) == 0) = false := by decide +kernel
    rw [e]
    refine PySem.W.kat_one _ _ (HT.lt_tupInts ht ht2 hi hi2 hu ?_)
    exact hq
  of := fun pins σ H s x f ns I ⟨u, e1, hq⟩ r => by
    subst e1
    cases r
    obtain ⟨its, r1, p1, _⟩ := I.tuple hq
    exact ⟨u, its.toArray, rfl, p1, by simpa using L2.intsAre_of r1⟩
theorem cr_sortHT {X : Cx} (hu : X.A.in1.in1.units < cLine) : CallR X (.builtin "sorted") (rSortH X.K HedT) := cr_sortH (kindT hu)
end Wb

namespace Wb
open PySem PySem.Spec PyProof.Rows L2 StX
open Evl (Ex Ex.refl Ex.trans Ex.new)
local macro_rules | `(tactic| wtm_at "dp") => `(tactic| first | with_reducible assumption | with_reducible exact Dp.int _ | with_reducible exact Dp.bl _ | with_reducible exact Dp.str _ | with_reducible exact Dp.non | ((with_reducible refine' dpMono ?dme (by with_reducible assumption)); (case dme => wtm_at "ex")) | ((with_reducible refine' Dp.tup (Evl.st_of ?dph) ?dpa); (case dph => wtm_at "hs"); (case dpa => wtm_at "dpa")) | ((with_reducible refine' Dp.lst (Evl.sq_of ?dph) ?dpa); (case dph => wtm_at "hs"); (case dpa => wtm_at "dpa")))
local macro_rules | `(tactic| wtm_at "dpa") => `(tactic| first | with_reducible exact DpAll.nil | ((with_reducible refine' DpAll.cons ?dp1 ?dp2); (case dp1 => wtm_at "dp"); (case dp2 => wtm_at "dpa")) | with_reducible assumption | ((with_reducible refine' dpMonoA ?dme (by with_reducible assumption)); (case dme => wtm_at "ex")))
local macro_rules | `(tactic| wtm_at "sz") => `(tactic| first | with_reducible assumption | ((with_reducible refine' sz_mul ?sz1 ?sz2); (case sz1 => wtm_at "sz"); (case sz2 => wtm_at "sz")) | ((with_reducible refine' sz_add ?sz1 ?sz2); (case sz1 => wtm_at "sz"); (case sz2 => wtm_at "sz")) | ((with_reducible refine' sz_sub ?sz1 ?sz2); (case sz1 => wtm_at "sz"); (case sz2 => wtm_at "sz")) | ((with_reducible refine' sz_neg ?sz1); (case sz1 => wtm_at "sz")) | ((with_reducible refine' sz_div ?sz1); (case sz1 => wtm_at "sz")) | ((with_reducible refine' sz_fdiv ?sz1); (case sz1 => wtm_at "sz")) | exact sz_lit (by decide) | wtm_at "sz2")
local macro_rules | `(tactic| wtm_at "szb") => `(tactic| first | with_reducible assumption | ((with_reducible refine' sz_mono ?szb1 ?szb2); (case szb1 => wtm_at "sz"); (case szb2 => decide)))
local macro_rules | `(tactic| wtm_at "nz") => `(tactic| first | assumption | decide | omega)
local macro_rules | `(tactic| wtm_at "shaped") => `(tactic| first | rfl | decide)
local macro_rules | `(tactic| wtm_at "sset") => `(tactic| ((dsimp only [L2.wipe, List.set, List.set_cons_zero, List.set_cons_succ]) <;> exact rfl))
local macro_rules | `(tactic| wtm_at "nrm") => `(tactic| dsimp only [L2.start, L2.wipe, List.set, List.append, List.map, List.map_cons, List.map_nil, List.length_cons, List.length_nil, Nat.reduceAdd, Nat.reduceSub, List.reduceReplicate, List.replicate, List.cons_append, List.nil_append, List.set_cons_zero, List.set_cons_succ])
local macro_rules | `(tactic| wtm_at "st") => `(tactic| first
  | ((with_reducible refine' i_var (v := ?u0) ?u1 ?uq); (case u1 => exact rfl))
  | ((with_reducible refine' i_nameN ?u0 ?uq); (case u0 => wtm_at "sset"))
  | (with_reducible refine' i_op ?uq)
  | (with_reducible refine' i_c ?uq)
  | (with_reducible refine' i_I0 ?uq)
  | ((with_reducible refine' i_ixTI (i := ?u0) ?u1 ?u2 ?u3 ?uq); (case u1 => wtm_at "dp"); (case u2 => wtm_at "ex"); (case u3 => exact rfl))
  | ((with_reducible refine' i_ixT (d := ?u0) ?u1 ?u2 ?u3 (fun xu hxu => ?uq)); (case u1 => wtm_at "dp"); (case u2 => wtm_at "ex"); (case u3 => exact rfl))
  | ((with_reducible refine' i_mul ?u0 ?u1 ?u2 ?uq); (case u0 => wtm_at "sz"); (case u1 => wtm_at "sz"); (case u2 => first | decide | omega))
  | (with_reducible refine' i_seq ?uq)
  | (with_reducible refine' i_asg ?uq)
  | (with_reducible refine' i_ret ?uq)
  | (with_reducible refine' i_ifs ?uq)
  | (with_reducible refine' i_drop ?uq)
  | (with_reducible refine' i_next ?uq)
  | (with_reducible refine' i_cons ?uq)
  | (with_reducible refine' i_nil ?uq)
  | (with_reducible refine' i_cl ?uq)
  | (with_reducible refine' i_cb ?uq)
  | (with_reducible refine' i_tup ?uq)
  | (with_reducible refine' i_lst ?uq)
  | ((with_reducible refine' i_mkT ?u0 (fun np nH nhe nhp => ?uq)); (case u0 => exact Nat.le_of_ble_eq_true rfl))
  | (with_reducible refine' i_test ?uq)
  | (with_reducible refine' i_B ?uq)
  | (with_reducible refine' i_k ?uq)
  | (with_reducible refine' i_and ?uq)
  | (with_reducible refine' i_or ?uq)
  | (with_reducible refine' i_not ?uq)
  | (with_reducible refine' i_andV ?uq)
  | (with_reducible refine' i_orV ?uq)
  | (with_reducible refine' i_notV ?uq)
  | (with_reducible refine' i_if ?uq)
  | (with_reducible refine' i_un ?uq)
  | (with_reducible refine' i_U ?uq)
  | (with_reducible refine' i_iteT ?uq)
  | (with_reducible refine' i_iteF ?uq)
  | ((with_reducible refine' i_iteTr ?u0 ?uq); (case u0 => first | with_reducible rfl | decide | (simp only [dIsInt, dIsBool, dIsTup, dIsStr, dIsLst, Bool.not_true, Bool.not_false]; done)))
  | ((with_reducible refine' i_iteFr ?u0 ?uq); (case u0 => first | with_reducible rfl | decide | (simp only [dIsInt, dIsBool, dIsTup, dIsStr, dIsLst, Bool.not_true, Bool.not_false]; done)))
  | (with_reducible refine' i_ite (fun hif => ?uqa) (fun hif => ?uqb))
  | (with_reducible refine' i_iteN (fun hif => ?uqa) (fun hif => ?uqb))
  | (with_reducible refine' i_iteBN (fun hif => ?uqa) (fun hif => ?uqb))
  | (with_reducible refine' i_iteB (fun hif => ?uqa) (fun hif => ?uqb))
  | ((with_reducible refine' i_modN ?u0 ?uq); (case u0 => wtm_at "nz"))
  | ((with_reducible refine' i_fdX ?u0 ?u1 ?u2 ?uq); (case u0 => wtm_at "nz"); (case u1 => wtm_at "sz"); (case u2 => first | decide | omega))
  | ((with_reducible refine' i_pow ?u0 ?uq); (case u0 => exact ⟨by decide, by decide +kernel⟩))
  | (with_reducible refine' i_eqI ?uq)
  | (with_reducible refine' i_neI ?uq)
  | (with_reducible refine' i_gcd ?uq)
  | (with_reducible refine' i_qabs ?uq)
  | (with_reducible refine' i_qint ?uq)
  | (with_reducible refine' i_qintB ?uq)
  | (with_reducible refine' i_qmax2 ?uq)
  | (with_reducible refine' i_qmin2 ?uq)
  | (with_reducible refine' i_isB ?uq)
  | (with_reducible refine' i_notB ?uq)
  | (with_reducible refine' i_chain ?uq)
  | (with_reducible refine' i_qisN ?uq)
  | (with_reducible refine' i_qnotN ?uq)
  | (with_reducible refine' i_yes ?uq)
  | (with_reducible refine' i_par ?uq)
  | (with_reducible refine' i_par3 ?uq)
  | ((with_reducible refine' i_par2 ?u0 ?uq); (case u0 => wtm_at "sset"))
  | ((with_reducible refine' i_par33 ?u0 ?uq); (case u0 => wtm_at "sset"))
  | ((with_reducible refine' i_ixLI (i := ?u0) ?u1 ?u2 ?u3 ?uq); (case u1 => wtm_at "dp"); (case u2 => wtm_at "ex"); (case u3 => exact rfl))
  | ((with_reducible refine' i_ixL (d := ?u0) ?u1 ?u2 ?u3 (fun xu hxu => ?uq)); (case u1 => wtm_at "dp"); (case u2 => wtm_at "ex"); (case u3 => exact rfl))
  | ((with_reducible refine' i_qlenT ?u0 ?uq); (case u0 => wtm_at "dp"))
  | ((with_reducible refine' i_qlenL ?u0 ?uq); (case u0 => wtm_at "dp"))
  | ((with_reducible refine' i_gtup ?u0 ?u1 ?u2 (fun gvs gdp => ?uq)); (case u0 => wtm_at "dp"); (case u1 => wtm_at "ex"); (case u2 => exact rfl))
  | ((with_reducible refine' i_glst ?u0 ?u1 ?u2 (fun gvs gdp => ?uq)); (case u0 => wtm_at "dp"); (case u1 => wtm_at "ex"); (case u2 => exact rfl))
  | ((with_reducible refine' i_gconsI ?u0 (fun gr gh => ?uq)); (case u0 => with_reducible assumption))
  | ((with_reducible refine' i_gconsA ?u0 (fun gv gr gh1 gh2 => ?uq)); (case u0 => with_reducible assumption))
  | ((with_reducible refine' i_gnilA ?u0 ?uq); (case u0 => with_reducible assumption))
  | ((with_reducible refine' i_isiI ?u0 ?uq); (case u0 => wtm_at "dp"))
  | ((with_reducible refine' i_isiB ?u0 ?uq); (case u0 => wtm_at "dp"))
  | ((with_reducible refine' i_isiT ?u0 ?uq); (case u0 => wtm_at "dp"))
  | ((with_reducible refine' i_isiS ?u0 ?uq); (case u0 => wtm_at "dp"))
  | ((with_reducible refine' i_isiL ?u0 ?uq); (case u0 => wtm_at "dp"))
  | ((with_reducible refine' i_eqD ?u0 ?u1 ?u2 ?u3 ?uq); (case u0 => wtm_at "dp"); (case u1 => wtm_at "dp"); (case u2 => wtm_at "shaped"); (case u3 => wtm_at "shaped"))
  | ((with_reducible refine' i_neD ?u0 ?u1 ?u2 ?u3 ?uq); (case u0 => wtm_at "dp"); (case u1 => wtm_at "dp"); (case u2 => wtm_at "shaped"); (case u3 => wtm_at "shaped"))
  | wtm_at "st2"
  | wtm_at "use")
local macro_rules | `(tactic| wtm_at "go") => `(tactic| repeat' (wtm_at "st"))
local macro_rules | `(tactic| wtm_at "go0") => `(tactic| ((try dsimp only [L2.cxOf, L2.Cx.nox, L2.Cx.wish, L2.Cx.tr, L2.Cx.blk]); (try wtm_at "nrm"); wtm_at "go"))
local macro_rules | `(tactic| wtm_at "fin") => `(tactic| ((try dsimp only); first | with_reducible assumption | assumption | ((with_reducible refine' Ret.use ?rur ?rue ?rud); (case rur => with_reducible assumption); (case rue => wtm_at "ex"); (case rud => wtm_at "dp"))))
local macro_rules | `(tactic| wtm_at "exh") => `(tactic| first | with_reducible assumption | with_reducible exact Ex.refl _ | with_reducible exact ex_hid | ((with_reducible refine' Ex.trans ?exe (by with_reducible assumption)); (case exe => wtm_at "exh")) | ((with_reducible refine' Ex.trans ?exe (hid_ex (by with_reducible assumption))); (case exe => wtm_at "exh")))
local macro_rules | `(tactic| wtm_at "ex") => `(tactic| first | with_reducible assumption | with_reducible exact Ex.refl _ | with_reducible exact ex_hid | ((with_reducible refine' Ex.trans ?exe (by with_reducible assumption)); (case exe => wtm_at "ex")) | ((with_reducible refine' Ex.trans ?exe (hid_ex (by with_reducible assumption))); (case exe => wtm_at "ex")) | ((with_reducible refine' Ex.trans ?exe ex_hid); (case exe => wtm_at "exh")))
local macro_rules | `(tactic| wtm_at "bag") => `(tactic| first | with_reducible assumption | ((with_reducible refine' Bag.mono ?bgm (by with_reducible assumption)); (case bgm => wtm_at "bag")))
local macro_rules | `(tactic| wtm_at "hs") => `(tactic| first | with_reducible assumption | ((with_reducible refine' hid_tup ?hb ?hp); (case hp => with_reducible assumption); (case hb => wtm_at "bag")) | ((with_reducible refine' hid_new ?hb ?hn ?hp); (case hp => with_reducible assumption); (case hn => with_reducible assumption); (case hb => wtm_at "bag")) | ((with_reducible refine' ex_at ?exe (by with_reducible assumption)); (case exe => wtm_at "ex")))
local macro_rules | `(tactic| wtm_at "st2") => `(tactic| first
  | ((with_reducible refine' i_mulC ?u0 ?uq); (case u0 => first | exact cmul_l (by decide) | exact cmul_r (by decide)))
  | ((with_reducible refine' i_ixLr (v := ?u0) ?u1 ?u2 ?uq); (case u1 => with_reducible assumption); (case u2 => exact rfl))
  | (with_reducible refine' i_sub ?uq)
  | ((with_reducible refine' i_mkL ?u0 (fun np nH nfr nhe nhp => ?uq)); (case u0 => exact Nat.le_of_ble_eq_true rfl))
  | ((with_reducible refine' i_setL (n := ?u0) ?u1 ?u2 (fun sH sh se => ?uq)); (case u1 => with_reducible assumption); (case u2 => exact rfl))
  | (with_reducible refine' i_sl ?uq)
  | (with_reducible refine' i_nopart ?uq)
  | (with_reducible refine' i_part ?uq)
  | (with_reducible refine' i_part1 ?uq))
local macro_rules | `(tactic| wtm_at "sz2") => `(tactic| ((with_reducible refine' sz_fmod ?sz1 ?sz2); (case sz1 => wtm_at "nz"); (case sz2 => wtm_at "sz")))
local macro_rules | `(tactic| wtm_at "stb") => `(tactic| first
  | ((with_reducible refine' i_mkTB ?u0 ?u1 (fun np nH nhe nhb nhp => ?uq)); (case u0 => exact Nat.le_of_ble_eq_true rfl); (case u1 => wtm_at "bag"))
  | ((with_reducible refine' i_mkLB ?u0 ?u1 (fun np nH nfr nhe nhb nhp => ?uq)); (case u0 => exact Nat.le_of_ble_eq_true rfl); (case u1 => wtm_at "bag"))
  | wtm_at "st")
local macro_rules | `(tactic| wtm_at "gob") => `(tactic| repeat' (wtm_at "stb"))
local macro_rules | `(tactic| wtm_at "gob0") => `(tactic| ((try dsimp only [L2.cxOf, L2.Cx.nox, L2.Cx.wish, L2.Cx.tr, L2.Cx.blk]); (try wtm_at "nrm"); wtm_at "gob"))
local macro_rules | `(tactic| wtm_at "st") => `(tactic| first | ((with_reducible refine' i_ixTS (z := ?u0) ?u1 ?u2 ?u3 ?uq); (case u1 => wtm_at "dp"); (case u2 => wtm_at "ex"); (case u3 => exact rfl)) | fail)
local macro_rules | `(tactic| wtm_at "st2") => `(tactic| first | ((with_reducible refine' i_eqST ?u0 ?uq); (case u0 => with_reducible rfl)) | ((with_reducible refine' i_eqSF ?u0 ?uq); (case u0 => decide +kernel)) | ((with_reducible refine' i_neST ?u0 ?uq); (case u0 => with_reducible rfl)) | ((with_reducible refine' i_neSF ?u0 ?uq); (case u0 => decide +kernel)) | fail)
section
variable {P : Program} {w : World} {K : PySem.W.Frag} {mg : Str → Option Value} {base : Heap} {H H' : Hp} {Q : VK} {E : XK} {v1 v2 v3 v4 v5 : V}
local macro_rules | `(tactic| wtm_at "use") => `(tactic| ((with_reducible refine' use_is_integer ?u0 ?uq); (case u0 => wtm_at "dp")))
local macro_rules | `(tactic| wtm_at "use") => `(tactic| ((with_reducible refine' use_is_box ?u0 ?u1 (fun uH ue => ?uq)); (case u0 => wtm_at "dp"); (case u1 => with_reducible assumption)))
local macro_rules | `(tactic| wtm_at "use") => `(tactic| ((with_reducible refine' use_require_box ?u0 ?u1 (fun uH ue => ?uq)); (case u0 => wtm_at "dp"); (case u1 => with_reducible assumption)))
local macro_rules | `(tactic| wtm_at "use") => `(tactic| ((with_reducible refine' use_do_meet_in ?u0 ?u1 ?uq); (case u0 => wtm_at "dp"); (case u1 => wtm_at "dp")))
local macro_rules | `(tactic| wtm_at "use") => `(tactic| ((with_reducible refine' use_apart_word ?u0 ?u1 ?uq); (case u0 => wtm_at "dp"); (case u1 => wtm_at "dp")))
/-- the tree of a form -/
def TreeAt (K : PySem.W.Frag) (CT : Addr) (H : Hp) (a : Addr) (s : Fs) : Prop := ∃ (dx : Addr) (fs : List (Str × V)) (fv : V), H a = some (.ins CT dx fs) ∧ fs.lookup ("own_form" : Str) = some fv ∧ Dp K H fv (fsD s)
theorem TreeAt.mono {CT a : Addr} {s : Fs} (h : TreeAt K CT H a s) (e : Ex H H') : TreeAt K CT H' a s := by
  obtain ⟨dx, fs, fv, t1, t2, t3⟩ := h
  exact ⟨dx, fs, fv, e _ _ t1, t2, dpMono e t3⟩
def plD (pl : List Nat) : PyData := .tuple (pl.map fun i : Nat => .int (i : Int))
def lefD (q : List Nat × String) : PyData := .tuple [plD q.1, .int 0, .str (Str.ofString q.2)]
def lefL (q : List Nat × String) : PyData := .tuple [plD q.1, .str (Str.ofString q.2)]
def watD (q : List Nat × Fs) : PyData := .tuple [plD q.1, fsD q.2]
theorem noL_pl (pl : List Nat) : noL (plD pl) = true := noLs_map _ (fun _ => rfl) pl
theorem noL_lef (q : List Nat × String) : noL (lefD q) = true := by
  show (noL (plD q.1) && (true && (true && true))) = true
  rw [noL_pl]
  rfl
theorem noL_lefL (q : List Nat × String) : noL (lefL q) = true := by
  show (noL (plD q.1) && (true && true)) = true
  rw [noL_pl]
  rfl
theorem noL_wat (q : List Nat × Fs) : noL (watD q) = true := by
  show (noL (plD q.1) && (noL (fsD q.2) && true)) = true
  rw [noL_pl, noL_fs]
  rfl
theorem plD_snoc (pl : List Nat) (i : Nat) : plD (pl ++ [i]) = .tuple ((pl.map fun i : Nat => .int (i : Int)) ++ [.int (i : Int)]) := by
  unfold plD
  rw [List.map_append]
  rfl
theorem walk_enumT {a : Addr} {xs : List V} : Walk (Itet K a) xs.length (fun H => SqT K H a xs) (YPair (fun i => some (.int (i : Nat))) (fun i => xs[i]?)) := by
  refine ⟨fun i _ hi q => ⟨xs, xs[i], q, by simp [hi]⟩, fun _ q => ⟨xs, q, Nat.le_refl _⟩, fun i H v H' _ q y => ?_⟩
  obtain ⟨T, x, h1, h2, h3, h4⟩ := y
  exact ⟨T, .int (i : Nat), x, h1, h2, h3, rfl, h4 xs q⟩
/-- (*place, at) -/
theorem star_snoc {pv : V} {pl : List Nat} {i : Nat} {G : Hp} {σ : L2.St} {m n : Nat} (h : Dp K G pv (plD pl)) (e : Ex G H) (hm : σ[m]? = some (some pv)) (hn : σ[n]? = some (some (.int (i : Int)))) (hl : pl.length ≤ 1000)
    (q : ∀ v H2, Ex H H2 → Dp K H2 v (plD (pl ++ [i])) → Q v H2) : tStar K (tVar m) (tCons (tVar n) tNil) σ H fun xs H1 => MkT xs H1 Q := by
  obtain ⟨a, us, rfl, hs, ha⟩ := dpTup h
  refine i_tstar (i_var hm ⟨a, us, rfl, .inl (Evl.ex_t e hs), i_cons (i_var hn (i_nil ?_))⟩)
  refine i_mkT (by rw [List.length_append, dpLen ha, List.length_map, List.length_singleton]; omega) (fun p H2 e2 h2 => q _ _ e2 ?_)
  rw [plD_snoc]
  exact .tup (Evl.st_of h2) (dpAllApp (dpMonoA (e.trans e2) ha) (.cons (.int _) .nil))
theorem i_lcE {σ : L2.St} {ta : TA} {g : TG} {tt : TT} {te : TE} {vs : List Nat} (q : ta σ H fun us H1 => tLc (iEnum K (kA us)) g tt te vs σ H1 Q) : tLc (iEnum K ta) g tt te vs σ H Q := q
def aprD : Option String → List PyData
  | none => []
  | some x => [.tuple [.int 0, .str (Str.ofString x)]]
theorem enum1 {v0 v1 v2 v3 v4 v5 v6 v7 v8 v9 v11 v12 v13 v14 : Option V} {wa : Addr} {o : Option String} (h : Dp K H (.ref wa) (.list [wdD o])) (q : ∀ p H2, H p = none → Ex H H2 → Dp K H2 (.ref p) (.list (aprD o)) → Q (.ref p) H2) :
    tLc (iEnum K (tCons (tVar 10) tNil)) (gTup K 2 (gCons (gName 13) (gCons (gName 14) gNil))) (tTest (tOp qNotN (tVar 14) (tC V.non))) (tTup (tCons (tVar 13) (tCons (tVar 14) tNil))) [13, 14]
      [v0, v1, v2, v3, v4, v5, v6, v7, v8, v9, some (.ref wa), v11, v12, v13, v14] H Q := by
  obtain ⟨a, us, e, hs, ha⟩ := dpLst h
  cases e
  have hl1 : us.length = 1 := dpLen ha
  refine i_lcE ?_
  wtm_at "go"
  refine ⟨wa, us, rfl, hs, fun D hD => lc_it (walk_enum (a := wa) (xs := us)) (fun i H' => Acc K H D (if i = 0 then [] else aprD o) H') (Acc.new hD) (fun i H' _ p => Evl.ex_l p.2.1 hs) (fun i x H1 H' hi p y => ?_) (fun H' p => ?_)⟩
  · have hi0 : i = 0 := by omega
    subst hi0
    obtain ⟨T, x1, y1, rfl, hT, rfl, e1, e2⟩ := y
    cases e1
    cases ha with
    | cons h1 h2 =>
      cases h2
      cases e2
      have p' := p.up (ex_upd (o := .tup [V.int ((0 : Nat) : Int), y1]) hT)
      have p' : Acc K H D [] (upd H1 T (.tup [V.int ((0 : Nat) : Int), y1])) := p'
      refine ⟨T, _, rfl, Evl.st_of upd_same, rfl, ?_⟩
      refine i_gcons ?_
      wtm_at "go"
      refine i_gcons ?_
      wtm_at "go"
      refine i_gnil ?_
      refine ⟨rfl, ?_⟩
      cases o with
      | none =>
        cases dpNon h1
        wtm_at "go"
        exact p'
      | some x =>
        cases dpStr h1
        wtm_at "go"
        · rename_i np nH nhe nhp
          obtain ⟨acc, q1, q2, q3⟩ := (p'.up nhe).put (Nat.le_of_ble_eq_true rfl) (fun z hz => by cases hz) (rfl : noL (.tuple [.int 0, .str (Str.ofString x)]) = true) (.tup (Evl.st_of nhp) (.cons (.int _) (.cons (.str _) .nil)))
          exact ⟨acc, q1, q2, q3⟩
        · rename_i hz
          cases hz
  · rw [hl1] at p
    obtain ⟨p1, p2, acc, p3, p4⟩ := p
    exact q D H' p1 p2 (.lst (Evl.sq_of p3) p4)
theorem dp_wd (o : Option String) : Dp K H (wdV o) (wdD o) := by
  cases o with
  | none => exact .non
  | some x => exact .str _
theorem lay_wd {b c : Bx} {x : String} (h : apart b c = some x) : PyData.canLay0 (.str (Str.ofString x)) = true := by
  unfold apart at h
  split at h
  · cases h; decide +kernel
  · split at h
    · cases h; decide +kernel
    · split at h
      · cases h; decide +kernel
      · split at h
        · cases h; decide +kernel
        · cases h
abbrev srchB (K : PySem.W.Frag) : TS :=
  tSeq (tAug 4 (tC (V.int 1)) (ipI fun i j => i + j))
  (tSeq (tAsg (tLc (iList K (tVar 1)) (gName 12) tYes (tCl (sp_apart_word K) (tCons (tCl (sp_box_at K) (tCons (tVar 7) (tCons (tVar 9) tNil))) (tCons (tVar 12) tNil))) [12]) (gName 10))
  (tSeq (tAsg (tLc (iEnum K (tCons (tVar 10) tNil)) (gTup K 2 (gCons (gName 13) (gCons (gName 14) gNil))) (tTest (tOp qNotN (tVar 14) (tC V.non))) (tTup (tCons (tVar 13) (tCons (tVar 14) tNil))) [13, 14]) (gName 11))
  (tIfS (tTest (tOp (rNeD K) (tVar 11) (tLst tNil)))
    (tDrop (tBM K "list" rAppend (tVar 3) (tCons (tTup (tCons (tTup (tStar K (tVar 6) (tCons (tVar 8) tNil))) (tCons (tOp (rIxT K) (tOp (rIxL K) (tVar 11) (tC (V.int 0))) (tC (V.int 0))) (tCons (tOp (rIxT K) (tOp (rIxL K) (tVar 11) (tC (V.int 0))) (tC (V.int 1))) tNil)))) tNil)))
    (tIfS (tTest (tOp rEq (tOp (rIxT K) (tVar 7) (tC (V.int 0))) (tC (V.str "leaf"))))
      (tDrop (tBM K "list" rAppend (tVar 2) (tCons (tOp (rIxT K) (tVar 9) (tC (V.int 0))) tNil)))
      (tDrop (tBM K "list" rAppend (tVar 5) (tCons (tTup (tCons (tTup (tStar K (tVar 6) (tCons (tVar 8) tNil))) (tCons (tOp (rIxT K) (tVar 9) (tC (V.int 1))) tNil))) tNil)))))))
/-- the lists of the walk -/
def wls (wA lA fA : Addr) (S : Ws) : List (Addr × List PyData) := [(wA, S.waits.map watD), (lA, S.left.map lefD), (fA, S.found.map PyData.int)]
/-- an item of a form -/
def ItemD (z : Str) (a b : PyData) (it : Bx × (Int ⊕ Fs)) : Prop := (z = "leaf" ∧ ∃ n, a = .int n ∧ b = bxD it.1 ∧ it.2 = .inl n) ∨ ((z == ("leaf" : Str)) = false ∧ ∃ s, a = bxD it.1 ∧ b = fsD s ∧ it.2 = .inr s)
theorem srch_turn {v0 v1 pv fv iv : V} {fA lA wA : Addr} {G0 : Hp} {S : Ws} {D : Ends} {z : Str} {ds : List PyData} {a b : PyData} {pl : List Nat} {i : Nat} {w : Bx} {it : Bx × (Int ⊕ Fs)} {c10 c11 c12 c13 c14 : Option V}
    (L : Lsts K G0 (wls wA lA fA S) H) (hp : Dp K H pv (plD pl)) (hf : Dp K H fv (.tuple [.str z, .tuple ds])) (hi : Dp K H iv (.tuple [a, b])) (hv : Dp K H v1 (.list [bxD w])) (hit : ItemD z a b it) (hlen : wsN S ≤ 400) (hpl : pl.length ≤ 1000)
    (q : ∀ H2 c10 c11 c12 c13 c14, Lsts K G0 (wls wA lA fA (stepI w pl i it S)) H2 → (∀ {v : V} {c : PyData}, noL c = true → Dp K H v c → Dp K H2 v c) → D.nx [some v0, some v1, some (.ref fA), some (.ref lA), some (.int ((S.looked + 1 : Nat) : Int)), some (.ref wA), some pv, some fv, some (.int (i : Int)), some iv, c10, c11, c12, c13, c14] H2) :
    srchB K D [some v0, some v1, some (.ref fA), some (.ref lA), some (.int (S.looked : Int)), some (.ref wA), some pv, some fv, some (.int (i : Int)), some iv, c10, c11, c12, c13, c14] H := by
  unfold wsN at hlen
  refine i_seq ⟨_, rfl, i_c ⟨_, _, rfl, rfl, ?_⟩⟩
  wtm_at "nrm"
  wtm_at "go"
  refine i_lcLU ?_
  wtm_at "go"
  refine i_lcGL (enc := bxD) (xs := [w]) (fun _ => true) (fun v => wdD (apart it.1 v)) hv (Nat.le_of_ble_eq_true rfl) (fun v _ => by cases apart it.1 v <;> rfl) (fun u x H2 R Y e2 hm hu hn hy => ?_) (fun p H2 hp2 e2 hl2 => ?_)
  · wtm_at "nrm"
    refine ⟨rfl, ?_⟩
    wtm_at "go"
    refine ⟨_, _, rfl, z, ds, a, b, dpMono e2 hf, dpMono e2 hi, fun hz v hvb => ?_, fun hz v hva => ?_⟩
    · rcases hit with ⟨_, n, rfl, rfl, _⟩ | ⟨h, _⟩
      · wtm_at "go"
        exact hy rfl _ _ (Ex.refl _) (dp_wd _)
      · rw [hz] at h
        exact absurd h (by decide +kernel)
    · rcases hit with ⟨h, _⟩ | ⟨_, s, rfl, rfl, _⟩
      · rw [h] at hz
        exact absurd hz (by decide +kernel)
      · wtm_at "go"
        exact hy rfl _ _ (Ex.refl _) (dp_wd _)
  wtm_at "go"
  have hl2 : Dp K H2 (.ref p) (.list [wdD (apart it.1 w)]) := hl2
  refine enum1 hl2 (fun p3 H3 hp3 e3 hl3 => ?_)
  wtm_at "go"
  rename_i np nH nfr nhe nhp
  have e0 : Ex H nH := (e2.trans e3).trans nhe
  have L1 := L.up e0
  cases ha : apart it.1 w with
  | some x =>
    rw [ha] at hl3
    have hl4 : Dp K nH (.ref p3) (.list [.tuple [.int 0, .str (Str.ofString x)]]) := dpMono nhe hl3
    refine i_neD hl4 (.lst (Evl.sq_of nhp) .nil) (shp_list (k := 1) (by decide) fun d hd => by
      rcases List.mem_singleton.mp hd with rfl
      exact lay_two (k := 0) ⟨rfl, Nat.le_refl _⟩ ⟨lay_wd ha, Nat.le_refl _⟩) rfl ?_
    rw [eqv_nil]
    wtm_at "go"
    · refine i_bmA ?_
      wtm_at "go"
      refine L1.ty (i := 1) rfl ?_
      wtm_at "go"
      refine star_snoc (i := i) (dpMono e0 hp) (Ex.refl _) rfl rfl hpl (fun v H5 e5 hv5 => ?_)
      have hl5 : Dp K H5 (.ref p3) (.list [.tuple [.int 0, .str (Str.ofString x)]]) := dpMono e5 hl4
      wtm_at "go"
      rename_i np2 nH2 nhe2 nhp2
      have L2' := L1.up (e5.trans nhe2)
      refine L2'.append (i := 1) (d := lefD (pl ++ [i], x)) rfl (.tup (Evl.st_of nhp2) (.cons (dpMono nhe2 hv5) (.cons (.int _) (.cons (.str _) .nil)))) (noL_lef _) (by rw [List.length_map]; omega) (fun H6 L6 hk => ?_)
      wtm_at "go"
      have eS : stepI w pl i it S = ⟨S.found, S.left ++ [(pl ++ [i], x)], S.looked + 1, S.waits⟩ := by
        unfold stepI
        rw [ha]
      refine q H6 _ _ _ _ _ ?_ fun hn h => hk hn (dpMono ((e0.trans e5).trans nhe2) h)
      rw [eS]
      unfold wls
      rw [List.map_append]
      exact L6
    · rename_i hz
      cases hz
  | none =>
    rw [ha] at hl3
    have hl4 : Dp K nH (.ref p3) (.list []) := dpMono nhe hl3
    refine i_neD hl4 (.lst (Evl.sq_of nhp) .nil) rfl rfl ?_
    rw [eqv_nil]
    wtm_at "go"
    rcases hit with ⟨hz, n, e1, e2', e3'⟩ | ⟨hz, s, e1, e2', e3'⟩
    · subst hz
      have hi2 : Dp K nH iv (.tuple [.int n, b]) := dpMono e0 (by rw [← e1]; exact hi)
      have hf2 := dpMono e0 hf
      wtm_at "go"
      refine i_bmA ?_
      wtm_at "go"
      refine L1.ty (i := 2) rfl ?_
      wtm_at "go"
      refine L1.append (i := 2) (d := .int n) rfl (.int _) rfl (by rw [List.length_map]; omega) (fun H6 L6 hk => ?_)
      wtm_at "go"
      have eS : stepI w pl i it S = ⟨S.found ++ [n], S.left, S.looked + 1, S.waits⟩ := by
        unfold stepI
        rw [ha, e3']
      refine q H6 _ _ _ _ _ ?_ fun hn h => hk hn (dpMono e0 h)
      rw [eS]
      unfold wls
      rw [List.map_append]
      exact L6
    · have hi2 : Dp K nH iv (.tuple [a, fsD s]) := dpMono e0 (by rw [← e2']; exact hi)
      have hf2 := dpMono e0 hf
      wtm_at "go"
      refine i_eqSF hz ?_
      wtm_at "go"
      refine i_bmA ?_
      wtm_at "go"
      refine L1.ty (i := 0) rfl ?_
      wtm_at "go"
      refine star_snoc (i := i) (dpMono e0 hp) (Ex.refl _) rfl rfl hpl (fun v H5 e5 hv5 => ?_)
      have hi5 := dpMono e5 hi2
      wtm_at "go"
      rename_i xu1 hxu1 np2 nH2 nhe2 nhp2
      have L2' := L1.up (e5.trans nhe2)
      refine L2'.append (i := 0) (d := watD (pl ++ [i], s)) rfl (.tup (Evl.st_of nhp2) (.cons (dpMono nhe2 hv5) (.cons (dpMono nhe2 hxu1) .nil))) (noL_wat _) (by rw [List.length_map]; omega) (fun H6 L6 hk => ?_)
      wtm_at "go"
      have eS : stepI w pl i it S = ⟨S.found, S.left, S.looked + 1, S.waits ++ [(pl ++ [i], s)]⟩ := by
        unfold stepI
        rw [ha, e3']
      refine q H6 _ _ _ _ _ ?_ fun hn h => hk hn (dpMono ((e0.trans e5).trans nhe2) h)
      rw [eS]
      unfold wls
      rw [List.map_append]
      exact L6
end
end Wb

namespace Wb
open PySem PySem.Spec PyProof.Rows L2 StX
open Evl (Ex Ex.refl Ex.trans Ex.new)
local macro_rules | `(tactic| wtm_at "dp") => `(tactic| first | with_reducible assumption | with_reducible exact Dp.int _ | with_reducible exact Dp.bl _ | with_reducible exact Dp.str _ | with_reducible exact Dp.non | ((with_reducible refine' dpMono ?dme (by with_reducible assumption)); (case dme => wtm_at "ex")) | ((with_reducible refine' Dp.tup (Evl.st_of ?dph) ?dpa); (case dph => wtm_at "hs"); (case dpa => wtm_at "dpa")) | ((with_reducible refine' Dp.lst (Evl.sq_of ?dph) ?dpa); (case dph => wtm_at "hs"); (case dpa => wtm_at "dpa")))
local macro_rules | `(tactic| wtm_at "dpa") => `(tactic| first | with_reducible exact DpAll.nil | ((with_reducible refine' DpAll.cons ?dp1 ?dp2); (case dp1 => wtm_at "dp"); (case dp2 => wtm_at "dpa")) | with_reducible assumption | ((with_reducible refine' dpMonoA ?dme (by with_reducible assumption)); (case dme => wtm_at "ex")))
local macro_rules | `(tactic| wtm_at "sz") => `(tactic| first | with_reducible assumption | ((with_reducible refine' sz_mul ?sz1 ?sz2); (case sz1 => wtm_at "sz"); (case sz2 => wtm_at "sz")) | ((with_reducible refine' sz_add ?sz1 ?sz2); (case sz1 => wtm_at "sz"); (case sz2 => wtm_at "sz")) | ((with_reducible refine' sz_sub ?sz1 ?sz2); (case sz1 => wtm_at "sz"); (case sz2 => wtm_at "sz")) | ((with_reducible refine' sz_neg ?sz1); (case sz1 => wtm_at "sz")) | ((with_reducible refine' sz_div ?sz1); (case sz1 => wtm_at "sz")) | ((with_reducible refine' sz_fdiv ?sz1); (case sz1 => wtm_at "sz")) | exact sz_lit (by decide) | wtm_at "sz2")
local macro_rules | `(tactic| wtm_at "szb") => `(tactic| first | with_reducible assumption | ((with_reducible refine' sz_mono ?szb1 ?szb2); (case szb1 => wtm_at "sz"); (case szb2 => decide)))
local macro_rules | `(tactic| wtm_at "nz") => `(tactic| first | assumption | decide | omega)
local macro_rules | `(tactic| wtm_at "shaped") => `(tactic| first | rfl | decide)
local macro_rules | `(tactic| wtm_at "sset") => `(tactic| ((dsimp only [L2.wipe, List.set, List.set_cons_zero, List.set_cons_succ]) <;> exact rfl))
local macro_rules | `(tactic| wtm_at "nrm") => `(tactic| dsimp only [L2.start, L2.wipe, List.set, List.append, List.map, List.map_cons, List.map_nil, List.length_cons, List.length_nil, Nat.reduceAdd, Nat.reduceSub, List.reduceReplicate, List.replicate, List.cons_append, List.nil_append, List.set_cons_zero, List.set_cons_succ])
local macro_rules | `(tactic| wtm_at "st") => `(tactic| first
  | ((with_reducible refine' i_var (v := ?u0) ?u1 ?uq); (case u1 => exact rfl))
  | ((with_reducible refine' i_nameN ?u0 ?uq); (case u0 => wtm_at "sset"))
  | (with_reducible refine' i_op ?uq)
  | (with_reducible refine' i_c ?uq)
  | (with_reducible refine' i_I0 ?uq)
  | ((with_reducible refine' i_ixTI (i := ?u0) ?u1 ?u2 ?u3 ?uq); (case u1 => wtm_at "dp"); (case u2 => wtm_at "ex"); (case u3 => exact rfl))
  | ((with_reducible refine' i_ixT (d := ?u0) ?u1 ?u2 ?u3 (fun xu hxu => ?uq)); (case u1 => wtm_at "dp"); (case u2 => wtm_at "ex"); (case u3 => exact rfl))
  | ((with_reducible refine' i_mul ?u0 ?u1 ?u2 ?uq); (case u0 => wtm_at "sz"); (case u1 => wtm_at "sz"); (case u2 => first | decide | omega))
  | (with_reducible refine' i_seq ?uq)
  | (with_reducible refine' i_asg ?uq)
  | (with_reducible refine' i_ret ?uq)
  | (with_reducible refine' i_ifs ?uq)
  | (with_reducible refine' i_drop ?uq)
  | (with_reducible refine' i_next ?uq)
  | (with_reducible refine' i_cons ?uq)
  | (with_reducible refine' i_nil ?uq)
  | (with_reducible refine' i_cl ?uq)
  | (with_reducible refine' i_cb ?uq)
  | (with_reducible refine' i_tup ?uq)
  | (with_reducible refine' i_lst ?uq)
  | ((with_reducible refine' i_mkT ?u0 (fun np nH nhe nhp => ?uq)); (case u0 => exact Nat.le_of_ble_eq_true rfl))
  | (with_reducible refine' i_test ?uq)
  | (with_reducible refine' i_B ?uq)
  | (with_reducible refine' i_k ?uq)
  | (with_reducible refine' i_and ?uq)
  | (with_reducible refine' i_or ?uq)
  | (with_reducible refine' i_not ?uq)
  | (with_reducible refine' i_andV ?uq)
  | (with_reducible refine' i_orV ?uq)
  | (with_reducible refine' i_notV ?uq)
  | (with_reducible refine' i_if ?uq)
  | (with_reducible refine' i_un ?uq)
  | (with_reducible refine' i_U ?uq)
  | (with_reducible refine' i_iteT ?uq)
  | (with_reducible refine' i_iteF ?uq)
  | ((with_reducible refine' i_iteTr ?u0 ?uq); (case u0 => first | with_reducible rfl | decide | (simp only [dIsInt, dIsBool, dIsTup, dIsStr, dIsLst, Bool.not_true, Bool.not_false]; done)))
  | ((with_reducible refine' i_iteFr ?u0 ?uq); (case u0 => first | with_reducible rfl | decide | (simp only [dIsInt, dIsBool, dIsTup, dIsStr, dIsLst, Bool.not_true, Bool.not_false]; done)))
  | (with_reducible refine' i_ite (fun hif => ?uqa) (fun hif => ?uqb))
  | (with_reducible refine' i_iteN (fun hif => ?uqa) (fun hif => ?uqb))
  | (with_reducible refine' i_iteBN (fun hif => ?uqa) (fun hif => ?uqb))
  | (with_reducible refine' i_iteB (fun hif => ?uqa) (fun hif => ?uqb))
  | ((with_reducible refine' i_modN ?u0 ?uq); (case u0 => wtm_at "nz"))
  | ((with_reducible refine' i_fdX ?u0 ?u1 ?u2 ?uq); (case u0 => wtm_at "nz"); (case u1 => wtm_at "sz"); (case u2 => first | decide | omega))
  | ((with_reducible refine' i_pow ?u0 ?uq); (case u0 => exact ⟨by decide, by decide +kernel⟩))
  | (with_reducible refine' i_eqI ?uq)
  | (with_reducible refine' i_neI ?uq)
  | (with_reducible refine' i_gcd ?uq)
  | (with_reducible refine' i_qabs ?uq)
  | (with_reducible refine' i_qint ?uq)
  | (with_reducible refine' i_qintB ?uq)
  | (with_reducible refine' i_qmax2 ?uq)
  | (with_reducible refine' i_qmin2 ?uq)
  | (with_reducible refine' i_isB ?uq)
  | (with_reducible refine' i_notB ?uq)
  | (with_reducible refine' i_chain ?uq)
  | (with_reducible refine' i_qisN ?uq)
  | (with_reducible refine' i_qnotN ?uq)
  | (with_reducible refine' i_yes ?uq)
  | (with_reducible refine' i_par ?uq)
  | (with_reducible refine' i_par3 ?uq)
  | ((with_reducible refine' i_par2 ?u0 ?uq); (case u0 => wtm_at "sset"))
  | ((with_reducible refine' i_par33 ?u0 ?uq); (case u0 => wtm_at "sset"))
  | ((with_reducible refine' i_ixLI (i := ?u0) ?u1 ?u2 ?u3 ?uq); (case u1 => wtm_at "dp"); (case u2 => wtm_at "ex"); (case u3 => exact rfl))
  | ((with_reducible refine' i_ixL (d := ?u0) ?u1 ?u2 ?u3 (fun xu hxu => ?uq)); (case u1 => wtm_at "dp"); (case u2 => wtm_at "ex"); (case u3 => exact rfl))
  | ((with_reducible refine' i_qlenT ?u0 ?uq); (case u0 => wtm_at "dp"))
  | ((with_reducible refine' i_qlenL ?u0 ?uq); (case u0 => wtm_at "dp"))
  | ((with_reducible refine' i_gtup ?u0 ?u1 ?u2 (fun gvs gdp => ?uq)); (case u0 => wtm_at "dp"); (case u1 => wtm_at "ex"); (case u2 => exact rfl))
  | ((with_reducible refine' i_glst ?u0 ?u1 ?u2 (fun gvs gdp => ?uq)); (case u0 => wtm_at "dp"); (case u1 => wtm_at "ex"); (case u2 => exact rfl))
  | ((with_reducible refine' i_gconsI ?u0 (fun gr gh => ?uq)); (case u0 => with_reducible assumption))
  | ((with_reducible refine' i_gconsA ?u0 (fun gv gr gh1 gh2 => ?uq)); (case u0 => with_reducible assumption))
  | ((with_reducible refine' i_gnilA ?u0 ?uq); (case u0 => with_reducible assumption))
  | ((with_reducible refine' i_isiI ?u0 ?uq); (case u0 => wtm_at "dp"))
  | ((with_reducible refine' i_isiB ?u0 ?uq); (case u0 => wtm_at "dp"))
  | ((with_reducible refine' i_isiT ?u0 ?uq); (case u0 => wtm_at "dp"))
  | ((with_reducible refine' i_isiS ?u0 ?uq); (case u0 => wtm_at "dp"))
  | ((with_reducible refine' i_isiL ?u0 ?uq); (case u0 => wtm_at "dp"))
  | ((with_reducible refine' i_eqD ?u0 ?u1 ?u2 ?u3 ?uq); (case u0 => wtm_at "dp"); (case u1 => wtm_at "dp"); (case u2 => wtm_at "shaped"); (case u3 => wtm_at "shaped"))
  | ((with_reducible refine' i_neD ?u0 ?u1 ?u2 ?u3 ?uq); (case u0 => wtm_at "dp"); (case u1 => wtm_at "dp"); (case u2 => wtm_at "shaped"); (case u3 => wtm_at "shaped"))
  | wtm_at "st2"
  | wtm_at "use")
local macro_rules | `(tactic| wtm_at "go") => `(tactic| repeat' (wtm_at "st"))
local macro_rules | `(tactic| wtm_at "go0") => `(tactic| ((try dsimp only [L2.cxOf, L2.Cx.nox, L2.Cx.wish, L2.Cx.tr, L2.Cx.blk]); (try wtm_at "nrm"); wtm_at "go"))
local macro_rules | `(tactic| wtm_at "fin") => `(tactic| ((try dsimp only); first | with_reducible assumption | assumption | ((with_reducible refine' Ret.use ?rur ?rue ?rud); (case rur => with_reducible assumption); (case rue => wtm_at "ex"); (case rud => wtm_at "dp"))))
local macro_rules | `(tactic| wtm_at "exh") => `(tactic| first | with_reducible assumption | with_reducible exact Ex.refl _ | with_reducible exact ex_hid | ((with_reducible refine' Ex.trans ?exe (by with_reducible assumption)); (case exe => wtm_at "exh")) | ((with_reducible refine' Ex.trans ?exe (hid_ex (by with_reducible assumption))); (case exe => wtm_at "exh")))
local macro_rules | `(tactic| wtm_at "ex") => `(tactic| first | with_reducible assumption | with_reducible exact Ex.refl _ | with_reducible exact ex_hid | ((with_reducible refine' Ex.trans ?exe (by with_reducible assumption)); (case exe => wtm_at "ex")) | ((with_reducible refine' Ex.trans ?exe (hid_ex (by with_reducible assumption))); (case exe => wtm_at "ex")) | ((with_reducible refine' Ex.trans ?exe ex_hid); (case exe => wtm_at "exh")))
local macro_rules | `(tactic| wtm_at "bag") => `(tactic| first | with_reducible assumption | ((with_reducible refine' Bag.mono ?bgm (by with_reducible assumption)); (case bgm => wtm_at "bag")))
local macro_rules | `(tactic| wtm_at "hs") => `(tactic| first | with_reducible assumption | ((with_reducible refine' hid_tup ?hb ?hp); (case hp => with_reducible assumption); (case hb => wtm_at "bag")) | ((with_reducible refine' hid_new ?hb ?hn ?hp); (case hp => with_reducible assumption); (case hn => with_reducible assumption); (case hb => wtm_at "bag")) | ((with_reducible refine' ex_at ?exe (by with_reducible assumption)); (case exe => wtm_at "ex")))
local macro_rules | `(tactic| wtm_at "st2") => `(tactic| first
  | ((with_reducible refine' i_mulC ?u0 ?uq); (case u0 => first | exact cmul_l (by decide) | exact cmul_r (by decide)))
  | ((with_reducible refine' i_ixLr (v := ?u0) ?u1 ?u2 ?uq); (case u1 => with_reducible assumption); (case u2 => exact rfl))
  | (with_reducible refine' i_sub ?uq)
  | ((with_reducible refine' i_mkL ?u0 (fun np nH nfr nhe nhp => ?uq)); (case u0 => exact Nat.le_of_ble_eq_true rfl))
  | ((with_reducible refine' i_setL (n := ?u0) ?u1 ?u2 (fun sH sh se => ?uq)); (case u1 => with_reducible assumption); (case u2 => exact rfl))
  | (with_reducible refine' i_sl ?uq)
  | (with_reducible refine' i_nopart ?uq)
  | (with_reducible refine' i_part ?uq)
  | (with_reducible refine' i_part1 ?uq))
local macro_rules | `(tactic| wtm_at "sz2") => `(tactic| ((with_reducible refine' sz_fmod ?sz1 ?sz2); (case sz1 => wtm_at "nz"); (case sz2 => wtm_at "sz")))
local macro_rules | `(tactic| wtm_at "stb") => `(tactic| first
  | ((with_reducible refine' i_mkTB ?u0 ?u1 (fun np nH nhe nhb nhp => ?uq)); (case u0 => exact Nat.le_of_ble_eq_true rfl); (case u1 => wtm_at "bag"))
  | ((with_reducible refine' i_mkLB ?u0 ?u1 (fun np nH nfr nhe nhb nhp => ?uq)); (case u0 => exact Nat.le_of_ble_eq_true rfl); (case u1 => wtm_at "bag"))
  | wtm_at "st")
local macro_rules | `(tactic| wtm_at "gob") => `(tactic| repeat' (wtm_at "stb"))
local macro_rules | `(tactic| wtm_at "gob0") => `(tactic| ((try dsimp only [L2.cxOf, L2.Cx.nox, L2.Cx.wish, L2.Cx.tr, L2.Cx.blk]); (try wtm_at "nrm"); wtm_at "gob"))
local macro_rules | `(tactic| wtm_at "st") => `(tactic| first | ((with_reducible refine' i_ixTS (z := ?u0) ?u1 ?u2 ?u3 ?uq); (case u1 => wtm_at "dp"); (case u2 => wtm_at "ex"); (case u3 => exact rfl)) | fail)
local macro_rules | `(tactic| wtm_at "st2") => `(tactic| first | ((with_reducible refine' i_eqST ?u0 ?uq); (case u0 => with_reducible rfl)) | ((with_reducible refine' i_eqSF ?u0 ?uq); (case u0 => decide +kernel)) | ((with_reducible refine' i_neST ?u0 ?uq); (case u0 => with_reducible rfl)) | ((with_reducible refine' i_neSF ?u0 ?uq); (case u0 => decide +kernel)) | fail)
section
variable {P : Program} {w : World} {K : PySem.W.Frag} {mg : Str → Option Value} {base : Heap} {H H' : Hp} {Q : VK} {E : XK} {v1 v2 v3 v4 v5 : V}
local macro_rules | `(tactic| wtm_at "use") => `(tactic| ((with_reducible refine' use_is_integer ?u0 ?uq); (case u0 => wtm_at "dp")))
local macro_rules | `(tactic| wtm_at "use") => `(tactic| ((with_reducible refine' use_is_box ?u0 ?u1 (fun uH ue => ?uq)); (case u0 => wtm_at "dp"); (case u1 => with_reducible assumption)))
local macro_rules | `(tactic| wtm_at "use") => `(tactic| ((with_reducible refine' use_require_box ?u0 ?u1 (fun uH ue => ?uq)); (case u0 => wtm_at "dp"); (case u1 => with_reducible assumption)))
local macro_rules | `(tactic| wtm_at "use") => `(tactic| ((with_reducible refine' use_do_meet_in ?u0 ?u1 ?uq); (case u0 => wtm_at "dp"); (case u1 => wtm_at "dp")))
local macro_rules | `(tactic| wtm_at "use") => `(tactic| ((with_reducible refine' use_apart_word ?u0 ?u1 ?uq); (case u0 => wtm_at "dp"); (case u1 => wtm_at "dp")))
section
variable {α : Type} {enc : α → PyData} {key : α → List Int} {xs : List α} {v : V}
theorem zip_dp : ∀ {us : List V} {xs : List α}, DpAll K H us (xs.map enc) → (us.zip xs).map (·.1) = us ∧ (us.zip xs).map (·.2) = xs ∧ ∀ t ∈ us.zip xs, Dp K H t.1 (enc t.2)
  | _, [], .nil => ⟨rfl, rfl, fun t h => (by cases h)⟩
  | u :: us, x :: xs, .cons h1 h2 => by
    obtain ⟨a, b, c⟩ := zip_dp h2
    refine ⟨by rw [List.zip_cons_cons, List.map_cons, a], by rw [List.zip_cons_cons, List.map_cons, b], fun t ht => ?_⟩
    rw [List.zip_cons_cons] at ht
    rcases List.mem_cons.mp ht with rfl | ht
    · exact h1
    · exact c t ht
theorem dp_zip : ∀ {l : List (V × α)}, (∀ t ∈ l, Dp K H t.1 (enc t.2)) → DpAll K H (l.map (·.1)) ((l.map (·.2)).map enc)
  | [], _ => .nil
  | t :: l, h => .cons (h t List.mem_cons_self) (dp_zip fun t ht => h t (List.mem_cons_of_mem _ ht))
theorem i_sortH {hed : PySem.W.Frag → Hp → V → List Int → Prop} (h : Dp K H v (.list (xs.map enc))) (he : ∀ x ∈ xs, ∀ u, Dp K H u (enc x) → ∃ t y ys, u = .ref t ∧ SqT K H t (y :: ys) ∧ hed K H y (key x)) (hn : (xs.map key).Nodup)
    (q : ∀ p H2 (ys : List α), ys.Perm xs → ys.Pairwise (fun x y => HT.lexLt (key y) (key x) = false) → H p = none → Ex H H2 → Dp K H2 (.ref p) (.list (ys.map enc)) → Q (.ref p) H2) : rSortH K hed [v] H Q := by
  obtain ⟨a, us, rfl, hs, ha⟩ := dpLst h
  obtain ⟨z1, z2, z3⟩ := zip_dp ha
  have hmem : ∀ t ∈ us.zip xs, t.2 ∈ xs := fun t ht => by rw [← z2]; exact List.mem_map.mpr ⟨t, ht, rfl⟩
  refine ⟨a, (us.zip xs).map fun t => (t.1, key t.2), rfl, ?_, fun p hp => ?_, ?_, fun qs d hq hw hd => ?_⟩
  · rw [List.map_map]
    have e : ((fun p : V × List Int => p.1) ∘ fun t : V × α => (t.1, key t.2)) = fun t => t.1 := rfl
    rw [e, z1]
    exact hs
  · obtain ⟨t, ht, rfl⟩ := List.mem_map.mp hp
    exact he t.2 (hmem t ht) t.1 (z3 t ht)
  · rw [List.map_map]
    have e : ((fun p : V × List Int => p.2) ∘ fun t : V × α => (t.1, key t.2)) = key ∘ fun t => t.2 := rfl
    rw [e, ← List.map_map, z2]
    exact hn
  · obtain ⟨l, hl, rfl⟩ := perm_map_inv hq
    rw [List.map_map]
    have e : ((fun p : V × List Int => p.1) ∘ fun t : V × α => (t.1, key t.2)) = fun t => t.1 := rfl
    rw [e]
    refine q d _ (l.map (·.2)) ?_ ?_ hd (ex_upd hd) (.lst (Evl.sq_of upd_same) (dpMonoA (ex_upd hd) (dp_zip fun t ht => z3 t (hl.mem_iff.mp ht))))
    · have := hl.map (·.2)
      rw [z2] at this
      exact this
    · exact List.pairwise_map.mpr (List.pairwise_map.mp hw)
theorem i_sortI {xs : List Int} (h : Dp K H v (.list (xs.map PyData.int))) (q : ∀ p H2 (ys : List Int), ys.Perm xs → ys.Pairwise (· ≤ ·) → H p = none → Ex H H2 → Dp K H2 (.ref p) (.list (ys.map PyData.int)) → Q (.ref p) H2) : rSortedI K [v] H Q := by
  obtain ⟨a, us, rfl, hs, ha⟩ := dpLst h
  rw [dpInts ha] at hs
  exact ⟨a, xs, rfl, hs, fun ys p h1 h2 hp => q p _ ys h1 h2 hp (ex_upd hp) (.lst (Evl.sq_of upd_same) dpIntsOf)⟩
end
def plK (q : List Nat × String) : List Int := q.1.map fun i : Nat => (i : Int)
theorem plD_key (pl : List Nat) : plD pl = .tuple ((pl.map fun i : Nat => (i : Int)).map PyData.int) := by
  unfold plD
  rw [List.map_map]
  rfl
theorem nodup_key {L : List (List Nat × String)} (h : (L.map (·.1)).Nodup) : (L.map plK).Nodup := by
  have e : L.map plK = (L.map (·.1)).map fun pl => pl.map fun i : Nat => (i : Int) := by rw [List.map_map]; rfl
  rw [e]
  refine List.Pairwise.map _ (fun a b (hab : a ≠ b) z => hab ?_) h
  exact (List.map_inj_right (fun (x y : Nat) (h : (x : Int) = (y : Int)) => by omega)).mp z
theorem head_lef {f : List Nat × String → PyData} {r : List Nat × String → List PyData} (hf : ∀ q, f q = .tuple (plD q.1 :: r q)) (x : List Nat × String) (u : V) (h : Dp K H u (f x)) : ∃ t y ys, u = .ref t ∧ SqT K H t (y :: ys) ∧ HedT K H y (plK x) := by
  rw [hf] at h
  obtain ⟨t, us, rfl, hs, ha⟩ := dpTup h
  cases ha with
  | cons h1 h2 =>
    rw [plD_key] at h1
    obtain ⟨t2, us2, rfl, hs2, ha2⟩ := dpTup h1
    rw [dpInts ha2] at hs2
    exact ⟨t, _, _, rfl, hs, t2, rfl, hs2⟩
theorem i_fldU {ta : TE} {f : Str} {σ : L2.St} (q : ta σ H fun x H1 => ∃ a C dx fs v, x = V.ref a ∧ H1 a = some (.ins C dx fs) ∧ Cls K C ∧ NoAttr K C f ∧ fs.lookup f = some v ∧ Q v H1) : tFld K ta f σ H Q := q
theorem i_forE {ta : TA} {g : TG} {tb : TS} {D : Ends} {σ : L2.St} (q : ta σ H fun us H1 => tFor (iEnumT K (kA us)) g tb D σ H1) : tFor (iEnumT K ta) g tb D σ H := q
/-- what a turn over enumerate(tuple) gives, as data -/
def YEn (K : PySem.W.Frag) (ds : List PyData) : Nat → Hp → V → Hp → Prop := fun i H v H' => ∃ T y d, v = .ref T ∧ H T = none ∧ H' = upd H T (.tup [.int (i : Nat), y]) ∧ ds[i]? = some d ∧ Dp K H y d
theorem walk_enD {a : Addr} {ds : List PyData} : Walk (Itet K a) ds.length (fun H => Dp K H (.ref a) (.tuple ds)) (YEn K ds) := by
  refine ⟨fun i H hi q => ?_, fun H q => ?_, fun i H v H' hi q y => ?_⟩
  · obtain ⟨a', us, e, hs, ha⟩ := dpTup q
    cases e
    have : i < us.length := by rw [dpLen ha]; exact hi
    exact ⟨us, us[i], hs, by simp [this]⟩
  · obtain ⟨a', us, e, hs, ha⟩ := dpTup q
    cases e
    exact ⟨us, hs, by rw [dpLen ha]; exact Nat.le_refl _⟩
  · obtain ⟨a', us, e, hs, ha⟩ := dpTup q
    cases e
    obtain ⟨T, x, h1, h2, h3, h4⟩ := y
    obtain ⟨d, d1, d2⟩ := dpIdx ha (h4 us hs)
    exact ⟨T, x, d, h1, h2, h3, d1, d2⟩
/-- a form's data and its items -/
theorem items_eq (s : Fs) : ∃ (z : Str) (ds : List PyData), fsD s = .tuple [.str z, .tuple ds] ∧ ds.length = (fitems s).length ∧ ∀ (i : Nat) d, ds[i]? = some d → ∃ it a b, (fitems s)[i]? = some it ∧ d = .tuple [a, b] ∧ ItemD z a b it := by
  obtain ⟨k, t⟩ := s
  cases k with
  | zero =>
    refine ⟨"leaf", (foL t).map enD, rfl, by rw [List.length_map]; exact (List.length_map _).symm, fun i d hd => ?_⟩
    rw [List.getElem?_map] at hd
    obtain ⟨e, he, rfl⟩ := Option.map_eq_some_iff.mp hd
    refine ⟨(e.2, .inl e.1), .int e.1, bxD e.2, ?_, rfl, .inl ⟨rfl, e.1, rfl, rfl, rfl⟩⟩
    show ((foL t).map _)[i]? = _
    rw [List.getElem?_map, he]
    rfl
  | succ k =>
    refine ⟨"node", (foB t).map fun p => .tuple [bxD p.1, foD k p.2], rfl, by rw [List.length_map]; exact (List.length_map _).symm, fun i d hd => ?_⟩
    rw [List.getElem?_map] at hd
    obtain ⟨p, hp, rfl⟩ := Option.map_eq_some_iff.mp hd
    refine ⟨(p.1, .inr ⟨k, p.2⟩), bxD p.1, foD k p.2, ?_, rfl, .inr ⟨by decide +kernel, ⟨k, p.2⟩, rfl, rfl, rfl⟩⟩
    show ((foB t).map _)[i]? = _
    rw [List.getElem?_map, hp]
    rfl
/-- places are short -/
def Short (S : Ws) : Prop := ∀ q ∈ S.waits, q.1.length + q.2.1 ≤ 3
theorem short_step {w : Bx} {F : List Int} {L : List (List Nat × String)} {c : Nat} {r : List (List Nat × Fs)} {pl : List Nat} {s : Fs} (h : Short ⟨F, L, c, r ++ [(pl, s)]⟩) : Short (stepF w pl s ⟨F, L, c, r⟩) := by
  have h0 := h (pl, s) (List.mem_append_right _ List.mem_cons_self)
  refine stepT_ind (w := w) (pl := pl) (its := fitems s) (S := ⟨F, L, c, r⟩) (P := fun i T => Short T) (fun q hq => h q (List.mem_append_left _ hq)) (fun i it T hi hT => ?_) (Nat.le_refl _)
  intro q hq
  rcases stepI_waits q hq with h | ⟨e1, e2⟩
  · exact hT q h
  · have hk : s.1 = q.2.1 + 1 := by
      obtain ⟨k, t⟩ := s
      obtain ⟨b, x⟩ := it
      have e2 : x = .inr q.2 := e2
      subst e2
      have hm := List.mem_of_getElem? hi
      cases k with
      | zero =>
        obtain ⟨e, _, he⟩ := List.mem_map.mp hm
        cases he
      | succ k =>
        obtain ⟨p, _, he⟩ := List.mem_map.mp hm
        have := Sum.inr.inj (congrArg Prod.snd he)
        rw [← this]
    have h0 : pl.length + s.1 ≤ 3 := h0
    rw [e1, List.length_append, List.length_singleton]
    omega
theorem lay_pl (pl : List Nat) : PyData.canLay0 (plD pl) = true ∧ PyData.depth (plD pl) ≤ 1 := lay_tup (k := 0) fun d hd => by
  obtain ⟨i, _, rfl⟩ := List.mem_map.mp hd
  exact ⟨rfl, Nat.le_refl _⟩
theorem shp_wat {W : List (List Nat × Fs)} (h : ∀ q ∈ W, q.2.1 ≤ 3) : SeqAt.shaped (.list (W.map watD)) = true := shp_list (k := 14) (by decide) fun d hd => by
  obtain ⟨q, hq, rfl⟩ := List.mem_map.mp hd
  obtain ⟨h1, h2⟩ := lay_fo q.2.1 q.2.2
  obtain ⟨h3, h4⟩ := lay_pl q.1
  have := h q hq
  exact lay_two (k := 13) ⟨h3, by omega⟩ ⟨h1, by show PyData.depth (foD q.2.1 q.2.2) ≤ 13; omega⟩
/-- what the search of a tree gives back: a tuple of both lists and the count -/
def RetS (K : PySem.W.Frag) (w : Bx) (s : Fs) (H : Hp) (Q : VK) : Prop := ∀ (p : Addr) (H2 : Hp) (S : Ws) (fs : List Int) (ls : List (List Nat × String)) (fA lA : Addr), Ended w s S → fs.Perm S.found → fs.Pairwise (· ≤ ·) → ls.Perm S.left → ls.Pairwise (fun x y => HT.lexLt (plK y) (plK x) = false) → Ex H H2 →
  H2 p = some (.tup [.ref fA, .ref lA, .int (S.looked : Int)]) → Dp K H2 (.ref fA) (.list (fs.map PyData.int)) → Dp K H2 (.ref lA) (.list (ls.map lefD)) → Q (.ref p) H2
def sp_searched (K : PySem.W.Frag) (CT : Addr) : Sp := A2 fun v1 v2 H Q => ∃ (a : Addr) (s : Fs) (w : Bx), v1 = .ref a ∧ Cls K CT ∧ NoAttr K CT "own_form" ∧ TreeAt K CT H a s ∧ Sm s.1 s.2 ∧ s.1 ≤ 3 ∧ Bok s.1 s.2 ∧ Dp K H v2 (.list [bxD w]) ∧ RetS K w s H Q
abbrev s_searched : Stmt := top 49
theorem sc_searched : FnScope ["tree", "windows", "found", "left", "looked", "waits", "place", "form", "at", "item", "words", "apart", "window", "index", "word"] ["tree", "windows"] (defScope s_searched) := ⟨rfl, rfl, rfl, by decide +kernel, rfl, by decide +kernel, by decide +kernel⟩
theorem ok_searched {f : Addr} {fd : FuncData} (F : FnP K "searched" s_searched f fd) (g : G mg) {CT : Addr} (c_apart_word : Cl P w K mg base 1 "apart_word" (sp_apart_word K)) (c_box_at : Cl P w K mg base 1 "box_at" (sp_box_at K)) : FnOk P w K mg base CX0 3 f fd ["tree", "windows"] (sp_searched K CT) := by
  have nd := sc_searched.nd
  refine F.ok sc_searched (fun vs H Q E h => h.len) (fun cdv A outer s H vs Q E hr h => ?_)
  obtain ⟨v1, v2, rfl, h⟩ := h
  refine ⟨_, PSs.nox (pss_cons (ps_asg (pe_tup (pa_cons (pe_lst pa_nil) (pa_cons (pe_lst pa_nil) (pa_cons pe_int (pa_cons (pe_lst (pa_cons (pe_tup (pa_cons (pe_tup pa_nil) (pa_cons (pe_fld (pv 0) rfl) pa_nil))) pa_nil)) pa_nil))))) (pg_tup (n := 4) (by rfl) (pgs_cons (pg_name (i := 2) nd rfl (Or.inl rfl)) (pgs_cons (pg_name (i := 3) nd rfl (Or.inl rfl)) (pgs_cons (pg_name (i := 4) nd rfl (Or.inl rfl)) (pgs_cons (pg_name (i := 5) nd rfl (Or.inl rfl)) pgs_nil)))))) (pss_cons (ps_while PassesOwn.never (pt_cmpR (op_neD hr.units) (pv 5) (pe_lst pa_nil) (nomark _)) (pss_cons (ps_asg (pe_bm0 PySem.F.plainAttrs_list PySem.F.slot_list_pop PySem.F.type_list_pop mt_pop (pv 5) ) (pg_tup (n := 2) (by rfl) (pgs_cons (pg_name (i := 6) nd rfl (Or.inl rfl)) (pgs_cons (pg_name (i := 7) nd rfl (Or.inr rfl)) pgs_nil)))) (pss_one (ps_for PassesOwn.never rfl (pi_enumT (by rfl) g.f_enumerate (pa_cons (pe_ix ix_tup (pv 7) pe_int (fun _ _ => rfl)) pa_nil)) (pg_tup (n := 2) (by rfl) (pgs_cons (pg_name (i := 8) nd rfl (Or.inl rfl)) (pgs_cons (pg_name (i := 9) nd rfl (Or.inr rfl)) pgs_nil))) (pss_cons (ps_aug (i := 4) nd rfl (.inl rfl) pe_int ip_add) (pss_cons (ps_setLc (i := 10) (own := [("window", 12)]) (g := gName 12) (by rfl) nd rfl rfl (sw_true rfl rfl rfl (by decide +kernel)) (pi_list (pv 1)) (blkOk_by (N := ["tree", "windows", "found", "left", "looked", "waits", "place", "form", "at", "item", "words", "apart", "window", "index", "word"]) (sc := defScope s_searched) (own := [("window", 12)]) (by decide +kernel)) (fun _ _ _ _ _ => (pg_name (i := 12) nd rfl (Or.inl rfl))) (fun _ _ _ _ _ => pts_nil) (fun _ _ _ _ _ => (pc c_apart_word hr (by first | decide | omega) (by rfl) (pa_cons (pc c_box_at hr (by first | decide | omega) (by rfl) (pa_cons (pv 7) (pa_cons (pv 9) pa_nil))) (pa_cons (pv 12) pa_nil))))) (pss_cons (ps_setLc (i := 11) (own := [("index", 13), ("word", 14)]) (g := _) (by rfl) nd rfl rfl (sw_true rfl rfl rfl (by decide +kernel)) (pi_enum (by rfl) g.f_enumerate (pa_cons (pv 10) pa_nil)) (blkOk_by (N := ["tree", "windows", "found", "left", "looked", "waits", "place", "form", "at", "item", "words", "apart", "window", "index", "word"]) (sc := defScope s_searched) (own := [("index", 13), ("word", 14)]) (by decide +kernel)) (fun _ _ _ _ _ => (show PG _ _ (gTup K 2 _) from (pg_tup (by rfl) (pgs_cons (pg_name (i := 13) nd rfl (Or.inl rfl)) (pgs_cons (pg_name (i := 14) nd rfl (Or.inl rfl)) pgs_nil))))) (fun _ _ _ _ _ => (pts_one (pt_cmpR op_qnotN (pv 14) pe_non (nomark _)))) (fun _ _ _ _ _ => (pe_tup (pa_cons (pv 13) (pa_cons (pv 14) pa_nil))))) (pss_one (ps_if (pt_cmpR (op_neD hr.units) (pv 11) (pe_lst pa_nil) (nomark _)) (pss_one (ps_expr (pe_bm PySem.F.plainAttrs_list PySem.F.slot_list_append PySem.F.type_list_append mt_append (pv 3) (pa_cons (pe_tup (pa_cons (pe_tup (show PA _ _ (tStar K _ _) from pa_star (pv 6) (pa_cons (pv 8) pa_nil))) (pa_cons (pe_ix ix_tup (pe_ix ix_list (pv 11) pe_int (fun _ _ => rfl)) pe_int (fun _ _ => rfl)) (pa_cons (pe_ix ix_tup (pe_ix ix_list (pv 11) pe_int (fun _ _ => rfl)) pe_int (fun _ _ => rfl)) pa_nil)))) pa_nil)))) (pss_one (ps_if (pt_cmpR op_eq (pe_ix ix_tup (pv 7) pe_int (fun _ _ => rfl)) (pe_glob (v := .str "leaf") (by rfl) g.c_LEAF.choose_spec ⟨_, rfl⟩) (nomark _)) (pss_one (ps_expr (pe_bm PySem.F.plainAttrs_list PySem.F.slot_list_append PySem.F.type_list_append mt_append (pv 2) (pa_cons (pe_ix ix_tup (pv 9) pe_int (fun _ _ => rfl)) pa_nil)))) (pss_one (ps_expr (pe_bm PySem.F.plainAttrs_list PySem.F.slot_list_append PySem.F.type_list_append mt_append (pv 5) (pa_cons (pe_tup (pa_cons (pe_tup (show PA _ _ (tStar K _ _) from pa_star (pv 6) (pa_cons (pv 8) pa_nil))) (pa_cons (pe_ix ix_tup (pv 9) pe_int (fun _ _ => rfl)) pa_nil))) pa_nil))))))))))))))) (pss_one (ps_ret (pe_tup (pa_cons (pe_callB (cr_sortedI) (by rfl) g.f_sorted boot_sorted (pa_cons (pv 2) pa_nil)) (pa_cons (pe_callB (cr_sortHT (hr.in1.in1).units0) (by rfl) g.f_sorted boot_sorted (pa_cons (pv 3) pa_nil)) (pa_cons (pv 4) pa_nil)))))))), ?_⟩
  obtain ⟨a, s, w, rfl, hcl, hna, hT, hs, h3, hb, hw, q⟩ := h
  wtm_at "go0"
  rename_i fA H1 fn1 fe1 fp1 lA H2 ln2 le2 lp2 uA H3 ue3 up3
  obtain ⟨dx, fs, fv, t1, t2, t3⟩ := hT
  have e03 : Ex H H3 := (fe1.trans le2).trans ue3
  refine i_fldU ?_
  wtm_at "go"
  refine ⟨a, CT, dx, fs, fv, rfl, e03 _ _ t1, hcl, hna, t2, ?_⟩
  wtm_at "go"
  rename_i pA H4 pe4 pp4 wA H5 wn5 we5 wp5 tA H6 te6 tp6
  have La : Lsts K H [(lA, []), (fA, [])] H4 := ((((Lsts.nil (K := K) (G0 := H)).add fn1 fe1 fp1 .nil rfl).add ln2 le2 lp2 .nil rfl).up ue3).up pe4
  have L0 : Lsts K H (wls wA lA fA (start0 s)) H6 := (La.add wn5 we5 wp5 (.cons (.tup (Evl.st_of (we5 _ _ pp4)) (.cons (.tup (Evl.st_of (we5 _ _ (pe4 _ _ up3))) .nil) (.cons (dpMono (e03.trans (pe4.trans we5)) t3) .nil))) .nil) (noLs_map watD noL_wat [([], s)])).up te6
  refine ⟨tA, _, rfl, Evl.st_of tp6, rfl, ?_⟩
  refine i_gcons ?_
  wtm_at "go"
  refine i_gcons ?_
  wtm_at "go"
  refine i_gcons ?_
  wtm_at "go"
  refine i_gcons ?_
  wtm_at "go"
  refine i_gnil ?_
  wtm_at "go"
  refine i_tw (fun μ σ' H' => ∃ (S : Ws) (n : Nat) (c6 c7 c8 c9 c10 c11 c12 c13 c14 : Option V), σ' = [some (.ref a), some v2, some (.ref fA), some (.ref lA), some (.int (S.looked : Int)), some (.ref wA), c6, c7, c8, c9, c10, c11, c12, c13, c14] ∧ S = runN w (start0 s) n ∧ Lsts K H (wls wA lA fA S) H' ∧ WOk S ∧ Short S ∧ sumW fsN S.waits = μ) (sumW fsN (start0 s).waits)
    ⟨start0 s, 0, _, _, _, _, _, _, _, _, _, rfl, rfl, L0, wok_start hs h3 hb, fun q hq => by rcases List.mem_singleton.mp hq with rfl; show 0 + s.1 ≤ 3; omega, rfl⟩ ?_
  rintro μ σ' H' ⟨S, n, c6, c7, c8, c9, c10, c11, c12, c13, c14, rfl, hS, L, hW, hsh, rfl⟩
  wtm_at "go"
  rename_i np nH nfr nhe nhp
  have L1 := L.up nhe
  refine i_neD (L1.ref (i := 0) rfl) (.lst (Evl.sq_of nhp) .nil) (shp_wat fun q hq => (hW.sm q hq).2.1) rfl ?_
  rw [eqv_nil]
  wtm_at "go"
  · rename_i hne
    have hne' : S.waits ≠ [] := fun z => hne (by rw [z]; rfl)
    obtain ⟨F, Lf, c, W⟩ := S
    obtain ⟨r, qq, rfl⟩ : ∃ r q, W = r ++ [q] := ⟨W.dropLast, W.getLast hne', (List.dropLast_concat_getLast hne').symm⟩
    obtain ⟨pl, s'⟩ := qq
    have hstep : stepF w pl s' ⟨F, Lf, c, r⟩ = runN w (start0 s) (n + 1) := by
      show _ = stp w (runN w (start0 s) n)
      rw [← hS, stp_last]
    obtain ⟨ok1, ok2, ok3⟩ := wok_step (w := w) hW
    have hsh2 := short_step (w := w) hsh
    have hpl := hsh (pl, s') (List.mem_append_right _ List.mem_cons_self)
    refine ⟨fun σ2 G2 => ∃ μ', μ' < sumW fsN (r ++ [(pl, s')]) ∧ ∃ (S : Ws) (n : Nat) (c6 c7 c8 c9 c10 c11 c12 c13 c14 : Option V), σ2 = [some (.ref a), some v2, some (.ref fA), some (.ref lA), some (.int (S.looked : Int)), some (.ref wA), c6, c7, c8, c9, c10, c11, c12, c13, c14] ∧ S = runN w (start0 s) n ∧ Lsts K H (wls wA lA fA S) G2 ∧ WOk S ∧ Short S ∧ sumW fsN S.waits = μ', fun _ _ h => h, ?_⟩
    have L1' : Lsts K H [(wA, r.map watD ++ [watD (pl, s')]), (lA, Lf.map lefD), (fA, F.map PyData.int)] nH := by
      have := L1
      unfold wls at this
      rw [List.map_append] at this
      exact this
    wtm_at "go"
    refine i_bm0 ?_
    wtm_at "go"
    refine L1'.ty (i := 0) rfl ?_
    refine L1'.pop (i := 0) rfl (fun y G hLG hy hk => ?_)
    have LG : Lsts K H (wls wA lA fA ⟨F, Lf, c, r⟩) G := hLG
    obtain ⟨z, ds, ez, hdl, hit⟩ := items_eq s'
    have hy : Dp K G y (.tuple [plD pl, .tuple [.str z, .tuple ds]]) := by
      rw [← ez]
      exact hy
    wtm_at "go"
    rename_i pv gr hpv hgr fvv gr2 hfv hgr2
    dsimp only
    refine i_forE ?_
    wtm_at "go"
    rename_i xu hxu
    obtain ⟨tA2, us2, rfl, hts, hta⟩ := dpTup hxu
    refine ⟨tA2, us2, rfl, hts, for_it (walk_enD (a := tA2) (ds := ds)) (fun i σ2 G2 => ∃ (c8 c9 c10 c11 c12 c13 c14 : Option V), σ2 = [some (.ref a), some v2, some (.ref fA), some (.ref lA), some (.int ((stepT w pl (fitems s') ⟨F, Lf, c, r⟩ i).looked : Int)), some (.ref wA), some pv, some fvv, c8, c9, c10, c11, c12, c13, c14] ∧ Lsts K H (wls wA lA fA (stepT w pl (fitems s') ⟨F, Lf, c, r⟩ i)) G2 ∧ Dp K G2 pv (plD pl) ∧ Dp K G2 fvv (.tuple [.str z, .tuple ds]) ∧ Dp K G2 (.ref tA2) (.tuple ds))
      ⟨_, _, _, _, _, _, _, rfl, LG, hpv, hfv, hxu⟩ (fun i σ2 G2 _ p => by obtain ⟨_, _, _, _, _, _, _, _, _, _, _, p⟩ := p; exact p) (fun i x σ2 G2 G3 hi p yy => ?_) (fun σ2 G2 p => ?_)⟩
    · obtain ⟨c8, c9, c10, c11, c12, c13, c14, rfl, LT, p1, p2, p3⟩ := p
      obtain ⟨T, y2, d, rfl, hTn, rfl, hd1, hd2⟩ := yy
      obtain ⟨it, aa, bb, hi1, rfl, hi2⟩ := hit i d hd1
      have eT : Ex G2 (upd G2 T (.tup [.int (i : Nat), y2])) := ex_upd hTn
      refine ⟨T, _, rfl, Evl.st_of upd_same, rfl, ?_⟩
      refine i_gcons ?_
      wtm_at "go"
      refine i_gcons ?_
      wtm_at "go"
      refine i_gnil ?_
      have hok := ok3 i (by omega)
      refine srch_turn (LT.up eT) (dpMono eT p1) (dpMono eT p2) (dpMono eT hd2) (dpMono (LT.up eT).ex hw) hi2 (by omega) (by have : pl.length + s'.1 ≤ 3 := hpl; omega) (fun H8 c10 c11 c12 c13 c14 L8 hk8 => ?_)
      refine ⟨some (.int (i : Int)), some y2, c10, c11, c12, c13, c14, ?_, ?_, hk8 (noL_pl pl) (dpMono eT p1), hk8 (by rw [← ez]; exact noL_fs s') (dpMono eT p2), hk8 ?_ (dpMono eT p3)⟩
      · rw [stepT_at hi1, stepI_looked]
      · rw [stepT_at hi1]
        exact L8
      · have := noL_fs s'
        rw [ez] at this
        have h2 := Bool.and_eq_true_iff.mp (show (noL (.str z) && (noL (.tuple ds) && true)) = true from this)
        exact (Bool.and_eq_true_iff.mp h2.2).1
    · obtain ⟨c8, c9, c10, c11, c12, c13, c14, rfl, LT, p1, p2, p3⟩ := p
      rw [hdl] at LT ⊢
      exact ⟨_, ok2, _, n + 1, _, _, _, _, _, _, _, _, _, rfl, hstep, LT, ok1, hsh2, rfl⟩
  · rename_i hz
    have hz' : S.waits = [] := List.map_eq_nil_iff.mp hz
    have hE : Ended w s S := ⟨hz', n, hS⟩
    wtm_at "go"
    refine i_sortI (xs := S.found) (L1.ref (i := 2) rfl) (fun p7 H7 fs7 f1 f2 n7 e7 h7 => ?_)
    wtm_at "go"
    refine i_sortH (enc := lefD) (key := plK) (xs := S.left) ((L1.up e7).ref (i := 1) rfl) (fun x _ u hu => head_lef (r := fun q => [.int 0, .str (Str.ofString q.2)]) (fun _ => rfl) x u hu) (nodup_key (ended_nodup hE)) (fun p8 H8 ls l1 l2 n8 e8 h8 => ?_)
    wtm_at "go"
    rename_i p9 H9 e9 h9
    exact q p9 H9 S fs7 ls p7 p8 hE f1 f2 l1 l2 (L1.ex.trans ((e7.trans e8).trans e9)) h9 (dpMono (e8.trans e9) h7) (dpMono e9 h8)
theorem use_searched {CT a : Addr} {s : Fs} {w : Bx} (hcl : Cls K CT) (hna : NoAttr K CT "own_form") (hT : TreeAt K CT H a s) (hs : Sm s.1 s.2) (h3 : s.1 ≤ 3) (hb : Bok s.1 s.2) (hw : Dp K H v2 (.list [bxD w])) (q : RetS K w s H Q) : sp_searched K CT [.ref a, v2] H Q E := ⟨_, _, rfl, a, s, w, rfl, hcl, hna, hT, hs, h3, hb, hw, q⟩
end
end Wb

namespace Wb
open PySem PySem.Spec PyProof.Rows L2 StX
open Evl (Ex Ex.refl Ex.trans Ex.new)
local macro_rules | `(tactic| wtm_at "dp") => `(tactic| first | with_reducible assumption | with_reducible exact Dp.int _ | with_reducible exact Dp.bl _ | with_reducible exact Dp.str _ | with_reducible exact Dp.non | ((with_reducible refine' dpMono ?dme (by with_reducible assumption)); (case dme => wtm_at "ex")) | ((with_reducible refine' Dp.tup (Evl.st_of ?dph) ?dpa); (case dph => wtm_at "hs"); (case dpa => wtm_at "dpa")) | ((with_reducible refine' Dp.lst (Evl.sq_of ?dph) ?dpa); (case dph => wtm_at "hs"); (case dpa => wtm_at "dpa")))
local macro_rules | `(tactic| wtm_at "dpa") => `(tactic| first | with_reducible exact DpAll.nil | ((with_reducible refine' DpAll.cons ?dp1 ?dp2); (case dp1 => wtm_at "dp"); (case dp2 => wtm_at "dpa")) | with_reducible assumption | ((with_reducible refine' dpMonoA ?dme (by with_reducible assumption)); (case dme => wtm_at "ex")))
local macro_rules | `(tactic| wtm_at "sz") => `(tactic| first | with_reducible assumption | ((with_reducible refine' sz_mul ?sz1 ?sz2); (case sz1 => wtm_at "sz"); (case sz2 => wtm_at "sz")) | ((with_reducible refine' sz_add ?sz1 ?sz2); (case sz1 => wtm_at "sz"); (case sz2 => wtm_at "sz")) | ((with_reducible refine' sz_sub ?sz1 ?sz2); (case sz1 => wtm_at "sz"); (case sz2 => wtm_at "sz")) | ((with_reducible refine' sz_neg ?sz1); (case sz1 => wtm_at "sz")) | ((with_reducible refine' sz_div ?sz1); (case sz1 => wtm_at "sz")) | ((with_reducible refine' sz_fdiv ?sz1); (case sz1 => wtm_at "sz")) | exact sz_lit (by decide) | wtm_at "sz2")
local macro_rules | `(tactic| wtm_at "szb") => `(tactic| first | with_reducible assumption | ((with_reducible refine' sz_mono ?szb1 ?szb2); (case szb1 => wtm_at "sz"); (case szb2 => decide)))
local macro_rules | `(tactic| wtm_at "nz") => `(tactic| first | assumption | decide | omega)
local macro_rules | `(tactic| wtm_at "shaped") => `(tactic| first | rfl | decide)
local macro_rules | `(tactic| wtm_at "sset") => `(tactic| ((dsimp only [L2.wipe, List.set, List.set_cons_zero, List.set_cons_succ]) <;> exact rfl))
local macro_rules | `(tactic| wtm_at "nrm") => `(tactic| dsimp only [L2.start, L2.wipe, List.set, List.append, List.map, List.map_cons, List.map_nil, List.length_cons, List.length_nil, Nat.reduceAdd, Nat.reduceSub, List.reduceReplicate, List.replicate, List.cons_append, List.nil_append, List.set_cons_zero, List.set_cons_succ])
local macro_rules | `(tactic| wtm_at "st") => `(tactic| first
  | ((with_reducible refine' i_var (v := ?u0) ?u1 ?uq); (case u1 => exact rfl))
  | ((with_reducible refine' i_nameN ?u0 ?uq); (case u0 => wtm_at "sset"))
  | (with_reducible refine' i_op ?uq)
  | (with_reducible refine' i_c ?uq)
  | (with_reducible refine' i_I0 ?uq)
  | ((with_reducible refine' i_ixTI (i := ?u0) ?u1 ?u2 ?u3 ?uq); (case u1 => wtm_at "dp"); (case u2 => wtm_at "ex"); (case u3 => exact rfl))
  | ((with_reducible refine' i_ixT (d := ?u0) ?u1 ?u2 ?u3 (fun xu hxu => ?uq)); (case u1 => wtm_at "dp"); (case u2 => wtm_at "ex"); (case u3 => exact rfl))
  | ((with_reducible refine' i_mul ?u0 ?u1 ?u2 ?uq); (case u0 => wtm_at "sz"); (case u1 => wtm_at "sz"); (case u2 => first | decide | omega))
  | (with_reducible refine' i_seq ?uq)
  | (with_reducible refine' i_asg ?uq)
  | (with_reducible refine' i_ret ?uq)
  | (with_reducible refine' i_ifs ?uq)
  | (with_reducible refine' i_drop ?uq)
  | (with_reducible refine' i_next ?uq)
  | (with_reducible refine' i_cons ?uq)
  | (with_reducible refine' i_nil ?uq)
  | (with_reducible refine' i_cl ?uq)
  | (with_reducible refine' i_cb ?uq)
  | (with_reducible refine' i_tup ?uq)
  | (with_reducible refine' i_lst ?uq)
  | ((with_reducible refine' i_mkT ?u0 (fun np nH nhe nhp => ?uq)); (case u0 => exact Nat.le_of_ble_eq_true rfl))
  | (with_reducible refine' i_test ?uq)
  | (with_reducible refine' i_B ?uq)
  | (with_reducible refine' i_k ?uq)
  | (with_reducible refine' i_and ?uq)
  | (with_reducible refine' i_or ?uq)
  | (with_reducible refine' i_not ?uq)
  | (with_reducible refine' i_andV ?uq)
  | (with_reducible refine' i_orV ?uq)
  | (with_reducible refine' i_notV ?uq)
  | (with_reducible refine' i_if ?uq)
  | (with_reducible refine' i_un ?uq)
  | (with_reducible refine' i_U ?uq)
  | (with_reducible refine' i_iteT ?uq)
  | (with_reducible refine' i_iteF ?uq)
  | ((with_reducible refine' i_iteTr ?u0 ?uq); (case u0 => first | with_reducible rfl | decide | (simp only [dIsInt, dIsBool, dIsTup, dIsStr, dIsLst, Bool.not_true, Bool.not_false]; done)))
  | ((with_reducible refine' i_iteFr ?u0 ?uq); (case u0 => first | with_reducible rfl | decide | (simp only [dIsInt, dIsBool, dIsTup, dIsStr, dIsLst, Bool.not_true, Bool.not_false]; done)))
  | (with_reducible refine' i_ite (fun hif => ?uqa) (fun hif => ?uqb))
  | (with_reducible refine' i_iteN (fun hif => ?uqa) (fun hif => ?uqb))
  | (with_reducible refine' i_iteBN (fun hif => ?uqa) (fun hif => ?uqb))
  | (with_reducible refine' i_iteB (fun hif => ?uqa) (fun hif => ?uqb))
  | ((with_reducible refine' i_modN ?u0 ?uq); (case u0 => wtm_at "nz"))
  | ((with_reducible refine' i_fdX ?u0 ?u1 ?u2 ?uq); (case u0 => wtm_at "nz"); (case u1 => wtm_at "sz"); (case u2 => first | decide | omega))
  | ((with_reducible refine' i_pow ?u0 ?uq); (case u0 => exact ⟨by decide, by decide +kernel⟩))
  | (with_reducible refine' i_eqI ?uq)
  | (with_reducible refine' i_neI ?uq)
  | (with_reducible refine' i_gcd ?uq)
  | (with_reducible refine' i_qabs ?uq)
  | (with_reducible refine' i_qint ?uq)
  | (with_reducible refine' i_qintB ?uq)
  | (with_reducible refine' i_qmax2 ?uq)
  | (with_reducible refine' i_qmin2 ?uq)
  | (with_reducible refine' i_isB ?uq)
  | (with_reducible refine' i_notB ?uq)
  | (with_reducible refine' i_chain ?uq)
  | (with_reducible refine' i_qisN ?uq)
  | (with_reducible refine' i_qnotN ?uq)
  | (with_reducible refine' i_yes ?uq)
  | (with_reducible refine' i_par ?uq)
  | (with_reducible refine' i_par3 ?uq)
  | ((with_reducible refine' i_par2 ?u0 ?uq); (case u0 => wtm_at "sset"))
  | ((with_reducible refine' i_par33 ?u0 ?uq); (case u0 => wtm_at "sset"))
  | ((with_reducible refine' i_ixLI (i := ?u0) ?u1 ?u2 ?u3 ?uq); (case u1 => wtm_at "dp"); (case u2 => wtm_at "ex"); (case u3 => exact rfl))
  | ((with_reducible refine' i_ixL (d := ?u0) ?u1 ?u2 ?u3 (fun xu hxu => ?uq)); (case u1 => wtm_at "dp"); (case u2 => wtm_at "ex"); (case u3 => exact rfl))
  | ((with_reducible refine' i_qlenT ?u0 ?uq); (case u0 => wtm_at "dp"))
  | ((with_reducible refine' i_qlenL ?u0 ?uq); (case u0 => wtm_at "dp"))
  | ((with_reducible refine' i_gtup ?u0 ?u1 ?u2 (fun gvs gdp => ?uq)); (case u0 => wtm_at "dp"); (case u1 => wtm_at "ex"); (case u2 => exact rfl))
  | ((with_reducible refine' i_glst ?u0 ?u1 ?u2 (fun gvs gdp => ?uq)); (case u0 => wtm_at "dp"); (case u1 => wtm_at "ex"); (case u2 => exact rfl))
  | ((with_reducible refine' i_gconsI ?u0 (fun gr gh => ?uq)); (case u0 => with_reducible assumption))
  | ((with_reducible refine' i_gconsA ?u0 (fun gv gr gh1 gh2 => ?uq)); (case u0 => with_reducible assumption))
  | ((with_reducible refine' i_gnilA ?u0 ?uq); (case u0 => with_reducible assumption))
  | ((with_reducible refine' i_isiI ?u0 ?uq); (case u0 => wtm_at "dp"))
  | ((with_reducible refine' i_isiB ?u0 ?uq); (case u0 => wtm_at "dp"))
  | ((with_reducible refine' i_isiT ?u0 ?uq); (case u0 => wtm_at "dp"))
  | ((with_reducible refine' i_isiS ?u0 ?uq); (case u0 => wtm_at "dp"))
  | ((with_reducible refine' i_isiL ?u0 ?uq); (case u0 => wtm_at "dp"))
  | ((with_reducible refine' i_eqD ?u0 ?u1 ?u2 ?u3 ?uq); (case u0 => wtm_at "dp"); (case u1 => wtm_at "dp"); (case u2 => wtm_at "shaped"); (case u3 => wtm_at "shaped"))
  | ((with_reducible refine' i_neD ?u0 ?u1 ?u2 ?u3 ?uq); (case u0 => wtm_at "dp"); (case u1 => wtm_at "dp"); (case u2 => wtm_at "shaped"); (case u3 => wtm_at "shaped"))
  | wtm_at "st2"
  | wtm_at "use")
local macro_rules | `(tactic| wtm_at "go") => `(tactic| repeat' (wtm_at "st"))
local macro_rules | `(tactic| wtm_at "go0") => `(tactic| ((try dsimp only [L2.cxOf, L2.Cx.nox, L2.Cx.wish, L2.Cx.tr, L2.Cx.blk]); (try wtm_at "nrm"); wtm_at "go"))
local macro_rules | `(tactic| wtm_at "fin") => `(tactic| ((try dsimp only); first | with_reducible assumption | assumption | ((with_reducible refine' Ret.use ?rur ?rue ?rud); (case rur => with_reducible assumption); (case rue => wtm_at "ex"); (case rud => wtm_at "dp"))))
local macro_rules | `(tactic| wtm_at "exh") => `(tactic| first | with_reducible assumption | with_reducible exact Ex.refl _ | with_reducible exact ex_hid | ((with_reducible refine' Ex.trans ?exe (by with_reducible assumption)); (case exe => wtm_at "exh")) | ((with_reducible refine' Ex.trans ?exe (hid_ex (by with_reducible assumption))); (case exe => wtm_at "exh")))
local macro_rules | `(tactic| wtm_at "ex") => `(tactic| first | with_reducible assumption | with_reducible exact Ex.refl _ | with_reducible exact ex_hid | ((with_reducible refine' Ex.trans ?exe (by with_reducible assumption)); (case exe => wtm_at "ex")) | ((with_reducible refine' Ex.trans ?exe (hid_ex (by with_reducible assumption))); (case exe => wtm_at "ex")) | ((with_reducible refine' Ex.trans ?exe ex_hid); (case exe => wtm_at "exh")))
local macro_rules | `(tactic| wtm_at "bag") => `(tactic| first | with_reducible assumption | ((with_reducible refine' Bag.mono ?bgm (by with_reducible assumption)); (case bgm => wtm_at "bag")))
local macro_rules | `(tactic| wtm_at "hs") => `(tactic| first | with_reducible assumption | ((with_reducible refine' hid_tup ?hb ?hp); (case hp => with_reducible assumption); (case hb => wtm_at "bag")) | ((with_reducible refine' hid_new ?hb ?hn ?hp); (case hp => with_reducible assumption); (case hn => with_reducible assumption); (case hb => wtm_at "bag")) | ((with_reducible refine' ex_at ?exe (by with_reducible assumption)); (case exe => wtm_at "ex")))
local macro_rules | `(tactic| wtm_at "st2") => `(tactic| first
  | ((with_reducible refine' i_mulC ?u0 ?uq); (case u0 => first | exact cmul_l (by decide) | exact cmul_r (by decide)))
  | ((with_reducible refine' i_ixLr (v := ?u0) ?u1 ?u2 ?uq); (case u1 => with_reducible assumption); (case u2 => exact rfl))
  | (with_reducible refine' i_sub ?uq)
  | ((with_reducible refine' i_mkL ?u0 (fun np nH nfr nhe nhp => ?uq)); (case u0 => exact Nat.le_of_ble_eq_true rfl))
  | ((with_reducible refine' i_setL (n := ?u0) ?u1 ?u2 (fun sH sh se => ?uq)); (case u1 => with_reducible assumption); (case u2 => exact rfl))
  | (with_reducible refine' i_sl ?uq)
  | (with_reducible refine' i_nopart ?uq)
  | (with_reducible refine' i_part ?uq)
  | (with_reducible refine' i_part1 ?uq))
local macro_rules | `(tactic| wtm_at "sz2") => `(tactic| ((with_reducible refine' sz_fmod ?sz1 ?sz2); (case sz1 => wtm_at "nz"); (case sz2 => wtm_at "sz")))
local macro_rules | `(tactic| wtm_at "stb") => `(tactic| first
  | ((with_reducible refine' i_mkTB ?u0 ?u1 (fun np nH nhe nhb nhp => ?uq)); (case u0 => exact Nat.le_of_ble_eq_true rfl); (case u1 => wtm_at "bag"))
  | ((with_reducible refine' i_mkLB ?u0 ?u1 (fun np nH nfr nhe nhb nhp => ?uq)); (case u0 => exact Nat.le_of_ble_eq_true rfl); (case u1 => wtm_at "bag"))
  | wtm_at "st")
local macro_rules | `(tactic| wtm_at "gob") => `(tactic| repeat' (wtm_at "stb"))
local macro_rules | `(tactic| wtm_at "gob0") => `(tactic| ((try dsimp only [L2.cxOf, L2.Cx.nox, L2.Cx.wish, L2.Cx.tr, L2.Cx.blk]); (try wtm_at "nrm"); wtm_at "gob"))
local macro_rules | `(tactic| wtm_at "st") => `(tactic| first | ((with_reducible refine' i_ixTS (z := ?u0) ?u1 ?u2 ?u3 ?uq); (case u1 => wtm_at "dp"); (case u2 => wtm_at "ex"); (case u3 => exact rfl)) | fail)
local macro_rules | `(tactic| wtm_at "st2") => `(tactic| first | ((with_reducible refine' i_eqST ?u0 ?uq); (case u0 => with_reducible rfl)) | ((with_reducible refine' i_eqSF ?u0 ?uq); (case u0 => decide +kernel)) | ((with_reducible refine' i_neST ?u0 ?uq); (case u0 => with_reducible rfl)) | ((with_reducible refine' i_neSF ?u0 ?uq); (case u0 => decide +kernel)) | fail)
section
variable {P : Program} {w : World} {K : PySem.W.Frag} {mg : Str → Option Value} {base : Heap} {H H' : Hp} {Q : VK} {E : XK} {v1 v2 v3 v4 v5 : V}
local macro_rules | `(tactic| wtm_at "use") => `(tactic| ((with_reducible refine' use__law_apart_word ?u0 ?u1 ?uq); (case u0 => wtm_at "dp"); (case u1 => wtm_at "dp")))
theorem i_gtupR {a : Addr} {us : List V} {k : Nat} {ts : TGs} {R : L2.St → Hp → Prop} {σ : L2.St} (h : H a = some (.tup us)) (hl : us.length = k) (q : ts us σ H R) : gTup K k ts (.ref a) σ H R := ⟨a, us, rfl, Evl.st_of h, hl, q⟩
local macro_rules | `(tactic| wtm_at "st") => `(tactic| first | ((with_reducible refine' i_gtupR ?u0 ?u1 ?uq); (case u0 => with_reducible assumption); (case u1 => exact rfl)) | (with_reducible refine' i_gcons ?uq) | (with_reducible refine' i_gnil ?uq) | fail)
abbrev walkB (K : PySem.W.Frag) : TS :=
  tSeq (tAsg (tOp (rI0 fun i j => V.int (i + j)) (tVar 4) (tC (V.int 1))) (gName 4))
  (tSeq (tAsg (tIf (tTest (tOp rEq (tVar 7) (tC (V.str "leaf")))) (tOp (rIxT K) (tOp (rIxT K) (tVar 8) (tVar 9)) (tC (V.int 1))) (tOp (rIxT K) (tOp (rIxT K) (tVar 8) (tVar 9)) (tC (V.int 0)))) (gName 10))
  (tSeq (tAsg (tCl (sp__law_apart_word K) (tCons (tVar 10) (tCons (tVar 1) tNil))) (gName 11))
  (tIfS (tTest (tOp qNotN (tVar 11) (tC V.non)))
    (tDrop (tBM K "list" rAppend (tVar 3) (tCons (tTup (tCons (tOp (rCatA K) (tVar 6) (tTup (tCons (tVar 9) tNil))) (tCons (tVar 11) tNil))) tNil)))
    (tIfS (tTest (tOp rEq (tVar 7) (tC (V.str "leaf"))))
      (tDrop (tBM K "list" rAppend (tVar 2) (tCons (tOp (rIxT K) (tOp (rIxT K) (tVar 8) (tVar 9)) (tC (V.int 0))) tNil)))
      (tDrop (tBM K "list" rAppend (tVar 5) (tCons (tTup (tCons (tOp (rCatA K) (tVar 6) (tTup (tCons (tVar 9) tNil))) (tCons (tOp (rIxT K) (tOp (rIxT K) (tVar 8) (tVar 9)) (tC (V.int 1))) tNil))) tNil)))))))
def wlw (wA lA fA : Addr) (S : Ws) : List (Addr × List PyData) := [(wA, S.waits.map watD), (lA, S.left.map lefL), (fA, S.found.map PyData.int)]
theorem walk_turn {v0 v1 pv iv : V} {fA lA wA : Addr} {G0 : Hp} {S : Ws} {D : Ends} {z : Str} {ds : List PyData} {a b : PyData} {pl : List Nat} {i : Nat} {w : Bx} {it : Bx × (Int ⊕ Fs)} {c10 c11 : Option V}
    (L : Lsts K G0 (wlw wA lA fA S) H) (hp : Dp K H pv (plD pl)) (hi : Dp K H iv (.tuple ds)) (hd : ds[i]? = some (.tuple [a, b])) (hv : Dp K H v1 (bxD w)) (hit : ItemD z a b it) (hlen : wsN S ≤ 400) (hpl : pl.length ≤ 1000)
    (q : ∀ H2 c10 c11, Lsts K G0 (wlw wA lA fA (stepI w pl i it S)) H2 → (∀ {v : V} {c : PyData}, noL c = true → Dp K H v c → Dp K H2 v c) → D.nx [some v0, some v1, some (.ref fA), some (.ref lA), some (.int ((S.looked + 1 : Nat) : Int)), some (.ref wA), some pv, some (.str z), some iv, some (.int (i : Int)), c10, c11] H2) :
    walkB K D [some v0, some v1, some (.ref fA), some (.ref lA), some (.int (S.looked : Int)), some (.ref wA), some pv, some (.str z), some iv, some (.int (i : Int)), c10, c11] H := by
  unfold wsN at hlen
  have hat : atI ds (i : Int) = some (.tuple [a, b]) := atI_nat hd
  have hx : ∀ (R : V → Hp → Prop), (∀ u, Dp K H u (bxD it.1) → R u H) →
      tIf (tTest (tOp rEq (tVar 7) (tC (V.str "leaf")))) (tOp (rIxT K) (tOp (rIxT K) (tVar 8) (tVar 9)) (tC (V.int 1))) (tOp (rIxT K) (tOp (rIxT K) (tVar 8) (tVar 9)) (tC (V.int 0))) [some v0, some v1, some (.ref fA), some (.ref lA), some (.int ((S.looked : Int) + 1)), some (.ref wA), some pv, some (.str z), some iv, some (.int (i : Int)), c10, c11] H R := by
    intro R hR
    rcases hit with ⟨rfl, n, rfl, rfl, _⟩ | ⟨hz, s, rfl, rfl, _⟩
    · wtm_at "go"
      refine i_ixT hi (Ex.refl _) hat (fun xu hxu => ?_)
      wtm_at "go"
      exact hR _ (by assumption)
    · wtm_at "go"
      refine i_eqSF hz ?_
      wtm_at "go"
      refine i_ixT hi (Ex.refl _) hat (fun xu hxu => ?_)
      wtm_at "go"
      exact hR _ (by assumption)
  refine i_seq (i_asg (i_op (i_var rfl (i_c (i_I0 (i_nameN rfl ?_))))))
  dsimp only [List.set_cons_zero, List.set_cons_succ]
  refine i_seq (i_asg (hx _ fun u hu => ?_))
  wtm_at "go"
  have ek : (S.looked : Int) + 1 = ((S.looked + 1 : Nat) : Int) := by omega
  rw [ek]
  · rename_i hz
    obtain ⟨x, ha⟩ : ∃ x, apart it.1 w = some x := by
      cases h : apart it.1 w with
      | none => exact absurd (by rw [h]; rfl) hz
      | some x => exact ⟨x, rfl⟩
    have hw' : wdV (apart it.1 w) = .str (Str.ofString x) := by rw [ha]; rfl
    rw [hw']
    · refine i_bmA ?_
      wtm_at "go"
      refine L.ty (i := 1) rfl ?_
      wtm_at "go"
      rename_i np nH nhe nhp
      refine i_catAD (dpMono nhe hp) (.tup (Evl.st_of nhp) (.cons (.int _) .nil)) (by rw [List.length_map, List.length_singleton]; omega) (fun y H5 e5 hy => ?_)
      rw [← plD_snoc] at hy
      wtm_at "go"
      rename_i np2 nH2 nhe2 nhp2
      have e0 := (nhe.trans e5).trans nhe2
      refine (L.up e0).append (i := 1) (d := lefL (pl ++ [i], x)) rfl (.tup (Evl.st_of nhp2) (.cons (dpMono nhe2 hy) (.cons (.str _) .nil))) (noL_lefL _) (by rw [List.length_map]; omega) (fun H6 L6 hk => ?_)
      wtm_at "go"
      have eS : stepI w pl i it S = ⟨S.found, S.left ++ [(pl ++ [i], x)], S.looked + 1, S.waits⟩ := by
        unfold stepI
        rw [ha]
      refine q H6 _ _ ?_ fun hn h => hk hn (dpMono e0 h)
      rw [eS]
      unfold wlw
      rw [List.map_append]
      exact L6
  · rename_i hz
    have ha : apart it.1 w = none := by
      cases h : apart it.1 w with
      | none => rfl
      | some x =>
        rw [h] at hz
        cases hz
    rcases hit with ⟨hz, n, e1, e2', e3'⟩ | ⟨hz, s, e1, e2', e3'⟩
    · subst hz e1
      wtm_at "go"
      refine i_bmA ?_
      wtm_at "go"
      refine L.ty (i := 2) rfl ?_
      wtm_at "go"
      refine i_ixT hi (Ex.refl _) hat (fun xu hxu => ?_)
      wtm_at "go"
      refine L.append (i := 2) (d := .int n) rfl (.int _) rfl (by rw [List.length_map]; omega) (fun H6 L6 hk => ?_)
      wtm_at "go"
      have eS : stepI w pl i it S = ⟨S.found ++ [n], S.left, S.looked + 1, S.waits⟩ := by
        unfold stepI
        rw [ha, e3']
      refine q H6 _ _ ?_ fun hn h => hk hn h
      rw [eS]
      unfold wlw
      rw [List.map_append]
      exact L6
    · subst e2'
      wtm_at "go"
      refine i_eqSF hz ?_
      wtm_at "go"
      refine i_bmA ?_
      wtm_at "go"
      refine L.ty (i := 0) rfl ?_
      wtm_at "go"
      rename_i np nH nhe nhp
      refine i_catAD (dpMono nhe hp) (.tup (Evl.st_of nhp) (.cons (.int _) .nil)) (by rw [List.length_map, List.length_singleton]; omega) (fun y H5 e5 hy => ?_)
      rw [← plD_snoc] at hy
      have e05 := nhe.trans e5
      wtm_at "go"
      refine i_ixT (dpMono e05 hi) (Ex.refl _) hat (fun xu hxu => ?_)
      wtm_at "go"
      rename_i xu2 hxu2 np2 nH2 nhe2 nhp2
      have e0 := e05.trans nhe2
      refine (L.up e0).append (i := 0) (d := watD (pl ++ [i], s)) rfl (.tup (Evl.st_of nhp2) (.cons (dpMono nhe2 hy) (.cons (dpMono nhe2 hxu2) .nil))) (noL_wat _) (by rw [List.length_map]; omega) (fun H6 L6 hk => ?_)
      wtm_at "go"
      have eS : stepI w pl i it S = ⟨S.found, S.left, S.looked + 1, S.waits ++ [(pl ++ [i], s)]⟩ := by
        unfold stepI
        rw [ha, e3']
      refine q H6 _ _ ?_ fun hn h => hk hn (dpMono e0 h)
      rw [eS]
      unfold wlw
      rw [List.map_append]
      exact L6
end
end Wb

namespace Wb
open PySem PySem.Spec PyProof.Rows L2 StX
open Evl (Ex Ex.refl Ex.trans Ex.new)
local macro_rules | `(tactic| wtm_at "dp") => `(tactic| first | with_reducible assumption | with_reducible exact Dp.int _ | with_reducible exact Dp.bl _ | with_reducible exact Dp.str _ | with_reducible exact Dp.non | ((with_reducible refine' dpMono ?dme (by with_reducible assumption)); (case dme => wtm_at "ex")) | ((with_reducible refine' Dp.tup (Evl.st_of ?dph) ?dpa); (case dph => wtm_at "hs"); (case dpa => wtm_at "dpa")) | ((with_reducible refine' Dp.lst (Evl.sq_of ?dph) ?dpa); (case dph => wtm_at "hs"); (case dpa => wtm_at "dpa")))
local macro_rules | `(tactic| wtm_at "dpa") => `(tactic| first | with_reducible exact DpAll.nil | ((with_reducible refine' DpAll.cons ?dp1 ?dp2); (case dp1 => wtm_at "dp"); (case dp2 => wtm_at "dpa")) | with_reducible assumption | ((with_reducible refine' dpMonoA ?dme (by with_reducible assumption)); (case dme => wtm_at "ex")))
local macro_rules | `(tactic| wtm_at "sz") => `(tactic| first | with_reducible assumption | ((with_reducible refine' sz_mul ?sz1 ?sz2); (case sz1 => wtm_at "sz"); (case sz2 => wtm_at "sz")) | ((with_reducible refine' sz_add ?sz1 ?sz2); (case sz1 => wtm_at "sz"); (case sz2 => wtm_at "sz")) | ((with_reducible refine' sz_sub ?sz1 ?sz2); (case sz1 => wtm_at "sz"); (case sz2 => wtm_at "sz")) | ((with_reducible refine' sz_neg ?sz1); (case sz1 => wtm_at "sz")) | ((with_reducible refine' sz_div ?sz1); (case sz1 => wtm_at "sz")) | ((with_reducible refine' sz_fdiv ?sz1); (case sz1 => wtm_at "sz")) | exact sz_lit (by decide) | wtm_at "sz2")
local macro_rules | `(tactic| wtm_at "szb") => `(tactic| first | with_reducible assumption | ((with_reducible refine' sz_mono ?szb1 ?szb2); (case szb1 => wtm_at "sz"); (case szb2 => decide)))
local macro_rules | `(tactic| wtm_at "nz") => `(tactic| first | assumption | decide | omega)
local macro_rules | `(tactic| wtm_at "shaped") => `(tactic| first | rfl | decide)
local macro_rules | `(tactic| wtm_at "sset") => `(tactic| ((dsimp only [L2.wipe, List.set, List.set_cons_zero, List.set_cons_succ]) <;> exact rfl))
local macro_rules | `(tactic| wtm_at "nrm") => `(tactic| dsimp only [L2.start, L2.wipe, List.set, List.append, List.map, List.map_cons, List.map_nil, List.length_cons, List.length_nil, Nat.reduceAdd, Nat.reduceSub, List.reduceReplicate, List.replicate, List.cons_append, List.nil_append, List.set_cons_zero, List.set_cons_succ])
local macro_rules | `(tactic| wtm_at "st") => `(tactic| first
  | ((with_reducible refine' i_var (v := ?u0) ?u1 ?uq); (case u1 => exact rfl))
  | ((with_reducible refine' i_nameN ?u0 ?uq); (case u0 => wtm_at "sset"))
  | (with_reducible refine' i_op ?uq)
  | (with_reducible refine' i_c ?uq)
  | (with_reducible refine' i_I0 ?uq)
  | ((with_reducible refine' i_ixTI (i := ?u0) ?u1 ?u2 ?u3 ?uq); (case u1 => wtm_at "dp"); (case u2 => wtm_at "ex"); (case u3 => exact rfl))
  | ((with_reducible refine' i_ixT (d := ?u0) ?u1 ?u2 ?u3 (fun xu hxu => ?uq)); (case u1 => wtm_at "dp"); (case u2 => wtm_at "ex"); (case u3 => exact rfl))
  | ((with_reducible refine' i_mul ?u0 ?u1 ?u2 ?uq); (case u0 => wtm_at "sz"); (case u1 => wtm_at "sz"); (case u2 => first | decide | omega))
  | (with_reducible refine' i_seq ?uq)
  | (with_reducible refine' i_asg ?uq)
  | (with_reducible refine' i_ret ?uq)
  | (with_reducible refine' i_ifs ?uq)
  | (with_reducible refine' i_drop ?uq)
  | (with_reducible refine' i_next ?uq)
  | (with_reducible refine' i_cons ?uq)
  | (with_reducible refine' i_nil ?uq)
  | (with_reducible refine' i_cl ?uq)
  | (with_reducible refine' i_cb ?uq)
  | (with_reducible refine' i_tup ?uq)
  | (with_reducible refine' i_lst ?uq)
  | ((with_reducible refine' i_mkT ?u0 (fun np nH nhe nhp => ?uq)); (case u0 => exact Nat.le_of_ble_eq_true rfl))
  | (with_reducible refine' i_test ?uq)
  | (with_reducible refine' i_B ?uq)
  | (with_reducible refine' i_k ?uq)
  | (with_reducible refine' i_and ?uq)
  | (with_reducible refine' i_or ?uq)
  | (with_reducible refine' i_not ?uq)
  | (with_reducible refine' i_andV ?uq)
  | (with_reducible refine' i_orV ?uq)
  | (with_reducible refine' i_notV ?uq)
  | (with_reducible refine' i_if ?uq)
  | (with_reducible refine' i_un ?uq)
  | (with_reducible refine' i_U ?uq)
  | (with_reducible refine' i_iteT ?uq)
  | (with_reducible refine' i_iteF ?uq)
  | ((with_reducible refine' i_iteTr ?u0 ?uq); (case u0 => first | with_reducible rfl | decide | (simp only [dIsInt, dIsBool, dIsTup, dIsStr, dIsLst, Bool.not_true, Bool.not_false]; done)))
  | ((with_reducible refine' i_iteFr ?u0 ?uq); (case u0 => first | with_reducible rfl | decide | (simp only [dIsInt, dIsBool, dIsTup, dIsStr, dIsLst, Bool.not_true, Bool.not_false]; done)))
  | (with_reducible refine' i_ite (fun hif => ?uqa) (fun hif => ?uqb))
  | (with_reducible refine' i_iteN (fun hif => ?uqa) (fun hif => ?uqb))
  | (with_reducible refine' i_iteBN (fun hif => ?uqa) (fun hif => ?uqb))
  | (with_reducible refine' i_iteB (fun hif => ?uqa) (fun hif => ?uqb))
  | ((with_reducible refine' i_modN ?u0 ?uq); (case u0 => wtm_at "nz"))
  | ((with_reducible refine' i_fdX ?u0 ?u1 ?u2 ?uq); (case u0 => wtm_at "nz"); (case u1 => wtm_at "sz"); (case u2 => first | decide | omega))
  | ((with_reducible refine' i_pow ?u0 ?uq); (case u0 => exact ⟨by decide, by decide +kernel⟩))
  | (with_reducible refine' i_eqI ?uq)
  | (with_reducible refine' i_neI ?uq)
  | (with_reducible refine' i_gcd ?uq)
  | (with_reducible refine' i_qabs ?uq)
  | (with_reducible refine' i_qint ?uq)
  | (with_reducible refine' i_qintB ?uq)
  | (with_reducible refine' i_qmax2 ?uq)
  | (with_reducible refine' i_qmin2 ?uq)
  | (with_reducible refine' i_isB ?uq)
  | (with_reducible refine' i_notB ?uq)
  | (with_reducible refine' i_chain ?uq)
  | (with_reducible refine' i_qisN ?uq)
  | (with_reducible refine' i_qnotN ?uq)
  | (with_reducible refine' i_yes ?uq)
  | (with_reducible refine' i_par ?uq)
  | (with_reducible refine' i_par3 ?uq)
  | ((with_reducible refine' i_par2 ?u0 ?uq); (case u0 => wtm_at "sset"))
  | ((with_reducible refine' i_par33 ?u0 ?uq); (case u0 => wtm_at "sset"))
  | ((with_reducible refine' i_ixLI (i := ?u0) ?u1 ?u2 ?u3 ?uq); (case u1 => wtm_at "dp"); (case u2 => wtm_at "ex"); (case u3 => exact rfl))
  | ((with_reducible refine' i_ixL (d := ?u0) ?u1 ?u2 ?u3 (fun xu hxu => ?uq)); (case u1 => wtm_at "dp"); (case u2 => wtm_at "ex"); (case u3 => exact rfl))
  | ((with_reducible refine' i_qlenT ?u0 ?uq); (case u0 => wtm_at "dp"))
  | ((with_reducible refine' i_qlenL ?u0 ?uq); (case u0 => wtm_at "dp"))
  | ((with_reducible refine' i_gtup ?u0 ?u1 ?u2 (fun gvs gdp => ?uq)); (case u0 => wtm_at "dp"); (case u1 => wtm_at "ex"); (case u2 => exact rfl))
  | ((with_reducible refine' i_glst ?u0 ?u1 ?u2 (fun gvs gdp => ?uq)); (case u0 => wtm_at "dp"); (case u1 => wtm_at "ex"); (case u2 => exact rfl))
  | ((with_reducible refine' i_gconsI ?u0 (fun gr gh => ?uq)); (case u0 => with_reducible assumption))
  | ((with_reducible refine' i_gconsA ?u0 (fun gv gr gh1 gh2 => ?uq)); (case u0 => with_reducible assumption))
  | ((with_reducible refine' i_gnilA ?u0 ?uq); (case u0 => with_reducible assumption))
  | ((with_reducible refine' i_isiI ?u0 ?uq); (case u0 => wtm_at "dp"))
  | ((with_reducible refine' i_isiB ?u0 ?uq); (case u0 => wtm_at "dp"))
  | ((with_reducible refine' i_isiT ?u0 ?uq); (case u0 => wtm_at "dp"))
  | ((with_reducible refine' i_isiS ?u0 ?uq); (case u0 => wtm_at "dp"))
  | ((with_reducible refine' i_isiL ?u0 ?uq); (case u0 => wtm_at "dp"))
  | ((with_reducible refine' i_eqD ?u0 ?u1 ?u2 ?u3 ?uq); (case u0 => wtm_at "dp"); (case u1 => wtm_at "dp"); (case u2 => wtm_at "shaped"); (case u3 => wtm_at "shaped"))
  | ((with_reducible refine' i_neD ?u0 ?u1 ?u2 ?u3 ?uq); (case u0 => wtm_at "dp"); (case u1 => wtm_at "dp"); (case u2 => wtm_at "shaped"); (case u3 => wtm_at "shaped"))
  | wtm_at "st2"
  | wtm_at "use")
local macro_rules | `(tactic| wtm_at "go") => `(tactic| repeat' (wtm_at "st"))
local macro_rules | `(tactic| wtm_at "go0") => `(tactic| ((try dsimp only [L2.cxOf, L2.Cx.nox, L2.Cx.wish, L2.Cx.tr, L2.Cx.blk]); (try wtm_at "nrm"); wtm_at "go"))
local macro_rules | `(tactic| wtm_at "fin") => `(tactic| ((try dsimp only); first | with_reducible assumption | assumption | ((with_reducible refine' Ret.use ?rur ?rue ?rud); (case rur => with_reducible assumption); (case rue => wtm_at "ex"); (case rud => wtm_at "dp"))))
local macro_rules | `(tactic| wtm_at "exh") => `(tactic| first | with_reducible assumption | with_reducible exact Ex.refl _ | with_reducible exact ex_hid | ((with_reducible refine' Ex.trans ?exe (by with_reducible assumption)); (case exe => wtm_at "exh")) | ((with_reducible refine' Ex.trans ?exe (hid_ex (by with_reducible assumption))); (case exe => wtm_at "exh")))
local macro_rules | `(tactic| wtm_at "ex") => `(tactic| first | with_reducible assumption | with_reducible exact Ex.refl _ | with_reducible exact ex_hid | ((with_reducible refine' Ex.trans ?exe (by with_reducible assumption)); (case exe => wtm_at "ex")) | ((with_reducible refine' Ex.trans ?exe (hid_ex (by with_reducible assumption))); (case exe => wtm_at "ex")) | ((with_reducible refine' Ex.trans ?exe ex_hid); (case exe => wtm_at "exh")))
local macro_rules | `(tactic| wtm_at "bag") => `(tactic| first | with_reducible assumption | ((with_reducible refine' Bag.mono ?bgm (by with_reducible assumption)); (case bgm => wtm_at "bag")))
local macro_rules | `(tactic| wtm_at "hs") => `(tactic| first | with_reducible assumption | ((with_reducible refine' hid_tup ?hb ?hp); (case hp => with_reducible assumption); (case hb => wtm_at "bag")) | ((with_reducible refine' hid_new ?hb ?hn ?hp); (case hp => with_reducible assumption); (case hn => with_reducible assumption); (case hb => wtm_at "bag")) | ((with_reducible refine' ex_at ?exe (by with_reducible assumption)); (case exe => wtm_at "ex")))
local macro_rules | `(tactic| wtm_at "st2") => `(tactic| first
  | ((with_reducible refine' i_mulC ?u0 ?uq); (case u0 => first | exact cmul_l (by decide) | exact cmul_r (by decide)))
  | ((with_reducible refine' i_ixLr (v := ?u0) ?u1 ?u2 ?uq); (case u1 => with_reducible assumption); (case u2 => exact rfl))
  | (with_reducible refine' i_sub ?uq)
  | ((with_reducible refine' i_mkL ?u0 (fun np nH nfr nhe nhp => ?uq)); (case u0 => exact Nat.le_of_ble_eq_true rfl))
  | ((with_reducible refine' i_setL (n := ?u0) ?u1 ?u2 (fun sH sh se => ?uq)); (case u1 => with_reducible assumption); (case u2 => exact rfl))
  | (with_reducible refine' i_sl ?uq)
  | (with_reducible refine' i_nopart ?uq)
  | (with_reducible refine' i_part ?uq)
  | (with_reducible refine' i_part1 ?uq))
local macro_rules | `(tactic| wtm_at "sz2") => `(tactic| ((with_reducible refine' sz_fmod ?sz1 ?sz2); (case sz1 => wtm_at "nz"); (case sz2 => wtm_at "sz")))
local macro_rules | `(tactic| wtm_at "stb") => `(tactic| first
  | ((with_reducible refine' i_mkTB ?u0 ?u1 (fun np nH nhe nhb nhp => ?uq)); (case u0 => exact Nat.le_of_ble_eq_true rfl); (case u1 => wtm_at "bag"))
  | ((with_reducible refine' i_mkLB ?u0 ?u1 (fun np nH nfr nhe nhb nhp => ?uq)); (case u0 => exact Nat.le_of_ble_eq_true rfl); (case u1 => wtm_at "bag"))
  | wtm_at "st")
local macro_rules | `(tactic| wtm_at "gob") => `(tactic| repeat' (wtm_at "stb"))
local macro_rules | `(tactic| wtm_at "gob0") => `(tactic| ((try dsimp only [L2.cxOf, L2.Cx.nox, L2.Cx.wish, L2.Cx.tr, L2.Cx.blk]); (try wtm_at "nrm"); wtm_at "gob"))
local macro_rules | `(tactic| wtm_at "st") => `(tactic| first | ((with_reducible refine' i_ixTS (z := ?u0) ?u1 ?u2 ?u3 ?uq); (case u1 => wtm_at "dp"); (case u2 => wtm_at "ex"); (case u3 => exact rfl)) | fail)
local macro_rules | `(tactic| wtm_at "st2") => `(tactic| first | ((with_reducible refine' i_eqST ?u0 ?uq); (case u0 => with_reducible rfl)) | ((with_reducible refine' i_eqSF ?u0 ?uq); (case u0 => decide +kernel)) | ((with_reducible refine' i_neST ?u0 ?uq); (case u0 => with_reducible rfl)) | ((with_reducible refine' i_neSF ?u0 ?uq); (case u0 => decide +kernel)) | fail)
section
variable {P : Program} {w : World} {K : PySem.W.Frag} {mg : Str → Option Value} {base : Heap} {H H' : Hp} {Q : VK} {E : XK} {v1 v2 v3 v4 v5 : V}
local macro_rules | `(tactic| wtm_at "use") => `(tactic| ((with_reducible refine' use__law_apart_word ?u0 ?u1 ?uq); (case u0 => wtm_at "dp"); (case u1 => wtm_at "dp")))
local macro_rules | `(tactic| wtm_at "st") => `(tactic| first | ((with_reducible refine' i_gtupR ?u0 ?u1 ?uq); (case u0 => with_reducible assumption); (case u1 => exact rfl)) | (with_reducible refine' i_gcons ?uq) | (with_reducible refine' i_gnil ?uq) | fail)
theorem dp_two {us : List V} {a b : PyData} (h : DpAll K H us [a, b]) : ∃ u v, us = [u, v] ∧ Dp K H u a ∧ Dp K H v b := by
  cases h with
  | cons h1 h2 => cases h2 with
    | cons h3 h4 =>
      cases h4
      exact ⟨_, _, rfl, h1, h3⟩
/-- as RetS, the law's own way of telling what is left out -/
def RetW (K : PySem.W.Frag) (w : Bx) (s : Fs) (H : Hp) (Q : VK) : Prop := ∀ (p : Addr) (H2 : Hp) (S : Ws) (fs : List Int) (ls : List (List Nat × String)) (fA lA : Addr), Ended w s S → fs.Perm S.found → fs.Pairwise (· ≤ ·) → ls.Perm S.left → ls.Pairwise (fun x y => HT.lexLt (plK y) (plK x) = false) → Ex H H2 →
  H2 p = some (.tup [.ref fA, .ref lA, .int (S.looked : Int)]) → Dp K H2 (.ref fA) (.list (fs.map PyData.int)) → Dp K H2 (.ref lA) (.list (ls.map lefL)) → Q (.ref p) H2
def sp__law_walked (K : PySem.W.Frag) : Sp := A2 fun v1 v2 H Q => ∃ (s : Fs) (w : Bx), Dp K H v1 (fsD s) ∧ Dp K H v2 (bxD w) ∧ Sm s.1 s.2 ∧ s.1 ≤ 3 ∧ Bok s.1 s.2 ∧ RetW K w s H Q
abbrev s__law_walked : Stmt := top 71
theorem sc__law_walked : FnScope ["_law_form", "_law_box", "_law_found", "_law_left", "_law_looked", "_law_waits", "_law_place_there", "_law_word", "_law_items", "_law_at", "_law_there", "_law_side"] ["_law_form", "_law_box"] (defScope s__law_walked) := ⟨rfl, rfl, rfl, by decide +kernel, rfl, by decide +kernel, by decide +kernel⟩
theorem ok__law_walked {f : Addr} {fd : FuncData} (F : FnP K "_law_walked" s__law_walked f fd) (g : G mg)  (c__law_apart_word : Cl P w K mg base 1 "_law_apart_word" (sp__law_apart_word K)) : FnOk P w K mg base CX0 3 f fd ["_law_form", "_law_box"] (sp__law_walked K) := by
  have nd := sc__law_walked.nd
  refine F.ok sc__law_walked (fun vs H Q E h => h.len) (fun cdv A outer s H vs Q E hr h => ?_)
  obtain ⟨v1, v2, rfl, h⟩ := h
  refine ⟨_, PSs.nox (pss_cons (ps_asg (pe_tup (pa_cons (pe_lst pa_nil) (pa_cons (pe_lst pa_nil) (pa_cons pe_int (pa_cons (pe_lst (pa_cons (pe_tup (pa_cons (pe_tup pa_nil) (pa_cons (pv 0) pa_nil))) pa_nil)) pa_nil))))) (pg_tup (n := 4) (by rfl) (pgs_cons (pg_name (i := 2) nd rfl (Or.inl rfl)) (pgs_cons (pg_name (i := 3) nd rfl (Or.inl rfl)) (pgs_cons (pg_name (i := 4) nd rfl (Or.inl rfl)) (pgs_cons (pg_name (i := 5) nd rfl (Or.inl rfl)) pgs_nil)))))) (pss_cons (ps_while PassesOwn.never (pt_cmpR (op_neD hr.units) (pv 5) (pe_lst pa_nil) (nomark _)) (pss_cons (ps_asg (pe_bm0 PySem.F.plainAttrs_list PySem.F.slot_list_pop PySem.F.type_list_pop mt_pop (pv 5) ) (pg_tup (n := 2) (by rfl) (pgs_cons (pg_name (i := 6) nd rfl (Or.inl rfl)) (pgs_cons (pg_tup (n := 2) (by rfl) (pgs_cons (pg_name (i := 7) nd rfl (Or.inl rfl)) (pgs_cons (pg_name (i := 8) nd rfl (Or.inl rfl)) pgs_nil))) pgs_nil)))) (pss_one (ps_for PassesOwn.never rfl (pi_range1 (by rfl) g.f_range (pa_cons (pe_callB call_qlen (by rfl) g.f_len boot_len (pa_cons (pv 8) pa_nil)) pa_nil)) (pg_name (i := 9) nd rfl (Or.inl rfl)) (pss_cons (ps_set (i := 4) nd rfl (Or.inl rfl) (pe_op op_add (pv 4) pe_int)) (pss_cons (ps_set (i := 10) nd rfl (Or.inl rfl) (pe_ifExp (pt_cmpR op_eq (pv 7) pe_str (nomark _)) (pe_ix ix_tup (pe_ix ix_tup (pv 8) (pv 9) (fun _ _ => rfl)) pe_int (fun _ _ => rfl)) (pe_ix ix_tup (pe_ix ix_tup (pv 8) (pv 9) (fun _ _ => rfl)) pe_int (fun _ _ => rfl)))) (pss_cons (ps_set (i := 11) nd rfl (Or.inl rfl) (pc c__law_apart_word hr (by first | decide | omega) (by rfl) (pa_cons (pv 10) (pa_cons (pv 1) pa_nil)))) (pss_one (ps_if (pt_cmpR op_qnotN (pv 11) pe_non (nomark _)) (pss_one (ps_expr (pe_bm PySem.F.plainAttrs_list PySem.F.slot_list_append PySem.F.type_list_append mt_append (pv 3) (pa_cons (pe_tup (pa_cons (pe_op op_catA (pv 6) (pe_tup (pa_cons (pv 9) pa_nil))) (pa_cons (pv 11) pa_nil))) pa_nil)))) (pss_one (ps_if (pt_cmpR op_eq (pv 7) pe_str (nomark _)) (pss_one (ps_expr (pe_bm PySem.F.plainAttrs_list PySem.F.slot_list_append PySem.F.type_list_append mt_append (pv 2) (pa_cons (pe_ix ix_tup (pe_ix ix_tup (pv 8) (pv 9) (fun _ _ => rfl)) pe_int (fun _ _ => rfl)) pa_nil)))) (pss_one (ps_expr (pe_bm PySem.F.plainAttrs_list PySem.F.slot_list_append PySem.F.type_list_append mt_append (pv 5) (pa_cons (pe_tup (pa_cons (pe_op op_catA (pv 6) (pe_tup (pa_cons (pv 9) pa_nil))) (pa_cons (pe_ix ix_tup (pe_ix ix_tup (pv 8) (pv 9) (fun _ _ => rfl)) pe_int (fun _ _ => rfl)) pa_nil))) pa_nil))))))))))))))) (pss_one (ps_ret (pe_tup (pa_cons (pe_callB (cr_sortedI) (by rfl) g.f_sorted boot_sorted (pa_cons (pv 2) pa_nil)) (pa_cons (pe_callB (cr_sortHT (hr.in1.in1).units0) (by rfl) g.f_sorted boot_sorted (pa_cons (pv 3) pa_nil)) (pa_cons (pv 4) pa_nil)))))))), ?_⟩
  obtain ⟨s, w, h1, h2, hs, h3, hb, q⟩ := h
  wtm_at "go0"
  rename_i fA H1 fn1 fe1 fp1 lA H2 ln2 le2 lp2 pA H4 pe4 pp4 uA H3 ue3 up3 wA H5 wn5 we5 wp5 tA H6 te6 tp6
  have La : Lsts K H [(lA, []), (fA, [])] H3 := ((((Lsts.nil (K := K) (G0 := H)).add fn1 fe1 fp1 .nil rfl).add ln2 le2 lp2 .nil rfl).up pe4).up ue3
  have L0 : Lsts K H (wlw wA lA fA (start0 s)) H6 := (La.add wn5 we5 wp5 (.cons (.tup (Evl.st_of (we5 _ _ up3)) (.cons (.tup (Evl.st_of (we5 _ _ (ue3 _ _ pp4))) .nil) (.cons (dpMono ((((fe1.trans le2).trans pe4).trans ue3).trans we5) h1) .nil))) .nil) (noLs_map watD noL_wat [([], s)])).up te6
  refine i_tw (fun μ σ' H' => ∃ (S : Ws) (n : Nat) (c6 c7 c8 c9 c10 c11 : Option V), σ' = [some v1, some v2, some (.ref fA), some (.ref lA), some (.int (S.looked : Int)), some (.ref wA), c6, c7, c8, c9, c10, c11] ∧ S = runN w (start0 s) n ∧ Lsts K H (wlw wA lA fA S) H' ∧ WOk S ∧ Short S ∧ sumW fsN S.waits = μ) (sumW fsN (start0 s).waits)
    ⟨start0 s, 0, _, _, _, _, _, _, rfl, rfl, L0, wok_start hs h3 hb, fun q hq => by rcases List.mem_singleton.mp hq with rfl; show 0 + s.1 ≤ 3; omega, rfl⟩ ?_
  rintro μ σ' H' ⟨S, n, c6, c7, c8, c9, c10, c11, rfl, hS, L, hW, hsh, rfl⟩
  wtm_at "go"
  rename_i np nH nfr nhe nhp
  have L1 := L.up nhe
  refine i_neD (L1.ref (i := 0) rfl) (.lst (Evl.sq_of nhp) .nil) (shp_wat fun q hq => (hW.sm q hq).2.1) rfl ?_
  rw [eqv_nil]
  wtm_at "go"
  · rename_i hne
    have hne' : S.waits ≠ [] := fun z => hne (by rw [z]; rfl)
    obtain ⟨F, Lf, c, W⟩ := S
    obtain ⟨r, qq, rfl⟩ : ∃ r q, W = r ++ [q] := ⟨W.dropLast, W.getLast hne', (List.dropLast_concat_getLast hne').symm⟩
    obtain ⟨pl, s'⟩ := qq
    have hstep : stepF w pl s' ⟨F, Lf, c, r⟩ = runN w (start0 s) (n + 1) := by
      show _ = stp w (runN w (start0 s) n)
      rw [← hS, stp_last]
    obtain ⟨ok1, ok2, ok3⟩ := wok_step (w := w) hW
    have hsh2 := short_step (w := w) hsh
    have hpl := hsh (pl, s') (List.mem_append_right _ List.mem_cons_self)
    refine ⟨fun σ2 G2 => ∃ μ', μ' < sumW fsN (r ++ [(pl, s')]) ∧ ∃ (S : Ws) (n : Nat) (c6 c7 c8 c9 c10 c11 : Option V), σ2 = [some v1, some v2, some (.ref fA), some (.ref lA), some (.int (S.looked : Int)), some (.ref wA), c6, c7, c8, c9, c10, c11] ∧ S = runN w (start0 s) n ∧ Lsts K H (wlw wA lA fA S) G2 ∧ WOk S ∧ Short S ∧ sumW fsN S.waits = μ', fun _ _ h => h, ?_⟩
    have L1' : Lsts K H [(wA, r.map watD ++ [watD (pl, s')]), (lA, Lf.map lefL), (fA, F.map PyData.int)] nH := by
      have := L1
      unfold wlw at this
      rw [List.map_append] at this
      exact this
    wtm_at "go"
    refine i_bm0 ?_
    wtm_at "go"
    refine L1'.ty (i := 0) rfl ?_
    refine L1'.pop (i := 0) rfl (fun y G hLG hy hk => ?_)
    have LG : Lsts K H (wlw wA lA fA ⟨F, Lf, c, r⟩) G := hLG
    obtain ⟨z, ds, ez, hdl, hit⟩ := items_eq s'
    have hfl := fitems_len s'
    have h4 : foSz s'.1 s'.2 ≤ 4 := by
      have h5 := (hW.sm (pl, s') (List.mem_append_right _ List.mem_cons_self)).1
      obtain ⟨k, t⟩ := s'
      cases k with
      | zero => exact h5
      | succ k => exact h5.1
    have hy : Dp K G y (.tuple [plD pl, .tuple [.str z, .tuple ds]]) := by
      rw [← ez]
      exact hy
    have hno : noL (.tuple ds) = true := by
      have := noL_fs s'
      rw [ez] at this
      have h2 := Bool.and_eq_true_iff.mp (show (noL (.str z) && (noL (.tuple ds) && true)) = true from this)
      exact (Bool.and_eq_true_iff.mp h2.2).1
    obtain ⟨ya, yus, rfl, ys1, ys2⟩ := dpTup hy
    obtain ⟨pv, yv, rfl, y1, y3⟩ := dp_two ys2
    obtain ⟨za, zus, rfl, zs1, zs2⟩ := dpTup y3
    obtain ⟨wv, iv, rfl, z1, z3⟩ := dp_two zs2
    cases dpStr z1
    refine ⟨ya, _, rfl, ys1, rfl, ?_⟩
    refine i_gcons (i_nameN rfl (i_gcons ⟨za, _, rfl, zs1, rfl, i_gcons (i_nameN rfl (i_gcons (i_nameN rfl (i_gnil (i_gnil ?_)))))⟩))
    dsimp only
    refine i_forRU ?_
    wtm_at "go"
    refine i_forRK (by omega) (fun i σ2 G2 => ∃ (c9 c10 c11 : Option V), σ2 = [some v1, some v2, some (.ref fA), some (.ref lA), some (.int ((stepT w pl (fitems s') ⟨F, Lf, c, r⟩ i).looked : Int)), some (.ref wA), some pv, some (.str z), some iv, c9, c10, c11] ∧ Lsts K H (wlw wA lA fA (stepT w pl (fitems s') ⟨F, Lf, c, r⟩ i)) G2 ∧ Dp K G2 pv (plD pl) ∧ Dp K G2 iv (.tuple ds))
      ⟨_, _, _, rfl, LG, y1, z3⟩ (fun i σ2 G2 hi p => ?_) (fun σ2 G2 p => ?_)
    · obtain ⟨c9, c10, c11, rfl, LT, p1, p2⟩ := p
      have hi' : i < ds.length := by omega
      obtain ⟨it, aa, bb, hi1, hd9, hi2⟩ := hit i _ (List.getElem?_eq_getElem hi')
      have hd1 : ds[i]? = some (.tuple [aa, bb]) := by rw [List.getElem?_eq_getElem hi', hd9]
      have hok := ok3 i (by omega)
      wtm_at "nrm"
      refine walk_turn LT p1 p2 hd1 (dpMono LT.ex h2) hi2 (by omega) (by have : pl.length + s'.1 ≤ 3 := hpl; omega) (fun H8 c10 c11 L8 hk8 => ?_)
      refine ⟨some (.int (i : Int)), c10, c11, ?_, ?_, hk8 (noL_pl pl) p1, hk8 hno p2⟩
      · rw [stepT_at hi1, stepI_looked]
      · rw [stepT_at hi1]
        exact L8
    · obtain ⟨c9, c10, c11, rfl, LT, p1, p2⟩ := p
      rw [show ((ds.length : Int)).toNat = (fitems s').length by omega] at LT ⊢
      exact ⟨_, ok2, _, n + 1, _, _, _, _, _, _, rfl, hstep, LT, ok1, hsh2, rfl⟩
  · rename_i hz
    have hz' : S.waits = [] := List.map_eq_nil_iff.mp hz
    have hE : Ended w s S := ⟨hz', n, hS⟩
    wtm_at "go"
    refine i_sortI (xs := S.found) (L1.ref (i := 2) rfl) (fun p7 H7 fs7 f1 f2 n7 e7 h7 => ?_)
    wtm_at "go"
    refine i_sortH (enc := lefL) (key := plK) (xs := S.left) ((L1.up e7).ref (i := 1) rfl) (fun x _ u hu => head_lef (r := fun q => [.str (Str.ofString q.2)]) (fun _ => rfl) x u hu) (nodup_key (ended_nodup hE)) (fun p8 H8 ls l1 l2 n8 e8 h8 => ?_)
    wtm_at "go"
    rename_i p9 H9 e9 h9
    exact q p9 H9 S fs7 ls p7 p8 hE f1 f2 l1 l2 (L1.ex.trans ((e7.trans e8).trans e9)) h9 (dpMono (e8.trans e9) h7) (dpMono e9 h8)
theorem use__law_walked {s : Fs} {w : Bx} (h1 : Dp K H v1 (fsD s)) (h2 : Dp K H v2 (bxD w)) (hs : Sm s.1 s.2) (h3 : s.1 ≤ 3) (hb : Bok s.1 s.2) (q : RetW K w s H Q) : sp__law_walked K [v1, v2] H Q E := ⟨_, _, rfl, s, w, h1, h2, hs, h3, hb, q⟩
end
end Wb

namespace Wb
open PySem PySem.Spec PyProof.Rows L2 StX
open Evl (Ex Ex.refl Ex.trans Ex.new)
local macro_rules | `(tactic| wtm_at "dp") => `(tactic| first | with_reducible assumption | with_reducible exact Dp.int _ | with_reducible exact Dp.bl _ | with_reducible exact Dp.str _ | with_reducible exact Dp.non | ((with_reducible refine' dpMono ?dme (by with_reducible assumption)); (case dme => wtm_at "ex")) | ((with_reducible refine' Dp.tup (Evl.st_of ?dph) ?dpa); (case dph => wtm_at "hs"); (case dpa => wtm_at "dpa")) | ((with_reducible refine' Dp.lst (Evl.sq_of ?dph) ?dpa); (case dph => wtm_at "hs"); (case dpa => wtm_at "dpa")))
local macro_rules | `(tactic| wtm_at "dpa") => `(tactic| first | with_reducible exact DpAll.nil | ((with_reducible refine' DpAll.cons ?dp1 ?dp2); (case dp1 => wtm_at "dp"); (case dp2 => wtm_at "dpa")) | with_reducible assumption | ((with_reducible refine' dpMonoA ?dme (by with_reducible assumption)); (case dme => wtm_at "ex")))
local macro_rules | `(tactic| wtm_at "sz") => `(tactic| first | with_reducible assumption | ((with_reducible refine' sz_mul ?sz1 ?sz2); (case sz1 => wtm_at "sz"); (case sz2 => wtm_at "sz")) | ((with_reducible refine' sz_add ?sz1 ?sz2); (case sz1 => wtm_at "sz"); (case sz2 => wtm_at "sz")) | ((with_reducible refine' sz_sub ?sz1 ?sz2); (case sz1 => wtm_at "sz"); (case sz2 => wtm_at "sz")) | ((with_reducible refine' sz_neg ?sz1); (case sz1 => wtm_at "sz")) | ((with_reducible refine' sz_div ?sz1); (case sz1 => wtm_at "sz")) | ((with_reducible refine' sz_fdiv ?sz1); (case sz1 => wtm_at "sz")) | exact sz_lit (by decide) | wtm_at "sz2")
local macro_rules | `(tactic| wtm_at "szb") => `(tactic| first | with_reducible assumption | ((with_reducible refine' sz_mono ?szb1 ?szb2); (case szb1 => wtm_at "sz"); (case szb2 => decide)))
local macro_rules | `(tactic| wtm_at "nz") => `(tactic| first | assumption | decide | omega)
local macro_rules | `(tactic| wtm_at "shaped") => `(tactic| first | rfl | decide)
local macro_rules | `(tactic| wtm_at "sset") => `(tactic| ((dsimp only [L2.wipe, List.set, List.set_cons_zero, List.set_cons_succ]) <;> exact rfl))
local macro_rules | `(tactic| wtm_at "nrm") => `(tactic| dsimp only [L2.start, L2.wipe, List.set, List.append, List.map, List.map_cons, List.map_nil, List.length_cons, List.length_nil, Nat.reduceAdd, Nat.reduceSub, List.reduceReplicate, List.replicate, List.cons_append, List.nil_append, List.set_cons_zero, List.set_cons_succ])
local macro_rules | `(tactic| wtm_at "st") => `(tactic| first
  | ((with_reducible refine' i_var (v := ?u0) ?u1 ?uq); (case u1 => exact rfl))
  | ((with_reducible refine' i_nameN ?u0 ?uq); (case u0 => wtm_at "sset"))
  | (with_reducible refine' i_op ?uq)
  | (with_reducible refine' i_c ?uq)
  | (with_reducible refine' i_I0 ?uq)
  | ((with_reducible refine' i_ixTI (i := ?u0) ?u1 ?u2 ?u3 ?uq); (case u1 => wtm_at "dp"); (case u2 => wtm_at "ex"); (case u3 => exact rfl))
  | ((with_reducible refine' i_ixT (d := ?u0) ?u1 ?u2 ?u3 (fun xu hxu => ?uq)); (case u1 => wtm_at "dp"); (case u2 => wtm_at "ex"); (case u3 => exact rfl))
  | ((with_reducible refine' i_mul ?u0 ?u1 ?u2 ?uq); (case u0 => wtm_at "sz"); (case u1 => wtm_at "sz"); (case u2 => first | decide | omega))
  | (with_reducible refine' i_seq ?uq)
  | (with_reducible refine' i_asg ?uq)
  | (with_reducible refine' i_ret ?uq)
  | (with_reducible refine' i_ifs ?uq)
  | (with_reducible refine' i_drop ?uq)
  | (with_reducible refine' i_next ?uq)
  | (with_reducible refine' i_cons ?uq)
  | (with_reducible refine' i_nil ?uq)
  | (with_reducible refine' i_cl ?uq)
  | (with_reducible refine' i_cb ?uq)
  | (with_reducible refine' i_tup ?uq)
  | (with_reducible refine' i_lst ?uq)
  | ((with_reducible refine' i_mkT ?u0 (fun np nH nhe nhp => ?uq)); (case u0 => exact Nat.le_of_ble_eq_true rfl))
  | (with_reducible refine' i_test ?uq)
  | (with_reducible refine' i_B ?uq)
  | (with_reducible refine' i_k ?uq)
  | (with_reducible refine' i_and ?uq)
  | (with_reducible refine' i_or ?uq)
  | (with_reducible refine' i_not ?uq)
  | (with_reducible refine' i_andV ?uq)
  | (with_reducible refine' i_orV ?uq)
  | (with_reducible refine' i_notV ?uq)
  | (with_reducible refine' i_if ?uq)
  | (with_reducible refine' i_un ?uq)
  | (with_reducible refine' i_U ?uq)
  | (with_reducible refine' i_iteT ?uq)
  | (with_reducible refine' i_iteF ?uq)
  | ((with_reducible refine' i_iteTr ?u0 ?uq); (case u0 => first | with_reducible rfl | decide | (simp only [dIsInt, dIsBool, dIsTup, dIsStr, dIsLst, Bool.not_true, Bool.not_false]; done)))
  | ((with_reducible refine' i_iteFr ?u0 ?uq); (case u0 => first | with_reducible rfl | decide | (simp only [dIsInt, dIsBool, dIsTup, dIsStr, dIsLst, Bool.not_true, Bool.not_false]; done)))
  | (with_reducible refine' i_ite (fun hif => ?uqa) (fun hif => ?uqb))
  | (with_reducible refine' i_iteN (fun hif => ?uqa) (fun hif => ?uqb))
  | (with_reducible refine' i_iteBN (fun hif => ?uqa) (fun hif => ?uqb))
  | (with_reducible refine' i_iteB (fun hif => ?uqa) (fun hif => ?uqb))
  | ((with_reducible refine' i_modN ?u0 ?uq); (case u0 => wtm_at "nz"))
  | ((with_reducible refine' i_fdX ?u0 ?u1 ?u2 ?uq); (case u0 => wtm_at "nz"); (case u1 => wtm_at "sz"); (case u2 => first | decide | omega))
  | ((with_reducible refine' i_pow ?u0 ?uq); (case u0 => exact ⟨by decide, by decide +kernel⟩))
  | (with_reducible refine' i_eqI ?uq)
  | (with_reducible refine' i_neI ?uq)
  | (with_reducible refine' i_gcd ?uq)
  | (with_reducible refine' i_qabs ?uq)
  | (with_reducible refine' i_qint ?uq)
  | (with_reducible refine' i_qintB ?uq)
  | (with_reducible refine' i_qmax2 ?uq)
  | (with_reducible refine' i_qmin2 ?uq)
  | (with_reducible refine' i_isB ?uq)
  | (with_reducible refine' i_notB ?uq)
  | (with_reducible refine' i_chain ?uq)
  | (with_reducible refine' i_qisN ?uq)
  | (with_reducible refine' i_qnotN ?uq)
  | (with_reducible refine' i_yes ?uq)
  | (with_reducible refine' i_par ?uq)
  | (with_reducible refine' i_par3 ?uq)
  | ((with_reducible refine' i_par2 ?u0 ?uq); (case u0 => wtm_at "sset"))
  | ((with_reducible refine' i_par33 ?u0 ?uq); (case u0 => wtm_at "sset"))
  | ((with_reducible refine' i_ixLI (i := ?u0) ?u1 ?u2 ?u3 ?uq); (case u1 => wtm_at "dp"); (case u2 => wtm_at "ex"); (case u3 => exact rfl))
  | ((with_reducible refine' i_ixL (d := ?u0) ?u1 ?u2 ?u3 (fun xu hxu => ?uq)); (case u1 => wtm_at "dp"); (case u2 => wtm_at "ex"); (case u3 => exact rfl))
  | ((with_reducible refine' i_qlenT ?u0 ?uq); (case u0 => wtm_at "dp"))
  | ((with_reducible refine' i_qlenL ?u0 ?uq); (case u0 => wtm_at "dp"))
  | ((with_reducible refine' i_gtup ?u0 ?u1 ?u2 (fun gvs gdp => ?uq)); (case u0 => wtm_at "dp"); (case u1 => wtm_at "ex"); (case u2 => exact rfl))
  | ((with_reducible refine' i_glst ?u0 ?u1 ?u2 (fun gvs gdp => ?uq)); (case u0 => wtm_at "dp"); (case u1 => wtm_at "ex"); (case u2 => exact rfl))
  | ((with_reducible refine' i_gconsI ?u0 (fun gr gh => ?uq)); (case u0 => with_reducible assumption))
  | ((with_reducible refine' i_gconsA ?u0 (fun gv gr gh1 gh2 => ?uq)); (case u0 => with_reducible assumption))
  | ((with_reducible refine' i_gnilA ?u0 ?uq); (case u0 => with_reducible assumption))
  | ((with_reducible refine' i_isiI ?u0 ?uq); (case u0 => wtm_at "dp"))
  | ((with_reducible refine' i_isiB ?u0 ?uq); (case u0 => wtm_at "dp"))
  | ((with_reducible refine' i_isiT ?u0 ?uq); (case u0 => wtm_at "dp"))
  | ((with_reducible refine' i_isiS ?u0 ?uq); (case u0 => wtm_at "dp"))
  | ((with_reducible refine' i_isiL ?u0 ?uq); (case u0 => wtm_at "dp"))
  | ((with_reducible refine' i_eqD ?u0 ?u1 ?u2 ?u3 ?uq); (case u0 => wtm_at "dp"); (case u1 => wtm_at "dp"); (case u2 => wtm_at "shaped"); (case u3 => wtm_at "shaped"))
  | ((with_reducible refine' i_neD ?u0 ?u1 ?u2 ?u3 ?uq); (case u0 => wtm_at "dp"); (case u1 => wtm_at "dp"); (case u2 => wtm_at "shaped"); (case u3 => wtm_at "shaped"))
  | wtm_at "st2"
  | wtm_at "use")
local macro_rules | `(tactic| wtm_at "go") => `(tactic| repeat' (wtm_at "st"))
local macro_rules | `(tactic| wtm_at "go0") => `(tactic| ((try dsimp only [L2.cxOf, L2.Cx.nox, L2.Cx.wish, L2.Cx.tr, L2.Cx.blk]); (try wtm_at "nrm"); wtm_at "go"))
local macro_rules | `(tactic| wtm_at "fin") => `(tactic| ((try dsimp only); first | with_reducible assumption | assumption | ((with_reducible refine' Ret.use ?rur ?rue ?rud); (case rur => with_reducible assumption); (case rue => wtm_at "ex"); (case rud => wtm_at "dp"))))
local macro_rules | `(tactic| wtm_at "exh") => `(tactic| first | with_reducible assumption | with_reducible exact Ex.refl _ | with_reducible exact ex_hid | ((with_reducible refine' Ex.trans ?exe (by with_reducible assumption)); (case exe => wtm_at "exh")) | ((with_reducible refine' Ex.trans ?exe (hid_ex (by with_reducible assumption))); (case exe => wtm_at "exh")))
local macro_rules | `(tactic| wtm_at "ex") => `(tactic| first | with_reducible assumption | with_reducible exact Ex.refl _ | with_reducible exact ex_hid | ((with_reducible refine' Ex.trans ?exe (by with_reducible assumption)); (case exe => wtm_at "ex")) | ((with_reducible refine' Ex.trans ?exe (hid_ex (by with_reducible assumption))); (case exe => wtm_at "ex")) | ((with_reducible refine' Ex.trans ?exe ex_hid); (case exe => wtm_at "exh")))
local macro_rules | `(tactic| wtm_at "bag") => `(tactic| first | with_reducible assumption | ((with_reducible refine' Bag.mono ?bgm (by with_reducible assumption)); (case bgm => wtm_at "bag")))
local macro_rules | `(tactic| wtm_at "hs") => `(tactic| first | with_reducible assumption | ((with_reducible refine' hid_tup ?hb ?hp); (case hp => with_reducible assumption); (case hb => wtm_at "bag")) | ((with_reducible refine' hid_new ?hb ?hn ?hp); (case hp => with_reducible assumption); (case hn => with_reducible assumption); (case hb => wtm_at "bag")) | ((with_reducible refine' ex_at ?exe (by with_reducible assumption)); (case exe => wtm_at "ex")))
local macro_rules | `(tactic| wtm_at "st2") => `(tactic| first
  | ((with_reducible refine' i_mulC ?u0 ?uq); (case u0 => first | exact cmul_l (by decide) | exact cmul_r (by decide)))
  | ((with_reducible refine' i_ixLr (v := ?u0) ?u1 ?u2 ?uq); (case u1 => with_reducible assumption); (case u2 => exact rfl))
  | (with_reducible refine' i_sub ?uq)
  | ((with_reducible refine' i_mkL ?u0 (fun np nH nfr nhe nhp => ?uq)); (case u0 => exact Nat.le_of_ble_eq_true rfl))
  | ((with_reducible refine' i_setL (n := ?u0) ?u1 ?u2 (fun sH sh se => ?uq)); (case u1 => with_reducible assumption); (case u2 => exact rfl))
  | (with_reducible refine' i_sl ?uq)
  | (with_reducible refine' i_nopart ?uq)
  | (with_reducible refine' i_part ?uq)
  | (with_reducible refine' i_part1 ?uq))
local macro_rules | `(tactic| wtm_at "sz2") => `(tactic| ((with_reducible refine' sz_fmod ?sz1 ?sz2); (case sz1 => wtm_at "nz"); (case sz2 => wtm_at "sz")))
local macro_rules | `(tactic| wtm_at "stb") => `(tactic| first
  | ((with_reducible refine' i_mkTB ?u0 ?u1 (fun np nH nhe nhb nhp => ?uq)); (case u0 => exact Nat.le_of_ble_eq_true rfl); (case u1 => wtm_at "bag"))
  | ((with_reducible refine' i_mkLB ?u0 ?u1 (fun np nH nfr nhe nhb nhp => ?uq)); (case u0 => exact Nat.le_of_ble_eq_true rfl); (case u1 => wtm_at "bag"))
  | wtm_at "st")
local macro_rules | `(tactic| wtm_at "gob") => `(tactic| repeat' (wtm_at "stb"))
local macro_rules | `(tactic| wtm_at "gob0") => `(tactic| ((try dsimp only [L2.cxOf, L2.Cx.nox, L2.Cx.wish, L2.Cx.tr, L2.Cx.blk]); (try wtm_at "nrm"); wtm_at "gob"))
local macro_rules | `(tactic| wtm_at "st") => `(tactic| first | ((with_reducible refine' i_ixTS (z := ?u0) ?u1 ?u2 ?u3 ?uq); (case u1 => wtm_at "dp"); (case u2 => wtm_at "ex"); (case u3 => exact rfl)) | fail)
local macro_rules | `(tactic| wtm_at "st2") => `(tactic| first | ((with_reducible refine' i_eqST ?u0 ?uq); (case u0 => with_reducible rfl)) | ((with_reducible refine' i_eqSF ?u0 ?uq); (case u0 => decide +kernel)) | ((with_reducible refine' i_neST ?u0 ?uq); (case u0 => with_reducible rfl)) | ((with_reducible refine' i_neSF ?u0 ?uq); (case u0 => decide +kernel)) | fail)
section
variable {P : Program} {w : World} {K : PySem.W.Frag} {mg : Str → Option Value} {base : Heap} {H H' : Hp} {Q : VK} {E : XK} {v1 v2 v3 v4 v5 : V}
local macro_rules | `(tactic| wtm_at "use") => `(tactic| ((with_reducible refine' use__law_apart_word ?u0 ?u1 ?uq); (case u0 => wtm_at "dp"); (case u1 => wtm_at "dp")))
theorem atF_app : ∀ (s : Fs) (p q : List Nat), atF s (p ++ q) = (atF s p).bind fun s' => atF s' q
  | s, [], q => rfl
  | s, i :: p, q => by
    show (child s i).bind (fun s' => atF s' (p ++ q)) = ((child s i).bind fun s' => atF s' p).bind fun s' => atF s' q
    cases child s i with
    | none => rfl
    | some s' => exact atF_app s' p q
theorem child_ok {s s' : Fs} {i : Nat} (h : child s i = some s') (hs : Sm s.1 s.2) : Sm s'.1 s'.2 ∧ s'.1 < s.1 := by
  obtain ⟨k, t⟩ := s
  cases k with
  | zero => cases h
  | succ k =>
    obtain ⟨p, hp, rfl⟩ := Option.map_eq_some_iff.mp (show (foB t)[i]?.map (fun p => (⟨k, p.2⟩ : Fs)) = some s' from h)
    exact ⟨hs.2 p (List.mem_of_getElem? hp), Nat.lt_succ_self k⟩
theorem atF_ok : ∀ {s s' : Fs} {p : List Nat}, atF s p = some s' → Sm s.1 s.2 → Sm s'.1 s'.2 ∧ s'.1 ≤ s.1
  | s, s', [], h, hs => by
    cases h
    exact ⟨hs, Nat.le_refl _⟩
  | s, s', i :: p, h, hs => by
    obtain ⟨s2, h1, h2⟩ := Option.bind_eq_some_iff.mp (show (child s i).bind (fun s' => atF s' p) = some s' from h)
    obtain ⟨g1, g2⟩ := child_ok h1 hs
    obtain ⟨g3, g4⟩ := atF_ok h2 g1
    exact ⟨g3, by omega⟩
theorem child_inv {s s' : Fs} {i : Nat} (h : child s i = some s') : ∃ b, (fitems s)[i]? = some (b, .inr s') := by
  obtain ⟨k, t⟩ := s
  cases k with
  | zero => cases h
  | succ k =>
    obtain ⟨p, hp, rfl⟩ := Option.map_eq_some_iff.mp (show (foB t)[i]?.map (fun p => (⟨k, p.2⟩ : Fs)) = some s' from h)
    refine ⟨p.1, ?_⟩
    show ((foB t).map _)[i]? = _
    rw [List.getElem?_map, hp]
    rfl
theorem i_slInit {v : V} {ds : List PyData} {d : PyData} (h : Dp K H v (.tuple (ds ++ [d]))) (q : ∀ p H2, Ex H H2 → Dp K H2 (.ref p) (.tuple ds) → Q (.ref p) H2) : rSlA K v none (some (-1)) H Q := by
  obtain ⟨a, us, rfl, hs, ha⟩ := dpTup h
  obtain ⟨ws, y, rfl, h3, h4⟩ := dpSplit ha
  have e1 : HT.sIx (ws ++ [y]).length (ws ++ [y]).length (some (-1)) = ws.length := by
    show (if (-1 : Int) < 0 then ((-1 : Int) + ((ws ++ [y]).length : Int)).toNat else min (-1 : Int).toNat (ws ++ [y]).length) = _
    rw [if_pos (by decide), List.length_append, List.length_singleton]
    omega
  refine ⟨a, _, rfl, hs, fun z => ?_, fun _ p hp => ?_⟩
  · rw [e1, List.length_append, List.length_singleton] at z
    omega
  · have e2 : cutV (ws ++ [y]) none (some (-1)) = ws := by
      unfold cutV
      rw [e1, HT.sIx_none, List.drop_zero, Nat.sub_zero, List.take_left]
    rw [e2]
    exact q p _ (ex_upd hp) (.tup (.inl (.inl upd_same)) (dpMonoA (ex_upd hp) h3))
def sp__law_numbers_at (K : PySem.W.Frag) : Sp := A2 fun v1 v2 H Q => ∃ (s0 s : Fs) (pl : List Nat) (i : Nat), Dp K H v1 (fsD s0) ∧ Dp K H v2 (plD (pl ++ [i])) ∧ atF s0 pl = some s ∧ i < (fitems s).length ∧ Sm s0.1 s0.2 ∧ s0.1 ≤ 3 ∧ pl.length ≤ 100 ∧ ∀ ns : List Int, ns.Perm (numsAt s0 (pl ++ [i])) → ∀ p H2 zs, H p = none → Ex H H2 → H2 p = some (.lst zs) → DpAll K H2 zs (ns.map PyData.int) → Q (.ref p) H2
abbrev s__law_numbers_at : Stmt := top 72
theorem sc__law_numbers_at : FnScope ["_law_form", "_law_place_there", "_law_here", "_law_at", "_law_item", "_law_number", "_law_box"] ["_law_form", "_law_place_there"] (defScope s__law_numbers_at) := ⟨rfl, rfl, rfl, by decide +kernel, rfl, by decide +kernel, by decide +kernel⟩
theorem ok__law_numbers_at {f : Addr} {fd : FuncData} (F : FnP K "_law_numbers_at" s__law_numbers_at f fd) (g : G mg)  (c__law_entries_in : Cl P w K mg base 1 "_law_entries_in" (sp__law_entries_in K)) : FnOk P w K mg base CX0 2 f fd ["_law_form", "_law_place_there"] (sp__law_numbers_at K) := by
  have nd := sc__law_numbers_at.nd
  refine F.ok sc__law_numbers_at (fun vs H Q E h => h.len) (fun cdv A outer s H vs Q E hr h => ?_)
  obtain ⟨v1, v2, rfl, h⟩ := h
  refine ⟨_, PSs.nox (pss_cons (ps_set (i := 2) nd rfl (Or.inl rfl) (pv 0)) (pss_cons (ps_for PassesOwn.never rfl (pi_tup (pe_slice sl_tupA (pv 1) po_none (po_some (pe_un un_neg pe_int)))) (pg_name (i := 3) nd rfl (Or.inl rfl)) (pss_one (ps_set (i := 2) nd rfl (Or.inl rfl) (pe_ix ix_tup (pe_ix ix_tup (pe_ix ix_tup (pv 2) pe_int (fun _ _ => rfl)) (pv 3) (fun _ _ => rfl)) pe_int (fun _ _ => rfl))))) (pss_cons (ps_set (i := 4) nd rfl (Or.inl rfl) (pe_ix ix_tup (pe_ix ix_tup (pv 2) pe_int (fun _ _ => rfl)) (pe_ix ix_tup (pv 1) (pe_un un_neg pe_int) (fun _ _ => rfl)) (fun _ _ => rfl))) (pss_one (ps_ret (pe_ifExp (pt_cmpR op_eq (pe_ix ix_tup (pv 2) pe_int (fun _ _ => rfl)) pe_str (nomark _)) (pe_lst (pa_cons (pe_ix ix_tup (pv 4) pe_int (fun _ _ => rfl)) pa_nil)) (pe_lc (own := [("_law_number", 5), ("_law_box", 6)]) (g := _) (by rfl) nd (pi_list (pc c__law_entries_in hr (by first | decide | omega) (by rfl) (pa_cons (pe_ix ix_tup (pv 4) pe_int (fun _ _ => rfl)) pa_nil))) (blkOk_by (N := ["_law_form", "_law_place_there", "_law_here", "_law_at", "_law_item", "_law_number", "_law_box"]) (sc := defScope s__law_numbers_at) (own := [("_law_number", 5), ("_law_box", 6)]) (by decide +kernel)) (fun _ _ _ _ _ => (show PG _ _ (gTup K 2 _) from (pg_tup (by rfl) (pgs_cons (pg_name (i := 5) nd rfl (Or.inl rfl)) (pgs_cons (pg_name (i := 6) nd rfl (Or.inl rfl)) pgs_nil))))) (fun _ _ _ _ _ => pts_nil) (fun _ _ _ _ _ => (pv 5))))))))), ?_⟩
  obtain ⟨s0, s, pl, i, h1, h2, hp, hi, hs, h3, hpl, q⟩ := h
  have h1' := h1
  have h2' : Dp K H v2 (.tuple ((pl.map fun i : Nat => .int (i : Int)) ++ [.int (i : Int)])) := by
    rw [← plD_snoc]
    exact h2
  wtm_at "go0"
  refine i_forU ?_
  wtm_at "go"
  refine i_slInit h2' (fun p H2 e2 hp2 => ?_)
  obtain ⟨pa, xs, epa, hxs, hxa⟩ := dpTup hp2
  cases epa
  have exs : xs = (pl.map fun i : Nat => (i : Int)).map V.int := dpInts (by rw [List.map_map]; exact hxa)
  have hxl : xs.length = pl.length := by rw [exs, List.length_map, List.length_map]
  refine ⟨p, rfl, ⟨xs, hxs⟩, for_tup (xs := xs) (fun k σ' H' => ∃ (hv : V) (s' : Fs) (c3 : Option V), σ' = [some v1, some v2, some hv, c3, none, none, none] ∧ Ex H2 H' ∧ Dp K H' hv (fsD s') ∧ atF s0 (pl.take k) = some s') ⟨v1, s0, _, rfl, Ex.refl _, dpMono e2 h1, rfl⟩ (fun k σ' H' _ p => by obtain ⟨_, _, _, _, p, _⟩ := p; exact Evl.ex_t p hxs) (fun k x σ' H' hk pv => ?_) (fun σ' H' pv => ?_)⟩
  · obtain ⟨hv, s', c3, rfl, e3, hf, hat⟩ := pv
    have hkl : k < pl.length := by rw [← hxl]; exact (List.getElem?_eq_some_iff.mp hk).1
    have hx : x = .int ((pl[k] : Nat) : Int) := by
      rw [exs, List.getElem?_map, List.getElem?_map, List.getElem?_eq_getElem hkl] at hk
      exact (Option.some.inj hk).symm
    subst hx
    have hsp : pl = pl.take (k + 1) ++ pl.drop (k + 1) := (List.take_append_drop _ _).symm
    have hch : ∃ s2, child s' pl[k] = some s2 ∧ atF s0 (pl.take (k + 1)) = some s2 := by
      have h5 := hp
      rw [hsp, atF_app] at h5
      obtain ⟨s2, h6, h7⟩ := Option.bind_eq_some_iff.mp h5
      have ht : pl.take (k + 1) = pl.take k ++ [pl[k]] := by rw [List.take_add_one, List.getElem?_eq_getElem hkl]; rfl
      have h8 := h6
      rw [ht, atF_snoc, hat] at h8
      exact ⟨s2, h8, h6⟩
    obtain ⟨s2, hc1, hc2⟩ := hch
    obtain ⟨b, hb⟩ := child_inv hc1
    obtain ⟨z, ds, ez, hdl, hit⟩ := items_eq s'
    have hkd : pl[k] < ds.length := by rw [hdl]; exact (List.getElem?_eq_some_iff.mp hb).1
    obtain ⟨it, aa, bb, hi1, hd9, hi2⟩ := hit pl[k] _ (List.getElem?_eq_getElem hkd)
    rw [hb] at hi1
    cases hi1
    have hbb : bb = fsD s2 := by
      rcases hi2 with ⟨_, n, _, _, h⟩ | ⟨_, s9, _, h, h9⟩
      · cases h
      · cases h9
        exact h
    subst hbb
    have hd1 : ds[pl[k]]? = some (.tuple [aa, fsD s2]) := by rw [List.getElem?_eq_getElem hkd, hd9]
    have hf : Dp K H' hv (.tuple [.str z, .tuple ds]) := by rw [← ez]; exact hf
    wtm_at "go"
    rename_i xu hxu
    refine i_ixT hxu (Ex.refl _) (atI_nat hd1) (fun xu2 hxu2 => ?_)
    wtm_at "go"
    rename_i xu3 hxu3
    exact ⟨xu3, s2, _, rfl, e3, hxu3, hc2⟩
  · obtain ⟨hv, s', c3, rfl, e3, hf, hat⟩ := pv
    rw [hxl, List.take_length, hp] at hat
    cases hat
    have e03 := e2.trans e3
    obtain ⟨z, ds, ez, hdl, hit⟩ := items_eq s
    obtain ⟨it, aa, bb, hi1, hd9, hi2⟩ := hit i _ (List.getElem?_eq_getElem (by omega))
    have hd1 : ds[i]? = some (.tuple [aa, bb]) := by rw [List.getElem?_eq_getElem (by omega), hd9]
    have hf : Dp K H' hv (.tuple [.str z, .tuple ds]) := by rw [← ez]; exact hf
    have hq := numsAt_snoc hp hi1
    rw [hq] at q
    dsimp only
    wtm_at "go"
    rename_i xu hxu
    refine i_ixTI (dpMono e03 h2') (Ex.refl _) (atI_last _ _) ?_
    wtm_at "go"
    refine i_ixT hxu (Ex.refl _) (atI_nat hd1) (fun xu2 hxu2 => ?_)
    rcases hi2 with ⟨hz, n, e1, e2', e3'⟩ | ⟨hz, s9, e1, e2', e3'⟩
    · subst hz e1
      wtm_at "go"
      rename_i np nH nfr nhe nhp
      refine q [n] ?_ np nH _ (ex_none nfr e03) (e03.trans nhe) nhp (.cons (.int _) .nil)
      unfold numI
      rw [e3']
    · subst e2'
      have hs9 : child s i = some s9 := by
        obtain ⟨b9, x9⟩ := it
        have e3' : x9 = .inr s9 := e3'
        subst e3'
        exact child_item hi1
      obtain ⟨k1, k2⟩ := atF_ok hp hs
      obtain ⟨k3, k4⟩ := child_ok hs9 k1
      have hle := ents_le (show s9.1 ≤ 3 by omega) k3
      wtm_at "go"
      refine i_eqSF hz ?_
      wtm_at "go"
      refine i_lcLU ?_
      wtm_at "go"
      rename_i xu4 hxu4
      refine use__law_entries_in (by omega) hxu4 k3 (fun es hpe p5 H5 n5 e5 h5 => ?_)
      wtm_at "go"
      refine i_lcGLR (enc := enD) (xs := es) (fun _ => true) (fun e => .int e.1) h5 (by have := hpe.length_eq; omega) (fun _ _ => rfl) (fun u x H6 R Y e6 hm hu hn hy => ?_) (fun p6 H6 zs n6 e6 r6 h6 => ?_)
      · unfold enD at hu
        wtm_at "nrm"
        wtm_at "go"
        refine ⟨rfl, ?_⟩
        wtm_at "go"
        exact hy rfl _ _ (Ex.refl _) (Dp.int _)
      · rw [filt_true] at h6
        refine q (es.map (·.1)) ?_ p6 H6 zs (ex_none n6 (e03.trans e5)) ((e03.trans e5).trans e6) r6 ?_
        · unfold numI
          rw [e3']
          exact hpe.map _
        · rw [List.map_map]
          exact h6
theorem use__law_numbers_at {s0 s : Fs} {pl : List Nat} {i : Nat} (h1 : Dp K H v1 (fsD s0)) (h2 : Dp K H v2 (plD (pl ++ [i]))) (hp : atF s0 pl = some s) (hi : i < (fitems s).length) (hs : Sm s0.1 s0.2) (h3 : s0.1 ≤ 3) (hpl : pl.length ≤ 100)
    (q : ∀ ns : List Int, ns.Perm (numsAt s0 (pl ++ [i])) → ∀ p H2 zs, H p = none → Ex H H2 → H2 p = some (.lst zs) → DpAll K H2 zs (ns.map PyData.int) → Q (.ref p) H2) : sp__law_numbers_at K [v1, v2] H Q E := ⟨_, _, rfl, s0, s, pl, i, h1, h2, hp, hi, hs, h3, hpl, q⟩
end
end Wb

/-! objects: a class held by a local name; a def as FnR; equal values with dicts; data beside an object that changes -/
namespace Wb
open PySem PySem.Spec PyProof.Rows L2
open Evl (Ex Ex.refl Ex.trans Ex.new)
section
variable {X : Cx} {CX : CXT} {k i : Nat} {f C : Addr} {fd : FuncData} {ps : List Str} {sp : Sp} {E : XK} {x : Str} {p pos : Pos} {e : Expr} {es : List Expr} {t : TA}
def tMakeV (i : Nat) (C : Addr) (sp : Sp) (E : XK) (t : TA) : TE := fun σ H Q => σ[i]? = some (some (.ref C)) ∧ tMake C sp [] E t σ H Q
theorem pe_makeV (M : Mk X.K C f) (F : FnOk X.prog X.w X.K X.mg X.base CX k f fd ps sp) (hr : Room (k + 1) X.A) (he : PE X (.Name x p) (tVar i)) (hb : Binds X.K fd ps []) (hx : Passes CX X E)
    (ha : PA X (e :: es) t) (hst : starEach (e :: es) X.env = (false, eval e X.env) :: starEach es X.env := by rfl) (hpl : (backTo pos (starEach es X.env)).any (·.1) = false := by rfl) :
    PE X (.Call (.Name x p) (e :: es) [] pos) (tMakeV i C sp E t) := by
  refine ⟨fun pins s σ H Q I h => ?_⟩
  obtain ⟨h0, h⟩ := h
  refine wpAny_Call_Name_kw (thn (he.run pins s σ H (fun v H1 => v = .ref C ∧ tMake C sp [] E t σ H1 Q) I ⟨.ref C, h0, rfl, h⟩) fun u s0 ⟨v, H0, I0, r0, ev, h1⟩ => ?_)
  subst ev
  obtain rfl : u = Value.ref C := r0
  refine PySem.W.callWith_K (h₀ := X.base) I0.ok.mod.kin M.kp (thn (ha.run pos pins s0 σ H0 _ I0 h1) fun us s1 ⟨vs, H1, I1, r, q⟩ => ⟨I1.kIn, ?_⟩) hst hpl
  exact run_make M F hr hb .nil hx I1 r q
theorem fnR_of {P : Program} {w : World} {K : PySem.W.Frag} {mg : Str → Option Value} {base : Heap} (F : FnOk P w K mg base CX k f fd ps sp) (b : Binds K fd ps []) : FnR P w K mg base CX k f sp := by
  intro A outer s H us vs Q E hr e0 r hs
  have hkin : K.In s.heap := fun a o h => (e0.bs a o (e0.mod.kin a o h)).1
  have hl : (us ++ []).length = ps.length := by
    rw [List.append_nil, ← F.len _ _ _ _ hs]
    exact r.length.symm
  have := F.run A outer s H ⟨us, []⟩ us vs Q E hr e0 (by have := b s us hkin hl; rw [List.append_nil] at this; exact this) r hs
  exact this
end
/-! data beside an object that changes -/
section
variable {K : PySem.W.Frag} {H : Hp} {D : Addr} {o o' : HO}
theorem sqt_updO {a : Addr} {zs : List V} (hD : H D = some o) (h1 : ∀ z, HO.tup z ≠ o) (h2 : ∀ q z, HO.frz q z ≠ o) (h : SqT K H a zs) : SqT K (upd H D o') a zs := by
  rcases h with (h | ⟨q, h⟩) | h
  · exact .inl (.inl (by rw [upd_ne (ne_of h hD (h1 _))]; exact h))
  · exact .inl (.inr ⟨q, by rw [upd_ne (ne_of h hD (h2 _ _))]; exact h⟩)
  · exact .inr h
mutual
theorem dpUpdO (hD : H D = some o) (h1 : ∀ z, HO.tup z ≠ o) (h2 : ∀ q z, HO.frz q z ≠ o) : ∀ {d : PyData} {v : V}, noL d = true → Dp K H v d → Dp K (upd H D o') v d
  | .none, _, _, h => by cases h; exact .non
  | .bool _, _, _, h => by cases h; exact .bl _
  | .int _, _, _, h => by cases h; exact .int _
  | .str _, _, _, h => by cases h; exact .str _
  | .list ds, _, n, h => by cases n
  | .tuple ds, _, n, h => by
    cases h with
    | tup hs ha => exact .tup (sqt_updO hD h1 h2 hs) (dpUpdAO hD h1 h2 n ha)
  | .dict _, _, _, h => by cases h
theorem dpUpdAO (hD : H D = some o) (h1 : ∀ z, HO.tup z ≠ o) (h2 : ∀ q z, HO.frz q z ≠ o) : ∀ {ds : List PyData} {vs : List V}, noLs ds = true → DpAll K H vs ds → DpAll K (upd H D o') vs ds
  | [], _, _, h => by cases h; exact .nil
  | d :: ds, _, n, h => by
    cases h with
    | cons h3 h4 =>
      have n2 := Bool.and_eq_true_iff.mp (show (noL d && noLs ds) = true from n)
      exact .cons (dpUpdO hD h1 h2 n2.1 h3) (dpUpdAO hD h1 h2 n2.2 h4)
end
end
/-! equal values with empty dicts -/
def DDic0 : Eqv := fun x y H => ∃ a b, x = .ref a ∧ y = .ref b ∧ H a = some (.dK []) ∧ H b = some (.dK [])
theorem mon_dic0 : Mon DDic0 := fun x y H H' e ⟨a, b, h1, h2, h3, h4⟩ => ⟨a, b, h1, h2, e _ _ h3, e _ _ h4⟩
theorem rcG_dic0 {X : Cx} : RcG X 0 DDic0 := by
  intro A pins s σ H x y u v sb I rx ry d
  obtain ⟨a, b, rfl, rfl, ea, eb⟩ := d
  obtain rfl : u = Value.ref a := rx
  obtain rfl : v = Value.ref b := ry
  obtain ⟨_, ya, va, ra, da⟩ := (show ObjOk X.prog X.w H s.heap a (.dK []) from I.hok a _ ea)
  obtain ⟨_, yb, vb, rb, db⟩ := (show ObjOk X.prog X.w H s.heap b (.dK []) from I.hok b _ eb)
  have hl : va.length = vb.length := ra.length.symm.trans rb.length
  have h0 : va.length = 0 := ra.length.symm
  refine PySem.W.keq_eq (knd := mixKind X.prog X.w) (r := true) ya yb da db sb.room.units0 (fun _ => hits_all (ks := []) rb ra fun p hp => (by cases hp)) ?_
  refine ⟨by simp [hl], H, I, fun _ _ h => h⟩
theorem eqG_dic0 {X : Cx} : EqG X 0 DDic0 := rcG_dic0.eqG fun _ _ _ d => let ⟨a, b, hx, hy, _⟩ := d; ⟨a, b, hx, hy⟩
/-! isinstance(x, Kept): a slotted instance, or data -/
def rIsiK0 (K : PySem.W.Frag) (CK : Addr) : List V → Hp → VK → Prop := fun xs H Q => ∃ v, xs = [v, .ref CK] ∧ ((∃ a dx vs, v = .ref a ∧ SlAt H a CK dx vs ∧ Q (.bl true) H) ∨ (∃ ds, Dp K H v (.tuple ds) ∧ Q (.bl false) H))
theorem call_isiKept {X : Cx} {CK : Addr} (ic : PySem.W.isClsIn X.K CK = true) (pg : PySem.W.plainGet X.K CK "__class__" = true) (hI : SlX.SIsi X.K CK) (k1 : PySem.W.kitOne X.K (.ref CK) (.ref CK) = some true) (k2 : PySem.W.kitOne X.K (.type "tuple") (.ref CK) = some false) : CallR X (.builtin "isinstance") (rIsiK0 X.K CK) := by
  intro pins s σ H xs us Q I r h
  obtain ⟨v, rfl, h⟩ := h
  obtain ⟨u1, u2, rfl, r1, r2⟩ := vals2 r
  obtain rfl : u2 = Value.ref CK := r2
  rcases h with ⟨a, dx, vs, rfl, hs, q⟩ | ⟨ds, hd, q⟩
  · obtain rfl : u1 = Value.ref a := r1
    obtain ⟨us, od, _, _, J⟩ := slAt_get I hs
    exact PySem.W.kia_one (OwX.kitx_slt ic pg hI.ca hI.cn hI.ct hI.cm) I.kIn J k1 (fun z => nomatch z) fun tk => ⟨.bl true, H, I.tok _, rfl, q⟩
  · obtain ⟨P, Z, p, hx⟩ := kit_of I r1 (dpTy hd)
    exact PySem.W.kia_one Z I.kIn p k2 hx fun tk => ⟨.bl false, H, I.tok tk, rfl, q⟩
def tNo : TE := fun _ _ _ => False
theorem pe_no {X : Cx} {e : Expr} : PE X e tNo := ⟨fun _ _ _ _ _ _ h => h.elim⟩
end Wb

namespace Wb
open PySem PySem.Spec PyProof.Rows L2 StX
open Evl (Ex Ex.refl Ex.trans Ex.new)
local macro_rules | `(tactic| wtm_at "dp") => `(tactic| first | with_reducible assumption | with_reducible exact Dp.int _ | with_reducible exact Dp.bl _ | with_reducible exact Dp.str _ | with_reducible exact Dp.non | ((with_reducible refine' dpMono ?dme (by with_reducible assumption)); (case dme => wtm_at "ex")) | ((with_reducible refine' Dp.tup (Evl.st_of ?dph) ?dpa); (case dph => wtm_at "hs"); (case dpa => wtm_at "dpa")) | ((with_reducible refine' Dp.lst (Evl.sq_of ?dph) ?dpa); (case dph => wtm_at "hs"); (case dpa => wtm_at "dpa")))
local macro_rules | `(tactic| wtm_at "dpa") => `(tactic| first | with_reducible exact DpAll.nil | ((with_reducible refine' DpAll.cons ?dp1 ?dp2); (case dp1 => wtm_at "dp"); (case dp2 => wtm_at "dpa")) | with_reducible assumption | ((with_reducible refine' dpMonoA ?dme (by with_reducible assumption)); (case dme => wtm_at "ex")))
local macro_rules | `(tactic| wtm_at "sz") => `(tactic| first | with_reducible assumption | ((with_reducible refine' sz_mul ?sz1 ?sz2); (case sz1 => wtm_at "sz"); (case sz2 => wtm_at "sz")) | ((with_reducible refine' sz_add ?sz1 ?sz2); (case sz1 => wtm_at "sz"); (case sz2 => wtm_at "sz")) | ((with_reducible refine' sz_sub ?sz1 ?sz2); (case sz1 => wtm_at "sz"); (case sz2 => wtm_at "sz")) | ((with_reducible refine' sz_neg ?sz1); (case sz1 => wtm_at "sz")) | ((with_reducible refine' sz_div ?sz1); (case sz1 => wtm_at "sz")) | ((with_reducible refine' sz_fdiv ?sz1); (case sz1 => wtm_at "sz")) | exact sz_lit (by decide) | wtm_at "sz2")
local macro_rules | `(tactic| wtm_at "szb") => `(tactic| first | with_reducible assumption | ((with_reducible refine' sz_mono ?szb1 ?szb2); (case szb1 => wtm_at "sz"); (case szb2 => decide)))
local macro_rules | `(tactic| wtm_at "nz") => `(tactic| first | assumption | decide | omega)
local macro_rules | `(tactic| wtm_at "shaped") => `(tactic| first | rfl | decide)
local macro_rules | `(tactic| wtm_at "sset") => `(tactic| ((dsimp only [L2.wipe, List.set, List.set_cons_zero, List.set_cons_succ]) <;> exact rfl))
local macro_rules | `(tactic| wtm_at "nrm") => `(tactic| dsimp only [L2.start, L2.wipe, List.set, List.append, List.map, List.map_cons, List.map_nil, List.length_cons, List.length_nil, Nat.reduceAdd, Nat.reduceSub, List.reduceReplicate, List.replicate, List.cons_append, List.nil_append, List.set_cons_zero, List.set_cons_succ])
local macro_rules | `(tactic| wtm_at "st") => `(tactic| first
  | ((with_reducible refine' i_var (v := ?u0) ?u1 ?uq); (case u1 => exact rfl))
  | ((with_reducible refine' i_nameN ?u0 ?uq); (case u0 => wtm_at "sset"))
  | (with_reducible refine' i_op ?uq)
  | (with_reducible refine' i_c ?uq)
  | (with_reducible refine' i_I0 ?uq)
  | ((with_reducible refine' i_ixTI (i := ?u0) ?u1 ?u2 ?u3 ?uq); (case u1 => wtm_at "dp"); (case u2 => wtm_at "ex"); (case u3 => exact rfl))
  | ((with_reducible refine' i_ixT (d := ?u0) ?u1 ?u2 ?u3 (fun xu hxu => ?uq)); (case u1 => wtm_at "dp"); (case u2 => wtm_at "ex"); (case u3 => exact rfl))
  | ((with_reducible refine' i_mul ?u0 ?u1 ?u2 ?uq); (case u0 => wtm_at "sz"); (case u1 => wtm_at "sz"); (case u2 => first | decide | omega))
  | (with_reducible refine' i_seq ?uq)
  | (with_reducible refine' i_asg ?uq)
  | (with_reducible refine' i_ret ?uq)
  | (with_reducible refine' i_ifs ?uq)
  | (with_reducible refine' i_drop ?uq)
  | (with_reducible refine' i_next ?uq)
  | (with_reducible refine' i_cons ?uq)
  | (with_reducible refine' i_nil ?uq)
  | (with_reducible refine' i_cl ?uq)
  | (with_reducible refine' i_cb ?uq)
  | (with_reducible refine' i_tup ?uq)
  | (with_reducible refine' i_lst ?uq)
  | ((with_reducible refine' i_mkT ?u0 (fun np nH nhe nhp => ?uq)); (case u0 => exact Nat.le_of_ble_eq_true rfl))
  | (with_reducible refine' i_test ?uq)
  | (with_reducible refine' i_B ?uq)
  | (with_reducible refine' i_k ?uq)
  | (with_reducible refine' i_and ?uq)
  | (with_reducible refine' i_or ?uq)
  | (with_reducible refine' i_not ?uq)
  | (with_reducible refine' i_andV ?uq)
  | (with_reducible refine' i_orV ?uq)
  | (with_reducible refine' i_notV ?uq)
  | (with_reducible refine' i_if ?uq)
  | (with_reducible refine' i_un ?uq)
  | (with_reducible refine' i_U ?uq)
  | (with_reducible refine' i_iteT ?uq)
  | (with_reducible refine' i_iteF ?uq)
  | ((with_reducible refine' i_iteTr ?u0 ?uq); (case u0 => first | with_reducible rfl | decide | (simp only [dIsInt, dIsBool, dIsTup, dIsStr, dIsLst, Bool.not_true, Bool.not_false]; done)))
  | ((with_reducible refine' i_iteFr ?u0 ?uq); (case u0 => first | with_reducible rfl | decide | (simp only [dIsInt, dIsBool, dIsTup, dIsStr, dIsLst, Bool.not_true, Bool.not_false]; done)))
  | (with_reducible refine' i_ite (fun hif => ?uqa) (fun hif => ?uqb))
  | (with_reducible refine' i_iteN (fun hif => ?uqa) (fun hif => ?uqb))
  | (with_reducible refine' i_iteBN (fun hif => ?uqa) (fun hif => ?uqb))
  | (with_reducible refine' i_iteB (fun hif => ?uqa) (fun hif => ?uqb))
  | ((with_reducible refine' i_modN ?u0 ?uq); (case u0 => wtm_at "nz"))
  | ((with_reducible refine' i_fdX ?u0 ?u1 ?u2 ?uq); (case u0 => wtm_at "nz"); (case u1 => wtm_at "sz"); (case u2 => first | decide | omega))
  | ((with_reducible refine' i_pow ?u0 ?uq); (case u0 => exact ⟨by decide, by decide +kernel⟩))
  | (with_reducible refine' i_eqI ?uq)
  | (with_reducible refine' i_neI ?uq)
  | (with_reducible refine' i_gcd ?uq)
  | (with_reducible refine' i_qabs ?uq)
  | (with_reducible refine' i_qint ?uq)
  | (with_reducible refine' i_qintB ?uq)
  | (with_reducible refine' i_qmax2 ?uq)
  | (with_reducible refine' i_qmin2 ?uq)
  | (with_reducible refine' i_isB ?uq)
  | (with_reducible refine' i_notB ?uq)
  | (with_reducible refine' i_chain ?uq)
  | (with_reducible refine' i_qisN ?uq)
  | (with_reducible refine' i_qnotN ?uq)
  | (with_reducible refine' i_yes ?uq)
  | (with_reducible refine' i_par ?uq)
  | (with_reducible refine' i_par3 ?uq)
  | ((with_reducible refine' i_par2 ?u0 ?uq); (case u0 => wtm_at "sset"))
  | ((with_reducible refine' i_par33 ?u0 ?uq); (case u0 => wtm_at "sset"))
  | ((with_reducible refine' i_ixLI (i := ?u0) ?u1 ?u2 ?u3 ?uq); (case u1 => wtm_at "dp"); (case u2 => wtm_at "ex"); (case u3 => exact rfl))
  | ((with_reducible refine' i_ixL (d := ?u0) ?u1 ?u2 ?u3 (fun xu hxu => ?uq)); (case u1 => wtm_at "dp"); (case u2 => wtm_at "ex"); (case u3 => exact rfl))
  | ((with_reducible refine' i_qlenT ?u0 ?uq); (case u0 => wtm_at "dp"))
  | ((with_reducible refine' i_qlenL ?u0 ?uq); (case u0 => wtm_at "dp"))
  | ((with_reducible refine' i_gtup ?u0 ?u1 ?u2 (fun gvs gdp => ?uq)); (case u0 => wtm_at "dp"); (case u1 => wtm_at "ex"); (case u2 => exact rfl))
  | ((with_reducible refine' i_glst ?u0 ?u1 ?u2 (fun gvs gdp => ?uq)); (case u0 => wtm_at "dp"); (case u1 => wtm_at "ex"); (case u2 => exact rfl))
  | ((with_reducible refine' i_gconsI ?u0 (fun gr gh => ?uq)); (case u0 => with_reducible assumption))
  | ((with_reducible refine' i_gconsA ?u0 (fun gv gr gh1 gh2 => ?uq)); (case u0 => with_reducible assumption))
  | ((with_reducible refine' i_gnilA ?u0 ?uq); (case u0 => with_reducible assumption))
  | ((with_reducible refine' i_isiI ?u0 ?uq); (case u0 => wtm_at "dp"))
  | ((with_reducible refine' i_isiB ?u0 ?uq); (case u0 => wtm_at "dp"))
  | ((with_reducible refine' i_isiT ?u0 ?uq); (case u0 => wtm_at "dp"))
  | ((with_reducible refine' i_isiS ?u0 ?uq); (case u0 => wtm_at "dp"))
  | ((with_reducible refine' i_isiL ?u0 ?uq); (case u0 => wtm_at "dp"))
  | ((with_reducible refine' i_eqD ?u0 ?u1 ?u2 ?u3 ?uq); (case u0 => wtm_at "dp"); (case u1 => wtm_at "dp"); (case u2 => wtm_at "shaped"); (case u3 => wtm_at "shaped"))
  | ((with_reducible refine' i_neD ?u0 ?u1 ?u2 ?u3 ?uq); (case u0 => wtm_at "dp"); (case u1 => wtm_at "dp"); (case u2 => wtm_at "shaped"); (case u3 => wtm_at "shaped"))
  | wtm_at "st2"
  | wtm_at "use")
local macro_rules | `(tactic| wtm_at "go") => `(tactic| repeat' (wtm_at "st"))
local macro_rules | `(tactic| wtm_at "go0") => `(tactic| ((try dsimp only [L2.cxOf, L2.Cx.nox, L2.Cx.wish, L2.Cx.tr, L2.Cx.blk]); (try wtm_at "nrm"); wtm_at "go"))
local macro_rules | `(tactic| wtm_at "fin") => `(tactic| ((try dsimp only); first | with_reducible assumption | assumption | ((with_reducible refine' Ret.use ?rur ?rue ?rud); (case rur => with_reducible assumption); (case rue => wtm_at "ex"); (case rud => wtm_at "dp"))))
local macro_rules | `(tactic| wtm_at "exh") => `(tactic| first | with_reducible assumption | with_reducible exact Ex.refl _ | with_reducible exact ex_hid | ((with_reducible refine' Ex.trans ?exe (by with_reducible assumption)); (case exe => wtm_at "exh")) | ((with_reducible refine' Ex.trans ?exe (hid_ex (by with_reducible assumption))); (case exe => wtm_at "exh")))
local macro_rules | `(tactic| wtm_at "ex") => `(tactic| first | with_reducible assumption | with_reducible exact Ex.refl _ | with_reducible exact ex_hid | ((with_reducible refine' Ex.trans ?exe (by with_reducible assumption)); (case exe => wtm_at "ex")) | ((with_reducible refine' Ex.trans ?exe (hid_ex (by with_reducible assumption))); (case exe => wtm_at "ex")) | ((with_reducible refine' Ex.trans ?exe ex_hid); (case exe => wtm_at "exh")))
local macro_rules | `(tactic| wtm_at "bag") => `(tactic| first | with_reducible assumption | ((with_reducible refine' Bag.mono ?bgm (by with_reducible assumption)); (case bgm => wtm_at "bag")))
local macro_rules | `(tactic| wtm_at "hs") => `(tactic| first | with_reducible assumption | ((with_reducible refine' hid_tup ?hb ?hp); (case hp => with_reducible assumption); (case hb => wtm_at "bag")) | ((with_reducible refine' hid_new ?hb ?hn ?hp); (case hp => with_reducible assumption); (case hn => with_reducible assumption); (case hb => wtm_at "bag")) | ((with_reducible refine' ex_at ?exe (by with_reducible assumption)); (case exe => wtm_at "ex")))
local macro_rules | `(tactic| wtm_at "st2") => `(tactic| first
  | ((with_reducible refine' i_mulC ?u0 ?uq); (case u0 => first | exact cmul_l (by decide) | exact cmul_r (by decide)))
  | ((with_reducible refine' i_ixLr (v := ?u0) ?u1 ?u2 ?uq); (case u1 => with_reducible assumption); (case u2 => exact rfl))
  | (with_reducible refine' i_sub ?uq)
  | ((with_reducible refine' i_mkL ?u0 (fun np nH nfr nhe nhp => ?uq)); (case u0 => exact Nat.le_of_ble_eq_true rfl))
  | ((with_reducible refine' i_setL (n := ?u0) ?u1 ?u2 (fun sH sh se => ?uq)); (case u1 => with_reducible assumption); (case u2 => exact rfl))
  | (with_reducible refine' i_sl ?uq)
  | (with_reducible refine' i_nopart ?uq)
  | (with_reducible refine' i_part ?uq)
  | (with_reducible refine' i_part1 ?uq))
local macro_rules | `(tactic| wtm_at "sz2") => `(tactic| ((with_reducible refine' sz_fmod ?sz1 ?sz2); (case sz1 => wtm_at "nz"); (case sz2 => wtm_at "sz")))
local macro_rules | `(tactic| wtm_at "stb") => `(tactic| first
  | ((with_reducible refine' i_mkTB ?u0 ?u1 (fun np nH nhe nhb nhp => ?uq)); (case u0 => exact Nat.le_of_ble_eq_true rfl); (case u1 => wtm_at "bag"))
  | ((with_reducible refine' i_mkLB ?u0 ?u1 (fun np nH nfr nhe nhb nhp => ?uq)); (case u0 => exact Nat.le_of_ble_eq_true rfl); (case u1 => wtm_at "bag"))
  | wtm_at "st")
local macro_rules | `(tactic| wtm_at "gob") => `(tactic| repeat' (wtm_at "stb"))
local macro_rules | `(tactic| wtm_at "gob0") => `(tactic| ((try dsimp only [L2.cxOf, L2.Cx.nox, L2.Cx.wish, L2.Cx.tr, L2.Cx.blk]); (try wtm_at "nrm"); wtm_at "gob"))
local macro_rules | `(tactic| wtm_at "st") => `(tactic| first | ((with_reducible refine' i_ixTS (z := ?u0) ?u1 ?u2 ?u3 ?uq); (case u1 => wtm_at "dp"); (case u2 => wtm_at "ex"); (case u3 => exact rfl)) | fail)
local macro_rules | `(tactic| wtm_at "st2") => `(tactic| first | ((with_reducible refine' i_eqST ?u0 ?uq); (case u0 => with_reducible rfl)) | ((with_reducible refine' i_eqSF ?u0 ?uq); (case u0 => decide +kernel)) | ((with_reducible refine' i_neST ?u0 ?uq); (case u0 => with_reducible rfl)) | ((with_reducible refine' i_neSF ?u0 ?uq); (case u0 => decide +kernel)) | fail)
section
variable {P : Program} {w : World} {K : PySem.W.Frag} {mg : Str → Option Value} {base : Heap} {H H' : Hp} {Q : VK} {E : XK} {v1 v2 v3 v4 v5 : V}
local macro_rules | `(tactic| wtm_at "use") => `(tactic| ((with_reducible refine' use__law_apart_word ?u0 ?u1 ?uq); (case u0 => wtm_at "dp"); (case u1 => wtm_at "dp")))
theorem i_dcUT {tl : TE} {σ : L2.St} {g : TG} {tt : TT} {tk tv : TE} {vs : List Nat} (q : tl σ H fun x H1 => tDc (iTup K (tC x)) g tt tk tv vs σ H1 Q) : tDc (iTup K tl) g tt tk tv vs σ H Q := q
theorem i_dc0 {v : V} {σ : L2.St} {g : TG} {tt : TT} {tk tv : TE} {vs : List Nat} (h : Dp K H v (.tuple [])) (q : ∀ D H2, H D = none → Ex H H2 → H2 D = some (.dK []) → Q (.ref D) H2) : tDc (iTup K (tC v)) g tt tk tv vs σ H Q := by
  obtain ⟨a, us, rfl, hs, ha⟩ := dpTup h
  cases ha
  refine ⟨a, rfl, ⟨[], hs⟩, fun D hD => ⟨fun i m H' => i = 0 ∧ H' = upd H D (.dK []), ⟨0, rfl, rfl⟩, ?_⟩⟩
  rintro i m H' ⟨rfl, rfl⟩
  exact .inl ⟨⟨[], Evl.ex_t (ex_upd hD) hs, Nat.le_refl _⟩, q D _ hD (ex_upd hD) upd_same⟩
theorem i_for0 {v : V} {σ : L2.St} {g : TG} {tb : TS} {D : Ends} (h : Dp K H v (.tuple [])) (q : D.nx σ H) : tFor (iTup K (tC v)) g tb D σ H := by
  obtain ⟨a, us, rfl, hs, ha⟩ := dpTup h
  cases ha
  exact ⟨a, rfl, ⟨[], hs⟩, for_tup (xs := []) (fun i σ' H' => σ' = σ ∧ H' = H) ⟨rfl, rfl⟩ (fun i σ' H' _ p => by rw [p.2]; exact hs) (fun i x σ' H' hi p => by simp at hi) (fun σ' H' p => by rw [p.1, p.2]; exact q)⟩
def sp_require_entries (K : PySem.W.Frag) : Sp := A1 fun v1 H Q => Dp K H v1 (.tuple []) ∧ Ret K .none H Q
abbrev s_require_entries : Stmt := top 48
theorem sc_require_entries : FnScope ["entries", "number", "box", "one"] ["entries"] (defScope s_require_entries) := ⟨rfl, rfl, rfl, by decide +kernel, rfl, by decide +kernel, by decide +kernel⟩
theorem ok_require_entries {f : Addr} {fd : FuncData} (F : FnP K "require_entries" s_require_entries f fd) (g : G mg)  (c_is_entry : Cl P w K mg base 3 "is_entry" (sp_is_entry K)) : FnOk P w K mg base CX0 4 f fd ["entries"] (sp_require_entries K) := by
  have nd := sc_require_entries.nd
  refine F.ok sc_require_entries (fun vs H Q E h => h.len) (fun cdv A outer s H vs Q E hr h => ?_)
  obtain ⟨v1, rfl, h⟩ := h
  refine ⟨_, PSs.nox (pss_cons (ps_if (PW.pt (pw_or (pt_not (pt_val (pe_callB call_isi (by rfl) g.f_isinstance boot_isinstance (pa_cons (pv 0) (pa_cons (pe_bltn (v := .ty "tuple") (by rfl) g.f_tuple boot_tuple rfl) pa_nil))))) (pw_or1 (pt_not (pt_val (pe_callB (cr_all rfl) (by rfl) g.f_all boot_all (pa_cons (pe_lc (own := [("one", 3)]) (g := gName 3) (by rfl) nd (pi_tup (pv 0)) (blkOk_by (N := ["entries", "number", "box", "one"]) (sc := defScope s_require_entries) (own := [("one", 3)]) (by decide +kernel)) (fun _ _ _ _ _ => (pg_name (i := 3) nd rfl (Or.inl rfl))) (fun _ _ _ _ _ => pts_nil) (fun _ _ _ _ _ => (pc c_is_entry hr (by first | decide | omega) (by rfl) (pa_cons (pv 3) pa_nil)))) pa_nil))))))) (pss_one ps_never) pss_nil) (pss_cons (ps_if (pt_cmpR op_lt (pe_callB call_qlenD (by rfl) g.f_len boot_len (pa_cons (pe_dc (own := [("number", 1), ("box", 2)]) (g := _) (by rfl) nd (pi_tup (pv 0)) (blkOk_by (N := ["entries", "number", "box", "one"]) (sc := defScope s_require_entries) (own := [("number", 1), ("box", 2)]) (by decide +kernel)) (fun _ _ _ _ _ => (show PG _ _ (gTup K 2 _) from (pg_tup (by rfl) (pgs_cons (pg_name (i := 1) nd rfl (Or.inl rfl)) (pgs_cons (pg_name (i := 2) nd rfl (Or.inl rfl)) pgs_nil))))) (fun _ _ _ _ _ => pts_nil) (fun _ _ _ _ _ => (pv 1)) (fun _ _ _ _ _ => pe_bl)) pa_nil)) (pe_callB call_qlen (by rfl) g.f_len boot_len (pa_cons (pv 0) pa_nil)) (nomark _)) (pss_one ps_never) pss_nil) (pss_one (ps_if (pt_cmpR op_gt (pe_callB call_qlen (by rfl) g.f_len boot_len (pa_cons (pv 0) pa_nil)) (pe_glob (v := .int 300) (by rfl) g.c_MAX_ENTRIES.choose_spec ⟨_, rfl⟩) (nomark _)) (pss_one ps_never) pss_nil)))), ?_⟩
  obtain ⟨h1, q⟩ := h
  wtm_at "go0"
  · refine i_lcTU ?_
    wtm_at "go"
    refine i_lcGT (α := Unit) (enc := fun _ => .none) (xs := []) (fun _ => true) (fun _ => .bool true) h1 (Nat.zero_le _) (fun _ _ => rfl) (fun u x H2 R Y e2 hm hu hn hy => by cases hm) (fun p H2 hp e2 hl => ?_)
    wtm_at "go"
    refine i_allT (α := Unit) (xs := []) hl ?_
    wtm_at "go"
    refine i_dcUT ?_
    wtm_at "go"
    refine i_dc0 (dpMono e2 h1) (fun D H3 n3 e3 h3 => ?_)
    wtm_at "go"
    refine i_qlenD h3 ?_
    wtm_at "go"
    all_goals first | (rename_i hz; exact absurd hz (by decide)) | exact q.non (by wtm_at "ex")
def sp_form_with (K : PySem.W.Frag) : Sp := A1 fun v1 H Q => Dp K H v1 (.tuple []) ∧ Ret K (fsD ⟨0, mkLf []⟩) H Q
abbrev s_form_with : Stmt := top 47
theorem sc_form_with : FnScope ["entries", "found", "entry"] ["entries"] (defScope s_form_with) := ⟨rfl, rfl, rfl, by decide +kernel, rfl, by decide +kernel, by decide +kernel⟩
theorem ok_form_with {f : Addr} {fd : FuncData} (F : FnP K "form_with" s_form_with f fd) (g : G mg)   : FnOk P w K mg base CX0 1 f fd ["entries"] (sp_form_with K) := by
  have nd := sc_form_with.nd
  refine F.ok sc_form_with (fun vs H Q E h => h.len) (fun cdv A outer s H vs Q E hr h => ?_)
  obtain ⟨v1, rfl, h⟩ := h
  refine ⟨_, PSs.nox (pss_cons (ps_set (i := 1) nd rfl (Or.inl rfl) (pe_tup (pa_cons (pe_glob (v := .str "leaf") (by rfl) g.c_LEAF.choose_spec ⟨_, rfl⟩) (pa_cons (pe_tup pa_nil) pa_nil)))) (pss_cons (ps_for PassesOwn.never rfl (pi_tup (pv 0)) (pg_name (i := 2) nd rfl (Or.inl rfl)) (pss_one ps_never)) (pss_one (ps_ret (pv 1))))), ?_⟩
  obtain ⟨h1, q⟩ := h
  wtm_at "go0"
  rename_i p1 H1 e1 hp1 p2 H2 e2 hp2
  refine i_forU ?_
  wtm_at "go"
  refine i_for0 (dpMono (e1.trans e2) h1) ?_
  wtm_at "go"
  exact q _ _ (e1.trans e2) (.tup (Evl.st_of hp2) (.cons (.str _) (.cons (.tup (Evl.st_of (e2 _ _ hp1)) .nil) .nil)))
def sp_Kept_init (K : PySem.W.Frag) (CK : Addr) : Sp := A2 fun v1 v2 H Q => ∃ x dx, v1 = .ref x ∧ SlAt H x CK dx [] ∧ Q .non (upd H x (SlO CK dx x [some v2]))
abbrev s_Kept_init : Stmt := inClass (top 54) 1
theorem sc_Kept_init : FnScope ["self", "form"] ["self", "form"] (defScope s_Kept_init) := ⟨rfl, rfl, rfl, by decide +kernel, rfl, by decide +kernel, by decide +kernel⟩
theorem ok_Kept_init {f : Addr} {fd : FuncData} (F : FunD K "__init__" "Kept.__init__" (defArgs s_Kept_init) (defBody s_Kept_init) (defScope s_Kept_init) [] [] f fd) (g : G mg) {CK : Addr} (mK : mg "Kept" = some (.ref CK)) (kS : L2.SCls K CK) {pL : Addr} (kL : L2.Slt K CK "own_list" 0 pL) (kI : SlX.SIsi K CK) (kT : PySem.W.kitOne K (.ref CK) (.ref CK) = some true) (kU : PySem.W.kitOne K (.type "tuple") (.ref CK) = some false)  : FnOk P w K mg base CX0 1 f fd ["self", "form"] (sp_Kept_init K CK) := by
  have nd := sc_Kept_init.nd
  refine F.ok sc_Kept_init (fun vs H Q E h => h.len) (fun cdv A outer s H vs Q E hr h => ?_)
  obtain ⟨v1, v2, rfl, h⟩ := h
  refine ⟨_, PSs.nox (pss_one (ps_slot kS kL (pv 0) (pv 1))), ?_⟩
  obtain ⟨x, dx, rfl, hx, q⟩ := h
  wtm_at "go0"
  refine ⟨_, rfl, _, rfl, x, dx, [], rfl, hx, q⟩
/-- a Kept that holds v -/
def KeptAt (H : Hp) (CK : Addr) (v fv : V) : Prop := ∃ a dx, v = .ref a ∧ SlAt H a CK dx [some fv]
def sp_told_form (K : PySem.W.Frag) (CK : Addr) : Sp := A2 fun v1 v2 H Q => (∃ fv, KeptAt H CK v2 fv ∧ Q fv H) ∨ (Dp K H v2 (.tuple []) ∧ Ret K (fsD ⟨0, mkLf []⟩) H Q)
abbrev s_Tree_told_form : Stmt := inClass (top 53) 1
theorem sc_Tree_told_form : FnScope ["self", "entries"] ["self", "entries"] (defScope s_Tree_told_form) := ⟨rfl, rfl, rfl, by decide +kernel, rfl, by decide +kernel, by decide +kernel⟩
theorem ok_Tree_told_form {f : Addr} {fd : FuncData} (F : FunD K "told_form" "Tree.told_form" (defArgs s_Tree_told_form) (defBody s_Tree_told_form) (defScope s_Tree_told_form) [] [] f fd) (g : G mg) {CK : Addr} (mK : mg "Kept" = some (.ref CK)) (kS : L2.SCls K CK) {pL : Addr} (kL : L2.Slt K CK "own_list" 0 pL) (kI : SlX.SIsi K CK) (kT : PySem.W.kitOne K (.ref CK) (.ref CK) = some true) (kU : PySem.W.kitOne K (.type "tuple") (.ref CK) = some false) (c_require_entries : Cl P w K mg base 4 "require_entries" (sp_require_entries K)) (c_form_with : Cl P w K mg base 1 "form_with" (sp_form_with K)) : FnOk P w K mg base CX0 5 f fd ["self", "entries"] (sp_told_form K CK) := by
  have nd := sc_Tree_told_form.nd
  refine F.ok sc_Tree_told_form (fun vs H Q E h => h.len) (fun cdv A outer s H vs Q E hr h => ?_)
  obtain ⟨v1, v2, rfl, h⟩ := h
  refine ⟨_, PSs.nox (pss_cons (ps_if (pt_val (pe_callB (call_isiKept kS.ic kS.pg kI kT kU) (by rfl) g.f_isinstance boot_isinstance (pa_cons (pv 1) (pa_cons (pe_glob (v := .ref CK) (by rfl) mK rfl) pa_nil)))) (pss_one (ps_ret (pe_slot kS kL (pv 1)))) pss_nil) (pss_cons (ps_expr (pc c_require_entries hr (by first | decide | omega) (by rfl) (pa_cons (pv 1) pa_nil))) (pss_one (ps_ret (pc c_form_with hr (by first | decide | omega) (by rfl) (pa_cons (pv 1) pa_nil)))))), ?_⟩
  rcases h with ⟨fv, ⟨a, dx, rfl, hs⟩, q⟩ | ⟨h1, q⟩
  · wtm_at "go0"
    refine ⟨_, rfl, .inl ⟨a, dx, _, rfl, hs, ?_⟩⟩
    wtm_at "go"
    exact ⟨_, rfl, a, dx, _, _, rfl, hs, rfl, q⟩
  · wtm_at "go0"
    refine ⟨_, rfl, .inr ⟨[], h1, ?_⟩⟩
    wtm_at "go"
    refine ⟨_, rfl, h1, ret_non fun H2 e2 => ?_⟩
    wtm_at "go"
    exact ⟨_, rfl, dpMono e2 h1, fun v H3 e3 hv => q v H3 (e2.trans e3) hv⟩
end
end Wb

/-! more of the plain law -/
namespace Wb
open PySem PySem.Spec
/-- words of what is left out -/
theorem ended_words {w : Bx} {s0 : Fs} {S : Ws} (h : Ended w s0 S) : ∀ q ∈ S.left, ∃ b, apart b w = some q.2 := by
  refine ended_ind h (P := fun T => ∀ q ∈ T.left, ∃ b, apart b w = some q.2) (fun q hq => by cases hq) fun F L c r pl s g => ?_
  refine stepT_ind (w := w) (pl := pl) (its := fitems s) (S := ⟨F, L, c, r⟩) (P := fun i T => ∀ q ∈ T.left, ∃ b, apart b w = some q.2) g (fun i it T hi hT q hq => ?_) (Nat.le_refl _)
  unfold stepI at hq
  split at hq
  · rename_i x hx
    rcases List.mem_append.mp hq with h | h
    · exact hT q h
    · rcases List.mem_singleton.mp h with rfl
      exact ⟨it.1, hx⟩
  · split at hq <;> exact hT q hq
/-- two lists sorted by places are one -/
theorem lex_eq : ∀ {xs ys : List Int}, HT.lexLt xs ys = false → HT.lexLt ys xs = false → xs = ys
  | [], [], _, _ => rfl
  | [], _ :: _, h, _ => by cases h
  | _ :: _, [], _, h => by cases h
  | x :: xs, y :: ys, h1, h2 => by
    rw [HT.lexLt_cons] at h1 h2
    by_cases e : x = y
    · subst e
      rw [if_pos rfl] at h1 h2
      rw [lex_eq h1 h2]
    · rw [if_neg e] at h1
      rw [if_neg (fun z => e z.symm)] at h2
      have a := of_decide_eq_false h1
      have b := of_decide_eq_false h2
      omega
theorem lex_uniq : ∀ {xs ys : List (List Nat × String)}, xs.Pairwise (fun x y => HT.lexLt (plK y) (plK x) = false) → ys.Pairwise (fun x y => HT.lexLt (plK y) (plK x) = false) → xs.Perm ys → (xs.map plK).Nodup → xs = ys
  | [], ys, _, _, h, _ => List.Perm.nil_eq h
  | x :: xs, [], _, _, h, _ => absurd (List.Perm.eq_nil h) (List.cons_ne_nil _ _)
  | x :: xs, y :: ys, h1, h2, h, hn => by
    obtain ⟨a1, a2⟩ := List.pairwise_cons.mp h1
    obtain ⟨b1, b2⟩ := List.pairwise_cons.mp h2
    have hx : x ∈ y :: ys := h.mem_iff.mp List.mem_cons_self
    have hy : y ∈ x :: xs := h.mem_iff.mpr List.mem_cons_self
    have e : x = y := by
      rcases List.mem_cons.mp hx with e | hx
      · exact e
      · rcases List.mem_cons.mp hy with e | hy
        · exact e.symm
        · exact nodup_inj hn x List.mem_cons_self y (List.mem_cons_of_mem _ hy) (lex_eq (b1 x hx) (a1 y hy))
    subst e
    rw [List.map_cons] at hn
    rw [lex_uniq a2 b2 h.cons_inv (List.nodup_cons.mp hn).2]
theorem ended_wok {w : Bx} {s0 : Fs} {S : Ws} (hs : Sm s0.1 s0.2) (h3 : s0.1 ≤ 3) (hb : Bok s0.1 s0.2) (h : Ended w s0 S) : WOk S := ended_ind h (P := WOk) (wok_start hs h3 hb) fun _ _ _ _ _ _ g => (wok_step g).1
theorem ended_len {w : Bx} {s0 : Fs} {S : Ws} (hs : Sm s0.1 s0.2) (h3 : s0.1 ≤ 3) (hb : Bok s0.1 s0.2) (h : Ended w s0 S) : S.found.length ≤ 341 ∧ S.left.length ≤ 341 := by
  have k := ended_wok hs h3 hb h
  have k1 := k.tot
  have k2 := k.len
  unfold wsN at k2
  omega
end Wb

namespace Wb
open PySem PySem.Spec PyProof.Rows L2 StX
open Evl (Ex Ex.refl Ex.trans Ex.new)
local macro_rules | `(tactic| wtm_at "dp") => `(tactic| first | with_reducible assumption | with_reducible exact Dp.int _ | with_reducible exact Dp.bl _ | with_reducible exact Dp.str _ | with_reducible exact Dp.non | ((with_reducible refine' dpMono ?dme (by with_reducible assumption)); (case dme => wtm_at "ex")) | ((with_reducible refine' Dp.tup (Evl.st_of ?dph) ?dpa); (case dph => wtm_at "hs"); (case dpa => wtm_at "dpa")) | ((with_reducible refine' Dp.lst (Evl.sq_of ?dph) ?dpa); (case dph => wtm_at "hs"); (case dpa => wtm_at "dpa")))
local macro_rules | `(tactic| wtm_at "dpa") => `(tactic| first | with_reducible exact DpAll.nil | ((with_reducible refine' DpAll.cons ?dp1 ?dp2); (case dp1 => wtm_at "dp"); (case dp2 => wtm_at "dpa")) | with_reducible assumption | ((with_reducible refine' dpMonoA ?dme (by with_reducible assumption)); (case dme => wtm_at "ex")))
local macro_rules | `(tactic| wtm_at "sz") => `(tactic| first | with_reducible assumption | ((with_reducible refine' sz_mul ?sz1 ?sz2); (case sz1 => wtm_at "sz"); (case sz2 => wtm_at "sz")) | ((with_reducible refine' sz_add ?sz1 ?sz2); (case sz1 => wtm_at "sz"); (case sz2 => wtm_at "sz")) | ((with_reducible refine' sz_sub ?sz1 ?sz2); (case sz1 => wtm_at "sz"); (case sz2 => wtm_at "sz")) | ((with_reducible refine' sz_neg ?sz1); (case sz1 => wtm_at "sz")) | ((with_reducible refine' sz_div ?sz1); (case sz1 => wtm_at "sz")) | ((with_reducible refine' sz_fdiv ?sz1); (case sz1 => wtm_at "sz")) | exact sz_lit (by decide) | wtm_at "sz2")
local macro_rules | `(tactic| wtm_at "szb") => `(tactic| first | with_reducible assumption | ((with_reducible refine' sz_mono ?szb1 ?szb2); (case szb1 => wtm_at "sz"); (case szb2 => decide)))
local macro_rules | `(tactic| wtm_at "nz") => `(tactic| first | assumption | decide | omega)
local macro_rules | `(tactic| wtm_at "shaped") => `(tactic| first | rfl | decide)
local macro_rules | `(tactic| wtm_at "sset") => `(tactic| ((dsimp only [L2.wipe, List.set, List.set_cons_zero, List.set_cons_succ]) <;> exact rfl))
local macro_rules | `(tactic| wtm_at "nrm") => `(tactic| dsimp only [L2.start, L2.wipe, List.set, List.append, List.map, List.map_cons, List.map_nil, List.length_cons, List.length_nil, Nat.reduceAdd, Nat.reduceSub, List.reduceReplicate, List.replicate, List.cons_append, List.nil_append, List.set_cons_zero, List.set_cons_succ])
local macro_rules | `(tactic| wtm_at "st") => `(tactic| first
  | ((with_reducible refine' i_var (v := ?u0) ?u1 ?uq); (case u1 => exact rfl))
  | ((with_reducible refine' i_nameN ?u0 ?uq); (case u0 => wtm_at "sset"))
  | (with_reducible refine' i_op ?uq)
  | (with_reducible refine' i_c ?uq)
  | (with_reducible refine' i_I0 ?uq)
  | ((with_reducible refine' i_ixTI (i := ?u0) ?u1 ?u2 ?u3 ?uq); (case u1 => wtm_at "dp"); (case u2 => wtm_at "ex"); (case u3 => exact rfl))
  | ((with_reducible refine' i_ixT (d := ?u0) ?u1 ?u2 ?u3 (fun xu hxu => ?uq)); (case u1 => wtm_at "dp"); (case u2 => wtm_at "ex"); (case u3 => exact rfl))
  | ((with_reducible refine' i_mul ?u0 ?u1 ?u2 ?uq); (case u0 => wtm_at "sz"); (case u1 => wtm_at "sz"); (case u2 => first | decide | omega))
  | (with_reducible refine' i_seq ?uq)
  | (with_reducible refine' i_asg ?uq)
  | (with_reducible refine' i_ret ?uq)
  | (with_reducible refine' i_ifs ?uq)
  | (with_reducible refine' i_drop ?uq)
  | (with_reducible refine' i_next ?uq)
  | (with_reducible refine' i_cons ?uq)
  | (with_reducible refine' i_nil ?uq)
  | (with_reducible refine' i_cl ?uq)
  | (with_reducible refine' i_cb ?uq)
  | (with_reducible refine' i_tup ?uq)
  | (with_reducible refine' i_lst ?uq)
  | ((with_reducible refine' i_mkT ?u0 (fun np nH nhe nhp => ?uq)); (case u0 => exact Nat.le_of_ble_eq_true rfl))
  | (with_reducible refine' i_test ?uq)
  | (with_reducible refine' i_B ?uq)
  | (with_reducible refine' i_k ?uq)
  | (with_reducible refine' i_and ?uq)
  | (with_reducible refine' i_or ?uq)
  | (with_reducible refine' i_not ?uq)
  | (with_reducible refine' i_andV ?uq)
  | (with_reducible refine' i_orV ?uq)
  | (with_reducible refine' i_notV ?uq)
  | (with_reducible refine' i_if ?uq)
  | (with_reducible refine' i_un ?uq)
  | (with_reducible refine' i_U ?uq)
  | (with_reducible refine' i_iteT ?uq)
  | (with_reducible refine' i_iteF ?uq)
  | ((with_reducible refine' i_iteTr ?u0 ?uq); (case u0 => first | with_reducible rfl | decide | (simp only [dIsInt, dIsBool, dIsTup, dIsStr, dIsLst, Bool.not_true, Bool.not_false]; done)))
  | ((with_reducible refine' i_iteFr ?u0 ?uq); (case u0 => first | with_reducible rfl | decide | (simp only [dIsInt, dIsBool, dIsTup, dIsStr, dIsLst, Bool.not_true, Bool.not_false]; done)))
  | (with_reducible refine' i_ite (fun hif => ?uqa) (fun hif => ?uqb))
  | (with_reducible refine' i_iteN (fun hif => ?uqa) (fun hif => ?uqb))
  | (with_reducible refine' i_iteBN (fun hif => ?uqa) (fun hif => ?uqb))
  | (with_reducible refine' i_iteB (fun hif => ?uqa) (fun hif => ?uqb))
  | ((with_reducible refine' i_modN ?u0 ?uq); (case u0 => wtm_at "nz"))
  | ((with_reducible refine' i_fdX ?u0 ?u1 ?u2 ?uq); (case u0 => wtm_at "nz"); (case u1 => wtm_at "sz"); (case u2 => first | decide | omega))
  | ((with_reducible refine' i_pow ?u0 ?uq); (case u0 => exact ⟨by decide, by decide +kernel⟩))
  | (with_reducible refine' i_eqI ?uq)
  | (with_reducible refine' i_neI ?uq)
  | (with_reducible refine' i_gcd ?uq)
  | (with_reducible refine' i_qabs ?uq)
  | (with_reducible refine' i_qint ?uq)
  | (with_reducible refine' i_qintB ?uq)
  | (with_reducible refine' i_qmax2 ?uq)
  | (with_reducible refine' i_qmin2 ?uq)
  | (with_reducible refine' i_isB ?uq)
  | (with_reducible refine' i_notB ?uq)
  | (with_reducible refine' i_chain ?uq)
  | (with_reducible refine' i_qisN ?uq)
  | (with_reducible refine' i_qnotN ?uq)
  | (with_reducible refine' i_yes ?uq)
  | (with_reducible refine' i_par ?uq)
  | (with_reducible refine' i_par3 ?uq)
  | ((with_reducible refine' i_par2 ?u0 ?uq); (case u0 => wtm_at "sset"))
  | ((with_reducible refine' i_par33 ?u0 ?uq); (case u0 => wtm_at "sset"))
  | ((with_reducible refine' i_ixLI (i := ?u0) ?u1 ?u2 ?u3 ?uq); (case u1 => wtm_at "dp"); (case u2 => wtm_at "ex"); (case u3 => exact rfl))
  | ((with_reducible refine' i_ixL (d := ?u0) ?u1 ?u2 ?u3 (fun xu hxu => ?uq)); (case u1 => wtm_at "dp"); (case u2 => wtm_at "ex"); (case u3 => exact rfl))
  | ((with_reducible refine' i_qlenT ?u0 ?uq); (case u0 => wtm_at "dp"))
  | ((with_reducible refine' i_qlenL ?u0 ?uq); (case u0 => wtm_at "dp"))
  | ((with_reducible refine' i_gtup ?u0 ?u1 ?u2 (fun gvs gdp => ?uq)); (case u0 => wtm_at "dp"); (case u1 => wtm_at "ex"); (case u2 => exact rfl))
  | ((with_reducible refine' i_glst ?u0 ?u1 ?u2 (fun gvs gdp => ?uq)); (case u0 => wtm_at "dp"); (case u1 => wtm_at "ex"); (case u2 => exact rfl))
  | ((with_reducible refine' i_gconsI ?u0 (fun gr gh => ?uq)); (case u0 => with_reducible assumption))
  | ((with_reducible refine' i_gconsA ?u0 (fun gv gr gh1 gh2 => ?uq)); (case u0 => with_reducible assumption))
  | ((with_reducible refine' i_gnilA ?u0 ?uq); (case u0 => with_reducible assumption))
  | ((with_reducible refine' i_isiI ?u0 ?uq); (case u0 => wtm_at "dp"))
  | ((with_reducible refine' i_isiB ?u0 ?uq); (case u0 => wtm_at "dp"))
  | ((with_reducible refine' i_isiT ?u0 ?uq); (case u0 => wtm_at "dp"))
  | ((with_reducible refine' i_isiS ?u0 ?uq); (case u0 => wtm_at "dp"))
  | ((with_reducible refine' i_isiL ?u0 ?uq); (case u0 => wtm_at "dp"))
  | ((with_reducible refine' i_eqD ?u0 ?u1 ?u2 ?u3 ?uq); (case u0 => wtm_at "dp"); (case u1 => wtm_at "dp"); (case u2 => wtm_at "shaped"); (case u3 => wtm_at "shaped"))
  | ((with_reducible refine' i_neD ?u0 ?u1 ?u2 ?u3 ?uq); (case u0 => wtm_at "dp"); (case u1 => wtm_at "dp"); (case u2 => wtm_at "shaped"); (case u3 => wtm_at "shaped"))
  | wtm_at "st2"
  | wtm_at "use")
local macro_rules | `(tactic| wtm_at "go") => `(tactic| repeat' (wtm_at "st"))
local macro_rules | `(tactic| wtm_at "go0") => `(tactic| ((try dsimp only [L2.cxOf, L2.Cx.nox, L2.Cx.wish, L2.Cx.tr, L2.Cx.blk]); (try wtm_at "nrm"); wtm_at "go"))
local macro_rules | `(tactic| wtm_at "fin") => `(tactic| ((try dsimp only); first | with_reducible assumption | assumption | ((with_reducible refine' Ret.use ?rur ?rue ?rud); (case rur => with_reducible assumption); (case rue => wtm_at "ex"); (case rud => wtm_at "dp"))))
local macro_rules | `(tactic| wtm_at "exh") => `(tactic| first | with_reducible assumption | with_reducible exact Ex.refl _ | with_reducible exact ex_hid | ((with_reducible refine' Ex.trans ?exe (by with_reducible assumption)); (case exe => wtm_at "exh")) | ((with_reducible refine' Ex.trans ?exe (hid_ex (by with_reducible assumption))); (case exe => wtm_at "exh")))
local macro_rules | `(tactic| wtm_at "ex") => `(tactic| first | with_reducible assumption | with_reducible exact Ex.refl _ | with_reducible exact ex_hid | ((with_reducible refine' Ex.trans ?exe (by with_reducible assumption)); (case exe => wtm_at "ex")) | ((with_reducible refine' Ex.trans ?exe (hid_ex (by with_reducible assumption))); (case exe => wtm_at "ex")) | ((with_reducible refine' Ex.trans ?exe ex_hid); (case exe => wtm_at "exh")))
local macro_rules | `(tactic| wtm_at "bag") => `(tactic| first | with_reducible assumption | ((with_reducible refine' Bag.mono ?bgm (by with_reducible assumption)); (case bgm => wtm_at "bag")))
local macro_rules | `(tactic| wtm_at "hs") => `(tactic| first | with_reducible assumption | ((with_reducible refine' hid_tup ?hb ?hp); (case hp => with_reducible assumption); (case hb => wtm_at "bag")) | ((with_reducible refine' hid_new ?hb ?hn ?hp); (case hp => with_reducible assumption); (case hn => with_reducible assumption); (case hb => wtm_at "bag")) | ((with_reducible refine' ex_at ?exe (by with_reducible assumption)); (case exe => wtm_at "ex")))
local macro_rules | `(tactic| wtm_at "st2") => `(tactic| first
  | ((with_reducible refine' i_mulC ?u0 ?uq); (case u0 => first | exact cmul_l (by decide) | exact cmul_r (by decide)))
  | ((with_reducible refine' i_ixLr (v := ?u0) ?u1 ?u2 ?uq); (case u1 => with_reducible assumption); (case u2 => exact rfl))
  | (with_reducible refine' i_sub ?uq)
  | ((with_reducible refine' i_mkL ?u0 (fun np nH nfr nhe nhp => ?uq)); (case u0 => exact Nat.le_of_ble_eq_true rfl))
  | ((with_reducible refine' i_setL (n := ?u0) ?u1 ?u2 (fun sH sh se => ?uq)); (case u1 => with_reducible assumption); (case u2 => exact rfl))
  | (with_reducible refine' i_sl ?uq)
  | (with_reducible refine' i_nopart ?uq)
  | (with_reducible refine' i_part ?uq)
  | (with_reducible refine' i_part1 ?uq))
local macro_rules | `(tactic| wtm_at "sz2") => `(tactic| ((with_reducible refine' sz_fmod ?sz1 ?sz2); (case sz1 => wtm_at "nz"); (case sz2 => wtm_at "sz")))
local macro_rules | `(tactic| wtm_at "stb") => `(tactic| first
  | ((with_reducible refine' i_mkTB ?u0 ?u1 (fun np nH nhe nhb nhp => ?uq)); (case u0 => exact Nat.le_of_ble_eq_true rfl); (case u1 => wtm_at "bag"))
  | ((with_reducible refine' i_mkLB ?u0 ?u1 (fun np nH nfr nhe nhb nhp => ?uq)); (case u0 => exact Nat.le_of_ble_eq_true rfl); (case u1 => wtm_at "bag"))
  | wtm_at "st")
local macro_rules | `(tactic| wtm_at "gob") => `(tactic| repeat' (wtm_at "stb"))
local macro_rules | `(tactic| wtm_at "gob0") => `(tactic| ((try dsimp only [L2.cxOf, L2.Cx.nox, L2.Cx.wish, L2.Cx.tr, L2.Cx.blk]); (try wtm_at "nrm"); wtm_at "gob"))
local macro_rules | `(tactic| wtm_at "st") => `(tactic| first | ((with_reducible refine' i_ixTS (z := ?u0) ?u1 ?u2 ?u3 ?uq); (case u1 => wtm_at "dp"); (case u2 => wtm_at "ex"); (case u3 => exact rfl)) | fail)
local macro_rules | `(tactic| wtm_at "st2") => `(tactic| first | ((with_reducible refine' i_eqST ?u0 ?uq); (case u0 => with_reducible rfl)) | ((with_reducible refine' i_eqSF ?u0 ?uq); (case u0 => decide +kernel)) | ((with_reducible refine' i_neST ?u0 ?uq); (case u0 => with_reducible rfl)) | ((with_reducible refine' i_neSF ?u0 ?uq); (case u0 => decide +kernel)) | fail)
section
variable {P : Program} {w : World} {K : PySem.W.Frag} {mg : Str → Option Value} {base : Heap} {H H' : Hp} {Q : VK} {E : XK} {v1 v2 v3 v4 v5 : V}
local macro_rules | `(tactic| wtm_at "use") => `(tactic| ((with_reducible refine' use__law_apart_word ?u0 ?u1 ?uq); (case u0 => wtm_at "dp"); (case u1 => wtm_at "dp")))
def qDict : List V → Hp → VK → Prop := fun xs H Q => ∃ (a : Addr) (kvs : List (Key × V)), xs = [.ref a] ∧ Rd H a (.dK kvs) ∧ ∀ p, H p = none → Q (.ref p) (upd H p (.dK kvs))
theorem i_methU {C : Addr} {m : Str} {sp : Sp} {dvs : List V} {E : XK} {ta : TE} {t : TA} {σ : L2.St} (q : ta σ H fun x H1 => ∃ a dx fs, x = V.ref a ∧ H1 a = some (.ins C dx fs) ∧ fs.lookup m = none ∧ t σ H1 fun vs H2 => sp (x :: (vs ++ dvs)) H2 Q E) : tMeth C m sp dvs E ta t σ H Q := q
theorem i_sFldU {ta tv : TE} {f : Str} {D : Ends} {σ : L2.St} (q : tv σ H fun y H1 => ta σ H1 fun x H2 => ∃ a C dx fs, x = V.ref a ∧ H2 a = some (.ins C dx fs) ∧ Cls K C ∧ NoAttr K C f ∧ fs.length < 1000 ∧ D.nx σ (upd H2 a (.ins C dx (putF f y fs)))) : sFld K ta tv f D σ H := q
/-- the tree of a form, its dict of boxes -/
def TreeB (K : PySem.W.Frag) (CT : Addr) (H : Hp) (x dx : Addr) (s : Fs) : Prop := ∃ (fs : List (Str × V)) (fv : V) (d : Addr) (kvs : List (Key × V)), H x = some (.ins CT dx fs) ∧ fs.lookup ("own_form" : Str) = some fv ∧ Dp K H fv (fsD s) ∧ fs.lookup ("own_boxes" : Str) = some (.ref d) ∧ H d = some (.dK kvs) ∧ (fsE s = [] → kvs = []) ∧ (∀ m : Str, m ≠ "own_form" → m ≠ "own_boxes" → fs.lookup m = none)
theorem use_told_form {CK : Addr} {G : Hp} {s : Fs} (hcase : (∃ fv, KeptAt H CK v2 fv ∧ Dp K G fv (fsD s)) ∨ (Dp K H v2 (.tuple []) ∧ s = ⟨0, mkLf []⟩)) (q : ∀ fv H1, Ex H H1 → (Dp K G fv (fsD s) ∨ Dp K H1 fv (fsD s)) → Q fv H1) : sp_told_form K CK [v1, v2] H Q E := by
  refine ⟨_, _, rfl, ?_⟩
  rcases hcase with ⟨fv, h1, h2⟩ | ⟨h1, rfl⟩
  · exact .inl ⟨fv, h1, q fv H (Ex.refl _) (.inl h2)⟩
  · exact .inr ⟨h1, fun v H1 e1 hv => q v H1 e1 (.inr hv)⟩
theorem KeptAt.mono {CK : Addr} {v fv : V} (h : KeptAt H CK v fv) (e : Ex H H') : KeptAt H' CK v fv := by
  obtain ⟨a, dx, h1, h2, h3, h4⟩ := h
  refine ⟨a, dx, h1, e _ _ h2, h3, ?_⟩
  rcases h4 with h4 | ⟨h4, h5⟩
  · exact .inl (e _ _ h4)
  · cases h4
theorem head_en (x : En) (u : V) (h : Dp K H u (enD x)) : ∃ t y ys, u = .ref t ∧ SqT K H t (y :: ys) ∧ HedI K H y [x.1] := by
  obtain ⟨t, us, rfl, hs, ha⟩ := dpTup h
  cases ha with
  | cons h1 h2 =>
    cases dpInt h1
    exact ⟨t, _, _, rfl, hs, _, rfl, rfl⟩
theorem nodup_one {es : List En} (h : (es.map (·.1)).Nodup) : (es.map fun e => [e.1]).Nodup := by
  have e : (es.map fun e => [e.1]) = (es.map (·.1)).map fun i => [i] := by rw [List.map_map]; rfl
  rw [e]
  exact List.Pairwise.map _ (fun a b (hab : a ≠ b) z => hab (by simpa using z)) h
theorem TreeB.at_ {CT x dx : Addr} {s : Fs} (h : TreeB K CT H x dx s) : TreeAt K CT H x s := by
  obtain ⟨fs, fv, d, kvs, h1, h2, h3, _⟩ := h
  exact ⟨dx, fs, fv, h1, h2, h3⟩
theorem TreeB.mono {CT x dx : Addr} {s : Fs} (h : TreeB K CT H x dx s) (e : Ex H H') : TreeB K CT H' x dx s := by
  obtain ⟨fs, fv, d, kvs, h1, h2, h3, h4, h5, h6⟩ := h
  exact ⟨fs, fv, d, kvs, e _ _ h1, h2, dpMono e h3, h4, e _ _ h5, h6⟩
theorem i_mkU {C : Addr} {sp : Sp} {dvs : List V} {E : XK} {ta : TA} {σ : L2.St} (q : ta σ H fun vs H1 => ∀ x dx, H1 x = none → H1 dx = none → dx ≠ x → sp (.ref x :: (vs ++ dvs)) (upd (upd H1 dx (.own x)) x (.ins C dx [])) (fun v H2 => v = .non ∧ Q (.ref x) H2) E) : tMake C sp dvs E ta σ H Q := q
def sp_Tree_init (K : PySem.W.Frag) (CT CK : Addr) : Sp := A2 fun v1 v2 H Q => ∃ (x dx : Addr) (G : Hp) (s : Fs), v1 = .ref x ∧ Ex G H ∧ G x = none ∧ H x = some (.ins CT dx []) ∧ ((∃ fv, KeptAt H CK v2 fv ∧ Dp K G fv (fsD s)) ∨ (Dp K H v2 (.tuple []) ∧ s = ⟨0, mkLf []⟩)) ∧ Sm s.1 s.2 ∧ s.1 ≤ 3 ∧ ((fsE s).map (·.1)).Nodup ∧
  ∀ H2, Ex G H2 → TreeB K CT H2 x dx s → Q .non H2
abbrev s_Tree_init : Stmt := inClass (top 53) 0
theorem sc_Tree_init : FnScope ["self", "entries", "number", "box"] ["self", "entries"] (defScope s_Tree_init) := ⟨rfl, rfl, rfl, by decide +kernel, rfl, by decide +kernel, by decide +kernel⟩
theorem ok_Tree_init {f : Addr} {fd : FuncData} (F : FunD K "__init__" "Tree.__init__" (defArgs s_Tree_init) (defBody s_Tree_init) (defScope s_Tree_init) [.ref (dfT K)] [] f fd) (g : G mg) {CT : Addr} (ct : Cls K CT) (na : NoAttr K CT "own_form") (nb : NoAttr K CT "own_boxes") {CK fTF : Addr} {fdTF : FuncData} (mTF : Meth K CT "told_form" fTF) (FTF : FnOk P w K mg base CX0 5 fTF fdTF ["self", "entries"] (sp_told_form K CK)) (bTF : Binds K fdTF ["self", "entries"] []) (c_entries_in : Cl P w K mg base 4 "entries_in" (sp_entries_in K 4)) : FnOk P w K mg base CX0 6 f fd ["self", "entries"] (sp_Tree_init K CT CK) := by
  have nd := sc_Tree_init.nd
  refine F.ok sc_Tree_init (fun vs H Q E h => h.len) (fun cdv A outer s H vs Q E hr h => ?_)
  obtain ⟨v1, v2, rfl, h⟩ := h
  refine ⟨_, PSs.nox (pss_cons (ps_fld (pv 0) (pe_meth (pv 0) ct mTF FTF (hr.mono (by decide)) bTF .nil pass0 (pa_cons (pv 1) pa_nil)) rfl) (pss_one (ps_fld (pv 0) (pe_dc (own := [("number", 2), ("box", 3)]) (g := _) (by rfl) nd (pi_list (pe_callB cr_sortHI (by rfl) g.f_sorted boot_sorted (pa_cons (pc c_entries_in hr (by first | decide | omega) (by rfl) (pa_cons (pe_fld (pv 0) rfl) pa_nil)) pa_nil))) (blkOk_by (N := ["self", "entries", "number", "box"]) (sc := defScope s_Tree_init) (own := [("number", 2), ("box", 3)]) (by decide +kernel)) (fun _ _ _ _ _ => (show PG _ _ (gTup K 2 _) from (pg_tup (by rfl) (pgs_cons (pg_name (i := 2) nd rfl (Or.inl rfl)) (pgs_cons (pg_name (i := 3) nd rfl (Or.inl rfl)) pgs_nil))))) (fun _ _ _ _ _ => pts_nil) (fun _ _ _ _ _ => (pv 2)) (fun _ _ _ _ _ => (pv 3))) rfl))), ?_⟩
  obtain ⟨x, dx, G, s, rfl, eG, hGx, hx, hcase, hs, h3, hnd, q⟩ := h
  wtm_at "go0"
  refine i_sFldU ?_
  refine i_methU ?_
  wtm_at "go"
  refine ⟨x, dx, [], rfl, hx, rfl, ?_⟩
  wtm_at "go"
  refine use_told_form hcase (fun fv H1 e1 hfv => ?_)
  wtm_at "go"
  have hx1 := e1 _ _ hx
  refine ⟨x, CT, dx, [], rfl, hx1, ct, na, by decide, ?_⟩
  have ep : putF "own_form" fv ([] : List (Str × V)) = [(("own_form" : Str), fv)] := rfl
  rw [ep]
  have eG2 : Ex G (upd H1 x (.ins CT dx [(("own_form" : Str), fv)])) := Evl.Ex.mut (eG.trans e1) hGx
  have hf2 : Dp K (upd H1 x (.ins CT dx [(("own_form" : Str), fv)])) fv (fsD s) := by
    rcases hfv with h | h
    · exact dpMono eG2 h
    · exact dpUpdO hx1 (fun z h => by cases h) (fun q z h => by cases h) (noL_fs s) h
  have hx2 : upd H1 x (.ins CT dx [(("own_form" : Str), fv)]) x = some (.ins CT dx [(("own_form" : Str), fv)]) := upd_same
  generalize upd H1 x (.ins CT dx [(("own_form" : Str), fv)]) = H2 at *
  dsimp only
  refine i_sFldU ?_
  refine i_dcU ?_
  wtm_at "go"
  refine i_fldU ?_
  wtm_at "go"
  refine ⟨x, CT, dx, _, fv, rfl, hx2, ct, na, rfl, ?_⟩
  wtm_at "go"
  refine use_entries_in (n := 4) (by omega) (by omega) hf2 hs (fun p3 H3 n3 e3 h3' => ?_)
  wtm_at "go"
  refine i_sortH (enc := enD) (key := fun e => [e.1]) (xs := ents s.1 s.2) h3' (fun e _ u hu => head_en e u hu) (nodup_one hnd) (fun p4 H4 ys hy1 hy2 n4 e4 h4 => ?_)
  wtm_at "go"
  have hyl : ys.length ≤ 256 := by rw [hy1.length_eq]; exact ents_le h3 hs
  refine i_dcK (enc := enD) (xs := ys) (fun e => Sum.inl e.1) h4 (by omega) (fun u e H5 R Y e5 hm hu hy => ?_) (fun D H5 kvs hD e5 hd5 hn5 hm5 => ?_)
  · unfold enD at hu
    wtm_at "nrm"
    wtm_at "go"
    refine ⟨rfl, ?_⟩
    wtm_at "go"
    exact hy _ _ (Ex.refl _)
  wtm_at "go"
  have e25 : Ex H2 H5 := (e3.trans e4).trans e5
  have hx5 := e25 _ _ hx2
  refine ⟨x, CT, dx, _, rfl, hx5, ct, nb, (by show 1 < 1000; decide), ?_⟩
  have ep2 : putF "own_boxes" (.ref D) [(("own_form" : Str), fv)] = [(("own_form" : Str), fv), (("own_boxes" : Str), .ref D)] := rfl
  rw [ep2]
  dsimp only
  have hDx : D ≠ x := fun z => by
    rw [z, hx5] at hd5
    cases hd5
  refine q _ (Evl.Ex.mut (eG2.trans e25) hGx) ⟨_, fv, D, kvs, upd_same, rfl, dpUpdO hx5 (fun z h => by cases h) (fun q z h => by cases h) (noL_fs s) (dpMono e25 hf2), rfl, by rw [upd_ne hDx]; exact hd5, fun he => ?_, fun m h1 h2 => ?_⟩
  · have hys : ys = [] := by
      have : ents s.1 s.2 = [] := he
      rw [this] at hy1
      exact List.Perm.eq_nil hy1
    cases kvs with
    | nil => rfl
    | cons kv r =>
      have := (hm5 kv.1).mp List.mem_cons_self
      rw [hys] at this
      cases this
  · have a1 : (m == ("own_form" : Str)) = false := beq_eq_false_iff_ne.mpr h1
    have a2 : (m == ("own_boxes" : Str)) = false := beq_eq_false_iff_ne.mpr h2
    simp only [List.lookup, a1, a2]
def sp_Tree_told (K : PySem.W.Frag) (CT : Addr) : Sp := A2 fun v1 v2 H Q => v1 = .ref CT ∧ ∃ s : Fs, Dp K H v2 (fsD s) ∧ Right s.1 s.2 ∧ foSz s.1 s.2 ≤ 4 ∧ (0 < s.1 → 2 ≤ foSz s.1 s.2) ∧ s.1 ≤ 3 ∧ ((fsE s).map (·.1)).Nodup ∧ ∀ x dx H2, Ex H H2 → TreeB K CT H2 x dx s → Q (.ref x) H2
abbrev s_Tree_told : Stmt := inClass (top 53) 2
theorem sc_Tree_told : FnScope ["cls", "form", "flaws", "word"] ["cls", "form"] (defScope s_Tree_told) := ⟨rfl, rfl, rfl, by decide +kernel, rfl, by decide +kernel, by decide +kernel⟩
theorem ok_Tree_told {f : Addr} {fd : FuncData} (F : FunD K "told" "Tree.told" (defArgs s_Tree_told) (defBody s_Tree_told) (defScope s_Tree_told) [] [] f fd) (g : G mg) {CT CK fT fK : Addr} {fdT fdK : FuncData} (mK : mg "Kept" = some (.ref CK)) (MT : Mk K CT fT) (FT : FnOk P w K mg base CX0 6 fT fdT ["self", "entries"] (sp_Tree_init K CT CK)) (bT : Binds K fdT ["self", "entries"] []) (MK : Mk K CK fK) (FK : FnOk P w K mg base CX0 1 fK fdK ["self", "form"] (sp_Kept_init K CK)) (bK : Binds K fdK ["self", "form"] []) (c_flaws_of : Cl P w K mg base 11 "flaws_of" (sp_flaws_of K 4)) : FnOk P w K mg base CX0 12 f fd ["cls", "form"] (sp_Tree_told K CT) := by
  have nd := sc_Tree_told.nd
  refine F.ok sc_Tree_told (fun vs H Q E h => h.len) (fun cdv A outer s H vs Q E hr h => ?_)
  obtain ⟨v1, v2, rfl, h⟩ := h
  refine ⟨_, PSs.nox (pss_cons (ps_set (i := 2) nd rfl (Or.inl rfl) (pc c_flaws_of hr (by first | decide | omega) (by rfl) (pa_cons (pv 1) pa_nil))) (pss_cons (ps_if (pt_cmpR (op_neD hr.units) (pe_lc (own := [("word", 3)]) (g := gName 3) (by rfl) nd (pi_list (pv 2)) (blkOk_by (N := ["cls", "form", "flaws", "word"]) (sc := defScope s_Tree_told) (own := [("word", 3)]) (by decide +kernel)) (fun _ _ _ _ _ => (pg_name (i := 3) nd rfl (Or.inl rfl))) (fun _ _ _ _ _ => (pts_one (pt_cmpR op_ne (pv 3) pe_str (nomark _)))) (fun _ _ _ _ _ => (pv 3))) (pe_lst pa_nil) (nomark _)) (pss_one ps_never) pss_nil) (pss_cons (ps_if (pt_cmpR (op_neD hr.units) (pv 2) (pe_lst pa_nil) (nomark _)) (pss_one ps_never) pss_nil) (pss_one (ps_ret (pe_makeV (i := 0) MT FT (hr.mono (by decide)) (pv 0) bT pass0 (pa_cons (pe_make MK FK (hr.mono (by decide)) (by rfl) mK bK .nil pass0 (pa_cons (pv 1) pa_nil)) pa_nil))))))), ?_⟩
  obtain ⟨rfl, s, h2, hr', hz4, hz2, h3, hnd, q⟩ := h
  have hs := sm_of s.1 s.2 hz4 hr'
  have hb := bok_of s.1 s.2 hr'
  wtm_at "go0"
  refine ⟨_, rfl, s.1, by omega, by omega, s.2, h2, hs, hb, hr', hz2, hz4, hnd, fun p H1 n1 e1 h1 => ?_⟩
  wtm_at "go"
  refine i_lcLU ?_
  wtm_at "go"
  refine i_lcGL (α := Unit) (enc := fun _ => .none) (xs := []) (fun _ => true) (fun _ => .none) h1 (Nat.zero_le _) (fun _ _ => rfl) (fun u x H2 R Y e2 hm hu hn hy => by cases hm) (fun p2 H2 hp2 e2 hl2 => ?_)
  wtm_at "go"
  have e12 := e1.trans e2
  rename_i p3 H3 n3 e3 hp3 p4 H4 n4 e4 hp4
  have e04 : Ex H H4 := by wtm_at "ex"
  refine ⟨rfl, ?_⟩
  refine i_mkU ?_
  wtm_at "go"
  refine i_mkU ?_
  wtm_at "go"
  intro k kdx nk nkd nek
  refine ⟨_, _, rfl, k, kdx, rfl, SlAt.made nek, rfl, ?_⟩
  have eK : Ex H4 (upd (upd (upd H4 kdx (.own k)) k (.ins CK kdx [])) k (SlO CK kdx k [some v2])) := Evl.Ex.mut (Evl.Ex.mut (Ex.new nkd) nk) nk
  have hK : KeptAt (upd (upd (upd H4 kdx (.own k)) k (.ins CK kdx [])) k (SlO CK kdx k [some v2])) CK (.ref k) v2 := ⟨k, kdx, rfl, SlAt.here (SlAt.made nek)⟩
  generalize upd (upd (upd H4 kdx (.own k)) k (.ins CK kdx [])) k (SlO CK kdx k [some v2]) = HK at *
  wtm_at "go"
  intro x dx nx ndx nex
  have e5 : Ex HK (upd (upd HK dx (.own x)) x (.ins CT dx [])) := Evl.Ex.mut (Ex.new ndx) nx
  have e0K := e04.trans eK
  refine ⟨_, _, rfl, x, dx, HK, s, rfl, e5, nx, upd_same, .inl ⟨v2, hK.mono e5, dpMono e0K h2⟩, hs, h3, hnd, fun H6 e6 hT => ⟨rfl, q x dx H6 (e0K.trans e6) hT⟩⟩
def sp_Tree_search (K : PySem.W.Frag) (CT : Addr) : Sp := A2 fun v1 v2 H Q => ∃ (a : Addr) (s : Fs) (w : Bx), v1 = .ref a ∧ TreeAt K CT H a s ∧ Sm s.1 s.2 ∧ s.1 ≤ 3 ∧ Bok s.1 s.2 ∧ Dp K H v2 (bxD w) ∧ w.ok ∧ ∀ (S : Ws) (fs : List Int), Ended w s S → fs.Perm S.found → fs.Pairwise (· ≤ ·) → Ret K (.tuple (fs.map PyData.int)) H Q
abbrev s_Tree_search : Stmt := inClass (top 53) 10
theorem sc_Tree_search : FnScope ["self", "box"] ["self", "box"] (defScope s_Tree_search) := ⟨rfl, rfl, rfl, by decide +kernel, rfl, by decide +kernel, by decide +kernel⟩
theorem ok_Tree_search {f : Addr} {fd : FuncData} (F : FunD K "search" "Tree.search" (defArgs s_Tree_search) (defBody s_Tree_search) (defScope s_Tree_search) [] [] f fd) (g : G mg) {CT : Addr} (ct : Cls K CT) (na : NoAttr K CT "own_form") (nb : NoAttr K CT "own_boxes") (c_require_box : Cl P w K mg base 3 "require_box" (sp_require_box K)) (c_searched : Cl P w K mg base 3 "searched" (sp_searched K CT)) : FnOk P w K mg base CX0 4 f fd ["self", "box"] (sp_Tree_search K CT) := by
  have nd := sc_Tree_search.nd
  refine F.ok sc_Tree_search (fun vs H Q E h => h.len) (fun cdv A outer s H vs Q E hr h => ?_)
  obtain ⟨v1, v2, rfl, h⟩ := h
  refine ⟨_, PSs.nox (pss_cons (ps_expr (pc c_require_box hr (by first | decide | omega) (by rfl) (pa_cons (pv 1) pa_nil))) (pss_one (ps_ret (pe_callTy call_qtuple (by rfl) g.f_tuple boot_tuple (pa_cons (pe_ix ix_tup (pc c_searched hr (by first | decide | omega) (by rfl) (pa_cons (pv 0) (pa_cons (pe_lst (pa_cons (pv 1) pa_nil)) pa_nil))) pe_int (fun _ _ => rfl)) pa_nil))))), ?_⟩
  obtain ⟨a, s, w, rfl, hT, hs, h3, hb, hw, hok, q⟩ := h
  wtm_at "go0"
  refine use_require_box hw hok (fun H1 e1 => ?_)
  wtm_at "go"
  rename_i np nH nfr nhe nhp
  have e01 := e1.trans nhe
  refine use_searched ct na (hT.mono e01) hs h3 hb (.lst (Evl.sq_of nhp) (.cons (dpMono e01 hw) .nil)) (fun p H2 S fs ls fA lA hE f1 f2 l1 l2 e2 hp0 hf hl => ?_)
  have hp := And.intro trivial hp0
  clear hp0
  wtm_at "go"
  refine ⟨p, _, 0, _, rfl, rfl, Evl.st_of hp.2, rfl, ?_⟩
  wtm_at "go"
  refine i_qtupleL hf (fun p5 H5 e5 hh => ?_)
  obtain ⟨vs, g1, g2⟩ := hh
  exact q S fs hE f1 f2 _ _ ((e01.trans e2).trans e5) (.tup (Evl.st_of g1) g2)
def sp_Tree_search_paper (K : PySem.W.Frag) (CT : Addr) : Sp := A2 fun v1 v2 H Q => ∃ (a : Addr) (s : Fs) (w : Bx), v1 = .ref a ∧ TreeAt K CT H a s ∧ Sm s.1 s.2 ∧ s.1 ≤ 3 ∧ Bok s.1 s.2 ∧ Dp K H v2 (bxD w) ∧ w.ok ∧ ∀ (S : Ws) (fs : List Int) (ls : List (List Nat × String)), Ended w s S → fs.Perm S.found → fs.Pairwise (· ≤ ·) → ls.Perm S.left → ls.Pairwise (fun x y => HT.lexLt (plK y) (plK x) = false) →
  Ret K (.tuple [.tuple (fs.map PyData.int), .tuple (ls.map lefL), .int (S.looked : Int)]) H Q
abbrev s_Tree_search_paper : Stmt := inClass (top 53) 11
theorem sc_Tree_search_paper : FnScope ["self", "box", "found", "left", "looked", "place", "index", "word"] ["self", "box"] (defScope s_Tree_search_paper) := ⟨rfl, rfl, rfl, by decide +kernel, rfl, by decide +kernel, by decide +kernel⟩
theorem ok_Tree_search_paper {f : Addr} {fd : FuncData} (F : FunD K "search_paper" "Tree.search_paper" (defArgs s_Tree_search_paper) (defBody s_Tree_search_paper) (defScope s_Tree_search_paper) [] [] f fd) (g : G mg) {CT : Addr} (ct : Cls K CT) (na : NoAttr K CT "own_form") (nb : NoAttr K CT "own_boxes") (c_require_box : Cl P w K mg base 3 "require_box" (sp_require_box K)) (c_searched : Cl P w K mg base 3 "searched" (sp_searched K CT)) : FnOk P w K mg base CX0 4 f fd ["self", "box"] (sp_Tree_search_paper K CT) := by
  have nd := sc_Tree_search_paper.nd
  refine F.ok sc_Tree_search_paper (fun vs H Q E h => h.len) (fun cdv A outer s H vs Q E hr h => ?_)
  obtain ⟨v1, v2, rfl, h⟩ := h
  refine ⟨_, PSs.nox (pss_cons (ps_expr (pc c_require_box hr (by first | decide | omega) (by rfl) (pa_cons (pv 1) pa_nil))) (pss_cons (ps_asg (pc c_searched hr (by first | decide | omega) (by rfl) (pa_cons (pv 0) (pa_cons (pe_lst (pa_cons (pv 1) pa_nil)) pa_nil))) (pg_tup (n := 3) (by rfl) (pgs_cons (pg_name (i := 2) nd rfl (Or.inl rfl)) (pgs_cons (pg_name (i := 3) nd rfl (Or.inl rfl)) (pgs_cons (pg_name (i := 4) nd rfl (Or.inl rfl)) pgs_nil))))) (pss_one (ps_ret (pe_tup (pa_cons (pe_callTy call_qtuple (by rfl) g.f_tuple boot_tuple (pa_cons (pv 2) pa_nil)) (pa_cons (pe_callTy call_qtuple (by rfl) g.f_tuple boot_tuple (pa_cons (pe_lc (own := [("place", 5), ("index", 6), ("word", 7)]) (g := _) (by rfl) nd (pi_list (pv 3)) (blkOk_by (N := ["self", "box", "found", "left", "looked", "place", "index", "word"]) (sc := defScope s_Tree_search_paper) (own := [("place", 5), ("index", 6), ("word", 7)]) (by decide +kernel)) (fun _ _ _ _ _ => (show PG _ _ (gTup K 3 _) from (pg_tup (by rfl) (pgs_cons (pg_name (i := 5) nd rfl (Or.inl rfl)) (pgs_cons (pg_name (i := 6) nd rfl (Or.inl rfl)) (pgs_cons (pg_name (i := 7) nd rfl (Or.inl rfl)) pgs_nil)))))) (fun _ _ _ _ _ => pts_nil) (fun _ _ _ _ _ => (pe_tup (pa_cons (pv 5) (pa_cons (pv 7) pa_nil))))) pa_nil)) (pa_cons (pv 4) pa_nil)))))))), ?_⟩
  obtain ⟨a, s, w, rfl, hT, hs, h3, hb, hw, hok, q⟩ := h
  wtm_at "go0"
  refine use_require_box hw hok (fun H1 e1 => ?_)
  wtm_at "go"
  rename_i np nH nfr nhe nhp
  have e01 := e1.trans nhe
  refine use_searched ct na (hT.mono e01) hs h3 hb (.lst (Evl.sq_of nhp) (.cons (dpMono e01 hw) .nil)) (fun p H2 S fs ls fA lA hE f1 f2 l1 l2 e2 hp0 hf hl => ?_)
  have hp := And.intro trivial hp0
  clear hp0
  wtm_at "go"
  refine ⟨p, _, rfl, Evl.st_of hp.2, rfl, ?_⟩
  refine i_gcons ?_
  wtm_at "go"
  refine i_gcons ?_
  wtm_at "go"
  refine i_gcons ?_
  wtm_at "go"
  refine i_gnil ?_
  wtm_at "go"
  refine i_qtupleL hf (fun p5 H5 e5 hh => ?_)
  obtain ⟨vs, g1, g2⟩ := hh
  wtm_at "go"
  refine i_lcLU ?_
  wtm_at "go"
  have hl8 : ls.length ≤ 100000 := by have := (ended_len hs h3 hb hE).2; rw [l1.length_eq]; omega
  refine i_lcGL (enc := lefD) (xs := ls) (fun _ => true) lefL (dpMono e5 hl) hl8 (fun x _ => noL_lefL x) (fun u x H6 R Y e6 hm hu hn hy => ?_) (fun p6 H6 n6 e6 h6 => ?_)
  · have hu : Dp K H6 u (.tuple [plD x.1, .int 0, .str (Str.ofString x.2)]) := hu
    wtm_at "nrm"
    wtm_at "go"
    refine ⟨rfl, ?_⟩
    wtm_at "go"
    rename_i np2 nH2 nhe2 nhp2
    exact hy rfl _ _ nhe2 (.tup (Evl.st_of nhp2) (.cons (dpMono nhe2 (by assumption)) (.cons (dpMono nhe2 (by assumption)) .nil)))
  rw [filt_true] at h6
  wtm_at "go"
  refine i_qtupleL h6 (fun p7 H7 e7 hh => ?_)
  obtain ⟨ws, g3, g4⟩ := hh
  wtm_at "go"
  rename_i np3 nH3 nhe3 nhp3
  have e57 := (e6.trans e7).trans nhe3
  exact q S fs ls hE f1 f2 l1 l2 _ _ (((e01.trans e2).trans e5).trans e57) (.tup (Evl.st_of nhp3) (.cons (.tup (Evl.st_of (e57 _ _ g1)) (dpMonoA e57 g2)) (.cons (.tup (Evl.st_of (nhe3 _ _ g3)) (dpMonoA nhe3 g4)) (.cons (.int _) .nil))))
def sp_Tree_height (K : PySem.W.Frag) (CT : Addr) : Sp := A1 fun v1 H Q => ∃ x dx, v1 = .ref x ∧ TreeB K CT H x dx ⟨0, mkLf []⟩ ∧ Ret K (.int 1) H Q
abbrev s_Tree_height : Stmt := inClass (top 53) 4
theorem sc_Tree_height : FnScope ["self"] ["self"] (defScope s_Tree_height) := ⟨rfl, rfl, rfl, by decide +kernel, rfl, by decide +kernel, by decide +kernel⟩
theorem ok_Tree_height {f : Addr} {fd : FuncData} (F : FunD K "height" "Tree.height" (defArgs s_Tree_height) (defBody s_Tree_height) (defScope s_Tree_height) [] [] f fd) (g : G mg) {CT : Addr} (ct : Cls K CT) (na : NoAttr K CT "own_form") (nb : NoAttr K CT "own_boxes") (c_depths_in : Cl P w K mg base 4 "depths_in" (sp_depths_in K 4)) : FnOk P w K mg base CX0 5 f fd ["self"] (sp_Tree_height K CT) := by
  have nd := sc_Tree_height.nd
  refine F.ok sc_Tree_height (fun vs H Q E h => h.len) (fun cdv A outer s H vs Q E hr h => ?_)
  obtain ⟨v1, rfl, h⟩ := h
  refine ⟨_, PSs.nox (pss_one (ps_ret (pe_ix ix_list (pc c_depths_in hr (by first | decide | omega) (by rfl) (pa_cons (pe_fld (pv 0) rfl) pa_nil)) pe_int (fun _ _ => rfl)))), ?_⟩
  obtain ⟨x, dx, rfl, hT, q⟩ := h
  obtain ⟨fs, fv, d, kvs, t1, t2, t3, t4, t5, t6, t7⟩ := hT
  wtm_at "go0"
  refine i_fldU ?_
  wtm_at "go"
  refine ⟨x, CT, dx, fs, fv, rfl, t1, ct, na, t2, ?_⟩
  wtm_at "go"
  refine use_depths_in (n := 4) (m := 0) (t := mkLf []) (by omega) (by omega) t3 (Nat.zero_le _) (fun p3 H3 n3 e3 h3 => ?_)
  have h3 : Dp K H3 (.ref p3) (.list [.int 1]) := h3
  wtm_at "go"
  exact q.int e3
def sp_Tree_boxes (K : PySem.W.Frag) (CT : Addr) : Sp := A1 fun v1 H Q => ∃ x dx, v1 = .ref x ∧ TreeB K CT H x dx ⟨0, mkLf []⟩ ∧ ∀ p H2, Ex H H2 → H2 p = some (.dK []) → Q (.ref p) H2
abbrev s_Tree_boxes : Stmt := inClass (top 53) 5
theorem sc_Tree_boxes : FnScope ["self"] ["self"] (defScope s_Tree_boxes) := ⟨rfl, rfl, rfl, by decide +kernel, rfl, by decide +kernel, by decide +kernel⟩
theorem ok_Tree_boxes {f : Addr} {fd : FuncData} (F : FunD K "boxes" "Tree.boxes" (defArgs s_Tree_boxes) (defBody s_Tree_boxes) (defScope s_Tree_boxes) [] [] f fd) (g : G mg) {CT : Addr} (ct : Cls K CT) (na : NoAttr K CT "own_form") (nb : NoAttr K CT "own_boxes")  : FnOk P w K mg base CX0 1 f fd ["self"] (sp_Tree_boxes K CT) := by
  have nd := sc_Tree_boxes.nd
  refine F.ok sc_Tree_boxes (fun vs H Q E h => h.len) (fun cdv A outer s H vs Q E hr h => ?_)
  obtain ⟨v1, rfl, h⟩ := h
  refine ⟨_, PSs.nox (pss_one (ps_ret (pe_callTy (show CallR _ _ qDict from call_dictD) (by rfl) g.f_dict boot_dict (pa_cons (pe_fld (pv 0) rfl) pa_nil)))), ?_⟩
  obtain ⟨x, dx, rfl, hT, q⟩ := h
  obtain ⟨fs, fv, d, kvs, t1, t2, t3, t4, t5, t6, t7⟩ := hT
  wtm_at "go0"
  refine i_fldU ?_
  wtm_at "go"
  refine ⟨x, CT, dx, fs, _, rfl, t1, ct, nb, t4, ?_⟩
  wtm_at "go"
  have hk : kvs = [] := t6 rfl
  subst hk
  exact ⟨d, [], rfl, .inl t5, fun p hp => q p _ (ex_upd hp) upd_same⟩
def sp_Tree_box (K : PySem.W.Frag) (CT : Addr) : Sp := A1 fun v1 H Q => ∃ x dx, v1 = .ref x ∧ TreeB K CT H x dx ⟨0, mkLf []⟩ ∧ Ret K .none H Q
abbrev s_Tree_box : Stmt := inClass (top 53) 6
theorem sc_Tree_box : FnScope ["self"] ["self"] (defScope s_Tree_box) := ⟨rfl, rfl, rfl, by decide +kernel, rfl, by decide +kernel, by decide +kernel⟩
theorem ok_Tree_box {f : Addr} {fd : FuncData} (F : FunD K "box" "Tree.box" (defArgs s_Tree_box) (defBody s_Tree_box) (defScope s_Tree_box) [] [] f fd) (g : G mg) {CT : Addr} (ct : Cls K CT) (na : NoAttr K CT "own_form") (nb : NoAttr K CT "own_boxes")  : FnOk P w K mg base CX0 1 f fd ["self"] (sp_Tree_box K CT) := by
  have nd := sc_Tree_box.nd
  refine F.ok sc_Tree_box (fun vs H Q E h => h.len) (fun cdv A outer s H vs Q E hr h => ?_)
  obtain ⟨v1, rfl, h⟩ := h
  refine ⟨_, PSs.nox (pss_one (ps_ret (pe_ifExp (pt_cmpR (op_ne_dictA hr.units0) (pe_fld (pv 0) rfl) pe_dnewK (nomark _)) pe_no pe_non))), ?_⟩
  obtain ⟨x, dx, rfl, hT, q⟩ := h
  obtain ⟨fs, fv, d, kvs, t1, t2, t3, t4, t5, t6, t7⟩ := hT
  wtm_at "go0"
  refine i_fldU ?_
  wtm_at "go"
  refine ⟨x, CT, dx, fs, _, rfl, t1, ct, nb, t4, ?_⟩
  have hk : kvs = [] := t6 rfl
  subst hk
  intro d2 hd2
  refine ⟨d, d2, [], [], rfl, rfl, (ex_upd hd2) _ _ t5, upd_same, rfl, fun p hp => (by cases hp), ?_⟩
  wtm_at "go"
  exact q.non (ex_upd hd2)
end
end Wb

namespace Wb
open PySem PySem.Spec PyProof.Rows L2 StX
open Evl (Ex Ex.refl Ex.trans Ex.new)
local macro_rules | `(tactic| wtm_at "dp") => `(tactic| first | with_reducible assumption | with_reducible exact Dp.int _ | with_reducible exact Dp.bl _ | with_reducible exact Dp.str _ | with_reducible exact Dp.non | ((with_reducible refine' dpMono ?dme (by with_reducible assumption)); (case dme => wtm_at "ex")) | ((with_reducible refine' Dp.tup (Evl.st_of ?dph) ?dpa); (case dph => wtm_at "hs"); (case dpa => wtm_at "dpa")) | ((with_reducible refine' Dp.lst (Evl.sq_of ?dph) ?dpa); (case dph => wtm_at "hs"); (case dpa => wtm_at "dpa")))
local macro_rules | `(tactic| wtm_at "dpa") => `(tactic| first | with_reducible exact DpAll.nil | ((with_reducible refine' DpAll.cons ?dp1 ?dp2); (case dp1 => wtm_at "dp"); (case dp2 => wtm_at "dpa")) | with_reducible assumption | ((with_reducible refine' dpMonoA ?dme (by with_reducible assumption)); (case dme => wtm_at "ex")))
local macro_rules | `(tactic| wtm_at "sz") => `(tactic| first | with_reducible assumption | ((with_reducible refine' sz_mul ?sz1 ?sz2); (case sz1 => wtm_at "sz"); (case sz2 => wtm_at "sz")) | ((with_reducible refine' sz_add ?sz1 ?sz2); (case sz1 => wtm_at "sz"); (case sz2 => wtm_at "sz")) | ((with_reducible refine' sz_sub ?sz1 ?sz2); (case sz1 => wtm_at "sz"); (case sz2 => wtm_at "sz")) | ((with_reducible refine' sz_neg ?sz1); (case sz1 => wtm_at "sz")) | ((with_reducible refine' sz_div ?sz1); (case sz1 => wtm_at "sz")) | ((with_reducible refine' sz_fdiv ?sz1); (case sz1 => wtm_at "sz")) | exact sz_lit (by decide) | wtm_at "sz2")
local macro_rules | `(tactic| wtm_at "szb") => `(tactic| first | with_reducible assumption | ((with_reducible refine' sz_mono ?szb1 ?szb2); (case szb1 => wtm_at "sz"); (case szb2 => decide)))
local macro_rules | `(tactic| wtm_at "nz") => `(tactic| first | assumption | decide | omega)
local macro_rules | `(tactic| wtm_at "shaped") => `(tactic| first | rfl | decide)
local macro_rules | `(tactic| wtm_at "sset") => `(tactic| ((dsimp only [L2.wipe, List.set, List.set_cons_zero, List.set_cons_succ]) <;> exact rfl))
local macro_rules | `(tactic| wtm_at "nrm") => `(tactic| dsimp only [L2.start, L2.wipe, List.set, List.append, List.map, List.map_cons, List.map_nil, List.length_cons, List.length_nil, Nat.reduceAdd, Nat.reduceSub, List.reduceReplicate, List.replicate, List.cons_append, List.nil_append, List.set_cons_zero, List.set_cons_succ])
local macro_rules | `(tactic| wtm_at "st") => `(tactic| first
  | ((with_reducible refine' i_var (v := ?u0) ?u1 ?uq); (case u1 => exact rfl))
  | ((with_reducible refine' i_nameN ?u0 ?uq); (case u0 => wtm_at "sset"))
  | (with_reducible refine' i_op ?uq)
  | (with_reducible refine' i_c ?uq)
  | (with_reducible refine' i_I0 ?uq)
  | ((with_reducible refine' i_ixTI (i := ?u0) ?u1 ?u2 ?u3 ?uq); (case u1 => wtm_at "dp"); (case u2 => wtm_at "ex"); (case u3 => exact rfl))
  | ((with_reducible refine' i_ixT (d := ?u0) ?u1 ?u2 ?u3 (fun xu hxu => ?uq)); (case u1 => wtm_at "dp"); (case u2 => wtm_at "ex"); (case u3 => exact rfl))
  | ((with_reducible refine' i_mul ?u0 ?u1 ?u2 ?uq); (case u0 => wtm_at "sz"); (case u1 => wtm_at "sz"); (case u2 => first | decide | omega))
  | (with_reducible refine' i_seq ?uq)
  | (with_reducible refine' i_asg ?uq)
  | (with_reducible refine' i_ret ?uq)
  | (with_reducible refine' i_ifs ?uq)
  | (with_reducible refine' i_drop ?uq)
  | (with_reducible refine' i_next ?uq)
  | (with_reducible refine' i_cons ?uq)
  | (with_reducible refine' i_nil ?uq)
  | (with_reducible refine' i_cl ?uq)
  | (with_reducible refine' i_cb ?uq)
  | (with_reducible refine' i_tup ?uq)
  | (with_reducible refine' i_lst ?uq)
  | ((with_reducible refine' i_mkT ?u0 (fun np nH nhe nhp => ?uq)); (case u0 => exact Nat.le_of_ble_eq_true rfl))
  | (with_reducible refine' i_test ?uq)
  | (with_reducible refine' i_B ?uq)
  | (with_reducible refine' i_k ?uq)
  | (with_reducible refine' i_and ?uq)
  | (with_reducible refine' i_or ?uq)
  | (with_reducible refine' i_not ?uq)
  | (with_reducible refine' i_andV ?uq)
  | (with_reducible refine' i_orV ?uq)
  | (with_reducible refine' i_notV ?uq)
  | (with_reducible refine' i_if ?uq)
  | (with_reducible refine' i_un ?uq)
  | (with_reducible refine' i_U ?uq)
  | (with_reducible refine' i_iteT ?uq)
  | (with_reducible refine' i_iteF ?uq)
  | ((with_reducible refine' i_iteTr ?u0 ?uq); (case u0 => first | with_reducible rfl | decide | (simp only [dIsInt, dIsBool, dIsTup, dIsStr, dIsLst, Bool.not_true, Bool.not_false]; done)))
  | ((with_reducible refine' i_iteFr ?u0 ?uq); (case u0 => first | with_reducible rfl | decide | (simp only [dIsInt, dIsBool, dIsTup, dIsStr, dIsLst, Bool.not_true, Bool.not_false]; done)))
  | (with_reducible refine' i_ite (fun hif => ?uqa) (fun hif => ?uqb))
  | (with_reducible refine' i_iteN (fun hif => ?uqa) (fun hif => ?uqb))
  | (with_reducible refine' i_iteBN (fun hif => ?uqa) (fun hif => ?uqb))
  | (with_reducible refine' i_iteB (fun hif => ?uqa) (fun hif => ?uqb))
  | ((with_reducible refine' i_modN ?u0 ?uq); (case u0 => wtm_at "nz"))
  | ((with_reducible refine' i_fdX ?u0 ?u1 ?u2 ?uq); (case u0 => wtm_at "nz"); (case u1 => wtm_at "sz"); (case u2 => first | decide | omega))
  | ((with_reducible refine' i_pow ?u0 ?uq); (case u0 => exact ⟨by decide, by decide +kernel⟩))
  | (with_reducible refine' i_eqI ?uq)
  | (with_reducible refine' i_neI ?uq)
  | (with_reducible refine' i_gcd ?uq)
  | (with_reducible refine' i_qabs ?uq)
  | (with_reducible refine' i_qint ?uq)
  | (with_reducible refine' i_qintB ?uq)
  | (with_reducible refine' i_qmax2 ?uq)
  | (with_reducible refine' i_qmin2 ?uq)
  | (with_reducible refine' i_isB ?uq)
  | (with_reducible refine' i_notB ?uq)
  | (with_reducible refine' i_chain ?uq)
  | (with_reducible refine' i_qisN ?uq)
  | (with_reducible refine' i_qnotN ?uq)
  | (with_reducible refine' i_yes ?uq)
  | (with_reducible refine' i_par ?uq)
  | (with_reducible refine' i_par3 ?uq)
  | ((with_reducible refine' i_par2 ?u0 ?uq); (case u0 => wtm_at "sset"))
  | ((with_reducible refine' i_par33 ?u0 ?uq); (case u0 => wtm_at "sset"))
  | ((with_reducible refine' i_ixLI (i := ?u0) ?u1 ?u2 ?u3 ?uq); (case u1 => wtm_at "dp"); (case u2 => wtm_at "ex"); (case u3 => exact rfl))
  | ((with_reducible refine' i_ixL (d := ?u0) ?u1 ?u2 ?u3 (fun xu hxu => ?uq)); (case u1 => wtm_at "dp"); (case u2 => wtm_at "ex"); (case u3 => exact rfl))
  | ((with_reducible refine' i_qlenT ?u0 ?uq); (case u0 => wtm_at "dp"))
  | ((with_reducible refine' i_qlenL ?u0 ?uq); (case u0 => wtm_at "dp"))
  | ((with_reducible refine' i_gtup ?u0 ?u1 ?u2 (fun gvs gdp => ?uq)); (case u0 => wtm_at "dp"); (case u1 => wtm_at "ex"); (case u2 => exact rfl))
  | ((with_reducible refine' i_glst ?u0 ?u1 ?u2 (fun gvs gdp => ?uq)); (case u0 => wtm_at "dp"); (case u1 => wtm_at "ex"); (case u2 => exact rfl))
  | ((with_reducible refine' i_gconsI ?u0 (fun gr gh => ?uq)); (case u0 => with_reducible assumption))
  | ((with_reducible refine' i_gconsA ?u0 (fun gv gr gh1 gh2 => ?uq)); (case u0 => with_reducible assumption))
  | ((with_reducible refine' i_gnilA ?u0 ?uq); (case u0 => with_reducible assumption))
  | ((with_reducible refine' i_isiI ?u0 ?uq); (case u0 => wtm_at "dp"))
  | ((with_reducible refine' i_isiB ?u0 ?uq); (case u0 => wtm_at "dp"))
  | ((with_reducible refine' i_isiT ?u0 ?uq); (case u0 => wtm_at "dp"))
  | ((with_reducible refine' i_isiS ?u0 ?uq); (case u0 => wtm_at "dp"))
  | ((with_reducible refine' i_isiL ?u0 ?uq); (case u0 => wtm_at "dp"))
  | ((with_reducible refine' i_eqD ?u0 ?u1 ?u2 ?u3 ?uq); (case u0 => wtm_at "dp"); (case u1 => wtm_at "dp"); (case u2 => wtm_at "shaped"); (case u3 => wtm_at "shaped"))
  | ((with_reducible refine' i_neD ?u0 ?u1 ?u2 ?u3 ?uq); (case u0 => wtm_at "dp"); (case u1 => wtm_at "dp"); (case u2 => wtm_at "shaped"); (case u3 => wtm_at "shaped"))
  | wtm_at "st2"
  | wtm_at "use")
local macro_rules | `(tactic| wtm_at "go") => `(tactic| repeat' (wtm_at "st"))
local macro_rules | `(tactic| wtm_at "go0") => `(tactic| ((try dsimp only [L2.cxOf, L2.Cx.nox, L2.Cx.wish, L2.Cx.tr, L2.Cx.blk]); (try wtm_at "nrm"); wtm_at "go"))
local macro_rules | `(tactic| wtm_at "fin") => `(tactic| ((try dsimp only); first | with_reducible assumption | assumption | ((with_reducible refine' Ret.use ?rur ?rue ?rud); (case rur => with_reducible assumption); (case rue => wtm_at "ex"); (case rud => wtm_at "dp"))))
local macro_rules | `(tactic| wtm_at "exh") => `(tactic| first | with_reducible assumption | with_reducible exact Ex.refl _ | with_reducible exact ex_hid | ((with_reducible refine' Ex.trans ?exe (by with_reducible assumption)); (case exe => wtm_at "exh")) | ((with_reducible refine' Ex.trans ?exe (hid_ex (by with_reducible assumption))); (case exe => wtm_at "exh")))
local macro_rules | `(tactic| wtm_at "ex") => `(tactic| first | with_reducible assumption | with_reducible exact Ex.refl _ | with_reducible exact ex_hid | ((with_reducible refine' Ex.trans ?exe (by with_reducible assumption)); (case exe => wtm_at "ex")) | ((with_reducible refine' Ex.trans ?exe (hid_ex (by with_reducible assumption))); (case exe => wtm_at "ex")) | ((with_reducible refine' Ex.trans ?exe ex_hid); (case exe => wtm_at "exh")))
local macro_rules | `(tactic| wtm_at "bag") => `(tactic| first | with_reducible assumption | ((with_reducible refine' Bag.mono ?bgm (by with_reducible assumption)); (case bgm => wtm_at "bag")))
local macro_rules | `(tactic| wtm_at "hs") => `(tactic| first | with_reducible assumption | ((with_reducible refine' hid_tup ?hb ?hp); (case hp => with_reducible assumption); (case hb => wtm_at "bag")) | ((with_reducible refine' hid_new ?hb ?hn ?hp); (case hp => with_reducible assumption); (case hn => with_reducible assumption); (case hb => wtm_at "bag")) | ((with_reducible refine' ex_at ?exe (by with_reducible assumption)); (case exe => wtm_at "ex")))
local macro_rules | `(tactic| wtm_at "st2") => `(tactic| first
  | ((with_reducible refine' i_mulC ?u0 ?uq); (case u0 => first | exact cmul_l (by decide) | exact cmul_r (by decide)))
  | ((with_reducible refine' i_ixLr (v := ?u0) ?u1 ?u2 ?uq); (case u1 => with_reducible assumption); (case u2 => exact rfl))
  | (with_reducible refine' i_sub ?uq)
  | ((with_reducible refine' i_mkL ?u0 (fun np nH nfr nhe nhp => ?uq)); (case u0 => exact Nat.le_of_ble_eq_true rfl))
  | ((with_reducible refine' i_setL (n := ?u0) ?u1 ?u2 (fun sH sh se => ?uq)); (case u1 => with_reducible assumption); (case u2 => exact rfl))
  | (with_reducible refine' i_sl ?uq)
  | (with_reducible refine' i_nopart ?uq)
  | (with_reducible refine' i_part ?uq)
  | (with_reducible refine' i_part1 ?uq))
local macro_rules | `(tactic| wtm_at "sz2") => `(tactic| ((with_reducible refine' sz_fmod ?sz1 ?sz2); (case sz1 => wtm_at "nz"); (case sz2 => wtm_at "sz")))
local macro_rules | `(tactic| wtm_at "stb") => `(tactic| first
  | ((with_reducible refine' i_mkTB ?u0 ?u1 (fun np nH nhe nhb nhp => ?uq)); (case u0 => exact Nat.le_of_ble_eq_true rfl); (case u1 => wtm_at "bag"))
  | ((with_reducible refine' i_mkLB ?u0 ?u1 (fun np nH nfr nhe nhb nhp => ?uq)); (case u0 => exact Nat.le_of_ble_eq_true rfl); (case u1 => wtm_at "bag"))
  | wtm_at "st")
local macro_rules | `(tactic| wtm_at "gob") => `(tactic| repeat' (wtm_at "stb"))
local macro_rules | `(tactic| wtm_at "gob0") => `(tactic| ((try dsimp only [L2.cxOf, L2.Cx.nox, L2.Cx.wish, L2.Cx.tr, L2.Cx.blk]); (try wtm_at "nrm"); wtm_at "gob"))
local macro_rules | `(tactic| wtm_at "st") => `(tactic| first | ((with_reducible refine' i_ixTS (z := ?u0) ?u1 ?u2 ?u3 ?uq); (case u1 => wtm_at "dp"); (case u2 => wtm_at "ex"); (case u3 => exact rfl)) | fail)
local macro_rules | `(tactic| wtm_at "st2") => `(tactic| first | ((with_reducible refine' i_eqST ?u0 ?uq); (case u0 => with_reducible rfl)) | ((with_reducible refine' i_eqSF ?u0 ?uq); (case u0 => decide +kernel)) | ((with_reducible refine' i_neST ?u0 ?uq); (case u0 => with_reducible rfl)) | ((with_reducible refine' i_neSF ?u0 ?uq); (case u0 => decide +kernel)) | fail)
section
variable {P : Program} {w : World} {K : PySem.W.Frag} {mg : Str → Option Value} {base : Heap} {H H' : Hp} {Q : VK} {E : XK} {v1 v2 v3 v4 v5 : V}
local macro_rules | `(tactic| wtm_at "use") => `(tactic| ((with_reducible refine' use__law_apart_word ?u0 ?u1 ?uq); (case u0 => wtm_at "dp"); (case u1 => wtm_at "dp")))
theorem child_len {s s' : Fs} {i : Nat} (h : child s i = some s') : s'.1 + 1 = s.1 := by
  obtain ⟨k, t⟩ := s
  cases k with
  | zero => cases h
  | succ k =>
    obtain ⟨p, hp, rfl⟩ := Option.map_eq_some_iff.mp (show (foB t)[i]?.map (fun p => (⟨k, p.2⟩ : Fs)) = some s' from h)
    rfl
theorem atF_len : ∀ {s s' : Fs} {p : List Nat}, atF s p = some s' → p.length + s'.1 = s.1
  | s, s', [], h => by
    cases h
    exact Nat.zero_add _
  | s, s', i :: p, h => by
    obtain ⟨s2, h1, h2⟩ := Option.bind_eq_some_iff.mp (show (child s i).bind (fun s' => atF s' p) = some s' from h)
    have a := child_len h1
    have b := atF_len h2
    rw [List.length_cons]
    omega
theorem flat_take {α β : Type} (f : α → List β) (xs : List α) (k : Nat) : ((xs.take k).flatMap f).length ≤ (xs.flatMap f).length := by
  have e : xs.flatMap f = (xs.take k).flatMap f ++ (xs.drop k).flatMap f := by rw [← List.flatMap_append, List.take_append_drop]
  rw [e, List.length_append]
  omega
theorem i_cmU {C : Addr} {sp : Sp} {E : XK} {ta : TE} {ts : TA} {σ : L2.St} (q : ta σ H fun x H1 => x = .ref C ∧ ts σ H1 fun vs H2 => sp (.ref C :: vs) H2 Q E) : ClX.tCMeth C sp E ta ts σ H Q := q
theorem TreeB.hid {b CT x dx : Addr} {s : Fs} (hb : Bag b H) (h : TreeB K CT H x dx s) : TreeB K CT (hid b H) x dx s := by
  obtain ⟨fs, fv, d, kvs, h1, h2, h3, h4, h5, h6⟩ := h
  obtain ⟨x1, x2, x3, g1, _⟩ := hb.ex
  exact ⟨fs, fv, d, kvs, hid_of h1 (ne_of h1 g1 (by intro z; cases z)), h2, dpHid hb (noL_fs s) h3, h4, hid_of h5 (ne_of h5 g1 (by intro z; cases z)), h6⟩
theorem lay_ints (ns : List Int) : PyData.canLay0 (.tuple (ns.map PyData.int)) = true ∧ PyData.depth (.tuple (ns.map PyData.int)) ≤ 1 := lay_tup (k := 0) fun d hd => by
  obtain ⟨i, _, rfl⟩ := List.mem_map.mp hd
  exact ⟨rfl, Nat.le_refl _⟩
theorem shp_ints (ns : List Int) : SeqAt.shaped (.list (ns.map PyData.int)) = true := shp_list (k := 0) (by decide) fun d hd => by
  obtain ⟨i, _, rfl⟩ := List.mem_map.mp hd
  exact ⟨rfl, Nat.le_refl _⟩
theorem shp_paper {fs : List Int} {ls : List (List Nat × String)} {k : Int} (hw : ∀ q ∈ ls, ∃ b c, apart b c = some q.2) : SeqAt.shaped (.tuple [.tuple (fs.map PyData.int), .tuple (ls.map lefL), .int k]) = true := by
  refine shp_tup (k := 3) (by decide) fun d hd => ?_
  simp only [List.mem_cons, List.not_mem_nil, or_false] at hd
  rcases hd with rfl | rfl | rfl
  · obtain ⟨h1, h2⟩ := lay_ints fs
    exact ⟨h1, by omega⟩
  · refine lay_tup (k := 2) fun d hd => ?_
    obtain ⟨q, hq, rfl⟩ := List.mem_map.mp hd
    obtain ⟨b, c, hbc⟩ := hw q hq
    obtain ⟨h1, h2⟩ := lay_pl q.1
    exact lay_two (k := 1) ⟨h1, h2⟩ ⟨lay_wd hbc, Nat.zero_le _⟩
  · exact ⟨rfl, Nat.zero_le _⟩
theorem shp_wd (b c : Bx) : SeqAt.shaped (wdD (apart b c)) = true := by
  cases h : apart b c with
  | none => rfl
  | some x => exact shp_of ⟨lay_wd h, Nat.zero_le _⟩
theorem inV_int {n : Int} : ∀ {ns : List Int}, inV (.int n) (ns.map V.int) = decide (n ∈ ns)
  | [] => rfl
  | m :: ns => by
    have ih := inV_int (n := n) (ns := ns)
    unfold inV at ih ⊢
    rw [List.map_cons, List.any_cons, ih]
    show ((m == n) || decide (n ∈ ns)) = decide (n ∈ m :: ns)
    by_cases e : n = m
    · subst e; simp
    · have : (m == n) = false := beq_eq_false_iff_ne.mpr fun z => e z.symm
      rw [this]
      simp [e]
theorem all_flat (ns : List Int) : (ns.map V.int).all flatV = true := by
  rw [List.all_map]
  exact List.all_eq_true.mpr fun _ _ => rfl
theorem i_sortIR {v : V} {xs : List Int} (h : Dp K H v (.list (xs.map PyData.int))) (q : ∀ p H2 (ys : List Int), ys.Perm xs → ys.Pairwise (· ≤ ·) → H p = none → Ex H H2 → H2 p = some (.lst (ys.map V.int)) → Q (.ref p) H2) : rSortedI K [v] H Q := by
  obtain ⟨a, us, rfl, hs, ha⟩ := dpLst h
  rw [dpInts ha] at hs
  exact ⟨a, xs, rfl, hs, fun ys p h1 h2 hp => q p _ ys h1 h2 hp (ex_upd hp) upd_same⟩
theorem i_forLU {tb : TS} {tl : TE} {g : TG} {D : Ends} {σ : L2.St} (q : tl σ H fun x H1 => tFor (iList K (tC x)) g tb D σ H1) : tFor (iList K tl) g tb D σ H := q
theorem i_neT {d : PyData} {v w : V} (h1 : Dp K H v d) (h2 : Dp K H w d) (hs : SeqAt.shaped d = true) (q : Q (.bl false) H) : rNeD K v w H Q := by
  refine i_neD h1 h2 hs hs ?_
  rw [eqv_self hs]
  exact q
def sp__law_right (K : PySem.W.Frag) : Sp := A1 fun v1 H Q => ∃ b : Addr, v1 = .ref b ∧ Bag b H ∧ ∀ H2, Ex (hid b H) (hid b H2) → Bag b H2 → Q (.bl true) H2
abbrev s__law_right : Stmt := top 73
theorem sc__law_right : FnScope ["_law_bag_here", "_law_entries", "_law_form", "_law_other", "_law_first", "_law_second", "_law_turn", "_law_box", "_law_number", "_law_one", "_law_due", "_law_numbers", "_law_left", "_law_looked", "_law_missed", "_law_place_there", "_law_word"] ["_law_bag_here"] (defScope s__law_right) := ⟨rfl, rfl, rfl, by decide +kernel, rfl, by decide +kernel, by decide +kernel⟩
theorem ok__law_right {f : Addr} {fd : FuncData} (F : FnP K "_law_right" s__law_right f fd) (g : G mg) {CT : Addr} (mT : mg "Tree" = some (.ref CT)) {pT gT : Addr} (cr : ClX.CRead K CT (.type "type")) (cm : ClX.CMet K CT (.type "type") "told" pT gT) (FTo : FnR P w K mg base CX0 12 gT (sp_Tree_told K CT)) (ct : Cls K CT) {fS fP : Addr} {fdS fdP : FuncData} (mS : Meth K CT "search" fS) (FS : FnOk P w K mg base CX0 4 fS fdS ["self", "box"] (sp_Tree_search K CT)) (bS : Binds K fdS ["self", "box"] []) (mP : Meth K CT "search_paper" fP) (FP : FnOk P w K mg base CX0 4 fP fdP ["self", "box"] (sp_Tree_search_paper K CT)) (bP : Binds K fdP ["self", "box"] []) (c__law_draw : Cl P w K mg base 1 "_law_draw" (sp__law_draw K)) (c__law_drawn_entries : Cl P w K mg base 4 "_law_drawn_entries" (sp__law_drawn_entries K)) (c__law_shuffled : Cl P w K mg base 2 "_law_shuffled" (sp__law_shuffled K)) (c__law_drawn_form : Cl P w K mg base 3 "_law_drawn_form" (sp__law_drawn_form K)) (c__law_small_box : Cl P w K mg base 3 "_law_small_box" (sp__law_small_box K)) (c__law_apart_word : Cl P w K mg base 1 "_law_apart_word" (sp__law_apart_word K)) (c__law_walked : Cl P w K mg base 3 "_law_walked" (sp__law_walked K)) (c__law_numbers_at : Cl P w K mg base 2 "_law_numbers_at" (sp__law_numbers_at K)) (c_are_meeting : Cl P w K mg base 4 "are_meeting" (sp_are_meeting K)) (c_side_apart : Cl P w K mg base 4 "side_apart" (sp_side_apart K)) : FnOk P w K mg base CX0 13 f fd ["_law_bag_here"] (sp__law_right K) := by
  have nd := sc__law_right.nd
  refine F.ok sc__law_right (fun vs H Q E h => h.len) (fun cdv A outer s H vs Q E hr h => ?_)
  obtain ⟨v1, rfl, h⟩ := h
  refine ⟨_, PSs.nox (pss_cons (ps_set (i := 1) nd rfl (Or.inl rfl) (pc c__law_drawn_entries hr (by first | decide | omega) (by rfl) (pa_cons (pv 0) (pa_cons (pc c__law_draw hr (by first | decide | omega) (by rfl) (pa_cons (pv 0) (pa_cons pe_int pa_nil))) pa_nil)))) (pss_cons (ps_par (i := 2) (j := 3) (by rfl) nd rfl rfl (by decide) rfl rfl (pa_cons (pc c__law_drawn_form hr (by first | decide | omega) (by rfl) (pa_cons (pv 0) (pa_cons (pv 1) pa_nil))) (pa_cons (pc c__law_drawn_form hr (by first | decide | omega) (by rfl) (pa_cons (pv 0) (pa_cons (pc c__law_shuffled hr (by first | decide | omega) (by rfl) (pa_cons (pv 0) (pa_cons (pv 1) pa_nil))) pa_nil))) pa_nil)) (by rfl)) (pss_cons (ps_par (i := 4) (j := 5) (by rfl) nd rfl rfl (by decide) rfl rfl (pa_cons (ClX.pe_cmeth (pe_glob (v := .ref CT) (by rfl) mT rfl) cr cm FTo (hr.mono (by decide)) pass0 (pa_cons (pv 2) pa_nil)) (pa_cons (ClX.pe_cmeth (pe_glob (v := .ref CT) (by rfl) mT rfl) cr cm FTo (hr.mono (by decide)) pass0 (pa_cons (pv 3) pa_nil)) pa_nil)) (by rfl)) (pss_cons (ps_for PassesOwn.never rfl (pi_range1 (by rfl) g.f_range (pa_cons pe_int pa_nil)) (pg_name (i := 6) nd rfl (Or.inl rfl)) (pss_cons (ps_set (i := 7) nd rfl (Or.inr rfl) (pc c__law_small_box hr (by first | decide | omega) (by rfl) (pa_cons (pv 0) pa_nil))) (pss_cons (ps_set (i := 10) nd rfl (Or.inl rfl) (pe_callB cr_sortedI (by rfl) g.f_sorted boot_sorted (pa_cons (pe_lc (own := [("_law_number", 8), ("_law_one", 9)]) (g := _) (by rfl) nd (pi_list (pv 1)) (blkOk_by (N := ["_law_bag_here", "_law_entries", "_law_form", "_law_other", "_law_first", "_law_second", "_law_turn", "_law_box", "_law_number", "_law_one", "_law_due", "_law_numbers", "_law_left", "_law_looked", "_law_missed", "_law_place_there", "_law_word"]) (sc := defScope s__law_right) (own := [("_law_number", 8), ("_law_one", 9)]) (by decide +kernel)) (fun _ _ _ _ _ => (show PG _ _ (gTup K 2 _) from (pg_tup (by rfl) (pgs_cons (pg_name (i := 8) nd rfl (Or.inl rfl)) (pgs_cons (pg_name (i := 9) nd rfl (Or.inl rfl)) pgs_nil))))) (fun _ _ _ _ _ => (pts_one (pt_cmpR op_qisN (pc c__law_apart_word hr (by first | decide | omega) (by rfl) (pa_cons (pv 9) (pa_cons (pv 7) pa_nil))) pe_non (nomark _)))) (fun _ _ _ _ _ => (pv 8))) pa_nil))) (pss_cons (ps_asg (pc c__law_walked hr (by first | decide | omega) (by rfl) (pa_cons (pv 2) (pa_cons (pv 7) pa_nil))) (pg_tup (n := 3) (by rfl) (pgs_cons (pg_name (i := 11) nd rfl (Or.inl rfl)) (pgs_cons (pg_name (i := 12) nd rfl (Or.inl rfl)) (pgs_cons (pg_name (i := 13) nd rfl (Or.inl rfl)) pgs_nil))))) (pss_cons (ps_if (PW.pt (pw_or (pt_cmpR (op_neD hr.units) (pv 11) (pv 10) (nomark _)) (pw_or (pt_cmpR (op_neD hr.units) (pe_callTy call_qlist (by rfl) g.f_list boot_list (pa_cons (pe_meth (pv 4) ct mS FS (hr.mono (by decide)) bS .nil pass0 (pa_cons (pv 7) pa_nil)) pa_nil)) (pv 10) (nomark _)) (pw_or1 (pt_cmpR (op_neD hr.units) (pe_callTy call_qlist (by rfl) g.f_list boot_list (pa_cons (pe_meth (pv 5) ct mS FS (hr.mono (by decide)) bS .nil pass0 (pa_cons (pv 7) pa_nil)) pa_nil)) (pv 10) (nomark _)))))) (pss_one (ps_ret pe_bl)) pss_nil) (pss_cons (ps_if (pt_cmpR (op_neD hr.units) (pe_meth (pv 4) ct mP FP (hr.mono (by decide)) bP .nil pass0 (pa_cons (pv 7) pa_nil)) (pe_tup (pa_cons (pe_callTy call_qtuple (by rfl) g.f_tuple boot_tuple (pa_cons (pv 11) pa_nil)) (pa_cons (pe_callTy call_qtuple (by rfl) g.f_tuple boot_tuple (pa_cons (pv 12) pa_nil)) (pa_cons (pv 13) pa_nil)))) (nomark _)) (pss_one (ps_ret pe_bl)) pss_nil) (pss_cons (ps_set (i := 14) nd rfl (Or.inl rfl) (pe_lst pa_nil)) (pss_cons (ps_for PassesOwn.never rfl (pi_list (pv 12)) (pg_tup (n := 2) (by rfl) (pgs_cons (pg_name (i := 15) nd rfl (Or.inl rfl)) (pgs_cons (pg_name (i := 16) nd rfl (Or.inl rfl)) pgs_nil))) (pss_one (ps_set (i := 14) nd rfl (Or.inl rfl) (pe_op op_cat (pv 14) (pc c__law_numbers_at hr (by first | decide | omega) (by rfl) (pa_cons (pv 2) (pa_cons (pv 15) pa_nil))))))) (pss_cons (ps_if (pt_cmpR (op_neD hr.units) (pe_callB cr_sortedI (by rfl) g.f_sorted boot_sorted (pa_cons (pe_op op_cat (pv 14) (pv 10)) pa_nil)) (pe_callB cr_sortedI (by rfl) g.f_sorted boot_sorted (pa_cons (pe_lc (own := [("_law_number", 8), ("_law_one", 9)]) (g := _) (by rfl) nd (pi_list (pv 1)) (blkOk_by (N := ["_law_bag_here", "_law_entries", "_law_form", "_law_other", "_law_first", "_law_second", "_law_turn", "_law_box", "_law_number", "_law_one", "_law_due", "_law_numbers", "_law_left", "_law_looked", "_law_missed", "_law_place_there", "_law_word"]) (sc := defScope s__law_right) (own := [("_law_number", 8), ("_law_one", 9)]) (by decide +kernel)) (fun _ _ _ _ _ => (show PG _ _ (gTup K 2 _) from (pg_tup (by rfl) (pgs_cons (pg_name (i := 8) nd rfl (Or.inl rfl)) (pgs_cons (pg_name (i := 9) nd rfl (Or.inl rfl)) pgs_nil))))) (fun _ _ _ _ _ => pts_nil) (fun _ _ _ _ _ => (pv 8))) pa_nil)) (nomark _)) (pss_one (ps_ret pe_bl)) pss_nil) (pss_one (ps_for PassesOwn.never rfl (pi_list (pv 1)) (pg_tup (n := 2) (by rfl) (pgs_cons (pg_name (i := 8) nd rfl (Or.inl rfl)) (pgs_cons (pg_name (i := 9) nd rfl (Or.inl rfl)) pgs_nil))) (pss_one (ps_if (PW.pt (pw_or (pt_cmpR op_ne (pc c_are_meeting hr (by first | decide | omega) (by rfl) (pa_cons (pv 9) (pa_cons (pv 7) pa_nil))) (pe_cmpR op_in_seq (pv 8) (pv 10) (by rfl)) (nomark _)) (pw_or1 (pt_cmpR (op_neD hr.units) (pc c_side_apart hr (by first | decide | omega) (by rfl) (pa_cons (pv 9) (pa_cons (pv 7) pa_nil))) (pc c__law_apart_word hr (by first | decide | omega) (by rfl) (pa_cons (pv 9) (pa_cons (pv 7) pa_nil))) (nomark _))))) (pss_one (ps_ret pe_bl)) pss_nil))))))))))))) (pss_one (ps_ret pe_bl)))))), ?_⟩
  obtain ⟨b, rfl, hb, q⟩ := h
  wtm_at "gob0"
  refine use__law_draw hb (by decide) (sz_mono (sz_lit (by decide)) (by decide)) (fun dn H1 d0 d1 e1 b1 => ?_)
  obtain ⟨n, rfl⟩ : ∃ n : Nat, dn = n := ⟨dn.toNat, by omega⟩
  wtm_at "gob"
  refine use__law_drawn_entries (by omega) b1 (fun pE H2 es hel hok e2 b2 hE => ?_)
  have hel14 : es.length ≤ 14 := by omega
  clear hel
  wtm_at "gob"
  refine use__law_drawn_form b2 hE hok.2 hel14 (fun fv H3 n1 t1 hn1 hr1 hz1 hy1 hen1 e3 b3 hf1 => ?_)
  wtm_at "gob"
  refine use__law_shuffled b3 (dpMono e3 hE) (by rw [List.length_map]; omega) (fun esd pa us H4 hpm e4 b4 h4 d4 => ?_)
  obtain ⟨es2, hes2, rfl⟩ := perm_map_inv hpm
  wtm_at "gob"
  refine use__law_drawn_form b4 (.lst (Evl.sq_of h4) d4) (fun e he => hok.2 e (hes2.mem_iff.mp he)) (by rw [hes2.length_eq]; exact hel14) (fun ov H5 n2 t2 hn2 hr2 hz2 hy2 hen2 e5 b5 hf2 => ?_)
  have hfs1 : fsE ⟨n1, t1⟩ = es := hen1
  have hfs2 : fsE ⟨n2, t2⟩ = es2 := hen2
  have hsm1 : Sm n1 t1 := sm_of n1 t1 hz1 hr1
  have hsm2 : Sm n2 t2 := sm_of n2 t2 hz2 hr2
  have hbk1 : Bok n1 t1 := bok_of n1 t1 hr1
  have hbk2 : Bok n2 t2 := bok_of n2 t2 hr2
  wtm_at "gob"
  refine i_cmU ?_
  wtm_at "gob"
  refine ⟨rfl, ?_⟩
  wtm_at "gob"
  have hf15 := dpMono (e4.trans e5) hf1
  refine ⟨_, _, rfl, rfl, ⟨n1, t1⟩, dpMono ex_hid hf15, hr1, hz1, hy1, (by show n1 ≤ 3; omega), (by rw [hfs1]; exact hok.1), fun x1 dx1 H6 e6 hT1 => ?_⟩
  have b6 := b5.mono e6
  wtm_at "gob"
  refine i_cmU ?_
  wtm_at "gob"
  refine ⟨rfl, ?_⟩
  wtm_at "gob"
  refine ⟨_, _, rfl, rfl, ⟨n2, t2⟩, dpMono e6 (dpMono ex_hid hf2), hr2, hz2, hy2, (by show n2 ≤ 3; omega), (by rw [hfs2]; exact (hes2.map (·.1)).nodup_iff.mpr hok.1), fun x2 dx2 H7 e7 hT2 => ?_⟩
  have b7 := b6.mono e7
  have hT1' := (hT1.mono e7).hid b7
  have hT2' := hT2.hid b7
  have hE7 : Dp K (hid b H7) (.ref pE) (.list (es.map enD)) := dpMono (hid_ex (e6.trans e7)) (dpMono ((e3.trans e4).trans e5) hE)
  have hf17 := dpMono (hid_ex (e6.trans e7)) hf15
  have e07 : Ex (hid b H) (hid b H7) := ((((e1.trans e2).trans e3).trans e4).trans e5).trans (hid_ex (e6.trans e7))
  wtm_at "gob"
  clear hT1 hT2 hE hf1 hf2 hf15
  refine i_forRU ?_
  wtm_at "gob"
  refine i_forRK (by omega) (fun i σ' H' => ∃ (c6 c7 c8 c9 c10 c11 c12 c13 c14 c15 c16 : Option V), σ' = [some (.ref b), some (.ref pE), some fv, some ov, some (.ref x1), some (.ref x2), c6, c7, c8, c9, c10, c11, c12, c13, c14, c15, c16] ∧ Bag b H' ∧ Ex (hid b H7) (hid b H'))
    ⟨_, _, _, _, _, _, _, _, _, _, _, rfl, b7, Ex.refl _⟩ (fun i σ' H' hi p => ?_) (fun σ' H' p => ?_)
  · obtain ⟨c6, c7, c8, c9, c10, c11, c12, c13, c14, c15, c16, rfl, bH, eH⟩ := p
    wtm_at "nrm"
    wtm_at "gob"
    refine use__law_small_box bH (fun bv G w hwo eG bG hbv => ?_)
    have eHG := eH.trans eG
    have hEG : Dp K G (.ref pE) (.list (es.map enD)) := dpMono ex_hid (dpMono eHG hE7)
    have hFG : Dp K G fv (fsD ⟨n1, t1⟩) := dpMono ex_hid (dpMono eHG hf17)
    have hBG : Dp K G bv (bxD w) := dpMono ex_hid hbv
    have T1 : TreeB K CT G x1 dx1 ⟨n1, t1⟩ := TreeB.mono (hT1'.mono eHG) ex_hid
    have T2 : TreeB K CT G x2 dx2 ⟨n2, t2⟩ := TreeB.mono (hT2'.mono eHG) ex_hid
    wtm_at "go"
    refine i_lcLU ?_
    wtm_at "go"
    refine i_lcGL (enc := enD) (xs := es) (meets w) (fun e => .int e.1) hEG (by omega) (fun _ _ => rfl) (fun u x G2 R Y g2 hm hu hn hy => ?_) (fun pD G1 nD gD hD => ?_)
    · unfold enD at hu
      have hB2 := dpMono g2 hBG
      wtm_at "nrm"
      wtm_at "go"
      refine ⟨rfl, ?_⟩
      wtm_at "go"
      · rename_i hz
        have hm2 : meets w x = true := by
          unfold meets
          cases h : apart x.2 w with
          | none => rfl
          | some y => rw [h] at hz; cases hz
        exact hy hm2 _ _ (Ex.refl _) (Dp.int _)
      · rename_i hz
        have hm2 : meets w x = false := by
          unfold meets
          cases h : apart x.2 w with
          | none => exact absurd (by rw [h]; rfl) hz
          | some y => rfl
        exact hn hm2 _ (Ex.refl _)
    have ed : (es.filter (meets w)).map (fun e => PyData.int e.1) = (dueL w es).map PyData.int := by
      unfold dueL
      rw [List.map_map]
      rfl
    rw [ed] at hD
    wtm_at "go"
    refine i_sortIR hD (fun pU G2 du hdu1 hdu2 nU gU hU => ?_)
    have g02 := gD.trans gU
    wtm_at "go"
    refine use__law_walked (s := ⟨n1, t1⟩) (dpMono g02 hFG) (dpMono g02 hBG) hsm1 (by show n1 ≤ 3; omega) hbk1 (fun pW G3 S fs ls fA lA hS f1 f2 l1 l2 gW hpW0 hfs hls => ?_)
    have hpW := And.intro trivial hpW0
    clear hpW0
    wtm_at "go"
    have hSd : S.found.Perm (dueL w es) := by
      have := ended_due hr1 hS
      rw [hfs1] at this
      exact this
    have hfd : fs = du := srt_uniq f2 hdu2 (f1.trans (hSd.trans hdu1.symm))
    subst hfd
    have hpU : Dp K G3 (.ref pU) (.list (fs.map PyData.int)) := .lst (Evl.sq_of (gW _ _ hU)) dpIntsOf
    have g03 := g02.trans gW
    refine ⟨pW, _, rfl, Evl.st_of hpW.2, rfl, ?_⟩
    refine i_gcons ?_
    wtm_at "go"
    refine i_gcons ?_
    wtm_at "go"
    refine i_gcons ?_
    wtm_at "go"
    refine i_gnil ?_
    wtm_at "go"
    refine i_neT hfs hpU (shp_ints fs) ?_
    wtm_at "go"
    refine i_methU ?_
    wtm_at "go"
    obtain ⟨fs1, fv1, k1, kv1, m11, m12, m13, m14, m15, m16, m17⟩ := T1.mono g03
    refine ⟨x1, dx1, fs1, rfl, m11, m17 "search" (by decide +kernel) (by decide +kernel), ?_⟩
    wtm_at "go"
    refine ⟨_, _, rfl, x1, ⟨n1, t1⟩, w, rfl, (T1.mono g03).at_, hsm1, (by show n1 ≤ 3; omega), hbk1, dpMono g03 hBG, hwo, fun S' fs' hS' a1 a2 v G4 g4 hv4 => ?_⟩
    have hfs' : fs' = fs := by
      rw [ended_uniq hS' hS] at a1
      exact srt_uniq a2 f2 (a1.trans f1.symm)
    subst hfs'
    wtm_at "go"
    refine i_qlistT hv4 (fun p5 G5 n5 g5 hh => ?_)
    obtain ⟨vs5, r51, r52⟩ := hh
    have g35 := g4.trans g5
    wtm_at "go"
    refine i_neT (.lst (Evl.sq_of r51) r52) (dpMono g35 hpU) (shp_ints fs') ?_
    wtm_at "go"
    refine i_methU ?_
    wtm_at "go"
    have g05 := g03.trans g35
    obtain ⟨fs2, fv2, k2, kv2, m21, m22, m23, m24, m25, m26, m27⟩ := T2.mono g05
    refine ⟨x2, dx2, fs2, rfl, m21, m27 "search" (by decide +kernel) (by decide +kernel), ?_⟩
    wtm_at "go"
    refine ⟨_, _, rfl, x2, ⟨n2, t2⟩, w, rfl, (T2.mono g05).at_, hsm2, (by show n2 ≤ 3; omega), hbk2, dpMono g05 hBG, hwo, fun S2 fs9 hS2 a3 a4 v6 G6 g6 hv6 => ?_⟩
    have hfs9 : fs9 = fs' := by
      have q1 := ended_due hr2 hS2
      rw [hfs2] at q1
      exact srt_uniq a4 f2 (a3.trans (q1.trans ((dueL_perm hes2).trans (hSd.symm.trans f1.symm))))
    subst hfs9
    wtm_at "go"
    refine i_qlistT hv6 (fun p7 G7 n7 g7 hh => ?_)
    obtain ⟨vs7, r71, r72⟩ := hh
    have g37 := g35.trans (g6.trans g7)
    wtm_at "go"
    refine i_neT (.lst (Evl.sq_of r71) r72) (dpMono g37 hpU) (shp_ints _) ?_
    wtm_at "go"
    refine i_methU ?_
    wtm_at "go"
    have g07 := g03.trans g37
    obtain ⟨fs3, fv3, k3, kv3, m31, m32, m33, m34, m35, m36, m37⟩ := T1.mono g07
    refine ⟨x1, dx1, fs3, rfl, m31, m37 "search_paper" (by decide +kernel) (by decide +kernel), ?_⟩
    wtm_at "go"
    refine ⟨_, _, rfl, x1, ⟨n1, t1⟩, w, rfl, (T1.mono g07).at_, hsm1, (by show n1 ≤ 3; omega), hbk1, dpMono g07 hBG, hwo, fun S3 fs8 ls8 hS3 a5 a6 a7 a8 v8 G8 g8 hv8 => ?_⟩
    have eS3 := ended_uniq hS3 hS
    subst eS3
    have hfs8 := srt_uniq a6 f2 (a5.trans f1.symm)
    subst hfs8
    have hls8 : ls8 = ls := lex_uniq a8 l2 (a7.trans l1.symm) (nodup_key ((a7.map (·.1)).nodup_iff.mpr (ended_nodup hS)))
    subst hls8
    have g38 := g37.trans g8
    wtm_at "go"
    refine i_qtupleL (dpMono g38 hfs) (fun p9 G9 g9 hh => ?_)
    obtain ⟨vs9, r91, r92⟩ := hh
    wtm_at "go"
    refine i_qtupleL (dpMono (g38.trans g9) hls) (fun pa Ga ga hh => ?_)
    obtain ⟨vsa, ra1, ra2⟩ := hh
    wtm_at "go"
    rename_i pb Gb gb rb
    have g8b := (g9.trans ga).trans gb
    have hwd : ∀ q ∈ ls8, ∃ b c, apart b c = some q.2 := fun q hq => by
      obtain ⟨b, hb⟩ := ended_words hS q (l1.mem_iff.mp hq)
      exact ⟨b, w, hb⟩
    refine i_neT (dpMono g8b hv8) (.tup (Evl.st_of rb) (.cons (.tup (Evl.st_of ((ga.trans gb) _ _ r91)) (dpMonoA (ga.trans gb) r92)) (.cons (.tup (Evl.st_of (gb _ _ ra1)) (dpMonoA gb ra2)) (.cons (.int _) .nil)))) (shp_paper hwd) ?_
    wtm_at "go"
    rename_i mp Gm nm gm rm
    have g3m := (g38.trans g8b).trans gm
    have g0m : Ex G Gm := g03.trans g3m
    obtain ⟨la, lus, ela, hlq, hla⟩ := dpLst hls
    cases ela
    have hll : lus.length = ls8.length := by rw [dpLen hla, List.length_map]
    have hall : (ls8.flatMap (fun q => numsAt ⟨n1, t1⟩ q.1) ++ fs8).Perm (es.map (·.1)) := by
      have h1 := ended_all hr1 hS
      rw [hfs1] at h1
      exact ((l1.flatMap_right _).append f1).trans h1
    have htot : (ls8.flatMap (fun q => numsAt ⟨n1, t1⟩ q.1)).length ≤ 14 ∧ fs8.length ≤ 14 := by
      have := hall.length_eq
      rw [List.length_append, List.length_map] at this
      omega
    refine i_forLU ?_
    wtm_at "go"
    refine ⟨lA, rfl, ⟨lus, Evl.ex_l g3m hlq⟩, for_list (xs := lus) (fun k σ' H' => ∃ (ma : Addr) (ms : List Int) (mus : List V) (c15 c16 : Option V), σ' = [some (.ref b), some (.ref pE), some fv, some ov, some (.ref x1), some (.ref x2), some (.int (i : Int)), some bv, c8, c9, some (.ref pU), some (.ref fA), some (.ref lA), some (.int (S3.looked : Int)), some (.ref ma), c15, c16] ∧ Ex Gm H' ∧ H' ma = some (.lst mus) ∧ DpAll K H' mus (ms.map PyData.int) ∧ ms.Perm ((ls8.take k).flatMap fun q => numsAt ⟨n1, t1⟩ q.1))
      ⟨mp, [], [], _, _, rfl, Ex.refl _, rm, .nil, List.Perm.refl _⟩ (fun k σ' H' _ p => by obtain ⟨_, _, _, _, _, _, p, _⟩ := p; exact Evl.ex_l (g3m.trans p) hlq) (fun k x σ' H' hk p => ?_) (fun σ' H' p => ?_)⟩
    · obtain ⟨ma, ms, mus, c15, c16, rfl, gp, r1, r2, r3⟩ := p
      obtain ⟨d, hd1, hd2⟩ := dpIdx hla hk
      rw [List.getElem?_map] at hd1
      obtain ⟨qq, hq, rfl⟩ := Option.map_eq_some_iff.mp hd1
      have hxq : Dp K H' x (.tuple [plD qq.1, .str (Str.ofString qq.2)]) := dpMono (g3m.trans gp) hd2
      obtain ⟨pl, ii, ss, h1, h2, h3⟩ := (ended_good hr1 hS).le qq (l1.mem_iff.mp (List.mem_of_getElem? hq))
      obtain ⟨ta, tus, rfl, ts1, ts2⟩ := dpTup hxq
      obtain ⟨pv, wv, rfl, h5, h6⟩ := dp_two ts2
      refine ⟨ta, _, rfl, ts1, rfl, i_gcons (i_nameN rfl (i_gcons (i_nameN rfl (i_gnil ?_))))⟩
      dsimp only [List.set_cons_zero, List.set_cons_succ]
      wtm_at "go"
      have hple : pl.length ≤ 100 := by
        have := atF_len h2
        have e9 : (⟨n1, t1⟩ : Fs).1 = n1 := rfl
        omega
      refine use__law_numbers_at (s0 := ⟨n1, t1⟩) (dpMono (g0m.trans gp) hFG) (by rw [← h1]; exact h5) h2 h3 hsm1 (by show n1 ≤ 3; omega) hple (fun ns hns p4 H4 zs n4 e4 z1 z2 => ?_)
      wtm_at "go"
      have hnl : ns.length ≤ 14 ∧ ms.length ≤ 14 := by
        have a := flat_take (fun q : List Nat × String => numsAt ⟨n1, t1⟩ q.1) ls8 k
        have b := r3.length_eq
        have c := flat_take (fun q : List Nat × String => numsAt ⟨n1, t1⟩ q.1) ls8 (k + 1)
        rw [List.take_add_one, hq, List.flatMap_append, List.length_append] at c
        have c2 : (numsAt ⟨n1, t1⟩ qq.1).length ≤ (List.flatMap (fun q : List Nat × String => numsAt ⟨n1, t1⟩ q.1) (some qq).toList).length := by simp
        rw [h1] at c2
        have d := hns.length_eq
        omega
      refine i_catR (e4 _ _ r1) z1 (by rw [dpLen r2, dpLen z2, List.length_map, List.length_map]; omega) (fun p5 H5 n5 e5 h5' => ?_)
      wtm_at "go"
      refine ⟨p5, ms ++ ns, _, _, _, rfl, gp.trans (e4.trans e5), h5', ?_, ?_⟩
      · rw [List.map_append]
        exact dpAllApp (dpMonoA (e4.trans e5) r2) (dpMonoA e5 z2)
      · rw [List.take_add_one, hq, List.flatMap_append]
        refine r3.append ?_
        have hns' : ns.Perm (numsAt ⟨n1, t1⟩ qq.1) := by rw [h1]; exact hns
        simpa using hns'
    · obtain ⟨ma, ms, mus, c15, c16, rfl, gp, r1, r2, r3⟩ := p
      rw [hll, List.take_length] at r3
      have g3p := g3m.trans gp
      have g0p := g0m.trans gp
      dsimp only
      wtm_at "go"
      refine i_catR r1 ((gW.trans g3p) _ _ hU) (by rw [dpLen r2, List.length_map, List.length_map, r3.length_eq]; omega) (fun p4 H4 n4 e4 h4 => ?_)
      have hcat : Dp K H4 (.ref p4) (.list ((ms ++ fs8).map PyData.int)) := .lst (Evl.sq_of h4) (by rw [List.map_append]; exact dpAllApp (dpMonoA e4 r2) dpIntsOf)
      wtm_at "go"
      refine i_sortI (xs := ms ++ fs8) hcat (fun p5 H5 y1 y2 y3 n5 e5 h5 => ?_)
      wtm_at "go"
      refine i_lcLU ?_
      wtm_at "go"
      have e45 := e4.trans e5
      refine i_lcGL (enc := enD) (xs := es) (fun _ => true) (fun e => .int e.1) (dpMono (g0p.trans e45) hEG) (by omega) (fun _ _ => rfl) (fun u x G9' R Y g9' hm hu hn hy => ?_) (fun p6 H6 n6 e6 h6 => ?_)
      · unfold enD at hu
        wtm_at "nrm"
        wtm_at "go"
        refine ⟨rfl, ?_⟩
        wtm_at "go"
        exact hy rfl _ _ (Ex.refl _) (Dp.int _)
      have h6' : Dp K H6 (.ref p6) (.list ((es.map (·.1)).map PyData.int)) := by
        rw [filt_true] at h6
        rw [List.map_map]
        exact h6
      wtm_at "go"
      refine i_sortI (xs := es.map (·.1)) h6' (fun p7 J z1 z2 z3 n7 e7 h7 => ?_)
      have hyz : y1 = z1 := srt_uniq y3 z3 (y2.trans ((r3.append_right fs8).trans (hall.trans z2.symm)))
      subst hyz
      wtm_at "go"
      refine i_neT (dpMono (e6.trans e7) h5) h7 (shp_ints y1) ?_
      wtm_at "go"
      have gJ : Ex H' J := e45.trans (e6.trans e7)
      have g0J : Ex G J := g0p.trans gJ
      obtain ⟨ea, eus, eea, heq', hea⟩ := dpLst (dpMono g0J hEG)
      cases eea
      dsimp only
      refine i_forLU ?_
      wtm_at "go"
      refine ⟨pE, rfl, ⟨eus, heq'⟩, for_list (xs := eus) (fun k σ' H'' => ∃ (c8 c9 : Option V), σ' = [some (.ref b), some (.ref pE), some fv, some ov, some (.ref x1), some (.ref x2), some (.int (i : Int)), some bv, c8, c9, some (.ref pU), some (.ref fA), some (.ref lA), some (.int (S3.looked : Int)), some (.ref ma), c15, c16] ∧ Ex J H'')
        ⟨_, _, rfl, Ex.refl _⟩ (fun k σ' H'' _ p => by obtain ⟨_, _, _, p⟩ := p; exact Evl.ex_l p heq') (fun k x σ' H'' hk p => ?_) (fun σ' H'' p => ?_)⟩
      · obtain ⟨c8, c9, rfl, gp2⟩ := p
        obtain ⟨d, hd1, hd2⟩ := dpIdx hea hk
        rw [List.getElem?_map] at hd1
        obtain ⟨e, he, rfl⟩ := Option.map_eq_some_iff.mp hd1
        have hm := List.mem_of_getElem? he
        obtain ⟨ta, tus, rfl, ts1, ts2⟩ := dpTup (dpMono gp2 hd2)
        obtain ⟨nv, one, rfl, h51, h52⟩ := dp_two ts2
        cases dpInt h51
        have hBJ : Dp K H'' bv (bxD w) := dpMono (g0J.trans gp2) hBG
        refine ⟨ta, _, rfl, ts1, rfl, i_gcons (i_nameN rfl (i_gcons (i_nameN rfl (i_gnil ?_))))⟩
        dsimp only [List.set_cons_zero, List.set_cons_succ]
        wtm_at "go"
        refine ⟨_, _, rfl, e.2, w, h52, hBJ, hok.2 e hm, hwo, fun L2h el => ?_⟩
        wtm_at "go"
        have hmem : meetB e.2 w = decide (e.1 ∈ fs8) := by
          rw [meet_apart]
          have h1 : e.1 ∈ fs8 ↔ apart e.2 w = none := (hdu1.mem_iff).trans (mem_due hok.1 hm)
          by_cases hz : apart e.2 w = none
          · rw [decide_eq_true hz, decide_eq_true (h1.mpr hz)]
          · rw [decide_eq_false hz, decide_eq_false (fun q => hz (h1.mp q))]
        have gUJ : Ex G2 L2h := gW.trans ((g3p.trans gJ).trans (gp2.trans el))
        refine ⟨pU, fs8.map V.int, rfl, .inl (Evl.sq_of (gUJ _ _ hU)), rfl, all_flat fs8, ?_⟩
        dsimp only
        rw [if_neg Bool.false_ne_true, inV_int, ← hmem]
        refine i_ne rfl ?_
        rw [decide_eq_true (rfl : V.bl (meetB e.2 w) = V.bl (meetB e.2 w))]
        wtm_at "go"
        refine ⟨_, _, rfl, e.2, w, dpMono el h52, dpMono el hBJ, hok.2 e hm, hwo, fun L3h el3 => ?_⟩
        have h523 := dpMono (el.trans el3) h52
        have hBJ3 := dpMono (el.trans el3) hBJ
        wtm_at "go"
        refine i_neT (dp_wd _) (dp_wd _) (shp_wd e.2 w) ?_
        wtm_at "go"
        exact ⟨_, _, rfl, gp2.trans (el.trans el3)⟩
      · obtain ⟨c8, c9, rfl, gp2⟩ := p
        have gfin := g0J.trans gp2
        dsimp only
        exact ⟨_, _, _, _, _, _, _, _, _, _, _, rfl, bG.mono gfin, eHG.trans (hid_ex gfin)⟩
  · obtain ⟨c6, c7, c8, c9, c10, c11, c12, c13, c14, c15, c16, rfl, bH, eH⟩ := p
    wtm_at "go"
    exact q H' (e07.trans eH) bH
end
end Wb

namespace Wb
open PySem PySem.Spec PyProof.Rows L2 StX
open Evl (Ex Ex.refl Ex.trans Ex.new)
local macro_rules | `(tactic| wtm_at "dp") => `(tactic| first | with_reducible assumption | with_reducible exact Dp.int _ | with_reducible exact Dp.bl _ | with_reducible exact Dp.str _ | with_reducible exact Dp.non | ((with_reducible refine' dpMono ?dme (by with_reducible assumption)); (case dme => wtm_at "ex")) | ((with_reducible refine' Dp.tup (Evl.st_of ?dph) ?dpa); (case dph => wtm_at "hs"); (case dpa => wtm_at "dpa")) | ((with_reducible refine' Dp.lst (Evl.sq_of ?dph) ?dpa); (case dph => wtm_at "hs"); (case dpa => wtm_at "dpa")))
local macro_rules | `(tactic| wtm_at "dpa") => `(tactic| first | with_reducible exact DpAll.nil | ((with_reducible refine' DpAll.cons ?dp1 ?dp2); (case dp1 => wtm_at "dp"); (case dp2 => wtm_at "dpa")) | with_reducible assumption | ((with_reducible refine' dpMonoA ?dme (by with_reducible assumption)); (case dme => wtm_at "ex")))
local macro_rules | `(tactic| wtm_at "sz") => `(tactic| first | with_reducible assumption | ((with_reducible refine' sz_mul ?sz1 ?sz2); (case sz1 => wtm_at "sz"); (case sz2 => wtm_at "sz")) | ((with_reducible refine' sz_add ?sz1 ?sz2); (case sz1 => wtm_at "sz"); (case sz2 => wtm_at "sz")) | ((with_reducible refine' sz_sub ?sz1 ?sz2); (case sz1 => wtm_at "sz"); (case sz2 => wtm_at "sz")) | ((with_reducible refine' sz_neg ?sz1); (case sz1 => wtm_at "sz")) | ((with_reducible refine' sz_div ?sz1); (case sz1 => wtm_at "sz")) | ((with_reducible refine' sz_fdiv ?sz1); (case sz1 => wtm_at "sz")) | exact sz_lit (by decide) | wtm_at "sz2")
local macro_rules | `(tactic| wtm_at "szb") => `(tactic| first | with_reducible assumption | ((with_reducible refine' sz_mono ?szb1 ?szb2); (case szb1 => wtm_at "sz"); (case szb2 => decide)))
local macro_rules | `(tactic| wtm_at "nz") => `(tactic| first | assumption | decide | omega)
local macro_rules | `(tactic| wtm_at "shaped") => `(tactic| first | rfl | decide)
local macro_rules | `(tactic| wtm_at "sset") => `(tactic| ((dsimp only [L2.wipe, List.set, List.set_cons_zero, List.set_cons_succ]) <;> exact rfl))
local macro_rules | `(tactic| wtm_at "nrm") => `(tactic| dsimp only [L2.start, L2.wipe, List.set, List.append, List.map, List.map_cons, List.map_nil, List.length_cons, List.length_nil, Nat.reduceAdd, Nat.reduceSub, List.reduceReplicate, List.replicate, List.cons_append, List.nil_append, List.set_cons_zero, List.set_cons_succ])
local macro_rules | `(tactic| wtm_at "st") => `(tactic| first
  | ((with_reducible refine' i_var (v := ?u0) ?u1 ?uq); (case u1 => exact rfl))
  | ((with_reducible refine' i_nameN ?u0 ?uq); (case u0 => wtm_at "sset"))
  | (with_reducible refine' i_op ?uq)
  | (with_reducible refine' i_c ?uq)
  | (with_reducible refine' i_I0 ?uq)
  | ((with_reducible refine' i_ixTI (i := ?u0) ?u1 ?u2 ?u3 ?uq); (case u1 => wtm_at "dp"); (case u2 => wtm_at "ex"); (case u3 => exact rfl))
  | ((with_reducible refine' i_ixT (d := ?u0) ?u1 ?u2 ?u3 (fun xu hxu => ?uq)); (case u1 => wtm_at "dp"); (case u2 => wtm_at "ex"); (case u3 => exact rfl))
  | ((with_reducible refine' i_mul ?u0 ?u1 ?u2 ?uq); (case u0 => wtm_at "sz"); (case u1 => wtm_at "sz"); (case u2 => first | decide | omega))
  | (with_reducible refine' i_seq ?uq)
  | (with_reducible refine' i_asg ?uq)
  | (with_reducible refine' i_ret ?uq)
  | (with_reducible refine' i_ifs ?uq)
  | (with_reducible refine' i_drop ?uq)
  | (with_reducible refine' i_next ?uq)
  | (with_reducible refine' i_cons ?uq)
  | (with_reducible refine' i_nil ?uq)
  | (with_reducible refine' i_cl ?uq)
  | (with_reducible refine' i_cb ?uq)
  | (with_reducible refine' i_tup ?uq)
  | (with_reducible refine' i_lst ?uq)
  | ((with_reducible refine' i_mkT ?u0 (fun np nH nhe nhp => ?uq)); (case u0 => exact Nat.le_of_ble_eq_true rfl))
  | (with_reducible refine' i_test ?uq)
  | (with_reducible refine' i_B ?uq)
  | (with_reducible refine' i_k ?uq)
  | (with_reducible refine' i_and ?uq)
  | (with_reducible refine' i_or ?uq)
  | (with_reducible refine' i_not ?uq)
  | (with_reducible refine' i_andV ?uq)
  | (with_reducible refine' i_orV ?uq)
  | (with_reducible refine' i_notV ?uq)
  | (with_reducible refine' i_if ?uq)
  | (with_reducible refine' i_un ?uq)
  | (with_reducible refine' i_U ?uq)
  | (with_reducible refine' i_iteT ?uq)
  | (with_reducible refine' i_iteF ?uq)
  | ((with_reducible refine' i_iteTr ?u0 ?uq); (case u0 => first | with_reducible rfl | decide | (simp only [dIsInt, dIsBool, dIsTup, dIsStr, dIsLst, Bool.not_true, Bool.not_false]; done)))
  | ((with_reducible refine' i_iteFr ?u0 ?uq); (case u0 => first | with_reducible rfl | decide | (simp only [dIsInt, dIsBool, dIsTup, dIsStr, dIsLst, Bool.not_true, Bool.not_false]; done)))
  | (with_reducible refine' i_ite (fun hif => ?uqa) (fun hif => ?uqb))
  | (with_reducible refine' i_iteN (fun hif => ?uqa) (fun hif => ?uqb))
  | (with_reducible refine' i_iteBN (fun hif => ?uqa) (fun hif => ?uqb))
  | (with_reducible refine' i_iteB (fun hif => ?uqa) (fun hif => ?uqb))
  | ((with_reducible refine' i_modN ?u0 ?uq); (case u0 => wtm_at "nz"))
  | ((with_reducible refine' i_fdX ?u0 ?u1 ?u2 ?uq); (case u0 => wtm_at "nz"); (case u1 => wtm_at "sz"); (case u2 => first | decide | omega))
  | ((with_reducible refine' i_pow ?u0 ?uq); (case u0 => exact ⟨by decide, by decide +kernel⟩))
  | (with_reducible refine' i_eqI ?uq)
  | (with_reducible refine' i_neI ?uq)
  | (with_reducible refine' i_gcd ?uq)
  | (with_reducible refine' i_qabs ?uq)
  | (with_reducible refine' i_qint ?uq)
  | (with_reducible refine' i_qintB ?uq)
  | (with_reducible refine' i_qmax2 ?uq)
  | (with_reducible refine' i_qmin2 ?uq)
  | (with_reducible refine' i_isB ?uq)
  | (with_reducible refine' i_notB ?uq)
  | (with_reducible refine' i_chain ?uq)
  | (with_reducible refine' i_qisN ?uq)
  | (with_reducible refine' i_qnotN ?uq)
  | (with_reducible refine' i_yes ?uq)
  | (with_reducible refine' i_par ?uq)
  | (with_reducible refine' i_par3 ?uq)
  | ((with_reducible refine' i_par2 ?u0 ?uq); (case u0 => wtm_at "sset"))
  | ((with_reducible refine' i_par33 ?u0 ?uq); (case u0 => wtm_at "sset"))
  | ((with_reducible refine' i_ixLI (i := ?u0) ?u1 ?u2 ?u3 ?uq); (case u1 => wtm_at "dp"); (case u2 => wtm_at "ex"); (case u3 => exact rfl))
  | ((with_reducible refine' i_ixL (d := ?u0) ?u1 ?u2 ?u3 (fun xu hxu => ?uq)); (case u1 => wtm_at "dp"); (case u2 => wtm_at "ex"); (case u3 => exact rfl))
  | ((with_reducible refine' i_qlenT ?u0 ?uq); (case u0 => wtm_at "dp"))
  | ((with_reducible refine' i_qlenL ?u0 ?uq); (case u0 => wtm_at "dp"))
  | ((with_reducible refine' i_gtup ?u0 ?u1 ?u2 (fun gvs gdp => ?uq)); (case u0 => wtm_at "dp"); (case u1 => wtm_at "ex"); (case u2 => exact rfl))
  | ((with_reducible refine' i_glst ?u0 ?u1 ?u2 (fun gvs gdp => ?uq)); (case u0 => wtm_at "dp"); (case u1 => wtm_at "ex"); (case u2 => exact rfl))
  | ((with_reducible refine' i_gconsI ?u0 (fun gr gh => ?uq)); (case u0 => with_reducible assumption))
  | ((with_reducible refine' i_gconsA ?u0 (fun gv gr gh1 gh2 => ?uq)); (case u0 => with_reducible assumption))
  | ((with_reducible refine' i_gnilA ?u0 ?uq); (case u0 => with_reducible assumption))
  | ((with_reducible refine' i_isiI ?u0 ?uq); (case u0 => wtm_at "dp"))
  | ((with_reducible refine' i_isiB ?u0 ?uq); (case u0 => wtm_at "dp"))
  | ((with_reducible refine' i_isiT ?u0 ?uq); (case u0 => wtm_at "dp"))
  | ((with_reducible refine' i_isiS ?u0 ?uq); (case u0 => wtm_at "dp"))
  | ((with_reducible refine' i_isiL ?u0 ?uq); (case u0 => wtm_at "dp"))
  | ((with_reducible refine' i_eqD ?u0 ?u1 ?u2 ?u3 ?uq); (case u0 => wtm_at "dp"); (case u1 => wtm_at "dp"); (case u2 => wtm_at "shaped"); (case u3 => wtm_at "shaped"))
  | ((with_reducible refine' i_neD ?u0 ?u1 ?u2 ?u3 ?uq); (case u0 => wtm_at "dp"); (case u1 => wtm_at "dp"); (case u2 => wtm_at "shaped"); (case u3 => wtm_at "shaped"))
  | wtm_at "st2"
  | wtm_at "use")
local macro_rules | `(tactic| wtm_at "go") => `(tactic| repeat' (wtm_at "st"))
local macro_rules | `(tactic| wtm_at "go0") => `(tactic| ((try dsimp only [L2.cxOf, L2.Cx.nox, L2.Cx.wish, L2.Cx.tr, L2.Cx.blk]); (try wtm_at "nrm"); wtm_at "go"))
local macro_rules | `(tactic| wtm_at "fin") => `(tactic| ((try dsimp only); first | with_reducible assumption | assumption | ((with_reducible refine' Ret.use ?rur ?rue ?rud); (case rur => with_reducible assumption); (case rue => wtm_at "ex"); (case rud => wtm_at "dp"))))
local macro_rules | `(tactic| wtm_at "exh") => `(tactic| first | with_reducible assumption | with_reducible exact Ex.refl _ | with_reducible exact ex_hid | ((with_reducible refine' Ex.trans ?exe (by with_reducible assumption)); (case exe => wtm_at "exh")) | ((with_reducible refine' Ex.trans ?exe (hid_ex (by with_reducible assumption))); (case exe => wtm_at "exh")))
local macro_rules | `(tactic| wtm_at "ex") => `(tactic| first | with_reducible assumption | with_reducible exact Ex.refl _ | with_reducible exact ex_hid | ((with_reducible refine' Ex.trans ?exe (by with_reducible assumption)); (case exe => wtm_at "ex")) | ((with_reducible refine' Ex.trans ?exe (hid_ex (by with_reducible assumption))); (case exe => wtm_at "ex")) | ((with_reducible refine' Ex.trans ?exe ex_hid); (case exe => wtm_at "exh")))
local macro_rules | `(tactic| wtm_at "bag") => `(tactic| first | with_reducible assumption | ((with_reducible refine' Bag.mono ?bgm (by with_reducible assumption)); (case bgm => wtm_at "bag")))
local macro_rules | `(tactic| wtm_at "hs") => `(tactic| first | with_reducible assumption | ((with_reducible refine' hid_tup ?hb ?hp); (case hp => with_reducible assumption); (case hb => wtm_at "bag")) | ((with_reducible refine' hid_new ?hb ?hn ?hp); (case hp => with_reducible assumption); (case hn => with_reducible assumption); (case hb => wtm_at "bag")) | ((with_reducible refine' ex_at ?exe (by with_reducible assumption)); (case exe => wtm_at "ex")))
local macro_rules | `(tactic| wtm_at "st2") => `(tactic| first
  | ((with_reducible refine' i_mulC ?u0 ?uq); (case u0 => first | exact cmul_l (by decide) | exact cmul_r (by decide)))
  | ((with_reducible refine' i_ixLr (v := ?u0) ?u1 ?u2 ?uq); (case u1 => with_reducible assumption); (case u2 => exact rfl))
  | (with_reducible refine' i_sub ?uq)
  | ((with_reducible refine' i_mkL ?u0 (fun np nH nfr nhe nhp => ?uq)); (case u0 => exact Nat.le_of_ble_eq_true rfl))
  | ((with_reducible refine' i_setL (n := ?u0) ?u1 ?u2 (fun sH sh se => ?uq)); (case u1 => with_reducible assumption); (case u2 => exact rfl))
  | (with_reducible refine' i_sl ?uq)
  | (with_reducible refine' i_nopart ?uq)
  | (with_reducible refine' i_part ?uq)
  | (with_reducible refine' i_part1 ?uq))
local macro_rules | `(tactic| wtm_at "sz2") => `(tactic| ((with_reducible refine' sz_fmod ?sz1 ?sz2); (case sz1 => wtm_at "nz"); (case sz2 => wtm_at "sz")))
local macro_rules | `(tactic| wtm_at "stb") => `(tactic| first
  | ((with_reducible refine' i_mkTB ?u0 ?u1 (fun np nH nhe nhb nhp => ?uq)); (case u0 => exact Nat.le_of_ble_eq_true rfl); (case u1 => wtm_at "bag"))
  | ((with_reducible refine' i_mkLB ?u0 ?u1 (fun np nH nfr nhe nhb nhp => ?uq)); (case u0 => exact Nat.le_of_ble_eq_true rfl); (case u1 => wtm_at "bag"))
  | wtm_at "st")
local macro_rules | `(tactic| wtm_at "gob") => `(tactic| repeat' (wtm_at "stb"))
local macro_rules | `(tactic| wtm_at "gob0") => `(tactic| ((try dsimp only [L2.cxOf, L2.Cx.nox, L2.Cx.wish, L2.Cx.tr, L2.Cx.blk]); (try wtm_at "nrm"); wtm_at "gob"))
local macro_rules | `(tactic| wtm_at "st") => `(tactic| first | ((with_reducible refine' i_ixTS (z := ?u0) ?u1 ?u2 ?u3 ?uq); (case u1 => wtm_at "dp"); (case u2 => wtm_at "ex"); (case u3 => exact rfl)) | fail)
local macro_rules | `(tactic| wtm_at "st2") => `(tactic| first | ((with_reducible refine' i_eqST ?u0 ?uq); (case u0 => with_reducible rfl)) | ((with_reducible refine' i_eqSF ?u0 ?uq); (case u0 => decide +kernel)) | ((with_reducible refine' i_neST ?u0 ?uq); (case u0 => with_reducible rfl)) | ((with_reducible refine' i_neSF ?u0 ?uq); (case u0 => decide +kernel)) | fail)
section
variable {P : Program} {w : World} {K : PySem.W.Frag} {mg : Str → Option Value} {base : Heap} {H H' : Hp} {Q : VK} {E : XK} {v1 v2 v3 v4 v5 : V}
local macro_rules | `(tactic| wtm_at "use") => `(tactic| ((with_reducible refine' use__law_apart_word ?u0 ?u1 ?uq); (case u0 => wtm_at "dp"); (case u1 => wtm_at "dp")))
theorem use__law_right {b : Addr} (hb : Bag b H) (q : ∀ H2, Ex (hid b H) (hid b H2) → Bag b H2 → Q (.bl true) H2) : sp__law_right K [.ref b] H Q E := ⟨_, rfl, b, rfl, hb, q⟩
/-- equal items of the law's last list -/
def lawD (K : PySem.W.Frag) : Eqv := fun x y H => DDic0 x y H ∨ (DFlat x y H ∨ (DTup K DFlat x y H ∨ DTup K (fun x y H => DFlat x y H ∨ DTup K DFlat x y H) x y H))
theorem mon_law {K : PySem.W.Frag} : Mon (lawD K) := mon_dic0.or (mon_flat.or ((mon_tup mon_flat).or (mon_tup (mon_flat.or (mon_tup mon_flat)))))
theorem lawRc {X : Cx} : RcG X 3 (DList (lawD X.K)) := by
  have f1 : EqG X 1 (DTup X.K DFlat) := eqG_tup mon_flat eqG_flat
  have f2 : EqG X 2 (DTup X.K (fun x y H => DFlat x y H ∨ DTup X.K DFlat x y H)) := eqG_tup (mon_flat.or (mon_tup mon_flat)) ((eqG_flat.mono (by omega)).or f1)
  exact rcG_list mon_law ((eqG_dic0.mono (by omega)).or ((eqG_flat.mono (by omega)).or ((f1.mono (by omega)).or f2)))
theorem i_propU {C : Addr} {sp : Sp} {dvs : List V} {E : XK} {ta : TE} {σ : L2.St} (q : ta σ H fun x H1 => ∃ a dx fs, x = V.ref a ∧ H1 a = some (.ins C dx fs) ∧ sp (.ref a :: dvs) H1 Q E) : tProp C sp dvs E ta σ H Q := q
theorem ended_empty {w : Bx} {S : Ws} (h : Ended w ⟨0, mkLf []⟩ S) : S = ⟨[], [], 0, []⟩ := ended_uniq h ⟨rfl, 1, rfl⟩
def sp_law (K : PySem.W.Frag) : Sp := A1 fun v1 H Q => ∃ (a : Addr) (ns : List Int), v1 = .ref a ∧ SqL K H a (ns.map V.int) ∧ ∀ H2, Q (.bl true) H2
abbrev s_law : Stmt := top 74
theorem sc_law : FnScope ["_law_script", "_law_at", "_law_none"] ["_law_script"] (defScope s_law) := ⟨rfl, rfl, rfl, by decide +kernel, rfl, by decide +kernel, by decide +kernel⟩
theorem ok_law {f : Addr} {fd : FuncData} (F : FnP K "law" s_law f fd) (g : G mg) {CT CK : Addr} (mT : mg "Tree" = some (.ref CT)) (ct : Cls K CT) {fS fP fT : Addr} {fdS fdP fdT : FuncData} (mS : Meth K CT "search" fS) (FS : FnOk P w K mg base CX0 4 fS fdS ["self", "box"] (sp_Tree_search K CT)) (bS : Binds K fdS ["self", "box"] []) (mP : Meth K CT "search_paper" fP) (FP : FnOk P w K mg base CX0 4 fP fdP ["self", "box"] (sp_Tree_search_paper K CT)) (bP : Binds K fdP ["self", "box"] []) (MT : Mk K CT fT) (FT : FnOk P w K mg base CX0 6 fT fdT ["self", "entries"] (sp_Tree_init K CT CK)) {dsT : List Value} (dT : Vals [.ref (dfT K)] dsT) (bT : Binds K fdT ["self", "entries"] dsT) (dK : ∀ H : Hp, SqT K H (dfT K) []) {qheight gheight : Addr} {fdheight : FuncData} (pheight : PropOf K CT "height" qheight gheight) (Fheight : FnOk P w K mg base CX0 5 gheight fdheight ["self"] (sp_Tree_height K CT)) (bheight : Binds K fdheight ["self"] []) {qboxes gboxes : Addr} {fdboxes : FuncData} (pboxes : PropOf K CT "boxes" qboxes gboxes) (Fboxes : FnOk P w K mg base CX0 1 gboxes fdboxes ["self"] (sp_Tree_boxes K CT)) (bboxes : Binds K fdboxes ["self"] []) {qbox gbox : Addr} {fdbox : FuncData} (pbox : PropOf K CT "box" qbox gbox) (Fbox : FnOk P w K mg base CX0 1 gbox fdbox ["self"] (sp_Tree_box K CT)) (bbox : Binds K fdbox ["self"] []) (c__law_bag : Cl P w K mg base 1 "_law_bag" (sp__law_bag K)) (c__law_right : Cl P w K mg base 13 "_law_right" (sp__law_right K)) : FnOk P w K mg base CX0 14 f fd ["_law_script"] (sp_law K) := by
  have nd := sc_law.nd
  refine F.ok sc_law (fun vs H Q E h => h.len) (fun cdv A outer s H vs Q E hr h => ?_)
  obtain ⟨v1, rfl, h⟩ := h
  refine ⟨_, PSs.nox (pss_cons (ps_for PassesOwn.never rfl (pi_range1 (by rfl) g.f_range (pa_cons (pe_callB (call_qmax2 rfl) (by rfl) g.f_max boot_max (pa_cons pe_int (pa_cons (pe_callB (call_qmin2 rfl) (by rfl) g.f_min boot_min (pa_cons pe_int (pa_cons (pe_callB call_qlen (by rfl) g.f_len boot_len (pa_cons (pv 0) pa_nil)) pa_nil))) pa_nil))) pa_nil)) (pg_name (i := 1) nd rfl (Or.inl rfl)) (pss_one (ps_if (pt_not (pt_val (pc c__law_right hr (by first | decide | omega) (by rfl) (pa_cons (pc c__law_bag hr (by first | decide | omega) (by rfl) (pa_cons (pv 0) (pa_cons (pv 1) pa_nil))) pa_nil)))) (pss_one (ps_ret pe_bl)) pss_nil))) (pss_cons (ps_set (i := 2) nd rfl (Or.inl rfl) (pe_make0 MT FT (hr.mono (by decide)) (by rfl) mT bT dT pass0)) (pss_one (ps_ret (pe_cmpR (op_eqG lawRc (hr.mono (by decide))) (pe_lst (pa_cons (pe_meth (pv 2) ct mS FS (hr.mono (by decide)) bS .nil pass0 (pa_cons (pe_tup (pa_cons pe_int (pa_cons pe_int (pa_cons pe_int (pa_cons pe_int pa_nil))))) pa_nil)) (pa_cons (pe_meth (pv 2) ct mP FP (hr.mono (by decide)) bP .nil pass0 (pa_cons (pe_tup (pa_cons pe_int (pa_cons pe_int (pa_cons pe_int (pa_cons pe_int pa_nil))))) pa_nil)) (pa_cons (pe_prop (pv 2) ct pheight Fheight (hr.mono (by decide)) bheight .nil pass0 rfl) (pa_cons (pe_prop (pv 2) ct pbox Fbox (hr.mono (by decide)) bbox .nil pass0 rfl) (pa_cons (pe_prop (pv 2) ct pboxes Fboxes (hr.mono (by decide)) bboxes .nil pass0 rfl) pa_nil)))))) (pe_lst (pa_cons (pe_tup pa_nil) (pa_cons (pe_tup (pa_cons (pe_tup pa_nil) (pa_cons (pe_tup pa_nil) (pa_cons pe_int pa_nil)))) (pa_cons pe_int (pa_cons pe_non (pa_cons pe_dnewK pa_nil)))))) (nomark _)))))), ?_⟩
  obtain ⟨a, ns, rfl, hS, q⟩ := h
  wtm_at "go0"
  refine i_forRU ?_
  wtm_at "go"
  refine i_qlenS hS ?_
  wtm_at "go"
  refine i_forRK (by repeat' split <;> omega) (fun i σ' H' => ∃ c1 : Option V, σ' = [some (.ref a), c1, none] ∧ Ex H H') ⟨_, rfl, Ex.refl _⟩ (fun i σ' H' hi p => ?_) (fun σ' H' p => ?_)
  · obtain ⟨c1, rfl, e1⟩ := p
    have hi2 : (i : Int) < 100 := by
      revert hi
      repeat' split <;> omega
    wtm_at "nrm"
    wtm_at "go"
    refine use__law_bag (Evl.ex_l e1 hS) (by omega) hi2 (fun b H2 nb eb bb => ?_)
    wtm_at "go"
    refine use__law_right bb (fun H3 e3 b3 => ?_)
    wtm_at "go"
    exact ⟨_, rfl, e1.trans (ex_unhid nb eb e3)⟩
  · obtain ⟨c1, rfl, e1⟩ := p
    wtm_at "go"
    refine i_mkU ?_
    wtm_at "go"
    intro x dx nx ndx nex
    refine ⟨_, _, rfl, x, dx, H', ⟨0, mkLf []⟩, rfl, Evl.Ex.mut (Ex.new ndx) nx, nx, upd_same, .inr ⟨.tup (dK _) .nil, rfl⟩, Nat.zero_le _, Nat.zero_le _, List.nodup_nil, fun H2 e2 hT => ⟨rfl, ?_⟩⟩
    wtm_at "go"
    have at0 : Sm 0 (mkLf []) := Nat.zero_le _
    have bk0 : Bok 0 (mkLf []) := fun e he => by cases he
    refine i_methU ?_
    wtm_at "go"
    obtain ⟨fs1, fv1, k1, kv1, m11, m12, m13, m14, m15, m16, m17⟩ := id hT
    refine ⟨x, dx, fs1, rfl, m11, m17 "search" (by decide +kernel) (by decide +kernel), ?_⟩
    wtm_at "go"
    rename_i p3 H3 e3 h3
    refine ⟨_, _, rfl, x, ⟨0, mkLf []⟩, (0, 0, 9, 9), rfl, (hT.mono e3).at_, at0, Nat.zero_le _, bk0, .tup (Evl.st_of h3) (.cons (.int _) (.cons (.int _) (.cons (.int _) (.cons (.int _) .nil)))), ⟨by decide, by decide⟩, fun S fs hE g1 g2 v4 H4 e4 h4 => ?_⟩
    have hfs : fs = [] := by
      rw [ended_empty hE] at g1
      exact List.Perm.eq_nil g1
    subst hfs
    have e24 := e3.trans e4
    wtm_at "go"
    refine i_methU ?_
    wtm_at "go"
    refine ⟨x, dx, fs1, rfl, e24 _ _ m11, m17 "search_paper" (by decide +kernel) (by decide +kernel), ?_⟩
    wtm_at "go"
    rename_i p5 H5 e5 h5
    refine ⟨_, _, rfl, x, ⟨0, mkLf []⟩, (0, 0, 0, 0), rfl, (hT.mono (e24.trans e5)).at_, at0, Nat.zero_le _, bk0, .tup (Evl.st_of h5) (.cons (.int _) (.cons (.int _) (.cons (.int _) (.cons (.int _) .nil)))), ⟨by decide, by decide⟩, fun S fs ls hE g1 g2 g3 g4 v6 H6 e6 h6 => ?_⟩
    have eS := ended_empty hE
    have hfs : fs = [] := by
      rw [eS] at g1
      exact List.Perm.eq_nil g1
    have hls : ls = [] := by
      rw [eS] at g3
      exact List.Perm.eq_nil g3
    subst hfs hls eS
    have e26 := e24.trans (e5.trans e6)
    wtm_at "go"
    refine i_propU ?_
    wtm_at "go"
    refine ⟨x, dx, fs1, rfl, e26 _ _ m11, ?_⟩
    refine ⟨_, rfl, x, dx, rfl, hT.mono e26, ret_int fun H7 e7 => ?_⟩
    have e27 := e26.trans e7
    wtm_at "go"
    refine i_propU ?_
    wtm_at "go"
    refine ⟨x, dx, fs1, rfl, e27 _ _ m11, ?_⟩
    refine ⟨_, rfl, x, dx, rfl, hT.mono e27, ret_non fun H8 e8 => ?_⟩
    have e28 := e27.trans e8
    wtm_at "go"
    refine i_propU ?_
    wtm_at "go"
    refine ⟨x, dx, fs1, rfl, e28 _ _ m11, ?_⟩
    refine ⟨_, rfl, x, dx, rfl, hT.mono e28, fun p9 H9 e9 h9 => ?_⟩
    wtm_at "go"
    rename_i pL HL nL eL hL q1 J1 f1 k1' q2 J2 f2 k2' q3 J3 f3 k3' q4 J4 f4 k4'
    intro d nd
    refine i_nil ?_
    wtm_at "go"
    rename_i pR J5 nR eR hR
    have eD : Ex J4 (upd J4 d (.dK [])) := Ex.new nd
    have e45 : Ex J4 J5 := eD.trans eR
    have e35 := f4.trans e45
    have e25 := f3.trans e35
    have e15 := f2.trans e25
    have eJ : Ex HL J5 := f1.trans e15
    have e9J : Ex H9 J5 := eL.trans eJ
    have e6J : Ex H6 J5 := (e7.trans (e8.trans e9)).trans e9J
    have hv4 := dpMono ((e5.trans e6).trans e6J) h4
    have hv6 := dpMono e6J h6
    refine ⟨⟨pL, pR, _, _, rfl, rfl, eJ _ _ hL, hR, .cons ?_ (.cons ?_ (.cons ?_ (.cons ?_ (.cons ?_ .nil))))⟩, fun H' _ => q H'⟩
    · obtain ⟨a4, u4, rfl, s4, d4⟩ := dpTup hv4
      cases d4
      exact .inr (.inr (.inl ⟨a4, q1, [], [], rfl, rfl, s4, Evl.st_of (e15 _ _ k1'), .nil⟩))
    · obtain ⟨a6, u6, rfl, s6, d6⟩ := dpTup hv6
      cases d6 with
      | cons g1 g2 => cases g2 with
        | cons g3 g4 => cases g4 with
          | cons g5 g6 =>
            cases g6
            obtain ⟨b1, w1, rfl, r1, r2⟩ := dpTup g1
            obtain ⟨b2, w2, rfl, r3, r4⟩ := dpTup g3
            cases r2
            cases r4
            cases dpInt g5
            exact .inr (.inr (.inr ⟨a6, q4, _, _, rfl, rfl, s6, Evl.st_of (e45 _ _ k4'), .cons (.inr ⟨b1, q2, [], [], rfl, rfl, r1, Evl.st_of (e25 _ _ k2'), .nil⟩) (.cons (.inr ⟨b2, q3, [], [], rfl, rfl, r3, Evl.st_of (e35 _ _ k3'), .nil⟩) (.cons (.inl ⟨rfl, rfl, rfl⟩) .nil))⟩))
    · exact .inr (.inl ⟨rfl, rfl, rfl⟩)
    · exact .inr (.inl ⟨rfl, rfl, rfl⟩)
    · exact .inl ⟨p9, d, rfl, rfl, e9J _ _ h9, eR _ _ upd_same⟩
end
end Wb

namespace Wb
open PySem PySem.Spec PyProof.Rows L2
theorem fnOk_no {P : Program} {w : World} {K : PySem.W.Frag} {mg : Str → Option Value} {base : Heap} {k : Nat} {f : Addr} {fd : FuncData} {ps : List Str} {sp : Sp} (h : ∀ vs H Q E, sp vs H Q E → False) : FnOk P w K mg base CX0 k f fd ps sp :=
  ⟨fun vs H Q E q => (h vs H Q E q).elim, fun A outer s H args us vs Q E _ _ _ _ q => (h vs H Q E q).elim⟩
theorem prop_ok {K : PySem.W.Frag} {C : Addr} {f : Str} (h : propB K C f = true) : PropOf K C f (He.ma K C f) (He5.wf K C "property" f) := by
  unfold propB at h
  obtain ⟨h1, h⟩ := Bool.and_eq_true_iff.mp h
  obtain ⟨h2, h⟩ := Bool.and_eq_true_iff.mp h
  obtain ⟨h3, h4⟩ := Bool.and_eq_true_iff.mp h
  refine ⟨He.eqO_ok h1, He.eqO_ok h2, of_decide_eq_true h3, ?_⟩
  unfold He5.wf
  split at h4
  · rename_i g r e
    exact ⟨r, by rw [e]⟩
  · cases h4
theorem scl_ok {K : PySem.W.Frag} {C : Addr} (h : sclB K C = true) : L2.SCls K C := by
  unfold sclB at h
  obtain ⟨h1, h⟩ := Bool.and_eq_true_iff.mp h
  obtain ⟨h2, h⟩ := Bool.and_eq_true_iff.mp h
  obtain ⟨h3, h4⟩ := Bool.and_eq_true_iff.mp h
  exact ⟨h1, h2, h3, He.eqO_ok h4⟩
theorem slot_ok {K : PySem.W.Frag} {C : Addr} {f : Str} (h : slotB K C f = true) : L2.Slt K C f 0 (He.ma K C f) := by
  unfold slotB at h
  obtain ⟨h1, h⟩ := Bool.and_eq_true_iff.mp h
  obtain ⟨h2, h⟩ := Bool.and_eq_true_iff.mp h
  obtain ⟨h3, h⟩ := Bool.and_eq_true_iff.mp h
  obtain ⟨h4, h5⟩ := Bool.and_eq_true_iff.mp h
  exact ⟨He.eqO_ok h1, He.eqO_ok h2, of_decide_eq_true h3, of_decide_eq_true h5, of_decide_eq_true h4, by decide⟩
structure ExF (K : PySem.W.Frag) : Prop where
  scl : L2.SCls K (He.ga K "Kept")
  slt : L2.Slt K (He.ga K "Kept") "own_list" 0 (He.ma K (He.ga K "Kept") "own_list")
  isi : SlX.SIsi K (He.ga K "Kept")
  kt : PySem.W.kitOne K (.ref (He.ga K "Kept")) (.ref (He.ga K "Kept")) = some true
  ku : PySem.W.kitOne K (.type "tuple") (.ref (He.ga K "Kept")) = some false
  cr : ClX.CRead K (He.ga K "Tree") (.type "type")
  cm : ClX.CMet K (He.ga K "Tree") (.type "type") "told" (He.ma K (He.ga K "Tree") "told") (He5.wf K (He.ga K "Tree") "classmethod" "told")
  df : ∀ H : Hp, SqT K H (dfT K) []
  ph : PropOf K (He.ga K "Tree") "height" (He.ma K (He.ga K "Tree") "height") (He5.wf K (He.ga K "Tree") "property" "height")
  pbs : PropOf K (He.ga K "Tree") "boxes" (He.ma K (He.ga K "Tree") "boxes") (He5.wf K (He.ga K "Tree") "property" "boxes")
  pbx : PropOf K (He.ga K "Tree") "box" (He.ma K (He.ga K "Tree") "box") (He5.wf K (He.ga K "Tree") "property" "box")
theorem exB_ok {K : PySem.W.Frag} (h : exB K = true) {f : Addr} (mk : Mk K (He.ga K "Kept") f) : ExF K := by
  unfold exB at h
  obtain ⟨h, hw⟩ := Bool.and_eq_true_iff.mp h
  obtain ⟨hw, hf⟩ := Bool.and_eq_true_iff.mp hw
  obtain ⟨h, p3⟩ := Bool.and_eq_true_iff.mp h
  obtain ⟨h, p2⟩ := Bool.and_eq_true_iff.mp h
  obtain ⟨h, p1⟩ := Bool.and_eq_true_iff.mp h
  unfold exK at h
  obtain ⟨h, k9⟩ := Bool.and_eq_true_iff.mp h
  obtain ⟨h, k8⟩ := Bool.and_eq_true_iff.mp h
  obtain ⟨h, k7⟩ := Bool.and_eq_true_iff.mp h
  obtain ⟨h, k6⟩ := Bool.and_eq_true_iff.mp h
  obtain ⟨h, k5⟩ := Bool.and_eq_true_iff.mp h
  obtain ⟨h, k4⟩ := Bool.and_eq_true_iff.mp h
  obtain ⟨h, k3⟩ := Bool.and_eq_true_iff.mp h
  obtain ⟨k1, k2⟩ := Bool.and_eq_true_iff.mp h
  obtain ⟨w1, w2⟩ := He5.wrapB_ok hw
  refine ⟨scl_ok k1, slot_ok k2, ⟨He.eqO_ok k8, by rfl, by rfl, mro_obj mk.makes⟩, of_decide_eq_true k5, of_decide_eq_true k4, ⟨k3, ?_⟩, ⟨w1, w2, hf⟩, fun H => ?_, prop_ok p1, prop_ok p2, prop_ok p3⟩
  · show (PySem.W.typeIn K (.ref (He.ga K "Tree"))).bind (fun t => PySem.W.findIn K t "__getattribute__") = _
    rw [of_decide_eq_true k6]
    show PySem.W.findIn K (.type "type") "__getattribute__" = _
    first | rfl | decide +kernel
  · split at k9
    · rename_i c its n sl e
      obtain ⟨e1, e2⟩ := Bool.and_eq_true_iff.mp k9
      have e1 := of_decide_eq_true e1
      have e2 := of_decide_eq_true e2
      subst e1
      have e3 : its.toList = [] := List.eq_nil_of_length_eq_zero (by rw [Array.length_toList]; exact e2)
      exact .inr ⟨_, its, n, e, rfl, rfl, by rw [e2]; exact Nat.zero_le _, by rw [e3]; exact .nil⟩
    · cases k9
theorem facts {w : World} {K : PySem.W.Frag} {h : Heap} {mg : Str → Option Value} {f : Addr} (X : K.In h) (G0 : h.Ns mainGlobals mg) (hfa : mg ("law" : Str) = some (.ref f)) (cx : SaysY K) :
    ∃ fd : FuncData, (∀ (s : Shared) (v : Value), BindsTo s fd ⟨[v], []⟩ [("_law_script", v)]) ∧ ∀ base : Heap, K.In base → base.Ns mainGlobals mg → FnOk PySem.Challenge.pw_wherebase_k51_whole_searches_and_what_th w K mg base CX0 14 f fd ["_law_script"] (sp_law K) := by
  have c : He5.SaysA fa fn K := cx.d
  obtain ⟨d_is_integer, F_is_integer⟩ := c.def_ 0 (d := mkD "is_integer" 9) rfl
  obtain ⟨d_is_box, F_is_box⟩ := c.def_ 1 (d := mkD "is_box" 15) rfl
  obtain ⟨d_require_box, F_require_box⟩ := c.def_ 2 (d := mkD "require_box" 16) rfl
  obtain ⟨d_do_meet_in, F_do_meet_in⟩ := c.def_ 3 (d := mkD "do_meet_in" 17) rfl
  obtain ⟨d_apart_word, F_apart_word⟩ := c.def_ 4 (d := mkD "apart_word" 18) rfl
  obtain ⟨d_joint_in, F_joint_in⟩ := c.def_ 5 (d := mkD "joint_in" 19) rfl
  obtain ⟨d_are_meeting, F_are_meeting⟩ := c.def_ 6 (d := mkD "are_meeting" 21) rfl
  obtain ⟨d_side_apart, F_side_apart⟩ := c.def_ 7 (d := mkD "side_apart" 22) rfl
  obtain ⟨d_is_entry, F_is_entry⟩ := c.def_ 8 (d := mkD "is_entry" 29) rfl
  obtain ⟨d_is_built, F_is_built⟩ := c.def_ 9 (d := mkD "is_built" 30) rfl
  obtain ⟨d_is_branch, F_is_branch⟩ := c.def_ 10 (d := mkD "is_branch" 31) rfl
  obtain ⟨d_entries_in, F_entries_in⟩ := c.def_ 11 (d := mkD "entries_in" 32) rfl
  obtain ⟨d_depths_in, F_depths_in⟩ := c.def_ 12 (d := mkD "depths_in" 33) rfl
  obtain ⟨d_forms_in, F_forms_in⟩ := c.def_ 13 (d := mkD "forms_in" 34) rfl
  obtain ⟨d_branches_in, F_branches_in⟩ := c.def_ 14 (d := mkD "branches_in" 35) rfl
  obtain ⟨d_has_size, F_has_size⟩ := c.def_ 15 (d := mkD "has_size" 36) rfl
  obtain ⟨d_has_box, F_has_box⟩ := c.def_ 16 (d := mkD "has_box" 37) rfl
  obtain ⟨d_flaws_of, F_flaws_of⟩ := c.def_ 17 (d := mkD "flaws_of" 38) rfl
  obtain ⟨d_box_at, F_box_at⟩ := c.def_ 18 (d := mkD "box_at" 40) rfl
  obtain ⟨d_form_with, F_form_with⟩ := c.def_ 19 (d := mkD "form_with" 47) rfl
  obtain ⟨d_require_entries, F_require_entries⟩ := c.def_ 20 (d := mkD "require_entries" 48) rfl
  obtain ⟨d_searched, F_searched⟩ := c.def_ 21 (d := mkD "searched" 49) rfl
  obtain ⟨d__law_bag, F__law_bag⟩ := c.def_ 22 (d := mkD "_law_bag" 59) rfl
  obtain ⟨d__law_draw, F__law_draw⟩ := c.def_ 23 (d := mkD "_law_draw" 60) rfl
  obtain ⟨d__law_one_of, F__law_one_of⟩ := c.def_ 24 (d := mkD "_law_one_of" 61) rfl
  obtain ⟨d__law_shuffled, F__law_shuffled⟩ := c.def_ 25 (d := mkD "_law_shuffled" 62) rfl
  obtain ⟨d__law_boxes_in, F__law_boxes_in⟩ := c.def_ 26 (d := mkD "_law_boxes_in" 63) rfl
  obtain ⟨d__law_small_box, F__law_small_box⟩ := c.def_ 27 (d := mkD "_law_small_box" 64) rfl
  obtain ⟨d__law_joint_box, F__law_joint_box⟩ := c.def_ 28 (d := mkD "_law_joint_box" 65) rfl
  obtain ⟨d__law_apart_word, F__law_apart_word⟩ := c.def_ 29 (d := mkD "_law_apart_word" 66) rfl
  obtain ⟨d__law_entries_in, F__law_entries_in⟩ := c.def_ 30 (d := mkD "_law_entries_in" 67) rfl
  obtain ⟨d__law_drawn_entries, F__law_drawn_entries⟩ := c.def_ 31 (d := mkD "_law_drawn_entries" 68) rfl
  obtain ⟨d__law_lots_of, F__law_lots_of⟩ := c.def_ 32 (d := mkD "_law_lots_of" 69) rfl
  obtain ⟨d__law_drawn_form, F__law_drawn_form⟩ := c.def_ 33 (d := mkD "_law_drawn_form" 70) rfl
  obtain ⟨d__law_walked, F__law_walked⟩ := c.def_ 34 (d := mkD "_law_walked" 71) rfl
  obtain ⟨d__law_numbers_at, F__law_numbers_at⟩ := c.def_ 35 (d := mkD "_law_numbers_at" 72) rfl
  obtain ⟨d__law_right, F__law_right⟩ := c.def_ 36 (d := mkD "_law_right" 73) rfl
  obtain ⟨d_law, F_law⟩ := c.def_ 37 (d := mkD "law" 74) rfl
  obtain ⟨d_Tree___init__, F_Tree___init__⟩ := c.def_ 38 (d := mkM "Tree" "__init__" "Tree.__init__" 53 0 [.adr (He.dflAt ("Tree", some "__init__") 0)]) rfl
  obtain ⟨d_Tree_told_form, F_Tree_told_form⟩ := c.def_ 39 (d := mkM "Tree" "told_form" "Tree.told_form" 53 1 []) rfl
  obtain ⟨d_Tree_search, F_Tree_search⟩ := c.def_ 40 (d := mkM "Tree" "search" "Tree.search" 53 10 []) rfl
  obtain ⟨d_Tree_search_paper, F_Tree_search_paper⟩ := c.def_ 41 (d := mkM "Tree" "search_paper" "Tree.search_paper" 53 11 []) rfl
  obtain ⟨d_Kept___init__, F_Kept___init__⟩ := c.def_ 42 (d := mkM "Kept" "__init__" "Kept.__init__" 54 1 []) rfl
  obtain ⟨d_Tree_height, F_Tree_height⟩ := c.def_ 43 (d := mkW "property" "Tree" "height" "Tree.height" 53 4) rfl
  obtain ⟨d_Tree_boxes, F_Tree_boxes⟩ := c.def_ 44 (d := mkW "property" "Tree" "boxes" "Tree.boxes" 53 5) rfl
  obtain ⟨d_Tree_box, F_Tree_box⟩ := c.def_ 45 (d := mkW "property" "Tree" "box" "Tree.box" 53 6) rfl
  obtain ⟨d_Tree_told, F_Tree_told⟩ := c.def_ 46 (d := mkW "classmethod" "Tree" "told" "Tree.told" 53 2) rfl
  have m_is_integer := He.glo_ok X G0 (c.fact 0 (f := .glo "is_integer") rfl)
  have m_is_box := He.glo_ok X G0 (c.fact 1 (f := .glo "is_box") rfl)
  have m_require_box := He.glo_ok X G0 (c.fact 2 (f := .glo "require_box") rfl)
  have m_do_meet_in := He.glo_ok X G0 (c.fact 3 (f := .glo "do_meet_in") rfl)
  have m_apart_word := He.glo_ok X G0 (c.fact 4 (f := .glo "apart_word") rfl)
  have m_joint_in := He.glo_ok X G0 (c.fact 5 (f := .glo "joint_in") rfl)
  have m_are_meeting := He.glo_ok X G0 (c.fact 6 (f := .glo "are_meeting") rfl)
  have m_side_apart := He.glo_ok X G0 (c.fact 7 (f := .glo "side_apart") rfl)
  have m_is_entry := He.glo_ok X G0 (c.fact 8 (f := .glo "is_entry") rfl)
  have m_is_built := He.glo_ok X G0 (c.fact 9 (f := .glo "is_built") rfl)
  have m_is_branch := He.glo_ok X G0 (c.fact 10 (f := .glo "is_branch") rfl)
  have m_entries_in := He.glo_ok X G0 (c.fact 11 (f := .glo "entries_in") rfl)
  have m_depths_in := He.glo_ok X G0 (c.fact 12 (f := .glo "depths_in") rfl)
  have m_forms_in := He.glo_ok X G0 (c.fact 13 (f := .glo "forms_in") rfl)
  have m_branches_in := He.glo_ok X G0 (c.fact 14 (f := .glo "branches_in") rfl)
  have m_has_size := He.glo_ok X G0 (c.fact 15 (f := .glo "has_size") rfl)
  have m_has_box := He.glo_ok X G0 (c.fact 16 (f := .glo "has_box") rfl)
  have m_flaws_of := He.glo_ok X G0 (c.fact 17 (f := .glo "flaws_of") rfl)
  have m_box_at := He.glo_ok X G0 (c.fact 18 (f := .glo "box_at") rfl)
  have m_form_with := He.glo_ok X G0 (c.fact 19 (f := .glo "form_with") rfl)
  have m_require_entries := He.glo_ok X G0 (c.fact 20 (f := .glo "require_entries") rfl)
  have m_searched := He.glo_ok X G0 (c.fact 21 (f := .glo "searched") rfl)
  have m__law_bag := He.glo_ok X G0 (c.fact 22 (f := .glo "_law_bag") rfl)
  have m__law_draw := He.glo_ok X G0 (c.fact 23 (f := .glo "_law_draw") rfl)
  have m__law_one_of := He.glo_ok X G0 (c.fact 24 (f := .glo "_law_one_of") rfl)
  have m__law_shuffled := He.glo_ok X G0 (c.fact 25 (f := .glo "_law_shuffled") rfl)
  have m__law_boxes_in := He.glo_ok X G0 (c.fact 26 (f := .glo "_law_boxes_in") rfl)
  have m__law_small_box := He.glo_ok X G0 (c.fact 27 (f := .glo "_law_small_box") rfl)
  have m__law_joint_box := He.glo_ok X G0 (c.fact 28 (f := .glo "_law_joint_box") rfl)
  have m__law_apart_word := He.glo_ok X G0 (c.fact 29 (f := .glo "_law_apart_word") rfl)
  have m__law_entries_in := He.glo_ok X G0 (c.fact 30 (f := .glo "_law_entries_in") rfl)
  have m__law_drawn_entries := He.glo_ok X G0 (c.fact 31 (f := .glo "_law_drawn_entries") rfl)
  have m__law_lots_of := He.glo_ok X G0 (c.fact 32 (f := .glo "_law_lots_of") rfl)
  have m__law_drawn_form := He.glo_ok X G0 (c.fact 33 (f := .glo "_law_drawn_form") rfl)
  have m__law_walked := He.glo_ok X G0 (c.fact 34 (f := .glo "_law_walked") rfl)
  have m__law_numbers_at := He.glo_ok X G0 (c.fact 35 (f := .glo "_law_numbers_at") rfl)
  have m__law_right := He.glo_ok X G0 (c.fact 36 (f := .glo "_law_right") rfl)
  have m_law := He.glo_ok X G0 (c.fact 37 (f := .glo "law") rfl)
  have m_Tree := He.glo_ok X G0 (c.fact 38 (f := .glo "Tree") rfl)
  have m_Kept := He.glo_ok X G0 (c.fact 39 (f := .glo "Kept") rfl)
  have g : G mg := ⟨He.free_ok X G0 (c.fact 40 (f := .free "len") rfl), He.free_ok X G0 (c.fact 41 (f := .free "abs") rfl), He.free_ok X G0 (c.fact 42 (f := .free "int") rfl), He.free_ok X G0 (c.fact 43 (f := .free "str") rfl), He.free_ok X G0 (c.fact 44 (f := .free "bool") rfl), He.free_ok X G0 (c.fact 45 (f := .free "tuple") rfl), He.free_ok X G0 (c.fact 46 (f := .free "list") rfl), He.free_ok X G0 (c.fact 47 (f := .free "dict") rfl), He.free_ok X G0 (c.fact 48 (f := .free "isinstance") rfl), He.free_ok X G0 (c.fact 49 (f := .free "all") rfl), He.free_ok X G0 (c.fact 50 (f := .free "max") rfl), He.free_ok X G0 (c.fact 51 (f := .free "min") rfl), He.free_ok X G0 (c.fact 52 (f := .free "sum") rfl), He.free_ok X G0 (c.fact 53 (f := .free "sorted") rfl), He.free_ok X G0 (c.fact 54 (f := .free "range") rfl), He.free_ok X G0 (c.fact 55 (f := .free "enumerate") rfl), He.int_ok X G0 (c.fact 58 (f := .int "MAX_ENTRIES" 300) rfl), He.int_ok X G0 (c.fact 59 (f := .int "MOST" 4) rfl), He.int_ok X G0 (c.fact 60 (f := .int "LEAST" 2) rfl), He.str_ok X G0 (c.fact 61 (f := .str "LEFT" "left") rfl), He.str_ok X G0 (c.fact 62 (f := .str "RIGHT" "right") rfl), He.str_ok X G0 (c.fact 63 (f := .str "BELOW" "below") rfl), He.str_ok X G0 (c.fact 64 (f := .str "ABOVE" "above") rfl), He.str_ok X G0 (c.fact 65 (f := .str "LEAF" "leaf") rfl), He.str_ok X G0 (c.fact 66 (f := .str "NODE" "node") rfl)⟩
  have ct := He.cls_ok (c.fact 67 (f := .cls "Tree") rfl)
  have na := He.noat_ok (c.fact 70 (f := .noat "Tree" "own_form") rfl)
  have nb := He.noat_ok (c.fact 71 (f := .noat "Tree" "own_boxes") rfl)
  have mkT := He.mkr_ok (c.fact 68 (f := .mkr "Tree") rfl)
  have mkK := He.mkr_ok (c.fact 69 (f := .mkr "Kept") rfl)
  have mTF := He.meth_ok (c.fact 72 (f := .meth "Tree" "told_form") rfl)
  have mS := He.meth_ok (c.fact 73 (f := .meth "Tree" "search") rfl)
  have mP := He.meth_ok (c.fact 74 (f := .meth "Tree" "search_paper") rfl)
  have E := exB_ok cx.more mkK
  cases hfa.symm.trans m_law
  have b := FunD.bindsA (ps := ["_law_script"]) F_law fun _ _ _ _ _ _ us hl => match us, hl with | [_], _ => rfl
  refine ⟨d_law, fun s v => b s [v] rfl, fun base _ _ => ?_⟩
  have c_is_integer : Cl PySem.Challenge.pw_wherebase_k51_whole_searches_and_what_th w K mg base 1 "is_integer" (sp_is_integer K) := ⟨⟨_, _, _, ok_is_integer F_is_integer g , m_is_integer, F_is_integer.kp, F_is_integer.bindsN (ps := ["value"]) fun _ _ _ _ _ _ us hl => match us, hl with | [_], _ => rfl⟩⟩
  have c_is_box : Cl PySem.Challenge.pw_wherebase_k51_whole_searches_and_what_th w K mg base 2 "is_box" (sp_is_box K) := ⟨⟨_, _, _, ok_is_box F_is_box g c_is_integer, m_is_box, F_is_box.kp, F_is_box.bindsN (ps := ["value"]) fun _ _ _ _ _ _ us hl => match us, hl with | [_], _ => rfl⟩⟩
  have c_require_box : Cl PySem.Challenge.pw_wherebase_k51_whole_searches_and_what_th w K mg base 3 "require_box" (sp_require_box K) := ⟨⟨_, _, _, ok_require_box F_require_box g c_is_box, m_require_box, F_require_box.kp, F_require_box.bindsN (ps := ["value"]) fun _ _ _ _ _ _ us hl => match us, hl with | [_], _ => rfl⟩⟩
  have c_do_meet_in : Cl PySem.Challenge.pw_wherebase_k51_whole_searches_and_what_th w K mg base 1 "do_meet_in" (sp_do_meet_in K) := ⟨⟨_, _, _, ok_do_meet_in F_do_meet_in g , m_do_meet_in, F_do_meet_in.kp, F_do_meet_in.bindsN (ps := ["box", "other_box"]) fun _ _ _ _ _ _ us hl => match us, hl with | [_, _], _ => rfl⟩⟩
  have c_apart_word : Cl PySem.Challenge.pw_wherebase_k51_whole_searches_and_what_th w K mg base 1 "apart_word" (sp_apart_word K) := ⟨⟨_, _, _, ok_apart_word F_apart_word g , m_apart_word, F_apart_word.kp, F_apart_word.bindsN (ps := ["box", "other_box"]) fun _ _ _ _ _ _ us hl => match us, hl with | [_, _], _ => rfl⟩⟩
  have c_are_meeting : Cl PySem.Challenge.pw_wherebase_k51_whole_searches_and_what_th w K mg base 4 "are_meeting" (sp_are_meeting K) := ⟨⟨_, _, _, ok_are_meeting F_are_meeting g c_require_box c_do_meet_in, m_are_meeting, F_are_meeting.kp, F_are_meeting.bindsN (ps := ["box", "other_box"]) fun _ _ _ _ _ _ us hl => match us, hl with | [_, _], _ => rfl⟩⟩
  have c_side_apart : Cl PySem.Challenge.pw_wherebase_k51_whole_searches_and_what_th w K mg base 4 "side_apart" (sp_side_apart K) := ⟨⟨_, _, _, ok_side_apart F_side_apart g c_require_box c_apart_word, m_side_apart, F_side_apart.kp, F_side_apart.bindsN (ps := ["box", "other_box"]) fun _ _ _ _ _ _ us hl => match us, hl with | [_, _], _ => rfl⟩⟩
  have c_is_entry : Cl PySem.Challenge.pw_wherebase_k51_whole_searches_and_what_th w K mg base 3 "is_entry" (sp_is_entry K) := ⟨⟨_, _, _, ok_is_entry F_is_entry g c_is_integer c_is_box, m_is_entry, F_is_entry.kp, F_is_entry.bindsN (ps := ["value"]) fun _ _ _ _ _ _ us hl => match us, hl with | [_], _ => rfl⟩⟩
  have c_joint_in : Cl PySem.Challenge.pw_wherebase_k51_whole_searches_and_what_th w K mg base 1 "joint_in" (sp_joint_in K) := ⟨⟨_, _, _, ok_joint_in F_joint_in g , m_joint_in, F_joint_in.kp, F_joint_in.bindsN (ps := ["boxes"]) fun _ _ _ _ _ _ us hl => match us, hl with | [_], _ => rfl⟩⟩
  have c_has_size : Cl PySem.Challenge.pw_wherebase_k51_whole_searches_and_what_th w K mg base 1 "has_size" (sp_has_size K) := ⟨⟨_, _, _, ok_has_size F_has_size g , m_has_size, F_has_size.kp, F_has_size.bindsN (ps := ["form", "least"]) fun _ _ _ _ _ _ us hl => match us, hl with | [_, _], _ => rfl⟩⟩
  have c_box_at : Cl PySem.Challenge.pw_wherebase_k51_whole_searches_and_what_th w K mg base 1 "box_at" (sp_box_at K) := ⟨⟨_, _, _, ok_box_at F_box_at g , m_box_at, F_box_at.kp, F_box_at.bindsN (ps := ["form", "item"]) fun _ _ _ _ _ _ us hl => match us, hl with | [_, _], _ => rfl⟩⟩
  have c_form_with : Cl PySem.Challenge.pw_wherebase_k51_whole_searches_and_what_th w K mg base 1 "form_with" (sp_form_with K) := ⟨⟨_, _, _, ok_form_with F_form_with g , m_form_with, F_form_with.kp, F_form_with.bindsN (ps := ["entries"]) fun _ _ _ _ _ _ us hl => match us, hl with | [_], _ => rfl⟩⟩
  have c_require_entries : Cl PySem.Challenge.pw_wherebase_k51_whole_searches_and_what_th w K mg base 4 "require_entries" (sp_require_entries K) := ⟨⟨_, _, _, ok_require_entries F_require_entries g c_is_entry, m_require_entries, F_require_entries.kp, F_require_entries.bindsN (ps := ["entries"]) fun _ _ _ _ _ _ us hl => match us, hl with | [_], _ => rfl⟩⟩
  have c_searched : Cl PySem.Challenge.pw_wherebase_k51_whole_searches_and_what_th w K mg base 3 "searched" (sp_searched K (He.ga K "Tree")) := ⟨⟨_, _, _, ok_searched F_searched g c_apart_word c_box_at, m_searched, F_searched.kp, F_searched.bindsN (ps := ["tree", "windows"]) fun _ _ _ _ _ _ us hl => match us, hl with | [_, _], _ => rfl⟩⟩
  have c__law_draw : Cl PySem.Challenge.pw_wherebase_k51_whole_searches_and_what_th w K mg base 1 "_law_draw" (sp__law_draw K) := ⟨⟨_, _, _, ok__law_draw F__law_draw g , m__law_draw, F__law_draw.kp, F__law_draw.bindsN (ps := ["_law_bag_here", "_law_total"]) fun _ _ _ _ _ _ us hl => match us, hl with | [_, _], _ => rfl⟩⟩
  have c__law_bag : Cl PySem.Challenge.pw_wherebase_k51_whole_searches_and_what_th w K mg base 1 "_law_bag" (sp__law_bag K) := ⟨⟨_, _, _, ok__law_bag F__law_bag g , m__law_bag, F__law_bag.kp, F__law_bag.bindsN (ps := ["_law_script", "_law_at"]) fun _ _ _ _ _ _ us hl => match us, hl with | [_, _], _ => rfl⟩⟩
  have c__law_one_of : Cl PySem.Challenge.pw_wherebase_k51_whole_searches_and_what_th w K mg base 2 "_law_one_of" (sp__law_one_of K) := ⟨⟨_, _, _, ok__law_one_of F__law_one_of g c__law_draw, m__law_one_of, F__law_one_of.kp, F__law_one_of.bindsN (ps := ["_law_bag_here", "_law_items"]) fun _ _ _ _ _ _ us hl => match us, hl with | [_, _], _ => rfl⟩⟩
  have c__law_shuffled : Cl PySem.Challenge.pw_wherebase_k51_whole_searches_and_what_th w K mg base 2 "_law_shuffled" (sp__law_shuffled K) := ⟨⟨_, _, _, ok__law_shuffled F__law_shuffled g c__law_draw, m__law_shuffled, F__law_shuffled.kp, F__law_shuffled.bindsN (ps := ["_law_bag_here", "_law_items"]) fun _ _ _ _ _ _ us hl => match us, hl with | [_, _], _ => rfl⟩⟩
  have c__law_apart_word : Cl PySem.Challenge.pw_wherebase_k51_whole_searches_and_what_th w K mg base 1 "_law_apart_word" (sp__law_apart_word K) := ⟨⟨_, _, _, ok__law_apart_word F__law_apart_word g , m__law_apart_word, F__law_apart_word.kp, F__law_apart_word.bindsN (ps := ["_law_box", "_law_other"]) fun _ _ _ _ _ _ us hl => match us, hl with | [_, _], _ => rfl⟩⟩
  have c__law_small_box : Cl PySem.Challenge.pw_wherebase_k51_whole_searches_and_what_th w K mg base 3 "_law_small_box" (sp__law_small_box K) := ⟨⟨_, _, _, ok__law_small_box F__law_small_box g c__law_one_of c__law_draw, m__law_small_box, F__law_small_box.kp, F__law_small_box.bindsN (ps := ["_law_bag_here"]) fun _ _ _ _ _ _ us hl => match us, hl with | [_], _ => rfl⟩⟩
  have c__law_joint_box : Cl PySem.Challenge.pw_wherebase_k51_whole_searches_and_what_th w K mg base 1 "_law_joint_box" (sp__law_joint_box K) := ⟨⟨_, _, _, ok__law_joint_box F__law_joint_box g , m__law_joint_box, F__law_joint_box.kp, F__law_joint_box.bindsN (ps := ["_law_boxes"]) fun _ _ _ _ _ _ us hl => match us, hl with | [_], _ => rfl⟩⟩
  have c__law_entries_in : Cl PySem.Challenge.pw_wherebase_k51_whole_searches_and_what_th w K mg base 1 "_law_entries_in" (sp__law_entries_in K) := ⟨⟨_, _, _, ok__law_entries_in F__law_entries_in g , m__law_entries_in, F__law_entries_in.kp, F__law_entries_in.bindsN (ps := ["_law_form"]) fun _ _ _ _ _ _ us hl => match us, hl with | [_], _ => rfl⟩⟩
  have c__law_boxes_in : Cl PySem.Challenge.pw_wherebase_k51_whole_searches_and_what_th w K mg base 2 "_law_boxes_in" (sp__law_boxes_in K) := ⟨⟨_, _, _, ok__law_boxes_in F__law_boxes_in g c__law_entries_in, m__law_boxes_in, F__law_boxes_in.kp, F__law_boxes_in.bindsN (ps := ["_law_form"]) fun _ _ _ _ _ _ us hl => match us, hl with | [_], _ => rfl⟩⟩
  have c__law_drawn_entries : Cl PySem.Challenge.pw_wherebase_k51_whole_searches_and_what_th w K mg base 4 "_law_drawn_entries" (sp__law_drawn_entries K) := ⟨⟨_, _, _, ok__law_drawn_entries F__law_drawn_entries g c__law_shuffled c__law_small_box, m__law_drawn_entries, F__law_drawn_entries.kp, F__law_drawn_entries.bindsN (ps := ["_law_bag_here", "_law_size"]) fun _ _ _ _ _ _ us hl => match us, hl with | [_, _], _ => rfl⟩⟩
  have c__law_lots_of : Cl PySem.Challenge.pw_wherebase_k51_whole_searches_and_what_th w K mg base 2 "_law_lots_of" (sp__law_lots_of K) := ⟨⟨_, _, _, ok__law_lots_of F__law_lots_of g c__law_draw, m__law_lots_of, F__law_lots_of.kp, F__law_lots_of.bindsN (ps := ["_law_bag_here", "_law_items"]) fun _ _ _ _ _ _ us hl => match us, hl with | [_, _], _ => rfl⟩⟩
  have c__law_drawn_form : Cl PySem.Challenge.pw_wherebase_k51_whole_searches_and_what_th w K mg base 3 "_law_drawn_form" (sp__law_drawn_form K) := ⟨⟨_, _, _, ok__law_drawn_form F__law_drawn_form g c__law_lots_of c__law_draw c__law_joint_box c__law_boxes_in, m__law_drawn_form, F__law_drawn_form.kp, F__law_drawn_form.bindsN (ps := ["_law_bag_here", "_law_entries"]) fun _ _ _ _ _ _ us hl => match us, hl with | [_, _], _ => rfl⟩⟩
  have c__law_walked : Cl PySem.Challenge.pw_wherebase_k51_whole_searches_and_what_th w K mg base 3 "_law_walked" (sp__law_walked K) := ⟨⟨_, _, _, ok__law_walked F__law_walked g c__law_apart_word, m__law_walked, F__law_walked.kp, F__law_walked.bindsN (ps := ["_law_form", "_law_box"]) fun _ _ _ _ _ _ us hl => match us, hl with | [_, _], _ => rfl⟩⟩
  have c__law_numbers_at : Cl PySem.Challenge.pw_wherebase_k51_whole_searches_and_what_th w K mg base 2 "_law_numbers_at" (sp__law_numbers_at K) := ⟨⟨_, _, _, ok__law_numbers_at F__law_numbers_at g c__law_entries_in, m__law_numbers_at, F__law_numbers_at.kp, F__law_numbers_at.bindsN (ps := ["_law_form", "_law_place_there"]) fun _ _ _ _ _ _ us hl => match us, hl with | [_, _], _ => rfl⟩⟩
  have r_entries_in : ∀ n : Nat, Cl PySem.Challenge.pw_wherebase_k51_whole_searches_and_what_th w K mg base n "entries_in" (sp_entries_in K n) := fun n => by
    induction n with
    | zero => exact ⟨⟨_, _, _, fnOk_no fun vs H Q E h => by obtain ⟨_, _, m, h, _⟩ := h; exact absurd h (Nat.not_lt_zero m), m_entries_in, F_entries_in.kp, F_entries_in.bindsN (ps := ["form"]) fun _ _ _ _ _ _ us hl => match us, hl with | [_], _ => rfl⟩⟩
    | succ n ih => exact ⟨⟨_, _, _, ok_entries_in F_entries_in g ih, m_entries_in, F_entries_in.kp, F_entries_in.bindsN (ps := ["form"]) fun _ _ _ _ _ _ us hl => match us, hl with | [_], _ => rfl⟩⟩
  have r_depths_in : ∀ n : Nat, Cl PySem.Challenge.pw_wherebase_k51_whole_searches_and_what_th w K mg base n "depths_in" (sp_depths_in K n) := fun n => by
    induction n with
    | zero => exact ⟨⟨_, _, _, fnOk_no fun vs H Q E h => by obtain ⟨_, _, m, h, _⟩ := h; exact absurd h (Nat.not_lt_zero m), m_depths_in, F_depths_in.kp, F_depths_in.bindsN (ps := ["form"]) fun _ _ _ _ _ _ us hl => match us, hl with | [_], _ => rfl⟩⟩
    | succ n ih => exact ⟨⟨_, _, _, ok_depths_in F_depths_in g ih, m_depths_in, F_depths_in.kp, F_depths_in.bindsN (ps := ["form"]) fun _ _ _ _ _ _ us hl => match us, hl with | [_], _ => rfl⟩⟩
  have r_forms_in : ∀ n : Nat, Cl PySem.Challenge.pw_wherebase_k51_whole_searches_and_what_th w K mg base n "forms_in" (sp_forms_in K n) := fun n => by
    induction n with
    | zero => exact ⟨⟨_, _, _, fnOk_no fun vs H Q E h => by obtain ⟨_, _, m, h, _⟩ := h; exact absurd h (Nat.not_lt_zero m), m_forms_in, F_forms_in.kp, F_forms_in.bindsN (ps := ["form"]) fun _ _ _ _ _ _ us hl => match us, hl with | [_], _ => rfl⟩⟩
    | succ n ih => exact ⟨⟨_, _, _, ok_forms_in F_forms_in g ih, m_forms_in, F_forms_in.kp, F_forms_in.bindsN (ps := ["form"]) fun _ _ _ _ _ _ us hl => match us, hl with | [_], _ => rfl⟩⟩
  have r_branches_in : ∀ n : Nat, Cl PySem.Challenge.pw_wherebase_k51_whole_searches_and_what_th w K mg base n "branches_in" (sp_branches_in K n) := fun n => by
    induction n with
    | zero => exact ⟨⟨_, _, _, fnOk_no fun vs H Q E h => by obtain ⟨_, _, m, h, _⟩ := h; exact absurd h (Nat.not_lt_zero m), m_branches_in, F_branches_in.kp, F_branches_in.bindsN (ps := ["form"]) fun _ _ _ _ _ _ us hl => match us, hl with | [_], _ => rfl⟩⟩
    | succ n ih => exact ⟨⟨_, _, _, ok_branches_in F_branches_in g ih, m_branches_in, F_branches_in.kp, F_branches_in.bindsN (ps := ["form"]) fun _ _ _ _ _ _ us hl => match us, hl with | [_], _ => rfl⟩⟩
  have r_is_built : ∀ n : Nat, Cl PySem.Challenge.pw_wherebase_k51_whole_searches_and_what_th w K mg base (2 * n + 2) "is_built" (sp_is_built K n) := fun n => by
    induction n with
    | zero => exact ⟨⟨_, _, _, fnOk_no fun vs H Q E h => by obtain ⟨_, _, m, h, _⟩ := h; exact absurd h (Nat.not_lt_zero m), m_is_built, F_is_built.kp, F_is_built.bindsN (ps := ["value"]) fun _ _ _ _ _ _ us hl => match us, hl with | [_], _ => rfl⟩⟩
    | succ n ih =>
      have cb : Cl PySem.Challenge.pw_wherebase_k51_whole_searches_and_what_th w K mg base (2 * n + 3) "is_branch" (sp_is_branch K n) := ⟨⟨_, _, _, ok_is_branch F_is_branch g c_is_box ih, m_is_branch, F_is_branch.kp, F_is_branch.bindsN (ps := ["value"]) fun _ _ _ _ _ _ us hl => match us, hl with | [_], _ => rfl⟩⟩
      exact ⟨⟨_, _, _, ok_is_built F_is_built g c_is_entry cb, m_is_built, F_is_built.kp, F_is_built.bindsN (ps := ["value"]) fun _ _ _ _ _ _ us hl => match us, hl with | [_], _ => rfl⟩⟩
  have c_has_box : Cl PySem.Challenge.pw_wherebase_k51_whole_searches_and_what_th w K mg base (4 + 2) "has_box" (sp_has_box K 4) := ⟨⟨_, _, _, ok_has_box F_has_box g (r_entries_in 4) c_joint_in, m_has_box, F_has_box.kp, F_has_box.bindsN (ps := ["branch"]) fun _ _ _ _ _ _ us hl => match us, hl with | [_], _ => rfl⟩⟩
  have c_flaws_of : Cl PySem.Challenge.pw_wherebase_k51_whole_searches_and_what_th w K mg base 11 "flaws_of" (sp_flaws_of K 4) := ⟨⟨_, _, _, ok_flaws_of (n := 4) F_flaws_of g (r_is_built 4) (r_entries_in 4) c_has_box (r_branches_in 4) (r_depths_in 4) c_has_size (r_forms_in 4), m_flaws_of, F_flaws_of.kp, F_flaws_of.bindsN (ps := ["value"]) fun _ _ _ _ _ _ us hl => match us, hl with | [_], _ => rfl⟩⟩
  have FTF := ok_Tree_told_form (P := PySem.Challenge.pw_wherebase_k51_whole_searches_and_what_th) (w := w) (base := base) F_Tree_told_form g m_Kept E.scl E.slt E.isi E.kt E.ku c_require_entries c_form_with
  have bTF : Binds K d_Tree_told_form ["self", "entries"] [] := F_Tree_told_form.bindsN fun _ _ _ _ _ _ us hl => match us, hl with | [_, _], _ => rfl
  have FK := ok_Kept_init (P := PySem.Challenge.pw_wherebase_k51_whole_searches_and_what_th) (w := w) (base := base) F_Kept___init__ g m_Kept E.scl E.slt E.isi E.kt E.ku
  have bK : Binds K d_Kept___init__ ["self", "form"] [] := F_Kept___init__.bindsN fun _ _ _ _ _ _ us hl => match us, hl with | [_, _], _ => rfl
  have FI := ok_Tree_init (P := PySem.Challenge.pw_wherebase_k51_whole_searches_and_what_th) (w := w) (base := base) F_Tree___init__ g ct na nb mTF FTF bTF (r_entries_in 4)
  have bI2 : Binds K d_Tree___init__ ["self", "entries"] [] := by
    obtain ⟨ds, v, b⟩ := FunD.binds1 (ps := ["self", "entries"]) F_Tree___init__ 2 1 (List.cons_ne_nil _ _) rfl fun T kV doc pm an cdv ct us its hl hl2 => match us, hl, its, hl2 with | [_, _], _, [_], _ => ⟨_, rfl, rfl⟩
    cases v
    exact b
  obtain ⟨ds1, v1, b1⟩ := FunD.binds1 (ps := ["self", "entries"]) F_Tree___init__ 1 0 (List.cons_ne_nil _ _) rfl fun T kV doc pm an cdv ct us its hl hl2 => match us, hl, its, hl2 with | [_], _, [_], _ => ⟨_, rfl, rfl⟩
  have FTo := ok_Tree_told (P := PySem.Challenge.pw_wherebase_k51_whole_searches_and_what_th) (w := w) (base := base) F_Tree_told g m_Kept mkT FI bI2 mkK FK bK c_flaws_of
  have bTo : Binds K d_Tree_told ["cls", "form"] [] := F_Tree_told.bindsN fun _ _ _ _ _ _ us hl => match us, hl with | [_, _], _ => rfl
  have FS := ok_Tree_search (P := PySem.Challenge.pw_wherebase_k51_whole_searches_and_what_th) (w := w) (base := base) F_Tree_search g ct na nb c_require_box c_searched
  have bS : Binds K d_Tree_search ["self", "box"] [] := F_Tree_search.bindsN fun _ _ _ _ _ _ us hl => match us, hl with | [_, _], _ => rfl
  have FP := ok_Tree_search_paper (P := PySem.Challenge.pw_wherebase_k51_whole_searches_and_what_th) (w := w) (base := base) F_Tree_search_paper g ct na nb c_require_box c_searched
  have bP : Binds K d_Tree_search_paper ["self", "box"] [] := F_Tree_search_paper.bindsN fun _ _ _ _ _ _ us hl => match us, hl with | [_, _], _ => rfl
  have Fh := ok_Tree_height (P := PySem.Challenge.pw_wherebase_k51_whole_searches_and_what_th) (w := w) (base := base) F_Tree_height g ct na nb (r_depths_in 4)
  have Fbs := ok_Tree_boxes (P := PySem.Challenge.pw_wherebase_k51_whole_searches_and_what_th) (w := w) (base := base) F_Tree_boxes g ct na nb
  have Fbx := ok_Tree_box (P := PySem.Challenge.pw_wherebase_k51_whole_searches_and_what_th) (w := w) (base := base) F_Tree_box g ct na nb
  have bh : Binds K d_Tree_height ["self"] [] := F_Tree_height.bindsN fun _ _ _ _ _ _ us hl => match us, hl with | [_], _ => rfl
  have bbs : Binds K d_Tree_boxes ["self"] [] := F_Tree_boxes.bindsN fun _ _ _ _ _ _ us hl => match us, hl with | [_], _ => rfl
  have bbx : Binds K d_Tree_box ["self"] [] := F_Tree_box.bindsN fun _ _ _ _ _ _ us hl => match us, hl with | [_], _ => rfl
  have c__law_right : Cl PySem.Challenge.pw_wherebase_k51_whole_searches_and_what_th w K mg base 13 "_law_right" (sp__law_right K) := ⟨⟨_, _, _, ok__law_right F__law_right g m_Tree E.cr E.cm (fnR_of FTo bTo) ct mS FS bS mP FP bP c__law_draw c__law_drawn_entries c__law_shuffled c__law_drawn_form c__law_small_box c__law_apart_word c__law_walked c__law_numbers_at c_are_meeting c_side_apart, m__law_right, F__law_right.kp, F__law_right.bindsN (ps := ["_law_bag_here"]) fun _ _ _ _ _ _ us hl => match us, hl with | [_], _ => rfl⟩⟩
  exact ok_law F_law g m_Tree ct mS FS bS mP FP bP mkT FI v1 b1 E.df E.ph Fh bh E.pbs Fbs bbs E.pbx Fbx bbx c__law_bag c__law_right
end Wb
open PySem PySem.W PySem.Calls PyProof.Rows
theorem PySem.Challenge.cw_wherebase_k51_whole_searches_and_what_th_holds : PySem.Challenge.rw_wherebase_k51_whole_searches_and_what_th.Holds := by
  w_on; o_law
  refine HandSHeadRun.head_any (r := OpenLaw.row PySem.Challenge.rw_wherebase_k51_whole_searches_and_what_th) (q := view (OpenLaw.row PySem.Challenge.rw_wherebase_k51_whole_searches_and_what_th).prog [74]) (H := Wb.hk) (ob := Wb.ob) (M := 20000) (loose := Wb.loose) (d := HandSHeadRun.topDef (OpenLaw.row PySem.Challenge.rw_wherebase_k51_whole_searches_and_what_th).prog 74) (kwd := []) Wb.ob_eq
    (by kernel_rfl) (fun s => by kernel_rfl) Wb.run (by kernel_rfl) (by kernel_rfl) (by kernel_rfl) (by rfl) (by first | assumption | decide +kernel) (by decide +kernel) ⟨rfl, rfl, rfl, rfl, rfl, by decide +kernel⟩ ?hw ?hc
  case hw => w_witness2
  case hc =>
    refine L2.walk_ofE (l := PySem.Challenge.rw_wherebase_k51_whole_searches_and_what_th) (n := 63) (k := 14) (x := "_law_script") (CX := L2.CX0) rfl (by decide) (by kernel_rfl) ⟨rfl, by decide, by decide⟩ ?F (fun _ _ _ _ z => z)
    intro w mg fa h Y G hmg0
    obtain ⟨K, KX, c⟩ := Y
    have hmg : mg ("law" : PySem.Str) = some (.ref fa) := by
      have e : (HandSHeadRun.topDef (OpenLaw.row PySem.Challenge.rw_wherebase_k51_whole_searches_and_what_th).prog 74).name = ("law" : PySem.Str) := by kernel_rfl
      rw [← e]
      exact hmg0
    obtain ⟨fd, hb, hF⟩ := Wb.facts (w := w) KX G hmg c
    exact ⟨K, fd, Wb.sp_law K, KX, hb, fun H a ns hl _ hS => ⟨.ref a, rfl, a, ns, rfl, hS, fun _ => rfl⟩, hF⟩

