import PyProof.Rows.All
import Wide.All
import OpenK.AllK
import Wide.FinOn
import Lean
import HandS.ForMost
import HandS.Defaults
import HandS.Head0
import HandS.Head1
import HandS.Head2
import HandS.Head3
import HandS.HeadEnd
import HandS.HeadHook1
import HandS.HeadHook2
import HandS.HeadHook3
import HandS.HeadHook4
import HandS.HeadNt
import HandS.ExcField
import HandS.ExcIs
import KE.KIsAll
import KE.KStateDown
import HandS.Words
import KE.KExcSuper
import KE.KTryMore
import KE.KExcInit
import PySem.Challenge.RW_wherebase_k52_whole_pairs_of_two_trees
import HandS.Exc
import HandS.ExcOwn
import HandS.TryOnly
import HandS.WordsExc
import HandS.Star
import HandS.IsInst
import HandS.Gcd
import HandS.WideBits
import HandS.Wide
import HandS.Style
import HandS.TupLe
import HandS.TupAny
import HandS.Conv
import HandS.Flow
import HandS.Evl
import HandS.DictComp
import HandS.WordsDict
import PyProof.Draws
import KE.GoesMore
import KE.GoesEnum
import HandS.Iter
import HandS.Walk
import HandS.SortRule
import HandS.NamedTupSort
import KE.SortKeyHeap
import HandS.Lambda
import HandS.SortKw
import HandS.ClsMeth
import HandS.Property
import HandS.SlotsVar
import HandS.OwnEq
import HandS.SlotsOwn
import HandS.More
import HandS.EndTab
import HandS.HeadWalk
set_option Elab.async false
set_option linter.all false
set_option maxRecDepth 100000
set_option maxHeartbeats 4000000
namespace Wb
open PySem PySem.Spec PyProof.Rows L2
def top (i : Nat) : Stmt := PySem.Challenge.pw_wherebase_k52_whole_pairs_of_two_trees.main.body.getD i (.Pass ⟨0, 0, 0, 0⟩)
def mkA (at_ : PySem.W.Frag → Addr) (x q : Str) (st : Stmt) (dv : List He.Dv) : He5.DefA := ⟨at_, x, q, defArgs st, defBody st, defScope st, dv, []⟩
def mkD (x : Str) (i : Nat) : He5.DefA := mkA (fun K => He.ga K x) x x (top i) []
def mkM (c x q : Str) (i j : Nat) (dv : List He.Dv) : He5.DefA := mkA (fun K => He.ma K (He.ga K c) x) x q (inClass (top i) j) dv
def mkW (w : String) (c x q : Str) (i j : Nat) : He5.DefA := mkA (fun K => He5.wf K (He.ga K c) w x) x q (inClass (top i) j) []
def fn0 : List He5.DefA := [mkD "is_integer" 9, mkD "is_box" 15, mkD "require_box" 16, mkD "do_meet_in" 17, mkD "joint_in" 19, mkD "wider" 20, mkD "is_entry" 27, mkD "is_built" 28, mkD "is_branch" 29, mkD "entries_in" 30, mkD "depths_in" 31, mkD "forms_in" 32, mkD "branches_in" 33, mkD "has_size" 34, mkD "has_box" 35, mkD "flaws_of" 36, mkD "branch_of" 37, mkD "box_at" 38, mkD "centre_of" 39, mkD "halves" 40, mkD "grows_by" 41, mkD "put_into" 42, mkD "fitting" 43, mkD "with_entry" 44, mkD "form_with" 45]
def fn1 : List He5.DefA := [mkD "require_entries" 46, mkD "items_of" 48, mkD "pairs_walk" 49, mkD "is_any_met" 50, mkD "require_tree" 54, mkD "_law_bag" 57, mkD "_law_draw" 58, mkD "_law_one_of" 59, mkD "_law_shuffled" 60, mkD "_law_boxes_in" 61, mkD "_law_small_box" 62, mkD "_law_joint_box" 63, mkD "_law_apart_word" 64, mkD "_law_entries_in" 65, mkD "_law_drawn_entries" 66, mkD "_law_lots_of" 67, mkD "_law_drawn_form" 68, mkD "_law_box_with" 69, mkD "_law_next_two" 70, mkD "_law_compared" 71, mkD "_law_right" 72, mkD "law" 73, mkM "Tree" "__init__" "Tree.__init__" 51 0 [.adr (He.dflAt ("Tree", some "__init__") 0)], mkM "Tree" "told_form" "Tree.told_form" 51 1 [], mkM "Tree" "pairs" "Tree.pairs" 51 12 []]
def fn2 : List He5.DefA := [mkM "Tree" "pairs_looked" "Tree.pairs_looked" 51 13 [], mkM "Kept" "__init__" "Kept.__init__" 52 1 [], mkW "classmethod" "Tree" "told" "Tree.told" 51 2]
def fn : List He5.DefA := fn0 ++ fn1 ++ fn2
def fa0 : List He.Fa := [.glo "is_integer", .glo "is_box", .glo "require_box", .glo "do_meet_in", .glo "joint_in", .glo "wider", .glo "is_entry", .glo "is_built", .glo "is_branch", .glo "entries_in", .glo "depths_in", .glo "forms_in", .glo "branches_in", .glo "has_size", .glo "has_box", .glo "flaws_of", .glo "branch_of", .glo "box_at", .glo "centre_of", .glo "halves", .glo "grows_by", .glo "put_into", .glo "fitting", .glo "with_entry", .glo "form_with"]
def fa1 : List He.Fa := [.glo "require_entries", .glo "items_of", .glo "pairs_walk", .glo "is_any_met", .glo "require_tree", .glo "_law_bag", .glo "_law_draw", .glo "_law_one_of", .glo "_law_shuffled", .glo "_law_boxes_in", .glo "_law_small_box", .glo "_law_joint_box", .glo "_law_apart_word", .glo "_law_entries_in", .glo "_law_drawn_entries", .glo "_law_lots_of", .glo "_law_drawn_form", .glo "_law_box_with", .glo "_law_next_two", .glo "_law_compared", .glo "_law_right", .glo "law", .glo "Tree", .glo "Kept", .free "len"]
def fa2 : List He.Fa := [.free "abs", .free "int", .free "str", .free "bool", .free "tuple", .free "list", .free "dict", .free "isinstance", .free "all", .free "any", .free "max", .free "min", .free "sum", .free "sorted", .free "range", .free "classmethod", .int "MAX_ENTRIES" 300, .int "MOST" 4, .int "LEAST" 2, .str "LEAF" "leaf", .str "NODE" "node", .cls "Tree", .mkr "Tree", .mkr "Kept", .noat "Tree" "own_form"]
def fa3 : List He.Fa := [.noat "Tree" "own_boxes", .meth "Tree" "told_form", .meth "Tree" "pairs", .meth "Tree" "pairs_looked"]
def fa : List He.Fa := fa0 ++ fa1 ++ fa2 ++ fa3
def lo0 : List PySem.Str := ["WhereError", "InvalidBox", "InvalidTree", "InvalidOperation", "InvalidNumber", "TooMany", "Tree", "Kept", "_wall", "is_integer", "is_box", "require_box", "do_meet_in", "apart_word", "joint_in", "wider", "is_entry", "is_built", "is_branch", "entries_in", "depths_in", "forms_in", "branches_in", "has_size", "has_box"]
def lo1 : List PySem.Str := ["flaws_of", "branch_of", "box_at", "centre_of", "halves", "grows_by", "put_into", "fitting", "with_entry", "form_with", "require_entries", "searched", "items_of", "pairs_walk", "is_any_met", "tree_with", "require_tree", "require_number", "_law_bag", "_law_draw", "_law_one_of", "_law_shuffled", "_law_boxes_in", "_law_small_box", "_law_joint_box"]
def lo2 : List PySem.Str := ["_law_apart_word", "_law_entries_in", "_law_drawn_entries", "_law_lots_of", "_law_drawn_form", "_law_box_with", "_law_next_two", "_law_compared", "_law_right", "LEFT", "RIGHT", "BELOW", "ABOVE", "MAX_ENTRIES", "MOST", "LEAST", "LEAF", "NODE"]
def loose : List PySem.Str := lo0 ++ lo1 ++ lo2
def propB (K : PySem.W.Frag) (C : Addr) (f : Str) : Bool := He.eqO (PySem.W.findIn K (.ref C) f) (some (some (.ref (He.ma K C f)))) && (He.eqO (PySem.W.specialIn K (.ref (He.ma K C f)) "__get__") (some (some (.builtin "property.__get__"))) && (decide (PySem.W.takesIn K (.ref (He.ma K C f)) = some true) && (match PySem.W.recIn K (He.ma K C f) "property" with
  | some (.ref _ :: _) => true
  | _ => false)))
def slotB (K : PySem.W.Frag) (C : Addr) (f : Str) : Bool := He.eqO (PySem.W.findIn K (.ref C) f) (some (some (.ref (He.ma K C f)))) && (He.eqO (PySem.W.specialIn K (.ref (He.ma K C f)) "__get__") (some (some (.builtin "member_descriptor.__get__"))) && (decide (PySem.W.takesIn K (.ref (He.ma K C f)) = some true) && (decide (PySem.W.typeIn K (.ref (He.ma K C f)) = some (.type "member_descriptor")) && decide (PySem.W.slotIn K (He.ma K C f) C = some 0))))
def sclB (K : PySem.W.Frag) (C : Addr) : Bool := PySem.W.plainGet K C Str.empty && (PySem.W.isClsIn K C && (PySem.W.plainOver K C && He.eqO (PySem.W.findIn K (.ref C) "__setattr__") (some (some (.builtin "object.__setattr__")))))
def dfT (K : PySem.W.Frag) : Addr := He.dflAt ("Tree", some "__init__") 0 K
def exK (K : PySem.W.Frag) : Bool := sclB K (He.ga K "Kept") && slotB K (He.ga K "Kept") "own_list" && PySem.W.readsIn K (He.ga K "Tree") (.type "type") && decide (PySem.W.kitOne K (.type "tuple") (.ref (He.ga K "Kept")) = some false) && decide (PySem.W.kitOne K (.ref (He.ga K "Kept")) (.ref (He.ga K "Kept")) = some true) && decide (PySem.W.typeIn K (.ref (He.ga K "Tree")) = some (.type "type")) && decide (PySem.W.typeIn K (.ref (He.ga K "Kept")) = some (.type "type")) && He.eqO (PySem.W.findIn K (.ref (He.ga K "Kept")) "__class__") (some (some (.builtin "object.__class__"))) && (match K.lookup (dfT K) with
  | some ⟨.type c, none, .seq its _, _⟩ => decide (c = "tuple") && decide (its.size = 0)
  | _ => false)
def exT (K : PySem.W.Frag) : Bool := He.eqO (PySem.W.findIn K (.ref (He.ga K "Tree")) "__class__") (some (some (.builtin "object.__class__"))) && decide (PySem.W.kitOne K (.ref (He.ga K "Tree")) (.ref (He.ga K "Tree")) = some true)
def exB (K : PySem.W.Frag) : Bool := exK K && exT K && (He5.wrapB K (He.ga K "Tree") "classmethod" "classmethod.__get__" "told" && PySem.W.fnIn K (He5.wf K (He.ga K "Tree") "classmethod" "told"))
def tf : List He.Defn := [("halves", none)]
abbrev R : PySem.W.OpenRow := PySem.W.OpenLaw.row PySem.Challenge.rw_wherebase_k52_whole_pairs_of_two_trees
/-! what the names reach, each address once: seen ones are bits of a number -/
def addX : List Addr → Nat → List Addr → List Addr × Nat
  | [], seen, out => (out, seen)
  | r :: rs, seen, out => match Nat.beq (Nat.land (Nat.shiftRight seen r) 1) 1 with
    | true => addX rs seen out
    | false => HandSHeadRun.frNat (Nat.lor seen (Nat.shiftLeft 1 r)) fun seen => addX rs seen (r :: out)
def levX (g : Addr → Option Obj) : List Addr → Nat → List Addr → List Addr × Nat
  | [], seen, out => (out, seen)
  | a :: as, seen, out => match g a with
    | some o => (match addX (He.refsD o) seen out with
      | (out, seen) => levX g as seen out)
    | none => levX g as seen out
def walkX (g : Addr → Option Obj) : Nat → List Addr → Nat → List Addr → List Addr
  | 0, _, _, acc => acc
  | n + 1, fr, seen, acc => match levX g fr seen [] with
    | (nf, seen) => walkX g n nf seen (acc ++ nf)
def asX (g : Addr → Option Obj) (n : Nat) : List Addr := walkX g n [mainGlobals] (Nat.shiftLeft 1 mainGlobals) [mainGlobals] ++ [cStatics]
abbrev AlY : Type := He.AlD × Bool
structure SaysY (h : Heap) (K : PySem.W.Frag) : Prop where
  d : He5.SaysA fa fn K
  more : exB K = true
  hd : ∀ p ∈ tf, PySem.W.codeHdIn K (He.cT K p).1 (He.cT K p).2 = true
  out : ∀ p ∈ tf, K.lookup (He.cT K p).2 = none
  empty : ∀ p ∈ tf, h.get? (He.cT K p).2 = some { cls := .none, data := .fields #[] }
def obsK (g : Addr → Option Obj) (K : PySem.W.Frag) : AlY := (He5.obsA fa fn K, exB K && He.tabsB g tf K)
def obsY (g : Addr → Option Obj) : AlY := obsK g (He.frT g (asX g 6))
def valY : AlY := (He5.valA fn, true)
theorem saysY_of {h : Heap} {as : List Addr} (e : obsK h.get? (He.frT h.get? as) = valY) : SaysY h (He.frT h.get? as) := by
  have e1 : He5.obsA fa fn (He.frT h.get? as) = He5.valA fn := congrArg (fun z : AlY => z.1) e
  have e2 : (exB (He.frT h.get? as) && He.tabsB h.get? tf (He.frT h.get? as)) = true := congrArg (fun z : AlY => z.2) e
  obtain ⟨h1, h2⟩ := Bool.and_eq_true_iff.mp e2
  have key : ∀ p ∈ tf, PySem.W.codeHdIn (He.frT h.get? as) (He.cT (He.frT h.get? as) p).1 (He.cT (He.frT h.get? as) p).2 = true ∧ ∃ o, h.get? (He.cT (He.frT h.get? as) p).2 = some o ∧ He.emptyTab o = true := fun p hp => by
    obtain ⟨h3, h4⟩ := Bool.and_eq_true_iff.mp (List.all_eq_true.mp h2 p hp)
    refine ⟨h3, ?_⟩
    cases q : h.get? (He.cT (He.frT h.get? as) p).2 with
    | none =>
      rw [q] at h4
      cases h4
    | some o =>
      rw [q] at h4
      exact ⟨o, rfl, h4⟩
  exact ⟨e1, h1, fun p hp => (key p hp).1, fun p hp => by
    obtain ⟨_, o, q, z⟩ := key p hp
    exact He.frT_none q z, fun p hp => by
    obtain ⟨_, o, q, z⟩ := key p hp
    rw [q, He.emptyTab_eq z]⟩
abbrev hk : PySem.W.Hook where
  α := AlY
  obs := fun s => obsY s.heap.get?
  val := fun _ => valY
  says := fun _ h => ∃ K : PySem.W.Frag, K.In h ∧ SaysY h K
  of := fun _ _ e => ⟨_, He.frT_in, saysY_of e⟩
  keeps := fun _ _ _ ⟨K, hK, c⟩ k => ⟨K, PySem.W.Frag.In.keeps hK k, ⟨c.d, c.more, c.hd, c.out, fun p hp => k _ _ (c.empty p hp)⟩⟩
def ob (s : PySem.W.SharedT) : AlY := obsY (HandSHeadRun.getT s)
theorem ob_eq (s : PySem.W.SharedT) : ob s = hk.obs s.abs := by
  have e : HandSHeadRun.getT s = s.abs.heap.get? := funext (HandSHeadRun.getT_eq s)
  unfold ob
  rw [e]
section
open PySem.W PySem.Calls HandSHeadRun
/-- the run, looked at in two checks: each needs less memory than one for all -/
theorem runA (w : World) (os : OsState) : (endF (stepQ (denQ tabQ) R.prog w) 20000 R.prog w os).map (fun s => (looksF R.prog (boot_heap w.params) s.abs, seenQ (view R.prog [73]) loose (importedModules R.prog.main.body) (fun s => xlAt (view R.prog [73]) [] s && recOk R.toRowW.records s) s.abs)) = some (true, openGood (view R.prog [73]) loose) := by
  kernel_rfl
theorem runB (w : World) (os : OsState) : (endF (stepQ (denQ tabQ) R.prog w) 20000 R.prog w os).map ob = some (hk.val w) := by
  kernel_rfl
theorem run (w : World) : RunEq R (view R.prog [73]) hk ob 20000 loose w := by
  intro os
  obtain ⟨s, hs, ha⟩ := Option.map_eq_some_iff.mp (runA w os)
  have hb := runB w os
  rw [hs] at hb
  rw [hs]
  have hb : ob s = hk.val w := Option.some.inj hb
  obtain ⟨h1, h2⟩ := Prod.mk.inj ha
  exact congrArg some (Prod.ext h1 (Prod.ext h2 hb))
end
end Wb

namespace Wb
open PySem PySem.Spec PyProof.Rows L2
open Evl (Ex Ex.refl Ex.trans Ex.new)

/-! ### heaps and data -/
theorem ex_upd {H : Hp} {p : Addr} {o : HO} (h : H p = none) : Ex H (upd H p o) := Evl.Ex.new h
mutual
theorem dpMono {K : PySem.W.Frag} {H H' : Hp} (e : Ex H H') : ∀ {d : PyData} {v : V}, Dp K H v d → Dp K H' v d
  | .none, _, h => by cases h; exact .non
  | .bool _, _, h => by cases h; exact .bl _
  | .int _, _, h => by cases h; exact .int _
  | .str _, _, h => by cases h; exact .str _
  | .list ds, _, h => by
    cases h with
    | lst hs ha => exact .lst (Evl.ex_l e hs) (dpMonoA e ha)
  | .tuple ds, _, h => by
    cases h with
    | tup hs ha => exact .tup (Evl.ex_t e hs) (dpMonoA e ha)
  | .dict _, _, h => by cases h
theorem dpMonoA {K : PySem.W.Frag} {H H' : Hp} (e : Ex H H') : ∀ {ds : List PyData} {vs : List V}, DpAll K H vs ds → DpAll K H' vs ds
  | [], _, h => by cases h; exact .nil
  | d :: ds, _, h => by
    cases h with
    | cons h1 h2 => exact .cons (dpMono e h1) (dpMonoA e h2)
end
section
variable {K : PySem.W.Frag} {H H' : Hp} {v : V} {vs : List V} {d : PyData} {ds : List PyData}
theorem dpInt {i : Int} (h : Dp K H v (.int i)) : v = .int i := by cases h; rfl
theorem dpBl {b : Bool} (h : Dp K H v (.bool b)) : v = .bl b := by cases h; rfl
theorem dpStr {s : Str} (h : Dp K H v (.str s)) : v = .str s := by cases h; rfl
theorem dpNon (h : Dp K H v .none) : v = .non := by cases h; rfl
theorem dpTup (h : Dp K H v (.tuple ds)) : ∃ a vs, v = .ref a ∧ SqT K H a vs ∧ DpAll K H vs ds := by
  cases h with
  | tup hs ha => exact ⟨_, _, rfl, hs, ha⟩
theorem dpLst (h : Dp K H v (.list ds)) : ∃ a vs, v = .ref a ∧ SqL K H a vs ∧ DpAll K H vs ds := by
  cases h with
  | lst hs ha => exact ⟨_, _, rfl, hs, ha⟩
theorem dpLen : ∀ {ds : List PyData} {vs : List V}, DpAll K H vs ds → vs.length = ds.length
  | [], _, h => by cases h; rfl
  | d :: ds, _, h => by
    cases h with
    | cons h1 h2 => rw [List.length_cons, List.length_cons, dpLen h2]
theorem dpGet : ∀ {ds : List PyData} {vs : List V} {i : Nat} {d : PyData}, DpAll K H vs ds → ds[i]? = some d → ∃ v, vs[i]? = some v ∧ Dp K H v d
  | [], _, _, _, _, e => by simp at e
  | d :: ds, _, 0, _, h, e => by
    cases h with
    | cons h1 h2 =>
      have e2 : d = _ := Option.some.inj e
      subst e2
      exact ⟨_, rfl, h1⟩
  | d :: ds, _, i + 1, _, h, e => by
    cases h with
    | cons h1 h2 =>
      obtain ⟨v, q1, q2⟩ := dpGet (i := i) h2 (by simpa using e)
      exact ⟨v, by simpa using q1, q2⟩
theorem dpAt {i : Int} {d : PyData} (h : DpAll K H vs ds) (e : atI ds i = some d) : ∃ v, atI vs i = some v ∧ Dp K H v d := by
  unfold atI at e ⊢
  rw [dpLen h]
  cases q : ixN ds.length i with
  | none =>
    rw [q] at e
    cases e
  | some j =>
    rw [q] at e
    exact dpGet h e
def tyD : PyData → String
  | .none => "NoneType"
  | .bool _ => "bool"
  | .int _ => "int"
  | .str _ => "str"
  | .list _ => "list"
  | .tuple _ => "tuple"
  | .dict _ => "dict"
theorem dpTy (h : Dp K H v d) : TyX K H v (.type (tyD d)) := by
  cases h with
  | non => exact .base .non
  | bl b => exact .base (.bl b)
  | int i => exact .base (.int i)
  | str x => exact .base (.str x)
  | lst hs ha =>
    rcases hs with (h1 | ⟨o, h1⟩) | ⟨o, its, n, lk, hc, _⟩
    · exact .base (.lst h1)
    · exact .base (.frz h1)
    · exact .kList lk hc
  | tup hs ha =>
    rcases hs with (h1 | ⟨o, h1⟩) | ⟨o, its, n, lk, hc, _⟩
    · exact .base (.tup h1)
    · exact .fTuple h1
    · exact .kTuple lk hc
end
/-! ### sizes of ints -/
def Sz (n : Nat) (i : Int) : Prop := i.natAbs < 2 ^ n
theorem sz_mul {a b : Nat} {i j : Int} (ha : Sz a i) (hb : Sz b j) : Sz (a + b) (i * j) := by
  unfold Sz at *
  rw [Int.natAbs_mul, Nat.pow_add]
  exact Nat.mul_lt_mul'' ha hb
theorem sz_mono {a b : Nat} {i : Int} (h : Sz a i) (hab : a ≤ b) : Sz b i := Nat.lt_of_lt_of_le h (Nat.pow_le_pow_right (by decide) hab)
theorem sz_add {a b : Nat} {i j : Int} (ha : Sz a i) (hb : Sz b j) : Sz (a + b + 1) (i + j) := by
  have h1 := sz_mono ha (Nat.le_add_right a b)
  have h2 := sz_mono hb (Nat.le_add_left b a)
  unfold Sz at *
  rw [Nat.pow_succ]
  have := Int.natAbs_add_le i j
  omega
theorem sz_neg {a : Nat} {i : Int} (ha : Sz a i) : Sz a (-i) := by
  unfold Sz at *
  rw [Int.natAbs_neg]
  exact ha
theorem sz_sub {a b : Nat} {i j : Int} (ha : Sz a i) (hb : Sz b j) : Sz (a + b + 1) (i - j) := by
  rw [Int.sub_eq_add_neg]
  exact sz_add ha (sz_neg hb)
theorem sz_le {a : Nat} {i j : Int} (ha : Sz a j) (h : i.natAbs ≤ j.natAbs) : Sz a i := Nat.lt_of_le_of_lt h ha
theorem sz_div {a : Nat} {i j : Int} (ha : Sz a i) : Sz a (i / j) := sz_le ha (Int.natAbs_ediv_le_natAbs i j)
theorem fdiv_abs (i j : Int) : (i.fdiv j).natAbs ≤ i.natAbs := by
  rcases Int.lt_trichotomy j 0 with h | h | h
  · have e : i.fdiv j = (-i) / (-j) := by
      rw [← Int.fdiv_eq_ediv_of_nonneg (-i) (by omega), Int.neg_fdiv_neg]
    rw [e, ← Int.natAbs_neg i]
    exact Int.natAbs_ediv_le_natAbs _ _
  · subst h
    rw [Int.fdiv_zero]
    omega
  · rw [Int.fdiv_eq_ediv_of_nonneg i (by omega)]
    exact Int.natAbs_ediv_le_natAbs _ _
theorem sz_fdiv {a : Nat} {i j : Int} (ha : Sz a i) : Sz a (i.fdiv j) := sz_le ha (fdiv_abs i j)
theorem mulx {a b : Nat} {i j : Int} (ha : Sz a i) (hb : Sz b j) (h : a + b ≤ 134217728) : CMulX i j := mulx_ok ha hb h

theorem sz_lit {i : Int} (h : i.natAbs < 18446744073709551616) : Sz 64 i := h
theorem ex_at {H H' : Hp} {a : Addr} {o : HO} (e : Ex H H') (h : H a = some o) : H' a = some o := e a o h
def gd (a b : Int) : Int := ((Nat.gcd a.natAbs b.natAbs : Nat) : Int)
/-! ### own operators -/
section
variable {X : Cx}
def CPowX (i j : Int) : Prop := 0 ≤ j ∧ (Builtin.Int.intBits i : Int) * j ≤ 2 ^ 27
theorem op_powX : OpR X (binaryOp .Pow) (rI CPowX fun i j => .int (i ^ j.toNat)) := opI fun _ _ _ _ _ _ _ hc q => pow_int hc.1 hc.2 q
def CDivX (_ j : Int) : Prop := j ≠ 0 ∧ j.natAbs.log2 < 9000
theorem op_fdivX : OpR X (binaryOp .FloorDiv) (rI CDivX fun i j => .int (i.fdiv j)) := opI fun i j _ _ _ _ _ hc q =>
  floordiv_int hc.1 q (.inl (PyProof.noPylong_of_log2 hc.2))
/-- a def that may be called by its name -/
structure Cl (P : Program) (w : World) (K : PySem.W.Frag) (mg : Str → Option Value) (base : Heap) (k : Nat) (x : Str) (sp : Sp) : Prop where
  ex : ∃ (f : Addr) (fd : FuncData) (ps : List Str), FnOk P w K mg base CX0 k f fd ps sp ∧ mg x = some (.ref f) ∧ PySem.W.keepIn K (.ref f) = true ∧ Binds K fd ps []
def tCl (sp : Sp) (t : TA) : TE := fun σ H Q => t σ H fun vs H1 => sp vs H1 Q E0
theorem pc {k j : Nat} {x : Str} {sp : Sp} {p pos : Pos} {e : Expr} {es : List Expr} {t : TA} (c : Cl X.prog X.w X.K X.mg X.base k x sp) (hr : Room j X.A) (hk : k ≤ j) (hg : Gl X x) (ha : PA X (e :: es) t)
    (hdb : (x == ("__debug__" : Str)) = false := by decide) (he : starEach (e :: es) X.env = (false, eval e X.env) :: starEach es X.env := by rfl) (hpl : (backTo pos (starEach es X.env)).any (·.1) = false := by rfl) :
    PE X (.Call (.Name x p) (e :: es) [] pos) (tCl sp t) := by
  obtain ⟨f, fd, ps, F, hm, kp, b⟩ := c.ex
  have h := pe_call (p := p) F (hr.mono hk) hg hm kp b (.nil : Vals [] []) pass0 ha hdb he hpl
  have e1 : tCall sp [] E0 t = tCl sp t := by
    funext σ H Q
    show (t σ H fun vs H1 => sp (vs ++ []) H1 Q E0) = t σ H fun vs H1 => sp vs H1 Q E0
    congr 1
    funext vs H1
    rw [List.append_nil]
  rw [← e1]
  exact h
end
/-- a def with a star parameter -/
structure ClR (P : Program) (w : World) (K : PySem.W.Frag) (mg : Str → Option Value) (base : Heap) (k : Nat) (x : Str) (sp : Sp) : Prop where
  ex : ∃ (f : Addr), FnR P w K mg base CX0 k f sp ∧ mg x = some (.ref f) ∧ PySem.W.keepIn K (.ref f) = true
section
variable {X : Cx}
theorem pcR {k j : Nat} {x : Str} {sp : Sp} {p pos : Pos} {e : Expr} {es : List Expr} {t : TA} (c : ClR X.prog X.w X.K X.mg X.base k x sp) (hr : Room j X.A) (hk : k ≤ j) (hg : Gl X x) (ha : PA X (e :: es) t)
    (hdb : (x == ("__debug__" : Str)) = false := by decide) (he : starEach (e :: es) X.env = (false, eval e X.env) :: starEach es X.env := by rfl) (hpl : (backTo pos (starEach es X.env)).any (·.1) = false := by rfl) :
    PE X (.Call (.Name x p) (e :: es) [] pos) (tCl sp t) := by
  obtain ⟨f, F, hm, kp⟩ := c.ex
  refine ⟨fun pins s σ H Q I h => ?_⟩
  refine wpAny_Call_Name_kw (ld_glob I hg hm ?_ hdb)
  refine PySem.W.callWith_K (h₀ := X.base) I.ok.mod.kin kp (thn (ha.run pos pins s σ H _ I h) fun us s1 ⟨vs, H1, I1, r, q⟩ => ⟨I1.kIn, ?_⟩) he hpl
  exact wpAny_call (run_fnR F (hr.mono hk) pass0 I1 r q)
end
theorem FnR.weak {P : Program} {w : World} {K : PySem.W.Frag} {mg : Str → Option Value} {base : Heap} {CX : CXT} {k : Nat} {f : Addr} {sp sp' : Sp} (F : FnR P w K mg base CX k f sp) (h : ∀ vs H Q E, sp' vs H Q E → sp vs H Q E) : FnR P w K mg base CX k f sp' :=
  fun A outer s H us vs Q E hr e0 r hs => F A outer s H us vs Q E hr e0 r (h vs H Q E hs)
/-! ### built-ins by names of their own -/
def qLen (K : PySem.W.Frag) : List V → Hp → VK → Prop := fun xs H Q => ∃ p ys, xs = [.ref p] ∧ (SqL K H p ys ∨ SqT K H p ys) ∧ Q (.int (ys.length : Int)) H
def qAbs : List V → Hp → VK → Prop := fun xs H Q => ∃ i, xs = [.int i] ∧ Q (.int (if i < 0 then -i else i)) H
def qMax2 : List V → Hp → VK → Prop := fun xs H Q => ∃ i j, xs = [.int i, .int j] ∧ Q (.int (if j > i then j else i)) H
def qMin2 : List V → Hp → VK → Prop := fun xs H Q => ∃ i j, xs = [.int i, .int j] ∧ Q (.int (if j < i then j else i)) H
def qInt1 : List V → Hp → VK → Prop := fun xs H Q => (∃ i, xs = [.int i] ∧ Q (.int i) H) ∨ ∃ k, xs = [.bl k] ∧ Q (.int (if k then 1 else 0)) H
def qListOf (K : PySem.W.Frag) : List V → Hp → VK → Prop := fun xs H Q => ∃ p ys, xs = [.ref p] ∧ (SqL K H p ys ∨ SqT K H p ys) ∧ ∀ l, H l = none → Q (.ref l) (upd H l (.lst ys))
def qTupleOf (K : PySem.W.Frag) : List V → Hp → VK → Prop := fun xs H Q => ∃ p ys, xs = [.ref p] ∧ ((SqL K H p ys ∧ ∀ l, H l = none → Q (.ref l) (upd H l (.tup ys))) ∨ (SqT K H p ys ∧ Q (.ref p) H))
def qIsN : R2 := fun x y H Q => y = .non ∧ Q (.bl (decide (x = .non))) H
def qNotN : R2 := fun x y H Q => y = .non ∧ Q (.bl (!decide (x = .non))) H
section
variable {X : Cx}
theorem call_qlen : CallR X (.builtin "len") (qLen X.K) := call_len_seq
theorem call_qabs : CallR X (.builtin "abs") qAbs := call_abs
theorem call_qmax2 (hc : X.calm = true) : CallR X (.builtin "max") qMax2 := call_max2 hc
theorem call_qmin2 (hc : X.calm = true) : CallR X (.builtin "min") qMin2 := call_min2 hc
theorem call_qint1 : CallR X (.type "int") qInt1 := call_int1
theorem call_qlist : CallR X (.type "list") (qListOf X.K) := call_list_of
theorem call_qtuple : CallR X (.type "tuple") (qTupleOf X.K) := call_tuple_of
theorem op_qisN : OpR X (compareOp .Is) qIsN := op_isN
theorem op_qnotN : OpR X (compareOp .IsNot) qNotN := op_notN
end
def MkT (xs : List V) (H : Hp) (Q : VK) : Prop := xs.length ≤ sizeLine ∧ ∀ p, H p = none → Q (.ref p) (upd H p (.tup xs))
def MkL (xs : List V) (H : Hp) (Q : VK) : Prop := xs.length ≤ sizeLine ∧ ∀ p, H p = none → Q (.ref p) (upd H p (.lst xs))
/-! ### readings, step by step -/
section
variable {K : PySem.W.Frag} {σ : L2.St} {H H' : Hp} {Q : VK} {D : Ends} {ta tb te : TE} {t u : TS} {c c' : TT} {v w : V} {i j : Int} {n m : Nat}
theorem i_seq (h : t { D with nx := u D } σ H) : tSeq t u D σ H := h
theorem i_asg {g : TG} (h : te σ H fun x H1 => g x σ H1 D.nx) : tAsg te g D σ H := h
theorem i_name {R : L2.St → Hp → Prop} (h : R (σ.set n (some v)) H) : gName n v σ H R := h
theorem i_nameN {σ' : L2.St} {R : L2.St → Hp → Prop} (e : σ.set n (some v) = σ') (h : R σ' H) : gName n v σ H R := by subst e; exact h
theorem i_ret (h : te σ H D.rt) : tRet te D σ H := h
theorem i_ifs (h : c σ H fun b H1 => if b = true then t D σ H1 else u D σ H1) : tIfS c t u D σ H := h
theorem i_drop (h : te σ H fun _ H1 => D.nx σ H1) : tDrop te D σ H := h
theorem i_next (h : D.nx σ H) : tNext D σ H := h
theorem i_var (h : σ[n]? = some (some v)) (q : Q v H) : tVar n σ H Q := ⟨v, h, q⟩
theorem i_c (q : Q v H) : tC v σ H Q := q
theorem i_op {r : R2} (q : ta σ H fun x H1 => tb σ H1 fun y H2 => r x y H2 Q) : tOp r ta tb σ H Q := q
theorem i_un {r : V → Hp → VK → Prop} (q : ta σ H fun x H1 => r x H1 Q) : tUn r ta σ H Q := q
theorem i_I0 {g : Int → Int → V} (q : Q (g i j) H) : rI0 g (.int i) (.int j) H Q := ⟨i, j, rfl, rfl, q⟩
theorem i_I {C : Int → Int → Prop} {g : Int → Int → V} (hc : C i j) (q : Q (g i j) H) : rI C g (.int i) (.int j) H Q := ⟨i, j, rfl, rfl, hc, q⟩
theorem i_mul {a b : Nat} (ha : Sz a i) (hb : Sz b j) (h : a + b ≤ 134217728) (q : Q (.int (i * j)) H) : rI CMulX (fun i j => .int (i * j)) (.int i) (.int j) H Q := ⟨i, j, rfl, rfl, mulx ha hb h, q⟩
theorem i_modN (h : j ≠ 0) (q : Q (.int (i.fmod j)) H) : rI (fun _ j => j ≠ 0) (fun i j => .int (i.fmod j)) (.int i) (.int j) H Q := ⟨i, j, rfl, rfl, h, q⟩
theorem i_fdX {b : Nat} (h : j ≠ 0) (hb : Sz b j) (h9 : b ≤ 9000) (q : Q (.int (i.fdiv j)) H) : rI CDivX (fun i j => .int (i.fdiv j)) (.int i) (.int j) H Q := by
  refine ⟨i, j, rfl, rfl, ⟨h, ?_⟩, q⟩
  have h2 : j.natAbs < 2 ^ (b + 1) := Nat.lt_of_lt_of_le hb (Nat.pow_le_pow_right (by decide) (Nat.le_succ b))
  have h3 : j.natAbs < 2 ^ 9000 := Nat.lt_of_lt_of_le hb (Nat.pow_le_pow_right (by decide) h9)
  exact PySem.Flt.log2_lt_of (by decide) h3
theorem i_pow (h : CPowX i j) (q : Q (.int (i ^ j.toNat)) H) : rI CPowX (fun i j => .int (i ^ j.toNat)) (.int i) (.int j) H Q := ⟨i, j, rfl, rfl, h, q⟩
theorem i_U {g : Int → V} (q : Q (g i) H) : rU g (.int i) H Q := ⟨i, rfl, q⟩
theorem i_test {R : Bool → Hp → Prop} (q : te σ H fun x H' => ∃ k, x = .bl k ∧ R k H') : tTest te σ H R := q
theorem i_B {R : Bool → Hp → Prop} (q : te σ H fun x H' => ∃ k, x = .bl k ∧ R k H') : tB te σ H R := q
theorem i_k {b : Bool} {R : Bool → Prop} (q : R b) : ∃ k, V.bl b = .bl k ∧ R k := ⟨b, rfl, q⟩
theorem i_and {R : Bool → Hp → Prop} (q : c σ H fun b H1 => if b = true then c' σ H1 R else R false H1) : tAnd c c' σ H R := q
theorem i_or {R : Bool → Hp → Prop} (q : c σ H fun b H1 => if b = true then R true H1 else c' σ H1 R) : tOr c c' σ H R := q
theorem i_not {R : Bool → Hp → Prop} (q : c σ H fun b H1 => R (!b) H1) : tNot c σ H R := q
theorem i_andV (q : ta σ H fun x H1 => ∃ k, x = .bl k ∧ if k = true then tb σ H1 Q else Q (.bl false) H1) : tAndV ta tb σ H Q := q
theorem i_orV (q : ta σ H fun x H1 => ∃ k, x = .bl k ∧ if k = true then Q (.bl true) H1 else tb σ H1 Q) : tOrV ta tb σ H Q := q
theorem i_notV (q : ta σ H fun x H1 => ∃ k, x = .bl k ∧ Q (.bl (!k)) H1) : tNotV ta σ H Q := q
theorem i_if (q : c σ H fun b H1 => if b = true then ta σ H1 Q else tb σ H1 Q) : tIf c ta tb σ H Q := q
theorem i_ite {p : Prop} [Decidable p] {A B : Prop} (h1 : p → A) (h2 : ¬ p → B) : if decide p = true then A else B := by
  by_cases h : p
  · rw [if_pos (decide_eq_true h)]
    exact h1 h
  · rw [if_neg (by rw [decide_eq_false h]; decide)]
    exact h2 h
theorem i_iteN {p : Prop} [Decidable p] {A B : Prop} (h1 : ¬ p → A) (h2 : p → B) : if (!decide p) = true then A else B := by
  by_cases h : p
  · rw [decide_eq_true h]
    exact h2 h
  · rw [decide_eq_false h]
    exact h1 h
theorem i_iteB {b : Bool} {A B : Prop} (h1 : b = true → A) (h2 : b = false → B) : if b = true then A else B := by
  cases b with
  | true => exact h1 rfl
  | false => exact h2 rfl
theorem i_iteBN {b : Bool} {A B : Prop} (h1 : b = false → A) (h2 : b = true → B) : if (!b) = true then A else B := by
  cases b with
  | true => exact h2 rfl
  | false => exact h1 rfl
theorem i_iteT {A B : Prop} (h : A) : if true = true then A else B := h
theorem i_iteF {A B : Prop} (h : B) : if false = true then A else B := h
theorem i_cl {sp : Sp} {ts : TA} (q : ts σ H fun vs H1 => sp vs H1 Q E0) : tCl sp ts σ H Q := q
theorem i_nil {R : List V → Hp → Prop} (q : R [] H) : tNil σ H R := q
theorem i_cons {ts : TA} {R : List V → Hp → Prop} (q : ta σ H fun x H1 => ts σ H1 fun xs H2 => R (x :: xs) H2) : tCons ta ts σ H R := q
theorem i_cb {r : List V → Hp → VK → Prop} {ts : TA} (q : ts σ H fun vs H1 => r vs H1 Q) : tCB r ts σ H Q := q
theorem i_tup {ts : TA} (q : ts σ H fun xs H1 => MkT xs H1 Q) : tTup ts σ H Q := q
theorem i_lst {ts : TA} (q : ts σ H fun xs H1 => MkL xs H1 Q) : tLst ts σ H Q := q
theorem i_mkT {xs : List V} (hl : xs.length ≤ 100000) (q : ∀ p H2, Ex H H2 → H2 p = some (.tup xs) → Q (.ref p) H2) : MkT xs H Q :=
  ⟨Evl.sz_of hl, fun p hp => q p _ (ex_upd hp) upd_same⟩
theorem i_mkL {xs : List V} (hl : xs.length ≤ 100000) (q : ∀ p H2, H p = none → Ex H H2 → H2 p = some (.lst xs) → Q (.ref p) H2) : MkL xs H Q :=
  ⟨Evl.sz_of hl, fun p hp => q p _ hp (ex_upd hp) upd_same⟩
theorem i_ixTI {H0 : Hp} {ds : List PyData} {k : Int} (h : Dp K H0 v (.tuple ds)) (he : Ex H0 H) (e : atI ds k = some (.int i)) (q : Q (.int i) H) : rIxT K v (.int k) H Q := by
  obtain ⟨a, vs, rfl, hs, ha⟩ := dpTup (dpMono he h)
  obtain ⟨u, e1, e2⟩ := dpAt ha e
  cases dpInt e2
  exact ⟨a, vs, k, _, rfl, rfl, hs, e1, q⟩
theorem i_ixT {H0 : Hp} {ds : List PyData} {k : Int} {d : PyData} (h : Dp K H0 v (.tuple ds)) (he : Ex H0 H) (e : atI ds k = some d) (q : ∀ u, Dp K H0 u d → Q u H) : rIxT K v (.int k) H Q := by
  obtain ⟨a, vs, rfl, hs, ha⟩ := dpTup h
  obtain ⟨u, e1, e2⟩ := dpAt ha e
  exact ⟨a, vs, k, _, rfl, rfl, Evl.ex_t he hs, e1, q u e2⟩
theorem i_ixLI {H0 : Hp} {ds : List PyData} {k : Int} (h : Dp K H0 v (.list ds)) (he : Ex H0 H) (e : atI ds k = some (.int i)) (q : Q (.int i) H) : rIxL K v (.int k) H Q := by
  obtain ⟨a, vs, rfl, hs, ha⟩ := dpLst (dpMono he h)
  obtain ⟨u, e1, e2⟩ := dpAt ha e
  cases dpInt e2
  exact ⟨a, vs, k, _, rfl, rfl, hs, e1, q⟩
theorem i_ixL {H0 : Hp} {ds : List PyData} {k : Int} {d : PyData} (h : Dp K H0 v (.list ds)) (he : Ex H0 H) (e : atI ds k = some d) (q : ∀ u, Dp K H0 u d → Q u H) : rIxL K v (.int k) H Q := by
  obtain ⟨a, vs, rfl, hs, ha⟩ := dpLst h
  obtain ⟨u, e1, e2⟩ := dpAt ha e
  exact ⟨a, vs, k, _, rfl, rfl, Evl.ex_l he hs, e1, q u e2⟩
theorem i_isi {d : PyData} {T : String} {b : Bool} (h : Dp K H v d) (e : kitB (tyD d) T = some b) (q : Q (.bl b) H) : rIsi K [v, .ty T] H Q :=
  ⟨v, .ty T, _, _, b, rfl, .ty T, dpTy h, kit_ty e, q⟩
@[reducible] def dIsInt : PyData → Bool
  | .int _ => true
  | .bool _ => true
  | _ => false
@[reducible] def dIsBool : PyData → Bool
  | .bool _ => true
  | _ => false
@[reducible] def dIsTup : PyData → Bool
  | .tuple _ => true
  | _ => false
@[reducible] def dIsStr : PyData → Bool
  | .str _ => true
  | _ => false
@[reducible] def dIsLst : PyData → Bool
  | .list _ => true
  | _ => false
theorem i_isiI {d : PyData} (h : Dp K H v d) (q : Q (.bl (dIsInt d)) H) : rIsi K [v, .ty "int"] H Q := i_isi h (by cases d <;> (dsimp only [tyD, dIsInt]; decide +kernel)) q
theorem i_isiB {d : PyData} (h : Dp K H v d) (q : Q (.bl (dIsBool d)) H) : rIsi K [v, .ty "bool"] H Q := i_isi h (by cases d <;> (dsimp only [tyD, dIsBool]; decide +kernel)) q
theorem i_isiT {d : PyData} (h : Dp K H v d) (q : Q (.bl (dIsTup d)) H) : rIsi K [v, .ty "tuple"] H Q := i_isi h (by cases d <;> (dsimp only [tyD, dIsTup]; decide +kernel)) q
theorem i_isiS {d : PyData} (h : Dp K H v d) (q : Q (.bl (dIsStr d)) H) : rIsi K [v, .ty "str"] H Q := i_isi h (by cases d <;> (dsimp only [tyD, dIsStr]; decide +kernel)) q
theorem i_isiL {d : PyData} (h : Dp K H v d) (q : Q (.bl (dIsLst d)) H) : rIsi K [v, .ty "list"] H Q := i_isi h (by cases d <;> (dsimp only [tyD, dIsLst]; decide +kernel)) q
theorem i_iteTr {b : Bool} {A B : Prop} (h : b = true) (q : A) : if b = true then A else B := by subst h; exact q
theorem i_iteFr {b : Bool} {A B : Prop} (h : b = false) (q : B) : if b = true then A else B := by subst h; exact q
/-- promises by the number of arguments -/
def A1 (P : V → Hp → VK → Prop) : Sp := fun vs H Q _ => ∃ v1, vs = [v1] ∧ P v1 H Q
def A2 (P : V → V → Hp → VK → Prop) : Sp := fun vs H Q _ => ∃ v1 v2, vs = [v1, v2] ∧ P v1 v2 H Q
def A3 (P : V → V → V → Hp → VK → Prop) : Sp := fun vs H Q _ => ∃ v1 v2 v3, vs = [v1, v2, v3] ∧ P v1 v2 v3 H Q
def A4 (P : V → V → V → V → Hp → VK → Prop) : Sp := fun vs H Q _ => ∃ v1 v2 v3 v4, vs = [v1, v2, v3, v4] ∧ P v1 v2 v3 v4 H Q
def A5 (P : V → V → V → V → V → Hp → VK → Prop) : Sp := fun vs H Q _ => ∃ v1 v2 v3 v4 v5, vs = [v1, v2, v3, v4, v5] ∧ P v1 v2 v3 v4 v5 H Q
def A6 (P : V → V → V → V → V → V → Hp → VK → Prop) : Sp := fun vs H Q _ => ∃ v1 v2 v3 v4 v5 v6, vs = [v1, v2, v3, v4, v5, v6] ∧ P v1 v2 v3 v4 v5 v6 H Q
theorem A1.len {P} {vs : List V} {E : XK} (h : A1 P vs H Q E) : vs.length = 1 := by obtain ⟨_, rfl, _⟩ := h; rfl
theorem A2.len {P} {vs : List V} {E : XK} (h : A2 P vs H Q E) : vs.length = 2 := by obtain ⟨_, _, rfl, _⟩ := h; rfl
theorem A3.len {P} {vs : List V} {E : XK} (h : A3 P vs H Q E) : vs.length = 3 := by obtain ⟨_, _, _, rfl, _⟩ := h; rfl
theorem A4.len {P} {vs : List V} {E : XK} (h : A4 P vs H Q E) : vs.length = 4 := by obtain ⟨_, _, _, _, rfl, _⟩ := h; rfl
theorem A5.len {P} {vs : List V} {E : XK} (h : A5 P vs H Q E) : vs.length = 5 := by obtain ⟨_, _, _, _, _, rfl, _⟩ := h; rfl
theorem A6.len {P} {vs : List V} {E : XK} (h : A6 P vs H Q E) : vs.length = 6 := by obtain ⟨_, _, _, _, _, _, rfl, _⟩ := h; rfl
/-- what a pure def gives back -/
def Ret (K : PySem.W.Frag) (d : PyData) (H : Hp) (Q : VK) : Prop := ∀ v H2, Ex H H2 → Dp K H2 v d → Q v H2
theorem Ret.int (r : Ret K (.int i) H Q) (e : Ex H H') : Q (.int i) H' := r _ _ e (.int i)
theorem Ret.bl {b : Bool} (r : Ret K (.bool b) H Q) (e : Ex H H') : Q (.bl b) H' := r _ _ e (.bl b)
theorem Ret.non (r : Ret K .none H Q) (e : Ex H H') : Q .non H' := r _ _ e .non
theorem ret_int (q : ∀ H2, Ex H H2 → Q (.int i) H2) : Ret K (.int i) H Q := fun v H2 e h => by cases h; exact q H2 e
theorem ret_bl {b : Bool} (q : ∀ H2, Ex H H2 → Q (.bl b) H2) : Ret K (.bool b) H Q := fun v H2 e h => by cases h; exact q H2 e
theorem ret_non (q : ∀ H2, Ex H H2 → Q .non H2) : Ret K .none H Q := fun v H2 e h => by cases h; exact q H2 e
theorem Ret.use {d : PyData} (r : Ret K d H Q) (e : Ex H H') (h : Dp K H' v d) : Q v H' := r v H' e h
theorem Ret.int' {k : Int} (r : Ret K (.int k) H Q) (e : Ex H H') (h : k = i) : Q (.int i) H' := by
  subst h
  exact r.int e
theorem Ret.bl' {b k : Bool} (r : Ret K (.bool k) H Q) (e : Ex H H') (h : k = b) : Q (.bl b) H' := by
  subst h
  exact r.bl e
theorem i_eq (hs : scal v w = true) (q : Q (.bl (decide (v = w))) H) : rEq v w H Q := ⟨hs, q⟩
theorem i_ne (hs : scal v w = true) (q : Q (.bl (!decide (v = w))) H) : rNe v w H Q := ⟨hs, q⟩
theorem i_eqI (q : Q (.bl (decide (i = j))) H) : rEq (.int i) (.int j) H Q := by
  refine ⟨rfl, ?_⟩
  have e : decide (V.int i = V.int j) = decide (i = j) := by
    by_cases h : i = j
    · subst h; simp
    · rw [decide_eq_false h, decide_eq_false (fun z => h (V.int.inj z))]
  rw [e]
  exact q
theorem i_neI (q : Q (.bl (!decide (i = j))) H) : rNe (.int i) (.int j) H Q := by
  refine ⟨rfl, ?_⟩
  have e : decide (V.int i = V.int j) = decide (i = j) := by
    by_cases h : i = j
    · subst h; simp
    · rw [decide_eq_false h, decide_eq_false (fun z => h (V.int.inj z))]
  rw [e]
  exact q
theorem i_gcd (q : Q (.int (gd i j)) H) : rGcd [.int i, .int j] H Q := ⟨i, j, rfl, q⟩
theorem i_qabs (q : Q (.int (if i < 0 then -i else i)) H) : qAbs [.int i] H Q := ⟨i, rfl, q⟩
theorem i_qmax2 (q : Q (.int (if j > i then j else i)) H) : qMax2 [.int i, .int j] H Q := ⟨i, j, rfl, q⟩
theorem i_qmin2 (q : Q (.int (if j < i then j else i)) H) : qMin2 [.int i, .int j] H Q := ⟨i, j, rfl, q⟩
theorem i_qint (q : Q (.int i) H) : qInt1 [.int i] H Q := .inl ⟨i, rfl, q⟩
theorem i_qintB {b : Bool} (q : Q (.int (if b then 1 else 0)) H) : qInt1 [.bl b] H Q := .inr ⟨b, rfl, q⟩
theorem i_qlenT {ds : List PyData} (h : Dp K H v (.tuple ds)) (q : Q (.int (ds.length : Int)) H) : qLen K [v] H Q := by
  obtain ⟨a, vs, rfl, hs, ha⟩ := dpTup h
  refine ⟨a, vs, rfl, .inr hs, ?_⟩
  rw [dpLen ha]
  exact q
theorem i_qlenL {ds : List PyData} (h : Dp K H v (.list ds)) (q : Q (.int (ds.length : Int)) H) : qLen K [v] H Q := by
  obtain ⟨a, vs, rfl, hs, ha⟩ := dpLst h
  refine ⟨a, vs, rfl, .inl hs, ?_⟩
  rw [dpLen ha]
  exact q
theorem i_qtupleL {ds : List PyData} (h : Dp K H v (.list ds)) (q : ∀ p H2, Ex H H2 → (∃ vs, H2 p = some (.tup vs) ∧ DpAll K H2 vs ds) → Q (.ref p) H2) : qTupleOf K [v] H Q := by
  obtain ⟨a, vs, rfl, hs, ha⟩ := dpLst h
  exact ⟨a, vs, rfl, .inl ⟨hs, fun l hl => q l _ (ex_upd hl) ⟨vs, upd_same, dpMonoA (ex_upd hl) ha⟩⟩⟩
theorem i_qlistT {ds : List PyData} (h : Dp K H v (.tuple ds)) (q : ∀ p H2, H p = none → Ex H H2 → (∃ vs, H2 p = some (.lst vs) ∧ DpAll K H2 vs ds) → Q (.ref p) H2) : qListOf K [v] H Q := by
  obtain ⟨a, vs, rfl, hs, ha⟩ := dpTup h
  exact ⟨a, vs, rfl, .inr hs, fun l hl => q l _ hl (ex_upd hl) ⟨vs, upd_same, dpMonoA (ex_upd hl) ha⟩⟩
theorem i_qisN (q : Q (.bl (decide (v = .non))) H) : qIsN v .non H Q := ⟨rfl, q⟩
theorem i_qnotN (q : Q (.bl (!decide (v = .non))) H) : qNotN v .non H Q := ⟨rfl, q⟩
def Par2 (n m : Nat) (σ : L2.St) (R : L2.St → Hp → Prop) (vs : List V) (H : Hp) : Prop := ∃ v w, vs = [v, w] ∧ R ((σ.set n (some v)).set m (some w)) H
def Par3 (n m k : Nat) (σ : L2.St) (R : L2.St → Hp → Prop) (vs : List V) (H : Hp) : Prop := ∃ u v w, vs = [u, v, w] ∧ R (((σ.set n (some u)).set m (some v)).set k (some w)) H
theorem i_par {ts : TA} (q : ts σ H fun vs H1 => Par2 n m σ D.nx vs H1) : tPar n m ts D σ H := q
theorem i_par2 {σ' : L2.St} {R : L2.St → Hp → Prop} (e : (σ.set n (some v)).set m (some w) = σ') (q : R σ' H) : Par2 n m σ R [v, w] H := by subst e; exact ⟨v, w, rfl, q⟩
theorem i_par3 {k : Nat} {ts : TA} (q : ts σ H fun vs H1 => Par3 n m k σ D.nx vs H1) : tPar3 n m k ts D σ H := q
theorem i_par33 {σ' : L2.St} {k : Nat} {u : V} {R : L2.St → Hp → Prop} (e : ((σ.set n (some u)).set m (some v)).set k (some w) = σ') (q : R σ' H) : Par3 n m k σ R [u, v, w] H := by subst e; exact ⟨u, v, w, rfl, q⟩
theorem i_gtup {H0 : Hp} {k : Nat} {ts : TGs} {R : L2.St → Hp → Prop} {ds : List PyData} (h : Dp K H0 v (.tuple ds)) (he : Ex H0 H) (hl : ds.length = k) (q : ∀ vs, DpAll K H0 vs ds → ts vs σ H R) : gTup K k ts v σ H R := by
  obtain ⟨a, vs, rfl, hs, ha⟩ := dpTup h
  exact ⟨a, vs, rfl, Evl.ex_t he hs, (dpLen ha).trans hl, q vs ha⟩
theorem i_glst {H0 : Hp} {k : Nat} {ts : TGs} {R : L2.St → Hp → Prop} {ds : List PyData} (h : Dp K H0 v (.list ds)) (he : Ex H0 H) (hl : ds.length = k) (q : ∀ vs, DpAll K H0 vs ds → ts vs σ H R) : gLst K k ts v σ H R := by
  obtain ⟨a, vs, rfl, hs, ha⟩ := dpLst h
  exact ⟨a, vs, rfl, Evl.ex_l he hs, (dpLen ha).trans hl, q vs ha⟩
theorem i_gcons {g : TG} {ts : TGs} {vs : List V} {R : L2.St → Hp → Prop} (q : g v σ H fun σ' H' => ts vs σ' H' R) : gCons g ts (v :: vs) σ H R := ⟨v, vs, rfl, q⟩
theorem i_gnil {R : L2.St → Hp → Prop} (q : R σ H) : gNil [] σ H R := ⟨rfl, q⟩
theorem i_gconsA {H0 : Hp} {g : TG} {ts : TGs} {vs : List V} {d : PyData} {ds : List PyData} {R : L2.St → Hp → Prop} (h : DpAll K H0 vs (d :: ds)) (q : ∀ v r, Dp K H0 v d → DpAll K H0 r ds → g v σ H fun σ' H' => ts r σ' H' R) : gCons g ts vs σ H R := by
  cases h with
  | cons h1 h2 => exact ⟨_, _, rfl, q _ _ h1 h2⟩
theorem i_gconsI {H0 : Hp} {g : TG} {ts : TGs} {vs : List V} {ds : List PyData} {R : L2.St → Hp → Prop} (h : DpAll K H0 vs (.int i :: ds)) (q : ∀ r, DpAll K H0 r ds → g (.int i) σ H fun σ' H' => ts r σ' H' R) : gCons g ts vs σ H R := by
  cases h with
  | cons h1 h2 => cases dpInt h1; exact ⟨_, _, rfl, q _ h2⟩
theorem i_gnilA {H0 : Hp} {vs : List V} {R : L2.St → Hp → Prop} (h : DpAll K H0 vs []) (q : R σ H) : gNil vs σ H R := by
  cases h
  exact ⟨rfl, q⟩
theorem i_eqD {d e : PyData} (h1 : Dp K H v d) (h2 : Dp K H w e) (s1 : SeqAt.shaped d = true) (s2 : SeqAt.shaped e = true) (q : Q (.bl (PyData.eqv d e)) H) : rEqD K v w H Q := ⟨d, e, h1, h2, s1, s2, q⟩
theorem i_neD {d e : PyData} (h1 : Dp K H v d) (h2 : Dp K H w e) (s1 : SeqAt.shaped d = true) (s2 : SeqAt.shaped e = true) (q : Q (.bl (!PyData.eqv d e)) H) : rNeD K v w H Q := ⟨d, e, h1, h2, s1, s2, q⟩
theorem dpInts : ∀ {ns : List Int} {vs : List V}, DpAll K H vs (ns.map PyData.int) → vs = ns.map V.int
  | [], _, h => by cases h; rfl
  | n :: ns, _, h => by
    cases h with
    | cons h1 h2 => rw [dpInt h1, dpInts h2]; rfl
theorem i_ltT {ns ms : List Int} {ds es : List PyData} (h1 : Dp K H v (.tuple ds)) (h2 : Dp K H w (.tuple es)) (e1 : ds = ns.map PyData.int) (e2 : es = ms.map PyData.int) (q : Q (.bl (HT.lexLt ns ms)) H) : rLtT K v w H Q := by
  subst e1 e2
  obtain ⟨a, vs, rfl, hs, ha⟩ := dpTup h1
  obtain ⟨b, ws, rfl, ks, ka⟩ := dpTup h2
  rw [dpInts ha] at hs
  rw [dpInts ka] at ks
  exact ⟨a, b, ns, ms, rfl, rfl, hs, ks, q⟩
/-- a loop over a tuple whose turns only add to the heap and set the loop's name -/
theorem i_forT {tb : TS} {ds : List PyData} {j : Nat} (h : Dp K H v (.tuple ds)) (hσ : ∀ u : V, (σ.set j (some u)).set j (some u) = σ.set j (some u))
    (hs : ∀ (u : V) (d : PyData) (H2 : Hp) (y : Option V) (N : L2.St → Hp → Prop), Ex H H2 → d ∈ ds → Dp K H2 u d → (∀ H3, Ex H2 H3 → N (σ.set j (some u)) H3) → tb { D with nx := N, ct := N, bk := D.nx } (σ.set j (some u)) H2)
    (hd : ∀ (y : Option V) (H2 : Hp), Ex H H2 → D.nx (σ.set j y) H2) (h0 : σ.set j none = σ) : tFor (iTup K (tC v)) (gName j) tb D σ H := by
  obtain ⟨a, xs, rfl, hq, ha⟩ := dpTup h
  refine ⟨a, rfl, ⟨xs, hq⟩, for_tup (xs := xs) (fun i σ' H' => (∃ y, σ' = σ.set j y) ∧ Ex H H') ⟨⟨none, h0.symm⟩, Ex.refl H⟩ (fun i σ' H' _ p => Evl.ex_t p.2 hq) (fun i x σ' H' hi p => ?_) (fun σ' H' p => ?_)⟩
  · obtain ⟨⟨y, rfl⟩, e⟩ := p
    have hm : ∃ d, ds[i]? = some d ∧ Dp K H x d := by
      have hj : i < ds.length := by rw [← dpLen ha]; exact (List.getElem?_eq_some_iff.mp hi).1
      obtain ⟨u, h1, h2⟩ := dpGet ha (List.getElem?_eq_getElem hj)
      rw [hi] at h1
      cases h1
      exact ⟨_, List.getElem?_eq_getElem hj, h2⟩
    obtain ⟨d, hd1, hd2⟩ := hm
    show tb _ ((σ.set j y).set j (some x)) H'
    rw [List.set_set]
    exact hs x d H' y _ e (List.mem_of_getElem? hd1) (dpMono e hd2) fun H3 e3 => ⟨⟨some x, rfl⟩, e.trans e3⟩
  · obtain ⟨⟨y, rfl⟩, e⟩ := p
    exact hd y H' e
theorem i_forU {tb : TS} {tl : TE} {j : Nat} (q : tl σ H fun x H1 => tFor (iTup K (tC x)) (gName j) tb D σ H1) : tFor (iTup K tl) (gName j) tb D σ H := q
theorem i_forV {tb : TS} {tl : TE} {j : Nat} (q : tl σ H fun x H1 => tFor (iList K (tC x)) (gName j) tb D σ H1) : tFor (iList K tl) (gName j) tb D σ H := q
theorem i_isB {a b : Bool} (q : Q (.bl (decide (a = b))) H) : rIsB (.bl a) (.bl b) H Q := ⟨a, b, rfl, rfl, q⟩
theorem i_notB {a b : Bool} (q : Q (.bl (!decide (a = b))) H) : rNotB (.bl a) (.bl b) H Q := ⟨a, b, rfl, rfl, q⟩
theorem i_chain {r r' : R2} {tc : TE} (q : ta σ H fun x H1 => tb σ H1 fun y H2 => r x y H2 fun z H3 => ∃ k, z = .bl k ∧ (if k = true then tc σ H3 fun w' H4 => r' y w' H4 Q else Q (.bl false) H3)) : tChain r r' ta tb tc σ H Q := q
theorem i_tw (W : Nat → L2.St → Hp → Prop) (m0 : Nat) (h0 : W m0 σ H) {tb : TS}
    (hs : ∀ m σ' H', W m σ' H' → c σ' H' fun b H1 => if b = true then ∃ N : L2.St → Hp → Prop, (∀ σ2 H2, N σ2 H2 → ∃ m', m' < m ∧ W m' σ2 H2) ∧ tb { D with nx := N, ct := N, bk := D.nx } σ' H1 else D.nx σ' H1) : tWhile c tb D σ H := ⟨W, ⟨m0, h0⟩, hs⟩
theorem ret_any {d : PyData} (q : ∀ v H2, Ex H H2 → Dp K H2 v d → Q v H2) : Ret K d H Q := q
end

/-! ### comprehensions over pure data -/
mutual
/-- no list within -/
def noL : PyData → Bool
  | .list _ => false
  | .dict _ => false
  | .tuple ds => noLs ds
  | _ => true
def noLs : List PyData → Bool
  | [] => true
  | d :: ds => noL d && noLs ds
end
section
variable {K : PySem.W.Frag} {H : Hp} {D : Addr} {xs ys : List V}
theorem sqt_upd {a : Addr} {zs : List V} (hD : H D = some (.lst xs)) (h : SqT K H a zs) : SqT K (upd H D (.lst ys)) a zs := by
  rcases h with (h | ⟨o, h⟩) | h
  · exact .inl (.inl (by rw [upd_ne (ne_of h hD (by intro z; cases z))]; exact h))
  · exact .inl (.inr ⟨o, by rw [upd_ne (ne_of h hD (by intro z; cases z))]; exact h⟩)
  · exact .inr h
mutual
theorem dpUpd (hD : H D = some (.lst xs)) : ∀ {d : PyData} {v : V}, noL d = true → Dp K H v d → Dp K (upd H D (.lst ys)) v d
  | .none, _, _, h => by cases h; exact .non
  | .bool _, _, _, h => by cases h; exact .bl _
  | .int _, _, _, h => by cases h; exact .int _
  | .str _, _, _, h => by cases h; exact .str _
  | .list ds, _, n, h => by cases n
  | .tuple ds, _, n, h => by
    cases h with
    | tup hs ha => exact .tup (sqt_upd hD hs) (dpUpdA hD n ha)
  | .dict _, _, _, h => by cases h
theorem dpUpdA (hD : H D = some (.lst xs)) : ∀ {ds : List PyData} {vs : List V}, noLs ds = true → DpAll K H vs ds → DpAll K (upd H D (.lst ys)) vs ds
  | [], _, _, h => by cases h; exact .nil
  | d :: ds, _, n, h => by
    cases h with
    | cons h1 h2 =>
      have n2 := Bool.and_eq_true_iff.mp (show (noL d && noLs ds) = true from n)
      exact .cons (dpUpd hD n2.1 h1) (dpUpdA hD n2.2 h2)
end
theorem noLs_all : ∀ {ds : List PyData}, (∀ d ∈ ds, noL d = true) → noLs ds = true
  | [], _ => rfl
  | d :: ds, h => by
    show (noL d && noLs ds) = true
    rw [h d List.mem_cons_self, noLs_all fun e he => h e (List.mem_cons_of_mem _ he)]
    rfl
theorem dpAllApp : ∀ {ds es : List PyData} {vs ws : List V}, DpAll K H vs ds → DpAll K H ws es → DpAll K H (vs ++ ws) (ds ++ es)
  | [], _, _, _, h, k => by cases h; exact k
  | d :: ds, _, _, _, h, k => by
    cases h with
    | cons h1 h2 => exact .cons h1 (dpAllApp h2 k)
end
section
variable {K : PySem.W.Frag} {σ : L2.St} {H : Hp} {Q : VK} {j : Nat} {te tl : TE} {tt : TT} {vs : List Nat} {v : V}
theorem i_lcU (q : tl σ H fun x H1 => tLc (iTup K (tC x)) (gName j) tt te vs σ H1 Q) : tLc (iTup K tl) (gName j) tt te vs σ H Q := q
theorem i_lcM (q : tl σ H fun x H1 => tLc (iList K (tC x)) (gName j) tt te vs σ H1 Q) : tLc (iList K tl) (gName j) tt te vs σ H Q := q
/-- one turn of a pure comprehension keeps what it made so far -/
def Lcv (K : PySem.W.Frag) (H1 : Hp) (D : Addr) (ds : List PyData) (c : PyData → Bool) (f : PyData → PyData) (i : Nat) (H' : Hp) : Prop :=
  H1 D = none ∧ Ex H1 H' ∧ ∃ acc, H' D = some (.lst acc) ∧ DpAll K H' acc (((ds.take i).filter c).map f)
theorem lcv_turn {H1 H' : Hp} {D : Addr} {ds : List PyData} {c : PyData → Bool} {f : PyData → PyData} {i : Nat} {d : PyData} {σ2 : L2.St} (p : Lcv K H1 D ds c f i H') (hd : ds[i]? = some d) (hl : ds.length ≤ 100000) (hn : ∀ d ∈ ds, noL (f d) = true)
    (ht : ∀ (H2 : Hp) (R : Bool → Hp → Prop), Ex H1 H2 → (∀ H3, Ex H2 H3 → R (c d) H3) → tt σ2 H2 R)
    (he : c d = true → ∀ (H2 : Hp) (R : VK), Ex H1 H2 → (∀ w H3, Ex H2 H3 → Dp K H3 w (f d) → R w H3) → te σ2 H2 R) :
    tt σ2 H' fun b H3 => if b = true then te σ2 H3 fun y H4 => ∃ acc, H4 D = some (.lst acc) ∧ acc.length < sizeLine ∧ Lcv K H1 D ds c f (i + 1) (upd H4 D (.lst (acc ++ [y]))) else Lcv K H1 D ds c f (i + 1) H3 := by
  obtain ⟨p1, p2, acc, p3, p4⟩ := p
  have ht1 : ds.take (i + 1) = ds.take i ++ [d] := by rw [List.take_add_one, hd]; rfl
  refine ht H' _ p2 fun H3 e3 => ?_
  cases hc : c d with
  | true =>
    refine he hc H3 _ (p2.trans e3) fun y H4 e4 hy => ?_
    have hD4 : H4 D = some (.lst acc) := e4 _ _ (e3 _ _ p3)
    have hlen : acc.length ≤ ds.length := by
      rw [dpLen p4, List.length_map]
      exact Nat.le_trans (List.length_filter_le _ _) (by rw [List.length_take]; omega)
    refine ⟨acc, hD4, Evl.sz_lt (by
      have hi : i < ds.length := (List.getElem?_eq_some_iff.mp hd).1
      have : acc.length ≤ i := by
        rw [dpLen p4, List.length_map]
        exact Nat.le_trans (List.length_filter_le _ _) (by rw [List.length_take]; omega)
      omega), p1, Evl.Ex.mut ((p2.trans e3).trans e4) p1, acc ++ [y], upd_same, ?_⟩
    rw [ht1, List.filter_append, List.map_append, List.filter_cons, if_pos hc]
    refine dpUpdA hD4 (noLs_all fun z hz => ?_) (dpAllApp (dpMonoA (e3.trans e4) p4) (.cons hy .nil))
    rcases List.mem_append.mp hz with h | h
    · obtain ⟨z0, h1, rfl⟩ := List.mem_map.mp h
      exact hn z0 (List.mem_of_mem_take (List.mem_filter.mp h1).1)
    · rcases List.mem_singleton.mp h with rfl
      exact hn d (List.mem_of_getElem? hd)
  | false =>
    refine ⟨p1, p2.trans e3, acc, e3 _ _ p3, ?_⟩
    rw [ht1, List.filter_append, List.filter_cons, if_neg (by rw [hc]; decide), List.filter_nil, List.append_nil]
    exact dpMonoA e3 p4
theorem dpIdx {H : Hp} {xs : List V} {ds : List PyData} {i : Nat} {x : V} (h : DpAll K H xs ds) (e : xs[i]? = some x) : ∃ d, ds[i]? = some d ∧ Dp K H x d := by
  have hi : i < xs.length := (List.getElem?_eq_some_iff.mp e).1
  have hj : i < ds.length := by rw [← dpLen h]; exact hi
  obtain ⟨u, h1, h2⟩ := dpGet h (List.getElem?_eq_getElem hj)
  rw [e] at h1
  cases h1
  exact ⟨_, List.getElem?_eq_getElem hj, h2⟩
theorem i_lcT {ds : List PyData} (c : PyData → Bool) (f : PyData → PyData) (h : Dp K H v (.tuple ds)) (hl : ds.length ≤ 100000) (hn : ∀ d ∈ ds, noL (f d) = true) (hw : ∀ x, wipe ((wipe σ vs).set j (some x)) vs = wipe σ vs)
    (ht : ∀ (u : V) (d : PyData) (H2 : Hp) (R : Bool → Hp → Prop), Ex H H2 → d ∈ ds → Dp K H2 u d → (∀ H3, Ex H2 H3 → R (c d) H3) → tt ((wipe σ vs).set j (some u)) H2 R)
    (he : ∀ (u : V) (d : PyData) (H2 : Hp) (R : VK), Ex H H2 → d ∈ ds → c d = true → Dp K H2 u d → (∀ w H3, Ex H2 H3 → Dp K H3 w (f d) → R w H3) → te ((wipe σ vs).set j (some u)) H2 R)
    (q : ∀ p H2, H p = none → Ex H H2 → (∃ acc, H2 p = some (.lst acc) ∧ DpAll K H2 acc ((ds.filter c).map f)) → Q (.ref p) H2) : tLc (iTup K (tC v)) (gName j) tt te vs σ H Q := by
  obtain ⟨a, xs, rfl, hs, ha⟩ := dpTup h
  refine ⟨a, rfl, ⟨xs, hs⟩, fun D hD => lc_tup (xs := xs) (Lcv K H D ds c f) ⟨hD, Ex.new hD, [], upd_same, .nil⟩ (fun i H' _ p => Evl.ex_t p.2.1 hs) (fun i x H' hi p => ⟨hw x, ?_⟩) (fun H' p => ?_)⟩
  · obtain ⟨d, hd, hx⟩ := dpIdx ha hi
    have hm := List.mem_of_getElem? hd
    exact lcv_turn p hd hl hn (fun H2 R e2 r => ht x d H2 R e2 hm (dpMono e2 hx) r) (fun hc H2 R e2 r => he x d H2 R e2 hm hc (dpMono e2 hx) r)
  · obtain ⟨p1, p2, acc, p3, p4⟩ := p
    rw [dpLen ha, List.take_length] at p4
    exact q D H' p1 p2 ⟨acc, p3, p4⟩
theorem i_lcL {ds : List PyData} (c : PyData → Bool) (f : PyData → PyData) (h : Dp K H v (.list ds)) (hl : ds.length ≤ 100000) (hn : ∀ d ∈ ds, noL (f d) = true) (hw : ∀ x, wipe ((wipe σ vs).set j (some x)) vs = wipe σ vs)
    (ht : ∀ (u : V) (d : PyData) (H2 : Hp) (R : Bool → Hp → Prop), Ex H H2 → d ∈ ds → Dp K H2 u d → (∀ H3, Ex H2 H3 → R (c d) H3) → tt ((wipe σ vs).set j (some u)) H2 R)
    (he : ∀ (u : V) (d : PyData) (H2 : Hp) (R : VK), Ex H H2 → d ∈ ds → c d = true → Dp K H2 u d → (∀ w H3, Ex H2 H3 → Dp K H3 w (f d) → R w H3) → te ((wipe σ vs).set j (some u)) H2 R)
    (q : ∀ p H2, H p = none → Ex H H2 → (∃ acc, H2 p = some (.lst acc) ∧ DpAll K H2 acc ((ds.filter c).map f)) → Q (.ref p) H2) : tLc (iList K (tC v)) (gName j) tt te vs σ H Q := by
  obtain ⟨a, xs, rfl, hs, ha⟩ := dpLst h
  refine ⟨a, rfl, ⟨xs, hs⟩, fun D hD => lc_list (xs := xs) (Lcv K H D ds c f) ⟨hD, Ex.new hD, [], upd_same, .nil⟩ (fun i H' _ p => Evl.ex_l p.2.1 hs) (fun i x H' hi p => ⟨hw x, ?_⟩) (fun H' p => ?_)⟩
  · obtain ⟨d, hd, hx⟩ := dpIdx ha hi
    have hm := List.mem_of_getElem? hd
    exact lcv_turn p hd hl hn (fun H2 R e2 r => ht x d H2 R e2 hm (dpMono e2 hx) r) (fun hc H2 R e2 r => he x d H2 R e2 hm hc (dpMono e2 hx) r)
  · obtain ⟨p1, p2, acc, p3, p4⟩ := p
    rw [dpLen ha, List.take_length] at p4
    exact q D H' p1 p2 ⟨acc, p3, p4⟩
theorem i_yes {R : Bool → Hp → Prop} (q : R true H) : tYes σ H R := q
theorem i_all {ds : List PyData} {bs : List Bool} (h : Dp K H v (.list ds)) (e : ds = bs.map PyData.bool) (q : Q (.bl (bs.all id)) H) : rAll K [v] H Q := by
  obtain ⟨a, xs, rfl, hs, ha⟩ := dpLst h
  subst e
  have ex : ∀ {bs : List Bool} {xs : List V}, DpAll K H xs (bs.map PyData.bool) → xs = bs.map V.bl := by
    intro bs
    induction bs with
    | nil => intro xs h; cases h; rfl
    | cons b bs ih =>
      intro xs h
      cases h with
      | cons h1 h2 => rw [dpBl h1, ih h2]; rfl
  rw [ex ha] at hs
  exact ⟨a, bs, rfl, hs, q⟩
theorem wipe1 (x : V) : wipe ((wipe σ [j]).set j (some x)) [j] = wipe σ [j] := by
  show ((σ.set j none).set j (some x)).set j none = σ.set j none
  rw [List.set_set, List.set_set]
end
end Wb

namespace Wb
open PySem PySem.Spec PyProof.Rows L2
open Evl (Ex Ex.refl Ex.trans Ex.new)
/-! ### the bag of draws: a list of three ints that is changed by each draw; all else is told of the heap without it -/
def hid (b : Addr) (H : Hp) : Hp := fun a => if a = b then none else H a
theorem hid_of {b a : Addr} {H : Hp} {o : HO} (h : H a = some o) (hn : a ≠ b) : hid b H a = some o := by
  unfold hid
  rw [if_neg hn]
  exact h
theorem of_hid {b a : Addr} {H : Hp} {o : HO} (h : hid b H a = some o) : a ≠ b ∧ H a = some o := by
  unfold hid at h
  by_cases e : a = b
  · rw [if_pos e] at h
    cases h
  · rw [if_neg e] at h
    exact ⟨e, h⟩
theorem ex_hid {b : Addr} {H : Hp} : Ex (hid b H) H := fun _ _ h => (of_hid h).2
theorem hid_ex {b : Addr} {H H' : Hp} (e : Ex H H') : Ex (hid b H) (hid b H') := fun a o h => hid_of (e a o (of_hid h).2) (of_hid h).1
theorem hid_upd {b : Addr} {H : Hp} {o : HO} : Ex (hid b H) (hid b (upd H b o)) := fun a u h => hid_of (by rw [upd_ne (of_hid h).1]; exact (of_hid h).2) (of_hid h).1
/-- what did not know the bag stays known -/
theorem ex_unhid {b : Addr} {H0 H H' : Hp} (h0 : H0 b = none) (e : Ex H0 H) (e2 : Ex (hid b H) (hid b H')) : Ex H0 H' := fun a o h => (of_hid (e2 a o (hid_of (e a o h) (ne_of_none h h0)))).2
theorem ex_tohid {b : Addr} {H0 H : Hp} (h0 : H0 b = none) (e : Ex H0 H) : Ex H0 (hid b H) := fun a o h => hid_of (e a o h) (ne_of_none h h0)
structure Bag (b : Addr) (H : Hp) : Prop where
  ex : ∃ x y z : Int, H b = some (.lst [.int x, .int y, .int z]) ∧ 0 ≤ x ∧ Sz 2100 x
theorem Bag.mono {b : Addr} {H H' : Hp} (h : Bag b H) (e : Ex H H') : Bag b H' := by
  obtain ⟨x, y, z, h1, h2, h3⟩ := h.ex
  exact ⟨x, y, z, e _ _ h1, h2, h3⟩
theorem Bag.ne {b p : Addr} {H : Hp} (h : Bag b H) (hp : H p = none) : p ≠ b := by
  obtain ⟨x, y, z, h1, _⟩ := h.ex
  exact (ne_of_none h1 hp).symm
theorem hid_tup {b p : Addr} {H : Hp} {xs : List V} (h : Bag b H) (hp : H p = some (.tup xs)) : hid b H p = some (.tup xs) := by
  obtain ⟨x, y, z, h1, _⟩ := h.ex
  exact hid_of hp (ne_of hp h1 (by intro z; cases z))
theorem hid_new {b p : Addr} {H H' : Hp} {o : HO} (h : Bag b H) (hn : H p = none) (hp : H' p = some o) : hid b H' p = some o := hid_of hp (h.ne hn)
section
variable {K : PySem.W.Frag} {σ : L2.St} {H H' : Hp} {Q : VK} {D : Ends} {ta tb te : TE} {v : V} {i j : Int} {b : Addr}
theorem i_mkTB {xs : List V} (hl : xs.length ≤ 100000) (hb : Bag b H) (q : ∀ p H2, Ex H H2 → Bag b H2 → hid b H2 p = some (.tup xs) → Q (.ref p) H2) : MkT xs H Q :=
  i_mkT hl fun p H2 e hp => q p H2 e (hb.mono e) (hid_tup (hb.mono e) hp)
theorem i_mkLB {xs : List V} (hl : xs.length ≤ 100000) (hb : Bag b H) (q : ∀ p H2, H p = none → Ex H H2 → Bag b H2 → hid b H2 p = some (.lst xs) → Q (.ref p) H2) : MkL xs H Q :=
  i_mkL hl fun p H2 hn e hp => q p H2 hn e (hb.mono e) (hid_new hb hn hp)
theorem i_mulC (h : CMul i j) (q : Q (.int (i * j)) H) : rI CMul (fun i j => .int (i * j)) (.int i) (.int j) H Q := ⟨i, j, rfl, rfl, h, q⟩
theorem cmul_l (h : i.natAbs < 18446744073709551616) : CMul i j := .inl ⟨by omega, by omega⟩
theorem cmul_r (h : j.natAbs < 18446744073709551616) : CMul i j := .inr ⟨by omega, by omega⟩
theorem i_ixLr {xs : List V} {k : Int} (h : H b = some (.lst xs)) (e : atI xs k = some v) (q : Q v H) : rIxL K (.ref b) (.int k) H Q := ⟨b, xs, k, v, rfl, rfl, .inl (.inl h), e, q⟩
theorem i_sub {to ti : TE} {ts : TSet} {R : L2.St → Hp → Prop} (q : to σ H fun o H1 => ti σ H1 fun i H2 => ts o i v H2 fun H3 => R σ H3) : gSub to ti ts v σ H R := q
theorem i_setL {xs : List V} {k : Int} {n : Nat} {R : Hp → Prop} (h : H b = some (.lst xs)) (e : ixN xs.length k = some n) (q : ∀ H2, H2 b = some (.lst (xs.set n v)) → Ex (hid b H) (hid b H2) → R H2) : rSetL (.ref b) (.int k) v H R :=
  ⟨b, xs, k, n, rfl, rfl, h, e, q _ upd_same hid_upd⟩
theorem fmod_lt (a : Int) {b : Int} (hb : b ≠ 0) : (a.fmod b).natAbs < b.natAbs := by
  rcases Int.lt_or_gt_of_ne hb with h | h
  · rw [Int.fmod_eq_emod]
    have h1 := Int.emod_nonneg a hb
    have h2 := Int.emod_lt a hb
    have h3 : b ∣ a → a % b = 0 := Int.emod_eq_zero_of_dvd
    by_cases hd : b ∣ a
    · rw [if_pos (Or.inr hd), h3 hd]
      omega
    · rw [if_neg (by omega)]
      have h4 : a % b ≠ 0 := fun z => hd (Int.dvd_of_emod_eq_zero z)
      omega
  · have h1 := Int.fmod_nonneg_of_pos a h
    have h2 := Int.fmod_lt_of_pos a h
    omega
theorem sz_fmod {a : Nat} {i j : Int} (hj : j ≠ 0) (ha : Sz a j) : Sz a (i.fmod j) := sz_le ha (Nat.le_of_lt (fmod_lt i hj))
theorem i_qlenS {xs : List V} (h : SqL K H b xs) (q : Q (.int (xs.length : Int)) H) : qLen K [.ref b] H Q := ⟨b, xs, rfl, .inl h, q⟩
theorem i_sl {r : V → Option Int → Option Int → Hp → VK → Prop} {tl th : TO} (q : te σ H fun x H1 => tl σ H1 fun l H2 => th σ H2 fun u H3 => r x l u H3 Q) : tSl r te tl th σ H Q := q
theorem i_nopart {R : Option Int → Hp → Prop} (q : R none H) : tNoPart σ H R := q
theorem i_part {R : Option Int → Hp → Prop} (q : te σ H fun x H1 => ∃ i, x = .int i ∧ R (some i) H1) : tPart te σ H R := q
theorem i_part1 {R : Int → Prop} (q : R i) : ∃ k, V.int i = .int k ∧ R k := ⟨i, rfl, q⟩
theorem i_slL {xs : List V} {lo hi : Option Int} (h : SqL K H b xs) (q : ∀ p H2, H p = none → Ex H H2 → H2 p = some (.lst (cutV xs lo hi)) → Q (.ref p) H2) : rSlL K (.ref b) lo hi H Q := ⟨b, xs, rfl, h, fun p hp => q p _ hp (ex_upd hp) upd_same⟩
theorem i_sum {ns : List Int} (h : SqL K H b (ns.map V.int)) (q : Q (.int ns.sum) H) : rSum K [.ref b] H Q := ⟨b, ns, rfl, h, q⟩
theorem i_ixLs {xs : List V} {k : Int} (h : SqL K H b xs) (e : atI xs k = some v) (q : Q v H) : rIxL K (.ref b) (.int k) H Q := ⟨b, xs, k, v, rfl, rfl, h, e, q⟩
end
end Wb

namespace Wb
open PySem PySem.Spec PyProof.Rows L2
open Evl (Ex Ex.refl Ex.trans Ex.new)
local macro_rules | `(tactic| wtm_at "dp") => `(tactic| first | with_reducible assumption | with_reducible exact Dp.int _ | with_reducible exact Dp.bl _ | with_reducible exact Dp.str _ | with_reducible exact Dp.non | ((with_reducible refine' dpMono ?dme (by with_reducible assumption)); (case dme => wtm_at "ex")) | ((with_reducible refine' Dp.tup (Evl.st_of ?dph) ?dpa); (case dph => wtm_at "hs"); (case dpa => wtm_at "dpa")) | ((with_reducible refine' Dp.lst (Evl.sq_of ?dph) ?dpa); (case dph => wtm_at "hs"); (case dpa => wtm_at "dpa")))
local macro_rules | `(tactic| wtm_at "dpa") => `(tactic| first | with_reducible exact DpAll.nil | ((with_reducible refine' DpAll.cons ?dp1 ?dp2); (case dp1 => wtm_at "dp"); (case dp2 => wtm_at "dpa")) | with_reducible assumption | ((with_reducible refine' dpMonoA ?dme (by with_reducible assumption)); (case dme => wtm_at "ex")))
local macro_rules | `(tactic| wtm_at "sz") => `(tactic| first | with_reducible assumption | ((with_reducible refine' sz_mul ?sz1 ?sz2); (case sz1 => wtm_at "sz"); (case sz2 => wtm_at "sz")) | ((with_reducible refine' sz_add ?sz1 ?sz2); (case sz1 => wtm_at "sz"); (case sz2 => wtm_at "sz")) | ((with_reducible refine' sz_sub ?sz1 ?sz2); (case sz1 => wtm_at "sz"); (case sz2 => wtm_at "sz")) | ((with_reducible refine' sz_neg ?sz1); (case sz1 => wtm_at "sz")) | ((with_reducible refine' sz_div ?sz1); (case sz1 => wtm_at "sz")) | ((with_reducible refine' sz_fdiv ?sz1); (case sz1 => wtm_at "sz")) | exact sz_lit (by decide) | wtm_at "sz2")
local macro_rules | `(tactic| wtm_at "szb") => `(tactic| first | with_reducible assumption | ((with_reducible refine' sz_mono ?szb1 ?szb2); (case szb1 => wtm_at "sz"); (case szb2 => decide)))
local macro_rules | `(tactic| wtm_at "nz") => `(tactic| first | assumption | decide | omega)
local macro_rules | `(tactic| wtm_at "shaped") => `(tactic| first | rfl | decide)
local macro_rules | `(tactic| wtm_at "sset") => `(tactic| ((dsimp only [L2.wipe, List.set, List.set_cons_zero, List.set_cons_succ]) <;> exact rfl))
local macro_rules | `(tactic| wtm_at "nrm") => `(tactic| dsimp only [L2.start, L2.wipe, List.set, List.append, List.map, List.map_cons, List.map_nil, List.length_cons, List.length_nil, Nat.reduceAdd, Nat.reduceSub, List.reduceReplicate, List.replicate, List.cons_append, List.nil_append, List.set_cons_zero, List.set_cons_succ])
local macro_rules | `(tactic| wtm_at "st") => `(tactic| first
  | ((with_reducible refine' i_var (v := ?u0) ?u1 ?uq); (case u1 => exact rfl))
  | ((with_reducible refine' i_nameN ?u0 ?uq); (case u0 => wtm_at "sset"))
  | (with_reducible refine' i_op ?uq)
  | (with_reducible refine' i_c ?uq)
  | (with_reducible refine' i_I0 ?uq)
  | ((with_reducible refine' i_ixTI (i := ?u0) ?u1 ?u2 ?u3 ?uq); (case u1 => wtm_at "dp"); (case u2 => wtm_at "ex"); (case u3 => exact rfl))
  | ((with_reducible refine' i_ixT (d := ?u0) ?u1 ?u2 ?u3 (fun xu hxu => ?uq)); (case u1 => wtm_at "dp"); (case u2 => wtm_at "ex"); (case u3 => exact rfl))
  | ((with_reducible refine' i_mul ?u0 ?u1 ?u2 ?uq); (case u0 => wtm_at "sz"); (case u1 => wtm_at "sz"); (case u2 => first | decide | omega))
  | (with_reducible refine' i_seq ?uq)
  | (with_reducible refine' i_asg ?uq)
  | (with_reducible refine' i_ret ?uq)
  | (with_reducible refine' i_ifs ?uq)
  | (with_reducible refine' i_drop ?uq)
  | (with_reducible refine' i_next ?uq)
  | (with_reducible refine' i_cons ?uq)
  | (with_reducible refine' i_nil ?uq)
  | (with_reducible refine' i_cl ?uq)
  | (with_reducible refine' i_cb ?uq)
  | (with_reducible refine' i_tup ?uq)
  | (with_reducible refine' i_lst ?uq)
  | ((with_reducible refine' i_mkT ?u0 (fun np nH nhe nhp => ?uq)); (case u0 => exact Nat.le_of_ble_eq_true rfl))
  | (with_reducible refine' i_test ?uq)
  | (with_reducible refine' i_B ?uq)
  | (with_reducible refine' i_k ?uq)
  | (with_reducible refine' i_and ?uq)
  | (with_reducible refine' i_or ?uq)
  | (with_reducible refine' i_not ?uq)
  | (with_reducible refine' i_andV ?uq)
  | (with_reducible refine' i_orV ?uq)
  | (with_reducible refine' i_notV ?uq)
  | (with_reducible refine' i_if ?uq)
  | (with_reducible refine' i_un ?uq)
  | (with_reducible refine' i_U ?uq)
  | (with_reducible refine' i_iteT ?uq)
  | (with_reducible refine' i_iteF ?uq)
  | ((with_reducible refine' i_iteTr ?u0 ?uq); (case u0 => first | with_reducible rfl | decide | (simp only [dIsInt, dIsBool, dIsTup, dIsStr, dIsLst, Bool.not_true, Bool.not_false]; done)))
  | ((with_reducible refine' i_iteFr ?u0 ?uq); (case u0 => first | with_reducible rfl | decide | (simp only [dIsInt, dIsBool, dIsTup, dIsStr, dIsLst, Bool.not_true, Bool.not_false]; done)))
  | (with_reducible refine' i_ite (fun hif => ?uqa) (fun hif => ?uqb))
  | (with_reducible refine' i_iteN (fun hif => ?uqa) (fun hif => ?uqb))
  | (with_reducible refine' i_iteBN (fun hif => ?uqa) (fun hif => ?uqb))
  | (with_reducible refine' i_iteB (fun hif => ?uqa) (fun hif => ?uqb))
  | ((with_reducible refine' i_modN ?u0 ?uq); (case u0 => wtm_at "nz"))
  | ((with_reducible refine' i_fdX ?u0 ?u1 ?u2 ?uq); (case u0 => wtm_at "nz"); (case u1 => wtm_at "sz"); (case u2 => first | decide | omega))
  | ((with_reducible refine' i_pow ?u0 ?uq); (case u0 => exact ⟨by decide, by decide +kernel⟩))
  | (with_reducible refine' i_eqI ?uq)
  | (with_reducible refine' i_neI ?uq)
  | (with_reducible refine' i_gcd ?uq)
  | (with_reducible refine' i_qabs ?uq)
  | (with_reducible refine' i_qint ?uq)
  | (with_reducible refine' i_qintB ?uq)
  | (with_reducible refine' i_qmax2 ?uq)
  | (with_reducible refine' i_qmin2 ?uq)
  | (with_reducible refine' i_isB ?uq)
  | (with_reducible refine' i_notB ?uq)
  | (with_reducible refine' i_chain ?uq)
  | (with_reducible refine' i_qisN ?uq)
  | (with_reducible refine' i_qnotN ?uq)
  | (with_reducible refine' i_yes ?uq)
  | (with_reducible refine' i_par ?uq)
  | (with_reducible refine' i_par3 ?uq)
  | ((with_reducible refine' i_par2 ?u0 ?uq); (case u0 => wtm_at "sset"))
  | ((with_reducible refine' i_par33 ?u0 ?uq); (case u0 => wtm_at "sset"))
  | ((with_reducible refine' i_ixLI (i := ?u0) ?u1 ?u2 ?u3 ?uq); (case u1 => wtm_at "dp"); (case u2 => wtm_at "ex"); (case u3 => exact rfl))
  | ((with_reducible refine' i_ixL (d := ?u0) ?u1 ?u2 ?u3 (fun xu hxu => ?uq)); (case u1 => wtm_at "dp"); (case u2 => wtm_at "ex"); (case u3 => exact rfl))
  | ((with_reducible refine' i_qlenT ?u0 ?uq); (case u0 => wtm_at "dp"))
  | ((with_reducible refine' i_qlenL ?u0 ?uq); (case u0 => wtm_at "dp"))
  | ((with_reducible refine' i_gtup ?u0 ?u1 ?u2 (fun gvs gdp => ?uq)); (case u0 => wtm_at "dp"); (case u1 => wtm_at "ex"); (case u2 => exact rfl))
  | ((with_reducible refine' i_glst ?u0 ?u1 ?u2 (fun gvs gdp => ?uq)); (case u0 => wtm_at "dp"); (case u1 => wtm_at "ex"); (case u2 => exact rfl))
  | ((with_reducible refine' i_gconsI ?u0 (fun gr gh => ?uq)); (case u0 => with_reducible assumption))
  | ((with_reducible refine' i_gconsA ?u0 (fun gv gr gh1 gh2 => ?uq)); (case u0 => with_reducible assumption))
  | ((with_reducible refine' i_gnilA ?u0 ?uq); (case u0 => with_reducible assumption))
  | ((with_reducible refine' i_isiI ?u0 ?uq); (case u0 => wtm_at "dp"))
  | ((with_reducible refine' i_isiB ?u0 ?uq); (case u0 => wtm_at "dp"))
  | ((with_reducible refine' i_isiT ?u0 ?uq); (case u0 => wtm_at "dp"))
  | ((with_reducible refine' i_isiS ?u0 ?uq); (case u0 => wtm_at "dp"))
  | ((with_reducible refine' i_isiL ?u0 ?uq); (case u0 => wtm_at "dp"))
  | ((with_reducible refine' i_eqD ?u0 ?u1 ?u2 ?u3 ?uq); (case u0 => wtm_at "dp"); (case u1 => wtm_at "dp"); (case u2 => wtm_at "shaped"); (case u3 => wtm_at "shaped"))
  | ((with_reducible refine' i_neD ?u0 ?u1 ?u2 ?u3 ?uq); (case u0 => wtm_at "dp"); (case u1 => wtm_at "dp"); (case u2 => wtm_at "shaped"); (case u3 => wtm_at "shaped"))
  | wtm_at "st2"
  | wtm_at "use")
local macro_rules | `(tactic| wtm_at "go") => `(tactic| repeat' (wtm_at "st"))
local macro_rules | `(tactic| wtm_at "go0") => `(tactic| ((try dsimp only [L2.cxOf, L2.Cx.nox, L2.Cx.wish, L2.Cx.tr, L2.Cx.blk]); (try wtm_at "nrm"); wtm_at "go"))
local macro_rules | `(tactic| wtm_at "fin") => `(tactic| ((try dsimp only); first | with_reducible assumption | assumption | ((with_reducible refine' Ret.use ?rur ?rue ?rud); (case rur => with_reducible assumption); (case rue => wtm_at "ex"); (case rud => wtm_at "dp"))))
local macro_rules | `(tactic| wtm_at "exh") => `(tactic| first | with_reducible assumption | with_reducible exact Ex.refl _ | with_reducible exact ex_hid | ((with_reducible refine' Ex.trans ?exe (by with_reducible assumption)); (case exe => wtm_at "exh")) | ((with_reducible refine' Ex.trans ?exe (hid_ex (by with_reducible assumption))); (case exe => wtm_at "exh")))
local macro_rules | `(tactic| wtm_at "ex") => `(tactic| first | with_reducible assumption | with_reducible exact Ex.refl _ | with_reducible exact ex_hid | ((with_reducible refine' Ex.trans ?exe (by with_reducible assumption)); (case exe => wtm_at "ex")) | ((with_reducible refine' Ex.trans ?exe (hid_ex (by with_reducible assumption))); (case exe => wtm_at "ex")) | ((with_reducible refine' Ex.trans ?exe ex_hid); (case exe => wtm_at "exh")))
local macro_rules | `(tactic| wtm_at "bag") => `(tactic| first | with_reducible assumption | ((with_reducible refine' Bag.mono ?bgm (by with_reducible assumption)); (case bgm => wtm_at "bag")))
local macro_rules | `(tactic| wtm_at "hs") => `(tactic| first | with_reducible assumption | ((with_reducible refine' hid_tup ?hb ?hp); (case hp => with_reducible assumption); (case hb => wtm_at "bag")) | ((with_reducible refine' hid_new ?hb ?hn ?hp); (case hp => with_reducible assumption); (case hn => with_reducible assumption); (case hb => wtm_at "bag")) | ((with_reducible refine' ex_at ?exe (by with_reducible assumption)); (case exe => wtm_at "ex")))
local macro_rules | `(tactic| wtm_at "st2") => `(tactic| first
  | ((with_reducible refine' i_mulC ?u0 ?uq); (case u0 => first | exact cmul_l (by decide) | exact cmul_r (by decide)))
  | ((with_reducible refine' i_ixLr (v := ?u0) ?u1 ?u2 ?uq); (case u1 => with_reducible assumption); (case u2 => exact rfl))
  | (with_reducible refine' i_sub ?uq)
  | ((with_reducible refine' i_mkL ?u0 (fun np nH nfr nhe nhp => ?uq)); (case u0 => exact Nat.le_of_ble_eq_true rfl))
  | ((with_reducible refine' i_setL (n := ?u0) ?u1 ?u2 (fun sH sh se => ?uq)); (case u1 => with_reducible assumption); (case u2 => exact rfl))
  | (with_reducible refine' i_sl ?uq)
  | (with_reducible refine' i_nopart ?uq)
  | (with_reducible refine' i_part ?uq)
  | (with_reducible refine' i_part1 ?uq))
local macro_rules | `(tactic| wtm_at "sz2") => `(tactic| ((with_reducible refine' sz_fmod ?sz1 ?sz2); (case sz1 => wtm_at "nz"); (case sz2 => wtm_at "sz")))
local macro_rules | `(tactic| wtm_at "stb") => `(tactic| first
  | ((with_reducible refine' i_mkTB ?u0 ?u1 (fun np nH nhe nhb nhp => ?uq)); (case u0 => exact Nat.le_of_ble_eq_true rfl); (case u1 => wtm_at "bag"))
  | ((with_reducible refine' i_mkLB ?u0 ?u1 (fun np nH nfr nhe nhb nhp => ?uq)); (case u0 => exact Nat.le_of_ble_eq_true rfl); (case u1 => wtm_at "bag"))
  | wtm_at "st")
local macro_rules | `(tactic| wtm_at "gob") => `(tactic| repeat' (wtm_at "stb"))
local macro_rules | `(tactic| wtm_at "gob0") => `(tactic| ((try dsimp only [L2.cxOf, L2.Cx.nox, L2.Cx.wish, L2.Cx.tr, L2.Cx.blk]); (try wtm_at "nrm"); wtm_at "gob"))
structure G (mg : Str → Option Value) : Prop where
  f_len : mg "len" = none
  f_abs : mg "abs" = none
  f_int : mg "int" = none
  f_str : mg "str" = none
  f_bool : mg "bool" = none
  f_tuple : mg "tuple" = none
  f_list : mg "list" = none
  f_dict : mg "dict" = none
  f_isinstance : mg "isinstance" = none
  f_all : mg "all" = none
  f_any : mg "any" = none
  f_max : mg "max" = none
  f_min : mg "min" = none
  f_sum : mg "sum" = none
  f_sorted : mg "sorted" = none
  f_range : mg "range" = none
  c_MAX_ENTRIES : ∃ t, mg "MAX_ENTRIES" = some (.int 300 t)
  c_MOST : ∃ t, mg "MOST" = some (.int 4 t)
  c_LEAST : ∃ t, mg "LEAST" = some (.int 2 t)
  c_LEAF : ∃ t, mg "LEAF" = some (.str "leaf" t)
  c_NODE : ∃ t, mg "NODE" = some (.str "node" t)
abbrev FnP (K : PySem.W.Frag) (x : Str) (st : Stmt) (f : Addr) (fd : FuncData) : Prop := FunD K x x (defArgs st) (defBody st) (defScope st) [] [] f fd
section
variable {P : Program} {w : World} {K : PySem.W.Frag} {mg : Str → Option Value} {base : Heap} {H H' : Hp} {Q : VK} {E : XK} {v1 v2 v3 v4 v5 : V}
def kA (vs : List V) : TA := fun _ H R => R vs H
section
variable {σ : L2.St} {tu : TS} {D : Ends} {j : Nat} {vs : List Nat} {te : TE} {tt : TT}
theorem i_forRU {ta : TA} (q : ta σ H fun vs H1 => tFor (iRng1 (kA vs)) (gName j) tu D σ H1) : tFor (iRng1 ta) (gName j) tu D σ H := q
theorem i_lcRU {ta : TA} (q : ta σ H fun us H1 => tLc (iRng1 (kA us)) (gName j) tt te vs σ H1 Q) : tLc (iRng1 ta) (gName j) tt te vs σ H Q := q
theorem i_forRK {n : Int} (hn : 0 ≤ n ∧ n ≤ 100000) (Pv : Nat → L2.St → Hp → Prop) (h0 : Pv 0 σ H)
    (hs : ∀ (i : Nat) σ' H', (i : Int) < n → Pv i σ' H' → tu { D with nx := Pv (i + 1), ct := Pv (i + 1), bk := D.nx } (σ'.set j (some (.int (i : Int)))) H') (hd : ∀ σ' H', Pv n.toNat σ' H' → D.nx σ' H') : tFor (iRng1 (kA [.int n])) (gName j) tu D σ H :=
  ⟨n, rfl, by omega, by omega, for_range (lo := 0) (n := n.toNat) Pv h0 (fun i σ' H' hi p => by
    have e0 : (0 : Int) + (i : Int) = (i : Int) := Int.zero_add _
    show tu { D with nx := Pv (i + 1), ct := Pv (i + 1), bk := D.nx } (σ'.set j (some (.int ((0 : Int) + (i : Int))))) H'
    rw [e0]
    exact hs i σ' H' (by omega) p) hd⟩
theorem ex_hidD {b D0 : Addr} {H H' : Hp} {o : HO} (hD : H D0 = none) (e : Ex (hid b H) (hid b H')) : Ex (hid b H) (hid b (upd H' D0 o)) := fun a u h => by
  have h1 := of_hid h
  have hne : a ≠ D0 := ne_of_none h1.2 hD
  have h2 := of_hid (e a u h)
  exact hid_of (by rw [upd_ne hne]; exact h2.2) h2.1
theorem bag_upd {b D0 : Addr} {H : Hp} {o : HO} (hne : D0 ≠ b) (h : Bag b H) : Bag b (upd H D0 o) := by
  obtain ⟨x, y, z, h1, h2, h3⟩ := h.ex
  exact ⟨x, y, z, by rw [upd_ne (Ne.symm hne)]; exact h1, h2, h3⟩
theorem i_lcRB {b : Addr} {P : Int → Prop} {n : Nat} (hb : Bag b H) (hn : n ≤ 1000) (hw : ∀ x, wipe ((wipe σ vs).set j (some x)) vs = wipe σ vs)
    (he : ∀ (i : Nat) (H2 : Hp) (R : VK), Ex (hid b H) (hid b H2) → Bag b H2 → (∀ m H3, P m → Ex (hid b H2) (hid b H3) → Bag b H3 → R (.int m) H3) → te ((wipe σ vs).set j (some (.int (i : Int)))) H2 R)
    (q : ∀ p (ms : List Int) H2, ms.length = n → (∀ m ∈ ms, P m) → Ex (hid b H) (hid b H2) → Bag b H2 → hid b H2 p = some (.lst (ms.map V.int)) → Q (.ref p) H2) : tLc (iRng1 (kA [.int (n : Int)])) (gName j) tYes te vs σ H Q := by
  refine ⟨(n : Int), rfl, by omega, by omega, fun D0 hD => ?_⟩
  have hne : D0 ≠ b := hb.ne hD
  refine lc_range (lo := 0) (n := ((n : Int)).toNat) (fun i H' => Ex (hid b H) (hid b H') ∧ Bag b H' ∧ ∃ ms : List Int, ms.length = i ∧ (∀ m ∈ ms, P m) ∧ H' D0 = some (.lst (ms.map V.int))) ⟨ex_hidD hD (Ex.refl _), bag_upd hne hb, [], rfl, by simp, upd_same⟩ (fun i H' hi p => ?_) (fun H' p => ?_)
  · obtain ⟨p1, p2, ms, p3, p4, p5⟩ := p
    have e0 : (0 : Int) + (i : Int) = (i : Int) := Int.zero_add _
    show wipe ((wipe σ vs).set j (some (.int ((0 : Int) + (i : Int))))) vs = wipe σ vs ∧ tYes ((wipe σ vs).set j (some (.int ((0 : Int) + (i : Int))))) H' fun b' H3 => _
    rw [e0]
    refine ⟨hw _, he i H' _ p1 p2 fun m H3 hm e3 b3 => ?_⟩
    have hD3 : H3 D0 = some (.lst (ms.map V.int)) := (of_hid (e3 _ _ (hid_of p5 hne))).2
    refine ⟨_, hD3, Evl.sz_lt (by rw [List.length_map]; omega), ex_hidD hD (p1.trans e3), bag_upd hne b3, ms ++ [m], by simp [p3], ?_, by rw [upd_same, List.map_append]; rfl⟩
    intro m' hm'
    rcases List.mem_append.mp hm' with h | h
    · exact p4 m' h
    · rcases List.mem_singleton.mp h with rfl
      exact hm
  · obtain ⟨p1, p2, ms, p3, p4, p5⟩ := p
    exact q D0 ms H' (by omega) p4 p1 p2 (hid_of p5 hne)
end
theorem len6 {ms : List Int} (h : ms.length = 6) : ∃ a b c d e f, ms = [a, b, c, d, e, f] := by
  match ms, h with
  | [a, b, c, d, e, f], _ => exact ⟨a, b, c, d, e, f, rfl⟩
theorem i_bm {T : String} {r : V → List V → Hp → VK → Prop} {to : TE} {t : TA} {σ : L2.St} (q : to σ H fun x H1 => tyV K T x H1 ∧ t σ H1 fun xs H2 => r x xs H2 Q) : tBM K T r to t σ H Q := q
theorem i_tyL {a : Addr} {xs : List V} {R : Prop} (h : SqL K H a xs) (q : R) : tyV K "list" (.ref a) H ∧ R := ⟨.inl ⟨rfl, xs, h⟩, q⟩
theorem dpTakeN : ∀ {n : Nat} {us : List V} {ds : List PyData}, DpAll K H us ds → DpAll K H (us.take n) (ds.take n)
  | 0, _, _, _ => by rw [List.take_zero, List.take_zero]; exact .nil
  | _ + 1, _, _, .nil => .nil
  | _ + 1, _, _, .cons h t => .cons h (dpTakeN t)
theorem dpDropN : ∀ {n : Nat} {us : List V} {ds : List PyData}, DpAll K H us ds → DpAll K H (us.drop n) (ds.drop n)
  | 0, _, _, h => h
  | _ + 1, _, _, .nil => .nil
  | n + 1, _ :: us, _ :: ds, .cons _ t => by
    rw [List.drop_succ_cons, List.drop_succ_cons]
    exact dpDropN t
theorem dpAppN : ∀ {us us' : List V} {ds ds' : List PyData}, DpAll K H us ds → DpAll K H us' ds' → DpAll K H (us ++ us') (ds ++ ds')
  | _, _, _, _, .nil, h => h
  | _, _, _, _, .cons h t, h' => .cons h (dpAppN t h')
def sp__law_draw (K : PySem.W.Frag) : Sp := A2 fun v1 v2 H Q => ∃ (b : Addr) (t : Int), v1 = .ref b ∧ v2 = .int t ∧ Bag b H ∧ 0 < t ∧ Sz 9000 t ∧ ∀ n H2, 0 ≤ n → n < t → Ex (hid b H) (hid b H2) → Bag b H2 → Q (.int n) H2
abbrev s__law_draw : Stmt := top 58
theorem sc__law_draw : FnScope ["_law_bag_here", "_law_total", "_law_found", "_law_one", "_law_two"] ["_law_bag_here", "_law_total"] (defScope s__law_draw) := ⟨rfl, rfl, rfl, by decide +kernel, rfl, by decide +kernel, by decide +kernel⟩
theorem ok__law_draw {f : Addr} {fd : FuncData} (F : FnP K "_law_draw" s__law_draw f fd) (g : G mg)   : FnOk P w K mg base CX0 1 f fd ["_law_bag_here", "_law_total"] (sp__law_draw K) := by
  have nd := sc__law_draw.nd
  refine F.ok sc__law_draw (fun vs H Q E h => h.len) (fun cdv A outer s H vs Q E hr h => ?_)
  obtain ⟨v1, v2, rfl, h⟩ := h
  refine ⟨_, PSs.nox (pss_cons (ps_if (pt_cmpR op_gt (pe_ix ix_list (pv 0) pe_int (fun _ _ => rfl)) pe_int (nomark _)) (pss_cons (ps_set (i := 2) nd rfl (Or.inl rfl) (pe_op op_modN (pe_callTy call_qint1 (by rfl) g.f_int boot_int (pa_cons (pe_ix ix_list (pv 0) pe_int (fun _ _ => rfl)) pa_nil)) (pv 1))) (pss_cons (ps_asg (pe_op op_fdivX (pe_ix ix_list (pv 0) pe_int (fun _ _ => rfl)) (pv 1)) (pg_sub (pv 0) pe_int set_list)) (pss_one (ps_ret (pv 2))))) pss_nil) (pss_cons (ps_asg (pe_op op_add (pe_ix ix_list (pv 0) pe_int (fun _ _ => rfl)) pe_int) (pg_sub (pv 0) pe_int set_list)) (pss_cons (ps_set (i := 3) nd rfl (Or.inl rfl) (pe_op op_modN (pe_callTy call_qint1 (by rfl) g.f_int boot_int (pa_cons (pe_op op_add (pe_ix ix_list (pv 0) pe_int (fun _ _ => rfl)) (pe_op op_mul pe_int (pe_ix ix_list (pv 0) pe_int (fun _ _ => rfl)))) pa_nil)) pe_int)) (pss_cons (ps_set (i := 4) nd rfl (Or.inl rfl) (pe_op op_add (pe_op op_mulX (pe_op op_modN (pe_callTy call_qint1 (by rfl) g.f_int boot_int (pa_cons (pe_op op_mulX (pv 3) (pv 3)) pa_nil)) pe_int) (pv 3)) (pe_op op_mul pe_int (pe_ix ix_list (pv 0) pe_int (fun _ _ => rfl))))) (pss_one (ps_ret (pe_op op_modN (pe_callTy call_qint1 (by rfl) g.f_int boot_int (pa_cons (pe_op op_fdivX (pe_op op_modN (pe_callTy call_qint1 (by rfl) g.f_int boot_int (pa_cons (pv 4) pa_nil)) pe_int) pe_int) pa_nil)) (pv 1)))))))), ?_⟩
  obtain ⟨b, t, rfl, rfl, hb, ht, st, q⟩ := h
  obtain ⟨x, y, z, hb1, hx, sx⟩ := hb.ex
  have nt : t ≠ 0 := by omega
  wtm_at "go0"
  · dsimp only
    rename_i H2 sh se
    refine q _ _ (Int.fmod_nonneg_of_pos _ ht) (Int.fmod_lt_of_pos _ ht) (by wtm_at "ex") ⟨_, _, _, sh, ?_, sz_fdiv sx⟩
    rw [Int.fdiv_eq_ediv_of_nonneg _ (by omega)]
    exact Int.ediv_nonneg hx (by omega)
  · dsimp only
    rename_i H2 sh se
    exact q _ _ (Int.fmod_nonneg_of_pos _ ht) (Int.fmod_lt_of_pos _ ht) (by wtm_at "ex") ⟨_, _, _, sh, hx, sx⟩
theorem use__law_draw {b : Addr} {t : Int} (hb : Bag b H) (ht : 0 < t) (st : Sz 9000 t) (q : ∀ n H2, 0 ≤ n → n < t → Ex (hid b H) (hid b H2) → Bag b H2 → Q (.int n) H2) : sp__law_draw K [.ref b, .int t] H Q E := ⟨_, _, rfl, _, _, rfl, rfl, hb, ht, st, q⟩
def sp__law_bag (K : PySem.W.Frag) : Sp := A2 fun v1 v2 H Q => ∃ (a : Addr) (ns : List Int) (k : Int), v1 = .ref a ∧ v2 = .int k ∧ SqL K H a (ns.map V.int) ∧ 0 ≤ k ∧ k < 100 ∧ ∀ b H2, H b = none → Ex H H2 → Bag b H2 → Q (.ref b) H2
theorem great_pos : (0 : Int) < ((10 : Int) ^ (47 : Int).toNat) ^ (13 : Int).toNat := by decide +kernel
theorem great_sz : Sz 2100 (((10 : Int) ^ (47 : Int).toNat) ^ (13 : Int).toNat) := by
  unfold Sz
  decide +kernel
theorem bag_x {g m : Int} (hm : 0 < m) (sm : Sz 2100 m) (c : Int) : 0 ≤ (if g.fmod m - c > 0 then g.fmod m - c else 0) ∧ (0 ≤ c → Sz 2100 (if g.fmod m - c > 0 then g.fmod m - c else 0)) := by
  have h0 := Int.fmod_nonneg_of_pos g hm
  have h1 := Int.fmod_lt_of_pos g hm
  refine ⟨by split <;> omega, fun hc => sz_le sm ?_⟩
  split <;> omega
theorem atI_ok {ns : List Int} {k : Int} (h0 : 0 ≤ k) (h : k < ((ns.map V.int).length : Int)) : ∃ c, atI (ns.map V.int) k = some (.int c) := by
  rw [List.length_map] at h
  obtain ⟨j, rfl⟩ : ∃ j : Nat, k = j := ⟨k.toNat, by omega⟩
  have hk : j < ns.length := by omega
  exact ⟨ns[j], atI_nat (by
    rw [List.getElem?_map, List.getElem?_eq_getElem hk]
    rfl)⟩
theorem cut_ints (ns : List Int) (lo hi : Option Int) : ∃ ms : List Int, cutV (ns.map V.int) lo hi = ms.map V.int := by
  unfold cutV
  exact ⟨_, by rw [← List.map_drop, ← List.map_take]⟩
theorem atD {ds : List PyData} {k : Int} (h0 : 0 ≤ k) (h : k < (ds.length : Int)) : ∃ d, d ∈ ds ∧ atI ds k = some d := by
  obtain ⟨j, rfl⟩ : ∃ j : Nat, k = j := ⟨k.toNat, by omega⟩
  have hk : j < ds.length := by omega
  refine ⟨ds[j], List.getElem_mem hk, ?_⟩
  exact atI_nat (List.getElem?_eq_getElem hk)
theorem i_ixLh {b : Addr} {v : V} {ds : List PyData} {k : Int} {d : PyData} (h : Dp K (hid b H) v (.list ds)) (e : atI ds k = some d) (q : ∀ u, Dp K (hid b H) u d → Q u H) : rIxL K v (.int k) H Q := by
  obtain ⟨a, vs, rfl, hs, ha⟩ := dpLst h
  obtain ⟨u, e1, e2⟩ := dpAt ha e
  exact ⟨a, vs, k, _, rfl, rfl, Evl.ex_l ex_hid hs, e1, q u e2⟩
abbrev s__law_bag : Stmt := top 57
theorem sc__law_bag : FnScope ["_law_script", "_law_at", "_law_cell", "_law_great", "_law_mixed"] ["_law_script", "_law_at"] (defScope s__law_bag) := ⟨rfl, rfl, rfl, by decide +kernel, rfl, by decide +kernel, by decide +kernel⟩
theorem ok__law_bag {f : Addr} {fd : FuncData} (F : FnP K "_law_bag" s__law_bag f fd) (g : G mg)   : FnOk P w K mg base CX0 1 f fd ["_law_script", "_law_at"] (sp__law_bag K) := by
  have nd := sc__law_bag.nd
  refine F.ok sc__law_bag (fun vs H Q E h => h.len) (fun cdv A outer s H vs Q E hr h => ?_)
  obtain ⟨v1, v2, rfl, h⟩ := h
  refine ⟨_, PSs.nox (pss_cons (ps_set (i := 2) nd rfl (Or.inl rfl) (pe_ifExp (pt_cmpR op_lt (pv 1) (pe_callB call_qlen (by rfl) g.f_len boot_len (pa_cons (pv 0) pa_nil)) (nomark _)) (pe_ix ix_list (pv 0) (pv 1) (fun _ _ => rfl)) (pe_op op_add (pe_op op_add (pe_callB (cr_sum rfl) (by rfl) g.f_sum boot_sum (pa_cons (pe_slice sl_list (pv 0) po_none (po_some pe_int)) pa_nil)) (pe_op op_mul pe_int (pv 1))) pe_int))) (pss_cons (ps_set (i := 3) nd rfl (Or.inl rfl) (pe_op op_modN (pe_callTy call_qint1 (by rfl) g.f_int boot_int (pa_cons (pe_callB call_qabs (by rfl) g.f_abs boot_abs (pa_cons (pv 2) pa_nil)) pa_nil)) (pe_op op_powX (pe_op op_powX pe_int pe_int) pe_int))) (pss_cons (ps_set (i := 4) nd rfl (Or.inl rfl) (pe_op op_add (pe_op op_add (pe_op op_add (pe_op op_mul (pe_op op_modN (pe_callTy call_qint1 (by rfl) g.f_int boot_int (pa_cons (pv 3) pa_nil)) pe_int) pe_int) (pe_op op_mul pe_int (pv 1))) (pe_op op_mul pe_int (pe_callTy call_qint1 (by rfl) g.f_int boot_int (pa_cons (pe_cmpR op_lt (pv 2) pe_int (nomark _)) pa_nil)))) pe_int)) (pss_one (ps_ret (pe_lst (pa_cons (pe_callB (call_qmax2 rfl) (by rfl) g.f_max boot_max (pa_cons pe_int (pa_cons (pe_op op_sub (pv 3) (pe_op op_powX pe_int pe_int)) pa_nil))) (pa_cons (pe_op op_modN (pe_callTy call_qint1 (by rfl) g.f_int boot_int (pa_cons (pv 4) pa_nil)) pe_int) (pa_cons pe_int pa_nil))))))))), ?_⟩
  obtain ⟨a, ns, k, rfl, rfl, hS, hk, hk2, q⟩ := h
  have hg := great_pos
  have hgn : ((10 : Int) ^ (47 : Int).toNat) ^ (13 : Int).toNat ≠ 0 := by omega
  wtm_at "go0"
  refine i_qlenS hS ?_
  wtm_at "go"
  · rename_i hlt
    obtain ⟨c, hc⟩ := atI_ok hk hlt
    refine i_ixLs hS hc ?_
    wtm_at "go"
    dsimp only
    rename_i b H2 hn he hb
    exact q b H2 hn (by wtm_at "ex") ⟨_, _, _, hb, (bag_x hg great_sz _).1, (bag_x hg great_sz _).2 (by decide)⟩
  · refine i_slL hS (fun p H2 hp e2 h2 => ?_)
    obtain ⟨ms, hms⟩ := cut_ints ns none (some 1)
    rw [hms] at h2
    wtm_at "go"
    refine i_sum (Evl.sq_of h2) ?_
    wtm_at "go"
    dsimp only
    rename_i b H2 hn he hb
    exact q b H2 (Evl.fresh_back e2 hn) (by wtm_at "ex") ⟨_, _, _, hb, (bag_x hg great_sz _).1, (bag_x hg great_sz _).2 (by decide)⟩
theorem use__law_bag {a : Addr} {ns : List Int} {k : Int} (hS : SqL K H a (ns.map V.int)) (h0 : 0 ≤ k) (h1 : k < 100) (q : ∀ b H2, H b = none → Ex H H2 → Bag b H2 → Q (.ref b) H2) : sp__law_bag K [.ref a, .int k] H Q E := ⟨_, _, rfl, _, _, _, rfl, rfl, hS, h0, h1, q⟩
def sp__law_one_of (K : PySem.W.Frag) : Sp := A2 fun v1 v2 H Q => ∃ (b : Addr) (ds : List PyData), v1 = .ref b ∧ Bag b H ∧ Dp K (hid b H) v2 (.list ds) ∧ 0 < ds.length ∧ ds.length ≤ 1000 ∧ ∀ d v H2, d ∈ ds → Ex (hid b H) (hid b H2) → Bag b H2 → Dp K (hid b H2) v d → Q v H2
local macro_rules | `(tactic| wtm_at "use") => `(tactic| ((with_reducible refine' use__law_draw ?u0 ?u1 ?u2 (fun dn dH dn0 dn1 de db => ?uq)); (case u0 => wtm_at "bag"); (case u1 => wtm_at "pos"); (case u2 => wtm_at "szb")))
local macro_rules | `(tactic| wtm_at "pos") => `(tactic| first | assumption | decide | omega)
abbrev s__law_one_of : Stmt := top 59
theorem sc__law_one_of : FnScope ["_law_bag_here", "_law_items"] ["_law_bag_here", "_law_items"] (defScope s__law_one_of) := ⟨rfl, rfl, rfl, by decide +kernel, rfl, by decide +kernel, by decide +kernel⟩
theorem ok__law_one_of {f : Addr} {fd : FuncData} (F : FnP K "_law_one_of" s__law_one_of f fd) (g : G mg) (c__law_draw : Cl P w K mg base 1 "_law_draw" (sp__law_draw K))  : FnOk P w K mg base CX0 2 f fd ["_law_bag_here", "_law_items"] (sp__law_one_of K) := by
  have nd := sc__law_one_of.nd
  refine F.ok sc__law_one_of (fun vs H Q E h => h.len) (fun cdv A outer s H vs Q E hr h => ?_)
  obtain ⟨v1, v2, rfl, h⟩ := h
  refine ⟨_, PSs.nox (pss_one (ps_ret (pe_ix ix_list (pv 1) (pc c__law_draw hr (by decide) (by rfl) (pa_cons (pv 0) (pa_cons (pe_callB call_qlen (by rfl) g.f_len boot_len (pa_cons (pv 1) pa_nil)) pa_nil))) (fun _ _ => rfl)))), ?_⟩
  obtain ⟨b, ds, rfl, hb, hd, h0, h1, q⟩ := h
  have hl : Sz 9000 (ds.length : Int) := sz_mono (sz_lit (by omega)) (by decide)
  wtm_at "go0"
  dsimp only
  rename_i n H2 n0 n1 de db
  obtain ⟨d, hm, hat⟩ := atD n0 n1
  exact i_ixLh (b := b) (dpMono de hd) hat fun u hu => q d u H2 hm de db hu
theorem use__law_one_of {b : Addr} {ds : List PyData} (hb : Bag b H) (hd : Dp K (hid b H) v2 (.list ds)) (h0 : 0 < ds.length) (h1 : ds.length ≤ 1000) (q : ∀ d v H2, d ∈ ds → Ex (hid b H) (hid b H2) → Bag b H2 → Dp K (hid b H2) v d → Q v H2) : sp__law_one_of K [.ref b, v2] H Q E := ⟨_, _, rfl, _, _, rfl, hb, hd, h0, h1, q⟩
local macro_rules | `(tactic| wtm_at "oneof") => `(tactic| ((with_reducible refine' use__law_one_of ?u0 ?u1 ?u2 ?u3 ?uq); (case u0 => wtm_at "bag"); (case u1 => wtm_at "dp"); (case u2 => exact Nat.le_of_ble_eq_true rfl); (case u3 => exact Nat.le_of_ble_eq_true rfl)))
def rPopA : V → List V → Hp → VK → Prop := fun x vs H Q => ∃ (l : Addr) (xs : List V) (i : Int) (k : Nat) (y : V), x = .ref l ∧ vs = [.int i] ∧ H l = some (.lst xs) ∧ -(2 ^ 63) ≤ i ∧ i < 2 ^ 63 ∧ seqIndex? i xs.length = some k ∧ xs[k]? = some y ∧ Q y (upd H l (.lst (xs.eraseIdx k)))
theorem mt_popA {X : Cx} : MtM X "list.pop" rPopA := mt_popAt
theorem pe_bmK {X : Cx} {K : PySem.W.Frag} {T : String} {name : Str} {id : String} {r : V → List V → Hp → VK → Prop} {o : Expr} {to : TE} {e : Expr} {es : List Expr} {t : TA} {apos cpos : Pos} (pa : PlainAttrs T) (slot : Slot T name id) (hty : typeOf (.builtin id) = pure (.type "method_descriptor")) (hm : MtM X id r) (ho : PE X o to) (ha : PA X (e :: es) t)
    (hbase : attributeBase o name X.env (eval o X.env) = eval o X.env := by rfl)
    (hfew : ((backTo cpos (starEach (e :: es) X.env)).all (fun x => !x.1) && (backToKw cpos (keywordEach [] X.env)).all (fun x => x.1.isSome)
      && decide ((e :: es).length + ([] : List Keyword).length + (if ([] : List Keyword).isEmpty then 0 else 1) < 30)) = true := by rfl)
    (hline : (apos.endLine == cpos.line) = true := by rfl) (hs : starEach (e :: es) X.env = (false, eval e X.env) :: starEach es X.env := by rfl) (hplain : (backTo cpos (starEach es X.env)).any (·.1) = false := by rfl) (hK : X.K = K := by rfl) :
    PE X (.Call (.Attribute o name apos) (e :: es) [] cpos) (tBM K T r to t) := by
  subst hK
  exact pe_bm pa slot hty hm ho ha hbase hfew hline hs hplain
local macro_rules | `(tactic| wtm_at "st2") => `(tactic| (first | ((with_reducible refine' i_qlenS ?u0 ?uq); (case u0 => with_reducible assumption)) | fail))
local macro_rules | `(tactic| wtm_at "st2") => `(tactic| (with_reducible refine' i_bm ?uq))
local macro_rules | `(tactic| wtm_at "st2") => `(tactic| (first | ((with_reducible refine' i_tyL ?u0 ?uq); (case u0 => with_reducible assumption)) | fail))
def sp__law_shuffled (K : PySem.W.Frag) : Sp := A2 fun v1 v2 H Q => ∃ (b : Addr) (ds : List PyData), v1 = .ref b ∧ Bag b H ∧ Dp K (hid b H) v2 (.list ds) ∧ ds.length ≤ 60 ∧ ∀ (es : List PyData) (a : Addr) (us : List V) H2, es.Perm ds → Ex (hid b H) (hid b H2) → Bag b H2 → hid b H2 a = some (.lst us) → DpAll K (hid b H2) us es → Q (.ref a) H2
theorem seqNat {k n : Nat} (h : k < n) : seqIndex? (k : Int) n = some k := by
  unfold seqIndex?
  have h1 : ¬ ((k : Int) < 0) := by omega
  simp only [h1, if_false]
  have h2 : (decide (0 ≤ (k : Int)) && decide ((k : Int) < (n : Int))) = true := by
    rw [decide_eq_true (by omega), decide_eq_true (by omega)]
    rfl
  rw [h2]
  rfl
theorem dpErase {G : Hp} {us : List V} {ds : List PyData} (k : Nat) (h : DpAll K G us ds) : DpAll K G (us.eraseIdx k) (ds.eraseIdx k) := by
  rw [List.eraseIdx_eq_take_drop_succ, List.eraseIdx_eq_take_drop_succ]
  exact dpAppN (dpTakeN h) (dpDropN h)
theorem perm_erase {l : List PyData} {k : Nat} (h : k < l.length) : ([l[k]] ++ l.eraseIdx k).Perm l := by
  rw [List.eraseIdx_eq_take_drop_succ]
  have e : l = l.take k ++ l[k] :: l.drop (k + 1) := by
    rw [List.getElem_cons_drop, List.take_append_drop]
  have h2 := (List.perm_middle (a := l[k]) (l₁ := l.take k) (l₂ := l.drop (k + 1))).symm
  rw [← e] at h2
  exact h2
def shW (K : PySem.W.Frag) (b wa D : Addr) (ds : List PyData) (H : Hp) : Nat → Hp → Prop := fun i H' => ∃ (ws acc : List V) (rest es : List PyData), H' wa = some (.lst ws) ∧ H' D = some (.lst acc) ∧ DpAll K (hid b H) ws rest ∧ DpAll K (hid b H) acc es ∧ (es ++ rest).Perm ds ∧ es.length = i ∧ Ex (hid b H) (hid b H') ∧ Bag b H'
abbrev s__law_shuffled : Stmt := top 60
theorem sc__law_shuffled : FnScope ["_law_bag_here", "_law_items", "_law_waits", "_law_turn"] ["_law_bag_here", "_law_items"] (defScope s__law_shuffled) := ⟨rfl, rfl, rfl, by decide +kernel, rfl, by decide +kernel, by decide +kernel⟩
theorem ok__law_shuffled {f : Addr} {fd : FuncData} (F : FnP K "_law_shuffled" s__law_shuffled f fd) (g : G mg) (c__law_draw : Cl P w K mg base 1 "_law_draw" (sp__law_draw K))  : FnOk P w K mg base CX0 2 f fd ["_law_bag_here", "_law_items"] (sp__law_shuffled K) := by
  have nd := sc__law_shuffled.nd
  refine F.ok sc__law_shuffled (fun vs H Q E h => h.len) (fun cdv A outer s H vs Q E hr h => ?_)
  obtain ⟨v1, v2, rfl, h⟩ := h
  refine ⟨_, PSs.nox (pss_cons (ps_set (i := 2) nd rfl (Or.inr rfl) (pe_callTy call_qlist (by rfl) g.f_list boot_list (pa_cons (pv 1) pa_nil))) (pss_one (ps_ret (pe_lc (own := [("_law_turn", 3)]) (g := gName 3) (by rfl) nd (pi_range1 (by rfl) g.f_range (pa_cons (pe_callB call_qlen (by rfl) g.f_len boot_len (pa_cons (pv 1) pa_nil)) pa_nil)) (blkOk_by (N := ["_law_bag_here", "_law_items", "_law_waits", "_law_turn"]) (sc := defScope s__law_shuffled) (own := [("_law_turn", 3)]) (by decide +kernel)) (fun _ _ _ _ _ => (pg_name (i := 3) nd rfl (Or.inl rfl))) (fun _ _ _ _ _ => pts_nil) (fun _ _ _ _ _ => (pe_bmK (K := K) PySem.F.plainAttrs_list PySem.F.slot_list_pop PySem.F.type_list_pop mt_popA (pv 2) (pa_cons (pc c__law_draw hr (by decide) (by rfl) (pa_cons (pv 0) (pa_cons (pe_callB (show CallR _ _ (qLen K) from call_qlen) (by rfl) g.f_len boot_len (pa_cons (pv 2) pa_nil)) pa_nil))) pa_nil))))))), ?_⟩
  obtain ⟨b, ds, rfl, hb, hd, hl, q⟩ := h
  obtain ⟨a, us, rfl, hs, ha⟩ := dpLst hd
  wtm_at "gob0"
  refine ⟨a, us, rfl, .inl (Evl.ex_l ex_hid hs), fun wa wn => ?_⟩
  have e1 : Ex H (upd H wa (.lst us)) := Ex.new wn
  have e1' := e1
  have hd1 : Dp K (upd H wa (.lst us)) (.ref a) (.list ds) := dpMono (ex_hid.trans e1) hd
  have hwb : wa ≠ b := hb.ne wn
  have b1 : Bag b (upd H wa (.lst us)) := hb.mono e1
  have hw1 : upd H wa (.lst us) wa = some (.lst us) := upd_same
  have ex1 : Ex (hid b H) (hid b (upd H wa (.lst us))) := hid_ex e1
  generalize upd H wa (.lst us) = H1 at *
  wtm_at "gob"
  refine i_lcRU ?_
  wtm_at "gob"
  refine ⟨_, rfl, by omega, by omega, fun D hD => lc_range (lo := 0) (n := ((ds.length : Int)).toNat) (shW K b wa D ds H) ?_ (fun i H' hi p => ?_) (fun H' p => ?_)⟩
  · have hDb : D ≠ b := b1.ne hD
    have hDw : D ≠ wa := fun z => by rw [z, hw1] at hD; cases hD
    exact ⟨us, [], ds, [], by rw [upd_ne (Ne.symm hDw)]; exact hw1, upd_same, ha, .nil, List.Perm.refl _, rfl, ex_hidD (Evl.fresh_back e1 hD) ex1, bag_upd hDb b1⟩
  · obtain ⟨ws, acc, rest, es, p1, p2, p3, p4, p5, p6, p7, p8⟩ := p
    have hDb : D ≠ b := b1.ne hD
    have hDw : D ≠ wa := fun z => by rw [z, hw1] at hD; cases hD
    have hlw : ws.length = rest.length := dpLen p3
    have hla : acc.length = es.length := dpLen p4
    have hlt : es.length + rest.length = ds.length := by rw [← p5.length_eq, List.length_append]
    have hsq : SqL K H' wa ws := Evl.sq_of p1
    have hpos : 0 < (rest.length : Int) := by omega
    have hsz : Sz 9000 (rest.length : Int) := sz_mono (sz_lit (by omega)) (by decide)
    refine ⟨rfl, i_yes (i_iteT ?_)⟩
    wtm_at "nrm"
    clear hd1 e1 ex1 b1
    wtm_at "gob"
    rename_i dn G dn0 dn1 de db
    obtain ⟨k, rfl⟩ : ∃ k : Nat, dn = k := ⟨dn.toNat, by omega⟩
    have hk : k < ws.length := by omega
    have hkr : k < rest.length := by omega
    have g1 : G wa = some (.lst ws) := (of_hid (de _ _ (hid_of p1 hwb))).2
    have g2 : G D = some (.lst acc) := (of_hid (de _ _ (hid_of p2 hDb))).2
    obtain ⟨y, hy, hyd⟩ := dpGet p3 (i := k) (List.getElem?_eq_getElem hkr)
    refine ⟨wa, ws, k, k, y, rfl, rfl, g1, by omega, by omega, seqNat hk, hy, acc, by rw [upd_ne hDw]; exact g2, Evl.sz_lt (by omega), ws.eraseIdx k, acc ++ [y], rest.eraseIdx k, es ++ [rest[k]], ?_, upd_same, dpErase k p3, dpAppN p4 (.cons hyd .nil), ?_, by simp [p6], ?_, bag_upd hDb (bag_upd hwb db)⟩
    · rw [upd_ne (Ne.symm hDw)]
      exact upd_same
    · rw [List.append_assoc]
      exact ((perm_erase hkr).append_left es).trans p5
    · exact ex_hidD (Evl.fresh_back e1' hD) (ex_hidD wn (p7.trans de))
  · obtain ⟨ws, acc, rest, es, p1, p2, p3, p4, p5, p6, p7, p8⟩ := p
    have hDb : D ≠ b := b1.ne hD
    have hlt : es.length + rest.length = ds.length := by rw [← p5.length_eq, List.length_append]
    have hr0 : rest = [] := List.eq_nil_of_length_eq_zero (by omega)
    subst hr0
    rw [List.append_nil] at p5
    dsimp only
    exact q es D acc _ p5 p7 p8 (hid_of p2 hDb) (dpMonoA p7 p4)
theorem use__law_shuffled {b : Addr} {ds : List PyData} {v2 : V} (hb : Bag b H) (hd : Dp K (hid b H) v2 (.list ds)) (hl : ds.length ≤ 60) (q : ∀ (es : List PyData) (a : Addr) (us : List V) H2, es.Perm ds → Ex (hid b H) (hid b H2) → Bag b H2 → hid b H2 a = some (.lst us) → DpAll K (hid b H2) us es → Q (.ref a) H2) : sp__law_shuffled K [.ref b, v2] H Q E := ⟨_, _, rfl, _, _, rfl, hb, hd, hl, q⟩
end
end Wb

/-! boxes, entries, forms as data -/
namespace Wb
open PySem PySem.Spec
abbrev Bx : Type := Int × Int × Int × Int
def bxD (b : Bx) : PyData := .tuple [.int b.1, .int b.2.1, .int b.2.2.1, .int b.2.2.2]
def Bx.ok (b : Bx) : Prop := b.1 ≤ b.2.2.1 ∧ b.2.1 ≤ b.2.2.2
abbrev En : Type := Int × Bx
def enD (e : En) : PyData := .tuple [.int e.1, bxD e.2]
/-- a form whose leaves lie n below -/
def Fo : Nat → Type
  | 0 => List En
  | n + 1 => List (Bx × Fo n)
def foL (t : Fo 0) : List En := t
def foB {n : Nat} (t : Fo (n + 1)) : List (Bx × Fo n) := t
def mkLf (es : List En) : Fo 0 := es
def mkNd {n : Nat} (bs : List (Bx × Fo n)) : Fo (n + 1) := bs
theorem foL_mk (es : List En) : foL (mkLf es) = es := rfl
theorem foB_mk {n : Nat} (bs : List (Bx × Fo n)) : foB (mkNd bs) = bs := rfl
def foD : (n : Nat) → Fo n → PyData
  | 0, t => .tuple [.str "leaf", .tuple ((foL t).map enD)]
  | n + 1, t => .tuple [.str "node", .tuple ((foB t).map fun p => .tuple [bxD p.1, foD n p.2])]
def brD (n : Nat) (p : Bx × Fo n) : PyData := .tuple [bxD p.1, foD n p.2]
def foSz : (n : Nat) → Fo n → Nat
  | 0, t => (foL t).length
  | n + 1, t => (foB t).length
/-- the entries, in the order of the text's own walk -/
def ents : (n : Nat) → Fo n → List En
  | 0, t => foL t
  | n + 1, t => (foB t).flatMap fun p => ents n p.2
def deps : (n : Nat) → Fo n → List Int
  | 0, _ => [1]
  | n + 1, t => (foB t).flatMap fun p => (deps n p.2).map (1 + ·)
def subs : (n : Nat) → Fo n → List PyData
  | 0, _ => []
  | n + 1, t => (foB t).flatMap fun p => foD n p.2 :: subs n p.2
def brns : (n : Nat) → Fo n → List PyData
  | 0, _ => []
  | n + 1, t => (foB t).flatMap fun p => brD n p :: brns n p.2
def mnI : List Int → Int
  | [] => 0
  | [x] => x
  | x :: y :: r => min x (mnI (y :: r))
def mxI : List Int → Int
  | [] => 0
  | [x] => x
  | x :: y :: r => max x (mxI (y :: r))
def joint (bs : List Bx) : Bx := (mnI (bs.map (·.1)), mnI (bs.map (·.2.1)), mxI (bs.map (·.2.2.1)), mxI (bs.map (·.2.2.2)))
/-- a form as the tree's maker wants it below the top -/
def Right : (n : Nat) → Fo n → Prop
  | 0, t => ∀ e ∈ foL t, e.2.ok
  | n + 1, t => ∀ p ∈ foB t, p.1 = joint ((ents n p.2).map (·.2)) ∧ 2 ≤ foSz n p.2 ∧ foSz n p.2 ≤ 4 ∧ Right n p.2
def apart (b c : Bx) : Option String := if b.2.2.1 < c.1 then some "left" else if b.1 > c.2.2.1 then some "right" else if b.2.2.2 < c.2.1 then some "below" else if b.2.1 > c.2.2.2 then some "above" else none
def wdD : Option String → PyData
  | none => .none
  | some s => .str (Str.ofString s)
def meetB (b c : Bx) : Bool := decide (b.1 ≤ c.2.2.1) && (decide (c.1 ≤ b.2.2.1) && (decide (b.2.1 ≤ c.2.2.2) && decide (c.2.1 ≤ b.2.2.2)))
theorem meet_apart (b c : Bx) : meetB b c = decide (apart b c = none) := by
  unfold meetB apart
  by_cases h1 : b.2.2.1 < c.1
  · rw [if_pos h1]
    simp
    omega
  · rw [if_neg h1]
    by_cases h2 : b.1 > c.2.2.1
    · rw [if_pos h2]
      simp
      omega
    · rw [if_neg h2]
      by_cases h3 : b.2.2.2 < c.2.1
      · rw [if_pos h3]
        simp
        omega
      · rw [if_neg h3]
        by_cases h4 : b.2.1 > c.2.2.2
        · rw [if_pos h4]
          simp
          omega
        · rw [if_neg h4]
          simp
          omega
theorem noL_bx (b : Bx) : noL (bxD b) = true := rfl
theorem noL_en (e : En) : noL (enD e) = true := rfl
theorem noLs_map {α : Type} (f : α → PyData) (h : ∀ x, noL (f x) = true) (xs : List α) : noLs (xs.map f) = true := noLs_all fun d hd => by
  obtain ⟨x, _, rfl⟩ := List.mem_map.mp hd
  exact h x
theorem noL_fo : ∀ (n : Nat) (t : Fo n), noL (foD n t) = true
  | 0, t => by
    show (noL (.str "leaf") && (noLs ((foL t).map enD) && true)) = true
    rw [noLs_map enD noL_en]
    rfl
  | n + 1, t => by
    show (noL (.str "node") && (noLs ((foB t).map fun p => .tuple [bxD p.1, foD n p.2]) && true)) = true
    rw [noLs_map _ fun p => by
      show (noL (bxD p.1) && (noL (foD n p.2) && true)) = true
      rw [noL_bx, noL_fo n p.2]
      rfl]
    rfl
theorem noL_br (n : Nat) (p : Bx × Fo n) : noL (brD n p) = true := by
  show (noL (bxD p.1) && (noL (foD n p.2) && true)) = true
  rw [noL_bx, noL_fo n p.2]
  rfl
theorem noL_subs : ∀ (n : Nat) (t : Fo n), ∀ d ∈ subs n t, noL d = true
  | 0, _, _, h => by cases h
  | n + 1, bs, d, h => by
    obtain ⟨p, _, h⟩ := List.mem_flatMap.mp h
    rcases List.mem_cons.mp h with rfl | h
    · exact noL_fo n p.2
    · exact noL_subs n p.2 d h
theorem noL_brns : ∀ (n : Nat) (t : Fo n), ∀ d ∈ brns n t, noL d = true
  | 0, _, _, h => by cases h
  | n + 1, bs, d, h => by
    obtain ⟨p, _, h⟩ := List.mem_flatMap.mp h
    rcases List.mem_cons.mp h with rfl | h
    · exact noL_br n p
    · exact noL_brns n p.2 d h
end Wb

/-! comprehensions over typed lists, any target; two for clauses -/
namespace Wb
open PySem PySem.Spec PyProof.Rows L2
open Evl (Ex Ex.refl Ex.trans Ex.new)
section
variable {K : PySem.W.Frag} {H H' : Hp} {Q : VK} {v : V} {σ : L2.St} {vs vs1 : List Nat} {te : TE} {tt tt1 : TT} {g g1 : TG}
/-- what was made so far -/
def Acc (K : PySem.W.Frag) (H1 : Hp) (D : Addr) (ds : List PyData) (H' : Hp) : Prop := H1 D = none ∧ Ex H1 H' ∧ ∃ acc, H' D = some (.lst acc) ∧ DpAll K H' acc ds
theorem Acc.new {D : Addr} (h : H D = none) : Acc K H D [] (upd H D (.lst [])) := ⟨h, Ex.new h, [], upd_same, .nil⟩
theorem Acc.up {D : Addr} {H1 : Hp} {ds : List PyData} (p : Acc K H1 D ds H) (e : Ex H H') : Acc K H1 D ds H' := by
  obtain ⟨p1, p2, acc, p3, p4⟩ := p
  exact ⟨p1, p2.trans e, acc, e _ _ p3, dpMonoA e p4⟩
theorem Acc.put {D : Addr} {H1 : Hp} {ds : List PyData} {y : V} {d : PyData} (p : Acc K H1 D ds H') (hl : ds.length < 100000) (hn : ∀ z ∈ ds, noL z = true) (hd : noL d = true) (hy : Dp K H' y d) :
    ∃ acc, H' D = some (.lst acc) ∧ acc.length < sizeLine ∧ Acc K H1 D (ds ++ [d]) (upd H' D (.lst (acc ++ [y]))) := by
  obtain ⟨p1, p2, acc, p3, p4⟩ := p
  refine ⟨acc, p3, Evl.sz_lt (by rw [dpLen p4]; omega), p1, Evl.Ex.mut p2 p1, acc ++ [y], upd_same, ?_⟩
  refine dpUpdA p3 (noLs_all fun z hz => ?_) (dpAllApp p4 (.cons hy .nil))
  rcases List.mem_append.mp hz with h | h
  · exact hn z h
  · rcases List.mem_singleton.mp h with rfl
    exact hd
/-- a list that came after D was laid stays as D grows -/
theorem dpKeep {D : Addr} {xs ys : List V} {u : V} {d : PyData} (hD : H D = some (.lst xs)) (hn : noL d = true) (h : Dp K H u d) : Dp K (upd H D (.lst ys)) u d := dpUpd hD hn h
theorem sqL_ne {D a : Addr} {xs : List V} {o : HO} (hne : a ≠ D) (h : SqL K H a xs) : SqL K (upd H D o) a xs := by
  rcases h with h | h
  · refine .inl ?_
    unfold Rd
    rw [upd_ne hne]
    exact h
  · exact .inr h
variable {α β : Type}
section
variable {enc : α → PyData} {xs : List α}
abbrev LcTurn (K : PySem.W.Frag) (H : Hp) (enc : α → PyData) (xs : List α) (c : α → Bool) (f : α → PyData) (g : TG) (tt : TT) (te : TE) (vs : List Nat) (σ : L2.St) : Prop :=
  ∀ (u : V) (x : α) (H2 : Hp) (R : Hp → Prop) (Y : VK), Ex H H2 → x ∈ xs → Dp K H2 u (enc x) → (c x = false → ∀ H3, Ex H2 H3 → R H3) → (c x = true → ∀ w H3, Ex H2 H3 → Dp K H3 w (f x) → Y w H3) →
    g u (wipe σ vs) H2 fun σ2 H3 => wipe σ2 vs = wipe σ vs ∧ tt σ2 H3 fun b H4 => if b = true then te σ2 H4 Y else R H4
theorem lcg_step (c : α → Bool) (f : α → PyData) (hl : xs.length ≤ 100000) (hn : ∀ x ∈ xs, noL (f x) = true) (ht : LcTurn K H enc xs c f g tt te vs σ) {D : Addr} {i : Nat} {u : V} {us : List V} (ha : DpAll K H us (xs.map enc)) (hi : us[i]? = some u) (p : Acc K H D (((xs.take i).filter c).map f) H') :
    g u (wipe σ vs) H' fun σ2 H2 => wipe σ2 vs = wipe σ vs ∧ tt σ2 H2 fun b H3 => if b = true then te σ2 H3 fun y H4 => ∃ acc, H4 D = some (.lst acc) ∧ acc.length < sizeLine ∧ Acc K H D (((xs.take (i + 1)).filter c).map f) (upd H4 D (.lst (acc ++ [y]))) else Acc K H D (((xs.take (i + 1)).filter c).map f) H3 := by
  obtain ⟨d, hd, hu⟩ := dpIdx ha hi
  rw [List.getElem?_map] at hd
  obtain ⟨x, hx, rfl⟩ := Option.map_eq_some_iff.mp hd
  have hix : i < xs.length := (List.getElem?_eq_some_iff.mp hx).1
  have ht1 : xs.take (i + 1) = xs.take i ++ [x] := by rw [List.take_add_one, hx]; rfl
  refine ht u x H' _ _ p.2.1 (List.mem_of_getElem? hx) (dpMono p.2.1 hu) (fun hc H3 e3 => ?_) (fun hc w H3 e3 hw => ?_)
  · rw [ht1, List.filter_append, List.filter_cons, if_neg (by rw [hc]; decide), List.filter_nil, List.append_nil]
    exact p.up e3
  · rw [ht1, List.filter_append, List.map_append, List.filter_cons, if_pos hc]
    refine (p.up e3).put ?_ (fun z hz => ?_) (hn x (List.mem_of_getElem? hx)) hw
    · rw [List.length_map]
      have := List.length_filter_le c (xs.take i)
      have : (xs.take i).length ≤ i := by rw [List.length_take]; omega
      omega
    · obtain ⟨z0, h1, rfl⟩ := List.mem_map.mp hz
      exact hn z0 (List.mem_of_mem_take (List.mem_filter.mp h1).1)
theorem lcg_end {c : α → Bool} {f : α → PyData} {us : List V} {D : Addr} (ha : DpAll K H us (xs.map enc)) (p : Acc K H D (((xs.take us.length).filter c).map f) H') (q : ∀ p H2, H p = none → Ex H H2 → Dp K H2 (.ref p) (.list ((xs.filter c).map f)) → Q (.ref p) H2) : Q (.ref D) H' := by
  have e : us.length = xs.length := by rw [dpLen ha, List.length_map]
  rw [e, List.take_length] at p
  obtain ⟨p1, p2, acc, p3, p4⟩ := p
  exact q D H' p1 p2 (.lst (Evl.sq_of p3) p4)
theorem i_lcGT (c : α → Bool) (f : α → PyData) (h : Dp K H v (.tuple (xs.map enc))) (hl : xs.length ≤ 100000) (hn : ∀ x ∈ xs, noL (f x) = true) (ht : LcTurn K H enc xs c f g tt te vs σ)
    (q : ∀ p H2, H p = none → Ex H H2 → Dp K H2 (.ref p) (.list ((xs.filter c).map f)) → Q (.ref p) H2) : tLc (iTup K (tC v)) g tt te vs σ H Q := by
  obtain ⟨a, us, rfl, hs, ha⟩ := dpTup h
  exact ⟨a, rfl, ⟨us, hs⟩, fun D hD => lc_tup (xs := us) (fun i H' => Acc K H D (((xs.take i).filter c).map f) H') (Acc.new hD) (fun i H' _ p => Evl.ex_t p.2.1 hs) (fun i u H' hi p => lcg_step c f hl hn ht ha hi p) (fun H' p => lcg_end ha p q)⟩
theorem i_lcGL (c : α → Bool) (f : α → PyData) (h : Dp K H v (.list (xs.map enc))) (hl : xs.length ≤ 100000) (hn : ∀ x ∈ xs, noL (f x) = true) (ht : LcTurn K H enc xs c f g tt te vs σ)
    (q : ∀ p H2, H p = none → Ex H H2 → Dp K H2 (.ref p) (.list ((xs.filter c).map f)) → Q (.ref p) H2) : tLc (iList K (tC v)) g tt te vs σ H Q := by
  obtain ⟨a, us, rfl, hs, ha⟩ := dpLst h
  exact ⟨a, rfl, ⟨us, hs⟩, fun D hD => lc_list (xs := us) (fun i H' => Acc K H D (((xs.take i).filter c).map f) H') (Acc.new hD) (fun i H' _ p => Evl.ex_l p.2.1 hs) (fun i u H' hi p => lcg_step c f hl hn ht ha hi p) (fun H' p => lcg_end ha p q)⟩
end
theorem i_lcTU {tl : TE} (q : tl σ H fun x H1 => tLc (iTup K (tC x)) g tt te vs σ H1 Q) : tLc (iTup K tl) g tt te vs σ H Q := q
theorem i_lcLU {tl : TE} (q : tl σ H fun x H1 => tLc (iList K (tC x)) g tt te vs σ H1 Q) : tLc (iList K tl) g tt te vs σ H Q := q
/-- the inner walk of a list that came fresh -/
theorem lc2_in {enc1 : β → PyData} {D a : Addr} {us : List V} {ys : List β} {σ2 : L2.St} {H0 H4 : Hp} {ds : List PyData} {f : β → PyData} {Nx : Hp → Prop} (hne : a ≠ D) (hs : SqL K H4 a us) (ha : DpAll K H4 us (ys.map enc1)) (hl : ds.length + ys.length ≤ 100000)
    (hn0 : ∀ d ∈ ds, noL d = true) (hn : ∀ y ∈ ys, noL (f y) = true) (hn1 : ∀ y ∈ ys, noL (enc1 y) = true) (p : Acc K H0 D ds H4)
    (ht : ∀ (u : V) (y : β) (H5 : Hp) (R : Hp → Prop) (Y : VK), Ex H0 H5 → y ∈ ys → Dp K H5 u (enc1 y) → (∀ w H6, Ex H5 H6 → Dp K H6 w (f y) → Y w H6) → g1 u (wipe σ2 vs1) H5 fun σ3 H6 => wipe σ3 vs1 = wipe σ2 vs1 ∧ tt1 σ3 H6 fun b H7 => if b = true then te σ3 H7 Y else R H7)
    (hd : ∀ H5, Acc K H0 D (ds ++ ys.map f) H5 → Nx H5) :
    ∃ W1 : Nat → Nat → Hp → Prop, (∃ m, W1 0 m H4) ∧ ∀ j k H, W1 j k H →
      ((Itl K a).stop j H ∧ Nx H) ∨ ((Itl K a).go j H ∧ ∃ Nx1 : Hp → Prop, (∀ H', Nx1 H' → ∃ k', k' < k ∧ W1 (j + 1) k' H') ∧ ∀ x H', (Itl K a).yld j H x H' → g1 x (wipe σ2 vs1) H' fun σ3 H5 => wipe σ3 vs1 = wipe σ2 vs1 ∧ tt1 σ3 H5 fun b H6 =>
        if b = true then te σ3 H6 fun y H7 => ∃ acc, H7 D = some (.lst acc) ∧ acc.length < sizeLine ∧ Nx1 (upd H7 D (.lst (acc ++ [y]))) else Nx1 H6) := by
  have el : us.length = ys.length := by rw [dpLen ha, List.length_map]
  refine ⟨fun j k H5 => k = us.length - j ∧ j ≤ us.length ∧ SqL K H5 a us ∧ DpAll K H5 us (ys.map enc1) ∧ Acc K H0 D (ds ++ (ys.take j).map f) H5, ⟨us.length, by simp, Nat.zero_le _, hs, ha, by simpa using p⟩, ?_⟩
  rintro j k H5 ⟨rfl, hj, h1, h2, h3⟩
  by_cases hlt : j < us.length
  · refine .inr ⟨⟨us, us[j], h1, by simp [hlt]⟩, fun H6 => SqL K H6 a us ∧ DpAll K H6 us (ys.map enc1) ∧ Acc K H0 D (ds ++ (ys.take (j + 1)).map f) H6, fun H6 p' => ⟨us.length - (j + 1), by omega, rfl, hlt, p'⟩, fun x H6 y => ?_⟩
    obtain ⟨e, y⟩ := y
    subst e
    have hx := y us h1
    obtain ⟨d, hd1, hu⟩ := dpIdx h2 hx
    rw [List.getElem?_map] at hd1
    obtain ⟨z, hz, rfl⟩ := Option.map_eq_some_iff.mp hd1
    have hm := List.mem_of_getElem? hz
    have ht1 : ys.take (j + 1) = ys.take j ++ [z] := by rw [List.take_add_one, hz]; rfl
    refine ht x z H6 _ _ h3.2.1 hm hu (fun w H7 e7 hw => ?_)
    obtain ⟨acc, q1, q2, q3⟩ := (h3.up e7).put (by
      rw [List.length_append, List.length_map, List.length_take]
      omega) (fun z0 hz0 => by
        rcases List.mem_append.mp hz0 with h | h
        · exact hn0 z0 h
        · obtain ⟨z1, h4, rfl⟩ := List.mem_map.mp h
          exact hn z1 (List.mem_of_mem_take h4)) (hn z hm) hw
    refine ⟨acc, q1, q2, sqL_ne hne (Evl.ex_l e7 h1), dpUpdA q1 (noLs_all fun z0 hz0 => by
      obtain ⟨z1, h4, rfl⟩ := List.mem_map.mp hz0
      exact hn1 z1 h4) (dpMonoA e7 h2), ?_⟩
    rw [ht1, List.map_append, ← List.append_assoc]
    exact q3
  · have e : j = us.length := by omega
    subst e
    refine .inl ⟨⟨us, h1, by simp⟩, hd H5 ?_⟩
    rw [el, List.take_length] at h3
    exact h3
section
variable {enc : α → PyData} {enc1 : β → PyData} {xs : List α} {tl1 : TE}
/-- one turn of the outer clause: the inner list comes fresh -/
abbrev Lc2Turn (K : PySem.W.Frag) (H : Hp) (enc : α → PyData) (enc1 : β → PyData) (xs : List α) (ys : α → List β) (f : α → β → PyData) (g : TG) (tt : TT) (tl1 : TE) (g1 : TG) (tt1 : TT) (te : TE) (vs vs1 : List Nat) (σ : L2.St) : Prop :=
  ∀ (u : V) (x : α) (H2 : Hp) (R : Hp → Prop) (S : L2.St → V → Hp → Prop), Ex H H2 → x ∈ xs → Dp K H2 u (enc x) →
    (∀ σ2 a H3, Ex H2 H3 → H2 a = none → Dp K H3 (.ref a) (.list ((ys x).map enc1)) →
      (∀ (u1 : V) (y : β) (H5 : Hp) (R1 : Hp → Prop) (Y : VK), Ex H H5 → y ∈ ys x → Dp K H5 u1 (enc1 y) → (∀ w H6, Ex H5 H6 → Dp K H6 w (f x y) → Y w H6) →
        g1 u1 (wipe σ2 vs1) H5 fun σ3 H6 => wipe σ3 vs1 = wipe σ2 vs1 ∧ tt1 σ3 H6 fun b H7 => if b = true then te σ3 H7 Y else R1 H7) → S σ2 (.ref a) H3) →
    g u (wipe σ vs) H2 fun σ2 H3 => wipe σ2 vs = wipe σ vs ∧ tt σ2 H3 fun b H4 => if b = true then tl1 σ2 H4 (S σ2) else R H4
theorem i_lc2 (ys : α → List β) (f : α → β → PyData) (h : Dp K H v (.tuple (xs.map enc))) (hl : xs.length ≤ 1000) (hl1 : ∀ x ∈ xs, (ys x).length ≤ 100) (hn : ∀ x ∈ xs, ∀ y ∈ ys x, noL (f x y) = true) (hn1 : ∀ x ∈ xs, ∀ y ∈ ys x, noL (enc1 y) = true)
    (ht : Lc2Turn K H enc enc1 xs ys f g tt tl1 g1 tt1 te vs vs1 σ)
    (q : ∀ p H2, H p = none → Ex H H2 → Dp K H2 (.ref p) (.list (xs.flatMap fun x => (ys x).map (f x))) → Q (.ref p) H2) : tLc2 (iTup K (tC v)) g tt (iList K tl1) g1 tt1 te vs vs1 σ H Q := by
  obtain ⟨a, us, rfl, hs, ha⟩ := dpTup h
  have el : us.length = xs.length := by rw [dpLen ha, List.length_map]
  refine ⟨a, rfl, ⟨us, hs⟩, fun D hD => ?_⟩
  have hlen : ∀ zs : List α, (∀ x ∈ zs, x ∈ xs) → (zs.flatMap fun x => (ys x).map (f x)).length ≤ zs.length * 100 := by
    intro zs
    induction zs with
    | nil => intro _; exact Nat.le_refl _
    | cons z zs ih =>
      intro hz
      rw [List.flatMap_cons, List.length_append, List.length_map, List.length_cons]
      have := ih fun x hx => hz x (List.mem_cons_of_mem _ hx)
      have := hl1 z (hz z List.mem_cons_self)
      omega
  have hno : ∀ zs : List α, (∀ x ∈ zs, x ∈ xs) → ∀ d ∈ (zs.flatMap fun x => (ys x).map (f x)), noL d = true := by
    intro zs hz d hd
    obtain ⟨x, hx, hd⟩ := List.mem_flatMap.mp hd
    obtain ⟨y, hy, rfl⟩ := List.mem_map.mp hd
    exact hn x (hz x hx) y hy
  refine ⟨fun i m H5 => m = us.length - i ∧ i ≤ us.length ∧ Acc K H D ((xs.take i).flatMap fun x => (ys x).map (f x)) H5, ⟨us.length, by simp, Nat.zero_le _, by simpa using Acc.new hD⟩, ?_⟩
  rintro i m H5 ⟨rfl, hi, p⟩
  have hs5 := Evl.ex_t p.2.1 hs
  by_cases hlt : i < us.length
  · refine .inr ⟨⟨us, us[i], hs5, by simp [hlt]⟩, fun H6 => Acc K H D ((xs.take (i + 1)).flatMap fun x => (ys x).map (f x)) H6, fun H6 p' => ⟨us.length - (i + 1), by omega, rfl, hlt, p'⟩, fun u H6 y => ?_⟩
    obtain ⟨e, y⟩ := y
    subst e
    have hx := y us hs5
    obtain ⟨d, hd1, hu⟩ := dpIdx ha hx
    rw [List.getElem?_map] at hd1
    obtain ⟨z, hz, rfl⟩ := Option.map_eq_some_iff.mp hd1
    have hm := List.mem_of_getElem? hz
    have ht1 : xs.take (i + 1) = xs.take i ++ [z] := by rw [List.take_add_one, hz]; rfl
    refine ht u z H6 _ _ p.2.1 hm (dpMono p.2.1 hu) (fun σ2 a1 H7 e7 hf hl7 hin => ?_)
    obtain ⟨_, us1, e1, hs1, ha1⟩ := dpLst hl7
    cases e1
    obtain ⟨acc0, hD5, _⟩ := p.2.2
    have hne : a1 ≠ D := fun e => by
      rw [e, hD5] at hf
      cases hf
    refine ⟨a1, rfl, ⟨us1, hs1⟩, ?_⟩
    refine lc2_in hne hs1 ha1 ?_ (hno _ fun x hx => List.mem_of_mem_take hx) (hn z hm) (hn1 z hm) (p.up e7) (fun u1 y1 H8 R1 Y e8 hy1 hu1 hY => ?_) (fun H8 p8 => ?_)
    · have := hlen (xs.take i) fun x hx => List.mem_of_mem_take hx
      have h3 : (xs.take i).length < 1000 := by rw [List.length_take]; omega
      have := hl1 z hm
      omega
    · exact hin u1 y1 H8 R1 Y e8 hy1 hu1 hY
    · rw [ht1, List.flatMap_append]
      simpa using p8
  · have e : i = us.length := by omega
    subst e
    refine .inl ⟨⟨us, hs5, Nat.le_refl _⟩, ?_⟩
    rw [el, List.take_length] at p
    obtain ⟨p1, p2, acc, p3, p4⟩ := p
    exact q D H5 p1 p2 (.lst (Evl.sq_of p3) p4)
end
theorem i_ixTS {H0 : Hp} {ds : List PyData} {k : Int} {z : Str} {v : V} (h : Dp K H0 v (.tuple ds)) (he : Ex H0 H) (e : atI ds k = some (.str z)) (q : Q (.str z) H) : rIxT K v (.int k) H Q := by
  obtain ⟨a, vs, rfl, hs, ha⟩ := dpTup (dpMono he h)
  obtain ⟨u, e1, e2⟩ := dpAt ha e
  cases e2
  exact ⟨a, vs, k, _, rfl, rfl, hs, e1, q⟩
theorem dec_str {a b : Str} : decide (V.str a = V.str b) = decide (a = b) := by
  by_cases h : a = b
  · subst h; simp
  · simp [h]
theorem i_eqST {a b : Str} (e : a = b) (q : Q (.bl true) H) : rEq (.str a) (.str b) H Q := by
  subst e
  exact ⟨rfl, by simpa using q⟩
theorem i_eqSF {a b : Str} (e : (a == b) = false) (q : Q (.bl false) H) : rEq (.str a) (.str b) H Q := by
  refine ⟨rfl, ?_⟩
  rw [dec_str, decide_eq_false (fun z => by rw [z, beq_self_eq_true] at e; cases e)]
  exact q
theorem i_neST {a b : Str} (e : a = b) (q : Q (.bl false) H) : rNe (.str a) (.str b) H Q := by
  subst e
  exact ⟨rfl, by simpa using q⟩
theorem i_neSF {a b : Str} (e : (a == b) = false) (q : Q (.bl true) H) : rNe (.str a) (.str b) H Q := by
  refine ⟨rfl, ?_⟩
  rw [dec_str, decide_eq_false (fun z => by rw [z, beq_self_eq_true] at e; cases e)]
  exact q
theorem i_lc2U {tl : TE} {σ : L2.St} {g g1 : TG} {tt tt1 : TT} {te : TE} {wi1 : TI} {vs vs1 : List Nat} (q : tl σ H fun x H1 => tLc2 (iTup K (tC x)) g tt wi1 g1 tt1 te vs vs1 σ H1 Q) : tLc2 (iTup K tl) g tt wi1 g1 tt1 te vs vs1 σ H Q := q
theorem i_catAD {as bs : List PyData} {v w : V} (h1 : Dp K H v (.tuple as)) (h2 : Dp K H w (.tuple bs)) (hl : as.length + bs.length ≤ 100000) (q : ∀ y H2, Ex H H2 → Dp K H2 y (.tuple (as ++ bs)) → Q y H2) : rCatA K v w H Q := by
  obtain ⟨a, us, rfl, hs, ha⟩ := dpTup h1
  obtain ⟨b, ws, rfl, ht, hb⟩ := dpTup h2
  refine ⟨a, b, us, ws, rfl, rfl, hs, ht, Evl.sz_of (by rw [dpLen ha, dpLen hb]; exact hl), ?_, ?_, ?_⟩
  · rintro rfl
    cases ha
    exact q _ _ (Ex.refl _) h2
  · rintro hn rfl
    cases hb
    exact q _ _ (Ex.refl _) (by rw [List.append_nil]; exact h1)
  · intro _ _ p hp
    exact q _ _ (ex_upd hp) (.tup (.inl (.inl upd_same)) (dpAllApp (dpMonoA (ex_upd hp) ha) (dpMonoA (ex_upd hp) hb)))
end
end Wb

namespace Wb
open PySem PySem.Spec PyProof.Rows L2
open Evl (Ex Ex.refl Ex.trans Ex.new)
local macro_rules | `(tactic| wtm_at "dp") => `(tactic| first | with_reducible assumption | with_reducible exact Dp.int _ | with_reducible exact Dp.bl _ | with_reducible exact Dp.str _ | with_reducible exact Dp.non | ((with_reducible refine' dpMono ?dme (by with_reducible assumption)); (case dme => wtm_at "ex")) | ((with_reducible refine' Dp.tup (Evl.st_of ?dph) ?dpa); (case dph => wtm_at "hs"); (case dpa => wtm_at "dpa")) | ((with_reducible refine' Dp.lst (Evl.sq_of ?dph) ?dpa); (case dph => wtm_at "hs"); (case dpa => wtm_at "dpa")))
local macro_rules | `(tactic| wtm_at "dpa") => `(tactic| first | with_reducible exact DpAll.nil | ((with_reducible refine' DpAll.cons ?dp1 ?dp2); (case dp1 => wtm_at "dp"); (case dp2 => wtm_at "dpa")) | with_reducible assumption | ((with_reducible refine' dpMonoA ?dme (by with_reducible assumption)); (case dme => wtm_at "ex")))
local macro_rules | `(tactic| wtm_at "sz") => `(tactic| first | with_reducible assumption | ((with_reducible refine' sz_mul ?sz1 ?sz2); (case sz1 => wtm_at "sz"); (case sz2 => wtm_at "sz")) | ((with_reducible refine' sz_add ?sz1 ?sz2); (case sz1 => wtm_at "sz"); (case sz2 => wtm_at "sz")) | ((with_reducible refine' sz_sub ?sz1 ?sz2); (case sz1 => wtm_at "sz"); (case sz2 => wtm_at "sz")) | ((with_reducible refine' sz_neg ?sz1); (case sz1 => wtm_at "sz")) | ((with_reducible refine' sz_div ?sz1); (case sz1 => wtm_at "sz")) | ((with_reducible refine' sz_fdiv ?sz1); (case sz1 => wtm_at "sz")) | exact sz_lit (by decide) | wtm_at "sz2")
local macro_rules | `(tactic| wtm_at "szb") => `(tactic| first | with_reducible assumption | ((with_reducible refine' sz_mono ?szb1 ?szb2); (case szb1 => wtm_at "sz"); (case szb2 => decide)))
local macro_rules | `(tactic| wtm_at "nz") => `(tactic| first | assumption | decide | omega)
local macro_rules | `(tactic| wtm_at "shaped") => `(tactic| first | rfl | decide)
local macro_rules | `(tactic| wtm_at "sset") => `(tactic| ((dsimp only [L2.wipe, List.set, List.set_cons_zero, List.set_cons_succ]) <;> exact rfl))
local macro_rules | `(tactic| wtm_at "nrm") => `(tactic| dsimp only [L2.start, L2.wipe, List.set, List.append, List.map, List.map_cons, List.map_nil, List.length_cons, List.length_nil, Nat.reduceAdd, Nat.reduceSub, List.reduceReplicate, List.replicate, List.cons_append, List.nil_append, List.set_cons_zero, List.set_cons_succ])
local macro_rules | `(tactic| wtm_at "st") => `(tactic| first
  | ((with_reducible refine' i_var (v := ?u0) ?u1 ?uq); (case u1 => exact rfl))
  | ((with_reducible refine' i_nameN ?u0 ?uq); (case u0 => wtm_at "sset"))
  | (with_reducible refine' i_op ?uq)
  | (with_reducible refine' i_c ?uq)
  | (with_reducible refine' i_I0 ?uq)
  | ((with_reducible refine' i_ixTI (i := ?u0) ?u1 ?u2 ?u3 ?uq); (case u1 => wtm_at "dp"); (case u2 => wtm_at "ex"); (case u3 => exact rfl))
  | ((with_reducible refine' i_ixT (d := ?u0) ?u1 ?u2 ?u3 (fun xu hxu => ?uq)); (case u1 => wtm_at "dp"); (case u2 => wtm_at "ex"); (case u3 => exact rfl))
  | ((with_reducible refine' i_mul ?u0 ?u1 ?u2 ?uq); (case u0 => wtm_at "sz"); (case u1 => wtm_at "sz"); (case u2 => first | decide | omega))
  | (with_reducible refine' i_seq ?uq)
  | (with_reducible refine' i_asg ?uq)
  | (with_reducible refine' i_ret ?uq)
  | (with_reducible refine' i_ifs ?uq)
  | (with_reducible refine' i_drop ?uq)
  | (with_reducible refine' i_next ?uq)
  | (with_reducible refine' i_cons ?uq)
  | (with_reducible refine' i_nil ?uq)
  | (with_reducible refine' i_cl ?uq)
  | (with_reducible refine' i_cb ?uq)
  | (with_reducible refine' i_tup ?uq)
  | (with_reducible refine' i_lst ?uq)
  | ((with_reducible refine' i_mkT ?u0 (fun np nH nhe nhp => ?uq)); (case u0 => exact Nat.le_of_ble_eq_true rfl))
  | (with_reducible refine' i_test ?uq)
  | (with_reducible refine' i_B ?uq)
  | (with_reducible refine' i_k ?uq)
  | (with_reducible refine' i_and ?uq)
  | (with_reducible refine' i_or ?uq)
  | (with_reducible refine' i_not ?uq)
  | (with_reducible refine' i_andV ?uq)
  | (with_reducible refine' i_orV ?uq)
  | (with_reducible refine' i_notV ?uq)
  | (with_reducible refine' i_if ?uq)
  | (with_reducible refine' i_un ?uq)
  | (with_reducible refine' i_U ?uq)
  | (with_reducible refine' i_iteT ?uq)
  | (with_reducible refine' i_iteF ?uq)
  | ((with_reducible refine' i_iteTr ?u0 ?uq); (case u0 => first | with_reducible rfl | decide | (simp only [dIsInt, dIsBool, dIsTup, dIsStr, dIsLst, Bool.not_true, Bool.not_false]; done)))
  | ((with_reducible refine' i_iteFr ?u0 ?uq); (case u0 => first | with_reducible rfl | decide | (simp only [dIsInt, dIsBool, dIsTup, dIsStr, dIsLst, Bool.not_true, Bool.not_false]; done)))
  | (with_reducible refine' i_ite (fun hif => ?uqa) (fun hif => ?uqb))
  | (with_reducible refine' i_iteN (fun hif => ?uqa) (fun hif => ?uqb))
  | (with_reducible refine' i_iteBN (fun hif => ?uqa) (fun hif => ?uqb))
  | (with_reducible refine' i_iteB (fun hif => ?uqa) (fun hif => ?uqb))
  | ((with_reducible refine' i_modN ?u0 ?uq); (case u0 => wtm_at "nz"))
  | ((with_reducible refine' i_fdX ?u0 ?u1 ?u2 ?uq); (case u0 => wtm_at "nz"); (case u1 => wtm_at "sz"); (case u2 => first | decide | omega))
  | ((with_reducible refine' i_pow ?u0 ?uq); (case u0 => exact ⟨by decide, by decide +kernel⟩))
  | (with_reducible refine' i_eqI ?uq)
  | (with_reducible refine' i_neI ?uq)
  | (with_reducible refine' i_gcd ?uq)
  | (with_reducible refine' i_qabs ?uq)
  | (with_reducible refine' i_qint ?uq)
  | (with_reducible refine' i_qintB ?uq)
  | (with_reducible refine' i_qmax2 ?uq)
  | (with_reducible refine' i_qmin2 ?uq)
  | (with_reducible refine' i_isB ?uq)
  | (with_reducible refine' i_notB ?uq)
  | (with_reducible refine' i_chain ?uq)
  | (with_reducible refine' i_qisN ?uq)
  | (with_reducible refine' i_qnotN ?uq)
  | (with_reducible refine' i_yes ?uq)
  | (with_reducible refine' i_par ?uq)
  | (with_reducible refine' i_par3 ?uq)
  | ((with_reducible refine' i_par2 ?u0 ?uq); (case u0 => wtm_at "sset"))
  | ((with_reducible refine' i_par33 ?u0 ?uq); (case u0 => wtm_at "sset"))
  | ((with_reducible refine' i_ixLI (i := ?u0) ?u1 ?u2 ?u3 ?uq); (case u1 => wtm_at "dp"); (case u2 => wtm_at "ex"); (case u3 => exact rfl))
  | ((with_reducible refine' i_ixL (d := ?u0) ?u1 ?u2 ?u3 (fun xu hxu => ?uq)); (case u1 => wtm_at "dp"); (case u2 => wtm_at "ex"); (case u3 => exact rfl))
  | ((with_reducible refine' i_qlenT ?u0 ?uq); (case u0 => wtm_at "dp"))
  | ((with_reducible refine' i_qlenL ?u0 ?uq); (case u0 => wtm_at "dp"))
  | ((with_reducible refine' i_gtup ?u0 ?u1 ?u2 (fun gvs gdp => ?uq)); (case u0 => wtm_at "dp"); (case u1 => wtm_at "ex"); (case u2 => exact rfl))
  | ((with_reducible refine' i_glst ?u0 ?u1 ?u2 (fun gvs gdp => ?uq)); (case u0 => wtm_at "dp"); (case u1 => wtm_at "ex"); (case u2 => exact rfl))
  | ((with_reducible refine' i_gconsI ?u0 (fun gr gh => ?uq)); (case u0 => with_reducible assumption))
  | ((with_reducible refine' i_gconsA ?u0 (fun gv gr gh1 gh2 => ?uq)); (case u0 => with_reducible assumption))
  | ((with_reducible refine' i_gnilA ?u0 ?uq); (case u0 => with_reducible assumption))
  | ((with_reducible refine' i_isiI ?u0 ?uq); (case u0 => wtm_at "dp"))
  | ((with_reducible refine' i_isiB ?u0 ?uq); (case u0 => wtm_at "dp"))
  | ((with_reducible refine' i_isiT ?u0 ?uq); (case u0 => wtm_at "dp"))
  | ((with_reducible refine' i_isiS ?u0 ?uq); (case u0 => wtm_at "dp"))
  | ((with_reducible refine' i_isiL ?u0 ?uq); (case u0 => wtm_at "dp"))
  | ((with_reducible refine' i_eqD ?u0 ?u1 ?u2 ?u3 ?uq); (case u0 => wtm_at "dp"); (case u1 => wtm_at "dp"); (case u2 => wtm_at "shaped"); (case u3 => wtm_at "shaped"))
  | ((with_reducible refine' i_neD ?u0 ?u1 ?u2 ?u3 ?uq); (case u0 => wtm_at "dp"); (case u1 => wtm_at "dp"); (case u2 => wtm_at "shaped"); (case u3 => wtm_at "shaped"))
  | wtm_at "st2"
  | wtm_at "use")
local macro_rules | `(tactic| wtm_at "go") => `(tactic| repeat' (wtm_at "st"))
local macro_rules | `(tactic| wtm_at "go0") => `(tactic| ((try dsimp only [L2.cxOf, L2.Cx.nox, L2.Cx.wish, L2.Cx.tr, L2.Cx.blk]); (try wtm_at "nrm"); wtm_at "go"))
local macro_rules | `(tactic| wtm_at "fin") => `(tactic| ((try dsimp only); first | with_reducible assumption | assumption | ((with_reducible refine' Ret.use ?rur ?rue ?rud); (case rur => with_reducible assumption); (case rue => wtm_at "ex"); (case rud => wtm_at "dp"))))
local macro_rules | `(tactic| wtm_at "exh") => `(tactic| first | with_reducible assumption | with_reducible exact Ex.refl _ | with_reducible exact ex_hid | ((with_reducible refine' Ex.trans ?exe (by with_reducible assumption)); (case exe => wtm_at "exh")) | ((with_reducible refine' Ex.trans ?exe (hid_ex (by with_reducible assumption))); (case exe => wtm_at "exh")))
local macro_rules | `(tactic| wtm_at "ex") => `(tactic| first | with_reducible assumption | with_reducible exact Ex.refl _ | with_reducible exact ex_hid | ((with_reducible refine' Ex.trans ?exe (by with_reducible assumption)); (case exe => wtm_at "ex")) | ((with_reducible refine' Ex.trans ?exe (hid_ex (by with_reducible assumption))); (case exe => wtm_at "ex")) | ((with_reducible refine' Ex.trans ?exe ex_hid); (case exe => wtm_at "exh")))
local macro_rules | `(tactic| wtm_at "bag") => `(tactic| first | with_reducible assumption | ((with_reducible refine' Bag.mono ?bgm (by with_reducible assumption)); (case bgm => wtm_at "bag")))
local macro_rules | `(tactic| wtm_at "hs") => `(tactic| first | with_reducible assumption | ((with_reducible refine' hid_tup ?hb ?hp); (case hp => with_reducible assumption); (case hb => wtm_at "bag")) | ((with_reducible refine' hid_new ?hb ?hn ?hp); (case hp => with_reducible assumption); (case hn => with_reducible assumption); (case hb => wtm_at "bag")) | ((with_reducible refine' ex_at ?exe (by with_reducible assumption)); (case exe => wtm_at "ex")))
local macro_rules | `(tactic| wtm_at "st2") => `(tactic| first
  | ((with_reducible refine' i_mulC ?u0 ?uq); (case u0 => first | exact cmul_l (by decide) | exact cmul_r (by decide)))
  | ((with_reducible refine' i_ixLr (v := ?u0) ?u1 ?u2 ?uq); (case u1 => with_reducible assumption); (case u2 => exact rfl))
  | (with_reducible refine' i_sub ?uq)
  | ((with_reducible refine' i_mkL ?u0 (fun np nH nfr nhe nhp => ?uq)); (case u0 => exact Nat.le_of_ble_eq_true rfl))
  | ((with_reducible refine' i_setL (n := ?u0) ?u1 ?u2 (fun sH sh se => ?uq)); (case u1 => with_reducible assumption); (case u2 => exact rfl))
  | (with_reducible refine' i_sl ?uq)
  | (with_reducible refine' i_nopart ?uq)
  | (with_reducible refine' i_part ?uq)
  | (with_reducible refine' i_part1 ?uq))
local macro_rules | `(tactic| wtm_at "sz2") => `(tactic| ((with_reducible refine' sz_fmod ?sz1 ?sz2); (case sz1 => wtm_at "nz"); (case sz2 => wtm_at "sz")))
local macro_rules | `(tactic| wtm_at "stb") => `(tactic| first
  | ((with_reducible refine' i_mkTB ?u0 ?u1 (fun np nH nhe nhb nhp => ?uq)); (case u0 => exact Nat.le_of_ble_eq_true rfl); (case u1 => wtm_at "bag"))
  | ((with_reducible refine' i_mkLB ?u0 ?u1 (fun np nH nfr nhe nhb nhp => ?uq)); (case u0 => exact Nat.le_of_ble_eq_true rfl); (case u1 => wtm_at "bag"))
  | wtm_at "st")
local macro_rules | `(tactic| wtm_at "gob") => `(tactic| repeat' (wtm_at "stb"))
local macro_rules | `(tactic| wtm_at "gob0") => `(tactic| ((try dsimp only [L2.cxOf, L2.Cx.nox, L2.Cx.wish, L2.Cx.tr, L2.Cx.blk]); (try wtm_at "nrm"); wtm_at "gob"))
section
variable {P : Program} {w : World} {K : PySem.W.Frag} {mg : Str → Option Value} {base : Heap} {H H' : Hp} {Q : VK} {E : XK} {v1 v2 v3 v4 v5 : V}
@[reducible] def isInt : PyData → Bool
  | .int _ => true
  | _ => false
def wdV : Option String → V
  | none => .non
  | some s => .str (Str.ofString s)
def sp_is_integer (K : PySem.W.Frag) : Sp := A1 fun v1 H Q => ∃ d, Dp K H v1 d ∧ Q (.bl (isInt d)) H
abbrev s_is_integer : Stmt := top 9
theorem sc_is_integer : FnScope ["value"] ["value"] (defScope s_is_integer) := ⟨rfl, rfl, rfl, by decide +kernel, rfl, by decide +kernel, by decide +kernel⟩
theorem ok_is_integer {f : Addr} {fd : FuncData} (F : FnP K "is_integer" s_is_integer f fd) (g : G mg)   : FnOk P w K mg base CX0 1 f fd ["value"] (sp_is_integer K) := by
  have nd := sc_is_integer.nd
  refine F.ok sc_is_integer (fun vs H Q E h => h.len) (fun cdv A outer s H vs Q E hr h => ?_)
  obtain ⟨v1, rfl, h⟩ := h
  refine ⟨_, PSs.nox (pss_one (ps_ret (pe_and (pe_callB call_isi (by rfl) g.f_isinstance boot_isinstance (pa_cons (pv 0) (pa_cons (pe_bltn (v := .ty "int") (by rfl) g.f_int boot_int rfl) pa_nil))) (pe_one (pe_not (pe_callB call_isi (by rfl) g.f_isinstance boot_isinstance (pa_cons (pv 0) (pa_cons (pe_bltn (v := .ty "bool") (by rfl) g.f_bool boot_bool rfl) pa_nil)))))))), ?_⟩
  obtain ⟨d, hd, q⟩ := h
  cases d <;> wtm_at "go0" <;> wtm_at "fin"
theorem use_is_integer {d : PyData} (h : Dp K H v1 d) (q : Q (.bl (isInt d)) H) : sp_is_integer K [v1] H Q E := ⟨_, rfl, _, h, q⟩
local macro_rules | `(tactic| wtm_at "use") => `(tactic| ((with_reducible refine' use_is_integer ?u0 ?uq); (case u0 => wtm_at "dp")))
def sp_is_box (K : PySem.W.Frag) : Sp := A1 fun v1 H Q => ∃ b : Bx, Dp K H v1 (bxD b) ∧ b.ok ∧ Ret K (.bool true) H Q
abbrev s_is_box : Stmt := top 15
theorem sc_is_box : FnScope ["value", "part"] ["value"] (defScope s_is_box) := ⟨rfl, rfl, rfl, by decide +kernel, rfl, by decide +kernel, by decide +kernel⟩
theorem ok_is_box {f : Addr} {fd : FuncData} (F : FnP K "is_box" s_is_box f fd) (g : G mg) (c_is_integer : Cl P w K mg base 1 "is_integer" (sp_is_integer K))  : FnOk P w K mg base CX0 2 f fd ["value"] (sp_is_box K) := by
  have nd := sc_is_box.nd
  refine F.ok sc_is_box (fun vs H Q E h => h.len) (fun cdv A outer s H vs Q E hr h => ?_)
  obtain ⟨v1, rfl, h⟩ := h
  refine ⟨_, PSs.nox (pss_cons (ps_if (PW.pt (pw_or (pt_not (pt_val (pe_callB call_isi (by rfl) g.f_isinstance boot_isinstance (pa_cons (pv 0) (pa_cons (pe_bltn (v := .ty "tuple") (by rfl) g.f_tuple boot_tuple rfl) pa_nil))))) (pw_or (pt_cmpR op_ne (pe_callB call_qlen (by rfl) g.f_len boot_len (pa_cons (pv 0) pa_nil)) pe_int (nomark _)) (pw_or1 (pt_not (pt_val (pe_callB (cr_all rfl) (by rfl) g.f_all boot_all (pa_cons (pe_lc (own := [("part", 1)]) (g := gName 1) (by rfl) nd (pi_tup (pv 0)) (blkOk_by (N := ["value", "part"]) (sc := defScope s_is_box) (own := [("part", 1)]) (by decide +kernel)) (fun _ _ _ _ _ => (pg_name (i := 1) nd rfl (Or.inl rfl))) (fun _ _ _ _ _ => pts_nil) (fun _ _ _ _ _ => (pc c_is_integer hr (by first | decide | omega) (by rfl) (pa_cons (pv 1) pa_nil)))) pa_nil)))))))) (pss_one (ps_ret pe_bl)) pss_nil) (pss_one (ps_ret (pe_and (pe_cmpR op_le (pe_ix ix_tup (pv 0) pe_int (fun _ _ => rfl)) (pe_ix ix_tup (pv 0) pe_int (fun _ _ => rfl)) (nomark _)) (pe_one (pe_cmpR op_le (pe_ix ix_tup (pv 0) pe_int (fun _ _ => rfl)) (pe_ix ix_tup (pv 0) pe_int (fun _ _ => rfl)) (nomark _))))))), ?_⟩
  obtain ⟨⟨x0, x1, x2, x3⟩, h1, ⟨o1, o2⟩, q⟩ := h
  unfold bxD at h1
  dsimp only at h1 o1 o2
  wtm_at "go0"
  · rename_i hz
    exact absurd rfl hz
  have h1' : Dp K H v1 (.tuple ([x0, x1, x2, x3].map PyData.int)) := h1
  refine i_lcTU ?_
  wtm_at "go"
  refine i_lcGT (fun _ => true) (fun _ => .bool true) h1' (Nat.le_of_ble_eq_true rfl) (fun _ _ => rfl) (fun u x H2 R Y e2 hm hu hn hy => ?_) (fun p H2 hp e2 hl => ?_)
  · refine ⟨rfl, ?_⟩
    wtm_at "go"
    exact hy rfl _ _ (Ex.refl _) (Dp.bl _)
  · wtm_at "go"
    refine i_all (bs := [true, true, true, true]) hl rfl ?_
    wtm_at "go"
    · dsimp only
      exact Ret.bl' q (by wtm_at "ex") (decide_eq_true o2).symm
    · rename_i hz
      exact absurd o1 hz
theorem use_is_box {b : Bx} (h : Dp K H v1 (bxD b)) (ho : b.ok) (q : ∀ H2, Ex H H2 → Q (.bl true) H2) : sp_is_box K [v1] H Q E := ⟨_, rfl, b, h, ho, ret_bl q⟩
local macro_rules | `(tactic| wtm_at "use") => `(tactic| ((with_reducible refine' use_is_box ?u0 ?u1 (fun uH ue => ?uq)); (case u0 => wtm_at "dp"); (case u1 => with_reducible assumption)))
def sp_require_box (K : PySem.W.Frag) : Sp := A1 fun v1 H Q => ∃ b : Bx, Dp K H v1 (bxD b) ∧ b.ok ∧ Ret K .none H Q
abbrev s_require_box : Stmt := top 16
theorem sc_require_box : FnScope ["value"] ["value"] (defScope s_require_box) := ⟨rfl, rfl, rfl, by decide +kernel, rfl, by decide +kernel, by decide +kernel⟩
theorem ok_require_box {f : Addr} {fd : FuncData} (F : FnP K "require_box" s_require_box f fd) (g : G mg) (c_is_box : Cl P w K mg base 2 "is_box" (sp_is_box K))  : FnOk P w K mg base CX0 3 f fd ["value"] (sp_require_box K) := by
  have nd := sc_require_box.nd
  refine F.ok sc_require_box (fun vs H Q E h => h.len) (fun cdv A outer s H vs Q E hr h => ?_)
  obtain ⟨v1, rfl, h⟩ := h
  refine ⟨_, PSs.nox (pss_one (ps_if (pt_not (pt_val (pc c_is_box hr (by first | decide | omega) (by rfl) (pa_cons (pv 0) pa_nil)))) (pss_one ps_never) pss_nil)), ?_⟩
  obtain ⟨b, h1, h2, q⟩ := h
  wtm_at "go0"
  all_goals wtm_at "fin"
theorem use_require_box {b : Bx} (h : Dp K H v1 (bxD b)) (ho : b.ok) (q : ∀ H2, Ex H H2 → Q .non H2) : sp_require_box K [v1] H Q E := ⟨_, rfl, b, h, ho, ret_non q⟩
local macro_rules | `(tactic| wtm_at "use") => `(tactic| ((with_reducible refine' use_require_box ?u0 ?u1 (fun uH ue => ?uq)); (case u0 => wtm_at "dp"); (case u1 => with_reducible assumption)))
def sp_do_meet_in (K : PySem.W.Frag) : Sp := A2 fun v1 v2 H Q => ∃ b c : Bx, Dp K H v1 (bxD b) ∧ Dp K H v2 (bxD c) ∧ Q (.bl (meetB b c)) H
abbrev s_do_meet_in : Stmt := top 17
theorem sc_do_meet_in : FnScope ["box", "other_box"] ["box", "other_box"] (defScope s_do_meet_in) := ⟨rfl, rfl, rfl, by decide +kernel, rfl, by decide +kernel, by decide +kernel⟩
theorem ok_do_meet_in {f : Addr} {fd : FuncData} (F : FnP K "do_meet_in" s_do_meet_in f fd) (g : G mg)   : FnOk P w K mg base CX0 1 f fd ["box", "other_box"] (sp_do_meet_in K) := by
  have nd := sc_do_meet_in.nd
  refine F.ok sc_do_meet_in (fun vs H Q E h => h.len) (fun cdv A outer s H vs Q E hr h => ?_)
  obtain ⟨v1, v2, rfl, h⟩ := h
  refine ⟨_, PSs.nox (pss_one (ps_ret (pe_and (pe_cmpR op_le (pe_ix ix_tup (pv 0) pe_int (fun _ _ => rfl)) (pe_ix ix_tup (pv 1) pe_int (fun _ _ => rfl)) (nomark _)) (pe_and (pe_cmpR op_le (pe_ix ix_tup (pv 1) pe_int (fun _ _ => rfl)) (pe_ix ix_tup (pv 0) pe_int (fun _ _ => rfl)) (nomark _)) (pe_and (pe_cmpR op_le (pe_ix ix_tup (pv 0) pe_int (fun _ _ => rfl)) (pe_ix ix_tup (pv 1) pe_int (fun _ _ => rfl)) (nomark _)) (pe_one (pe_cmpR op_le (pe_ix ix_tup (pv 1) pe_int (fun _ _ => rfl)) (pe_ix ix_tup (pv 0) pe_int (fun _ _ => rfl)) (nomark _)))))))), ?_⟩
  obtain ⟨⟨x0, x1, x2, x3⟩, ⟨y0, y1, y2, y3⟩, h1, h2, q⟩ := h
  unfold bxD at h1 h2
  unfold meetB at q
  dsimp only at h1 h2 q
  wtm_at "go0"
  all_goals (dsimp only; simpa only [*, decide_true, decide_false, Bool.and_true, Bool.true_and, Bool.and_false, Bool.false_and] using q)
theorem use_do_meet_in {b c : Bx} (h : Dp K H v1 (bxD b)) (h2 : Dp K H v2 (bxD c)) (q : Q (.bl (meetB b c)) H) : sp_do_meet_in K [v1, v2] H Q E := ⟨_, _, rfl, b, c, h, h2, q⟩
local macro_rules | `(tactic| wtm_at "use") => `(tactic| ((with_reducible refine' use_do_meet_in ?u0 ?u1 ?uq); (case u0 => wtm_at "dp"); (case u1 => wtm_at "dp")))
def sp_is_entry (K : PySem.W.Frag) : Sp := A1 fun v1 H Q => ∃ e : En, Dp K H v1 (enD e) ∧ e.2.ok ∧ Ret K (.bool true) H Q
abbrev s_is_entry : Stmt := top 27
theorem sc_is_entry : FnScope ["value"] ["value"] (defScope s_is_entry) := ⟨rfl, rfl, rfl, by decide +kernel, rfl, by decide +kernel, by decide +kernel⟩
theorem ok_is_entry {f : Addr} {fd : FuncData} (F : FnP K "is_entry" s_is_entry f fd) (g : G mg) (c_is_integer : Cl P w K mg base 1 "is_integer" (sp_is_integer K)) (c_is_box : Cl P w K mg base 2 "is_box" (sp_is_box K))  : FnOk P w K mg base CX0 3 f fd ["value"] (sp_is_entry K) := by
  have nd := sc_is_entry.nd
  refine F.ok sc_is_entry (fun vs H Q E h => h.len) (fun cdv A outer s H vs Q E hr h => ?_)
  obtain ⟨v1, rfl, h⟩ := h
  refine ⟨_, PSs.nox (pss_one (ps_ret (pe_and (pe_callB call_isi (by rfl) g.f_isinstance boot_isinstance (pa_cons (pv 0) (pa_cons (pe_bltn (v := .ty "tuple") (by rfl) g.f_tuple boot_tuple rfl) pa_nil))) (pe_and (pe_cmpR op_eq (pe_callB call_qlen (by rfl) g.f_len boot_len (pa_cons (pv 0) pa_nil)) pe_int (nomark _)) (pe_and (pc c_is_integer hr (by first | decide | omega) (by rfl) (pa_cons (pe_ix ix_tup (pv 0) pe_int (fun _ _ => rfl)) pa_nil)) (pe_one (pc c_is_box hr (by first | decide | omega) (by rfl) (pa_cons (pe_ix ix_tup (pv 0) pe_int (fun _ _ => rfl)) pa_nil)))))))), ?_⟩
  obtain ⟨⟨n, b⟩, h1, o1, q⟩ := h
  unfold enD at h1
  dsimp only at h1 o1
  wtm_at "go0"
  all_goals first | (wtm_at "fin"; done) | exact absurd rfl (by assumption)
end
end Wb

namespace Wb
open PySem PySem.Spec PyProof.Rows L2 StX
open Evl (Ex Ex.refl Ex.trans Ex.new)
local macro_rules | `(tactic| wtm_at "dp") => `(tactic| first | with_reducible assumption | with_reducible exact Dp.int _ | with_reducible exact Dp.bl _ | with_reducible exact Dp.str _ | with_reducible exact Dp.non | ((with_reducible refine' dpMono ?dme (by with_reducible assumption)); (case dme => wtm_at "ex")) | ((with_reducible refine' Dp.tup (Evl.st_of ?dph) ?dpa); (case dph => wtm_at "hs"); (case dpa => wtm_at "dpa")) | ((with_reducible refine' Dp.lst (Evl.sq_of ?dph) ?dpa); (case dph => wtm_at "hs"); (case dpa => wtm_at "dpa")))
local macro_rules | `(tactic| wtm_at "dpa") => `(tactic| first | with_reducible exact DpAll.nil | ((with_reducible refine' DpAll.cons ?dp1 ?dp2); (case dp1 => wtm_at "dp"); (case dp2 => wtm_at "dpa")) | with_reducible assumption | ((with_reducible refine' dpMonoA ?dme (by with_reducible assumption)); (case dme => wtm_at "ex")))
local macro_rules | `(tactic| wtm_at "sz") => `(tactic| first | with_reducible assumption | ((with_reducible refine' sz_mul ?sz1 ?sz2); (case sz1 => wtm_at "sz"); (case sz2 => wtm_at "sz")) | ((with_reducible refine' sz_add ?sz1 ?sz2); (case sz1 => wtm_at "sz"); (case sz2 => wtm_at "sz")) | ((with_reducible refine' sz_sub ?sz1 ?sz2); (case sz1 => wtm_at "sz"); (case sz2 => wtm_at "sz")) | ((with_reducible refine' sz_neg ?sz1); (case sz1 => wtm_at "sz")) | ((with_reducible refine' sz_div ?sz1); (case sz1 => wtm_at "sz")) | ((with_reducible refine' sz_fdiv ?sz1); (case sz1 => wtm_at "sz")) | exact sz_lit (by decide) | wtm_at "sz2")
local macro_rules | `(tactic| wtm_at "szb") => `(tactic| first | with_reducible assumption | ((with_reducible refine' sz_mono ?szb1 ?szb2); (case szb1 => wtm_at "sz"); (case szb2 => decide)))
local macro_rules | `(tactic| wtm_at "nz") => `(tactic| first | assumption | decide | omega)
local macro_rules | `(tactic| wtm_at "shaped") => `(tactic| first | rfl | decide)
local macro_rules | `(tactic| wtm_at "sset") => `(tactic| ((dsimp only [L2.wipe, List.set, List.set_cons_zero, List.set_cons_succ]) <;> exact rfl))
local macro_rules | `(tactic| wtm_at "nrm") => `(tactic| dsimp only [L2.start, L2.wipe, List.set, List.append, List.map, List.map_cons, List.map_nil, List.length_cons, List.length_nil, Nat.reduceAdd, Nat.reduceSub, List.reduceReplicate, List.replicate, List.cons_append, List.nil_append, List.set_cons_zero, List.set_cons_succ])
local macro_rules | `(tactic| wtm_at "st") => `(tactic| first
  | ((with_reducible refine' i_var (v := ?u0) ?u1 ?uq); (case u1 => exact rfl))
  | ((with_reducible refine' i_nameN ?u0 ?uq); (case u0 => wtm_at "sset"))
  | (with_reducible refine' i_op ?uq)
  | (with_reducible refine' i_c ?uq)
  | (with_reducible refine' i_I0 ?uq)
  | ((with_reducible refine' i_ixTI (i := ?u0) ?u1 ?u2 ?u3 ?uq); (case u1 => wtm_at "dp"); (case u2 => wtm_at "ex"); (case u3 => exact rfl))
  | ((with_reducible refine' i_ixT (d := ?u0) ?u1 ?u2 ?u3 (fun xu hxu => ?uq)); (case u1 => wtm_at "dp"); (case u2 => wtm_at "ex"); (case u3 => exact rfl))
  | ((with_reducible refine' i_mul ?u0 ?u1 ?u2 ?uq); (case u0 => wtm_at "sz"); (case u1 => wtm_at "sz"); (case u2 => first | decide | omega))
  | (with_reducible refine' i_seq ?uq)
  | (with_reducible refine' i_asg ?uq)
  | (with_reducible refine' i_ret ?uq)
  | (with_reducible refine' i_ifs ?uq)
  | (with_reducible refine' i_drop ?uq)
  | (with_reducible refine' i_next ?uq)
  | (with_reducible refine' i_cons ?uq)
  | (with_reducible refine' i_nil ?uq)
  | (with_reducible refine' i_cl ?uq)
  | (with_reducible refine' i_cb ?uq)
  | (with_reducible refine' i_tup ?uq)
  | (with_reducible refine' i_lst ?uq)
  | ((with_reducible refine' i_mkT ?u0 (fun np nH nhe nhp => ?uq)); (case u0 => exact Nat.le_of_ble_eq_true rfl))
  | (with_reducible refine' i_test ?uq)
  | (with_reducible refine' i_B ?uq)
  | (with_reducible refine' i_k ?uq)
  | (with_reducible refine' i_and ?uq)
  | (with_reducible refine' i_or ?uq)
  | (with_reducible refine' i_not ?uq)
  | (with_reducible refine' i_andV ?uq)
  | (with_reducible refine' i_orV ?uq)
  | (with_reducible refine' i_notV ?uq)
  | (with_reducible refine' i_if ?uq)
  | (with_reducible refine' i_un ?uq)
  | (with_reducible refine' i_U ?uq)
  | (with_reducible refine' i_iteT ?uq)
  | (with_reducible refine' i_iteF ?uq)
  | ((with_reducible refine' i_iteTr ?u0 ?uq); (case u0 => first | with_reducible rfl | decide | (simp only [dIsInt, dIsBool, dIsTup, dIsStr, dIsLst, Bool.not_true, Bool.not_false]; done)))
  | ((with_reducible refine' i_iteFr ?u0 ?uq); (case u0 => first | with_reducible rfl | decide | (simp only [dIsInt, dIsBool, dIsTup, dIsStr, dIsLst, Bool.not_true, Bool.not_false]; done)))
  | (with_reducible refine' i_ite (fun hif => ?uqa) (fun hif => ?uqb))
  | (with_reducible refine' i_iteN (fun hif => ?uqa) (fun hif => ?uqb))
  | (with_reducible refine' i_iteBN (fun hif => ?uqa) (fun hif => ?uqb))
  | (with_reducible refine' i_iteB (fun hif => ?uqa) (fun hif => ?uqb))
  | ((with_reducible refine' i_modN ?u0 ?uq); (case u0 => wtm_at "nz"))
  | ((with_reducible refine' i_fdX ?u0 ?u1 ?u2 ?uq); (case u0 => wtm_at "nz"); (case u1 => wtm_at "sz"); (case u2 => first | decide | omega))
  | ((with_reducible refine' i_pow ?u0 ?uq); (case u0 => exact ⟨by decide, by decide +kernel⟩))
  | (with_reducible refine' i_eqI ?uq)
  | (with_reducible refine' i_neI ?uq)
  | (with_reducible refine' i_gcd ?uq)
  | (with_reducible refine' i_qabs ?uq)
  | (with_reducible refine' i_qint ?uq)
  | (with_reducible refine' i_qintB ?uq)
  | (with_reducible refine' i_qmax2 ?uq)
  | (with_reducible refine' i_qmin2 ?uq)
  | (with_reducible refine' i_isB ?uq)
  | (with_reducible refine' i_notB ?uq)
  | (with_reducible refine' i_chain ?uq)
  | (with_reducible refine' i_qisN ?uq)
  | (with_reducible refine' i_qnotN ?uq)
  | (with_reducible refine' i_yes ?uq)
  | (with_reducible refine' i_par ?uq)
  | (with_reducible refine' i_par3 ?uq)
  | ((with_reducible refine' i_par2 ?u0 ?uq); (case u0 => wtm_at "sset"))
  | ((with_reducible refine' i_par33 ?u0 ?uq); (case u0 => wtm_at "sset"))
  | ((with_reducible refine' i_ixLI (i := ?u0) ?u1 ?u2 ?u3 ?uq); (case u1 => wtm_at "dp"); (case u2 => wtm_at "ex"); (case u3 => exact rfl))
  | ((with_reducible refine' i_ixL (d := ?u0) ?u1 ?u2 ?u3 (fun xu hxu => ?uq)); (case u1 => wtm_at "dp"); (case u2 => wtm_at "ex"); (case u3 => exact rfl))
  | ((with_reducible refine' i_qlenT ?u0 ?uq); (case u0 => wtm_at "dp"))
  | ((with_reducible refine' i_qlenL ?u0 ?uq); (case u0 => wtm_at "dp"))
  | ((with_reducible refine' i_gtup ?u0 ?u1 ?u2 (fun gvs gdp => ?uq)); (case u0 => wtm_at "dp"); (case u1 => wtm_at "ex"); (case u2 => exact rfl))
  | ((with_reducible refine' i_glst ?u0 ?u1 ?u2 (fun gvs gdp => ?uq)); (case u0 => wtm_at "dp"); (case u1 => wtm_at "ex"); (case u2 => exact rfl))
  | ((with_reducible refine' i_gconsI ?u0 (fun gr gh => ?uq)); (case u0 => with_reducible assumption))
  | ((with_reducible refine' i_gconsA ?u0 (fun gv gr gh1 gh2 => ?uq)); (case u0 => with_reducible assumption))
  | ((with_reducible refine' i_gnilA ?u0 ?uq); (case u0 => with_reducible assumption))
  | ((with_reducible refine' i_isiI ?u0 ?uq); (case u0 => wtm_at "dp"))
  | ((with_reducible refine' i_isiB ?u0 ?uq); (case u0 => wtm_at "dp"))
  | ((with_reducible refine' i_isiT ?u0 ?uq); (case u0 => wtm_at "dp"))
  | ((with_reducible refine' i_isiS ?u0 ?uq); (case u0 => wtm_at "dp"))
  | ((with_reducible refine' i_isiL ?u0 ?uq); (case u0 => wtm_at "dp"))
  | ((with_reducible refine' i_eqD ?u0 ?u1 ?u2 ?u3 ?uq); (case u0 => wtm_at "dp"); (case u1 => wtm_at "dp"); (case u2 => wtm_at "shaped"); (case u3 => wtm_at "shaped"))
  | ((with_reducible refine' i_neD ?u0 ?u1 ?u2 ?u3 ?uq); (case u0 => wtm_at "dp"); (case u1 => wtm_at "dp"); (case u2 => wtm_at "shaped"); (case u3 => wtm_at "shaped"))
  | wtm_at "st2"
  | wtm_at "use")
local macro_rules | `(tactic| wtm_at "go") => `(tactic| repeat' (wtm_at "st"))
local macro_rules | `(tactic| wtm_at "go0") => `(tactic| ((try dsimp only [L2.cxOf, L2.Cx.nox, L2.Cx.wish, L2.Cx.tr, L2.Cx.blk]); (try wtm_at "nrm"); wtm_at "go"))
local macro_rules | `(tactic| wtm_at "fin") => `(tactic| ((try dsimp only); first | with_reducible assumption | assumption | ((with_reducible refine' Ret.use ?rur ?rue ?rud); (case rur => with_reducible assumption); (case rue => wtm_at "ex"); (case rud => wtm_at "dp"))))
local macro_rules | `(tactic| wtm_at "exh") => `(tactic| first | with_reducible assumption | with_reducible exact Ex.refl _ | with_reducible exact ex_hid | ((with_reducible refine' Ex.trans ?exe (by with_reducible assumption)); (case exe => wtm_at "exh")) | ((with_reducible refine' Ex.trans ?exe (hid_ex (by with_reducible assumption))); (case exe => wtm_at "exh")))
local macro_rules | `(tactic| wtm_at "ex") => `(tactic| first | with_reducible assumption | with_reducible exact Ex.refl _ | with_reducible exact ex_hid | ((with_reducible refine' Ex.trans ?exe (by with_reducible assumption)); (case exe => wtm_at "ex")) | ((with_reducible refine' Ex.trans ?exe (hid_ex (by with_reducible assumption))); (case exe => wtm_at "ex")) | ((with_reducible refine' Ex.trans ?exe ex_hid); (case exe => wtm_at "exh")))
local macro_rules | `(tactic| wtm_at "bag") => `(tactic| first | with_reducible assumption | ((with_reducible refine' Bag.mono ?bgm (by with_reducible assumption)); (case bgm => wtm_at "bag")))
local macro_rules | `(tactic| wtm_at "hs") => `(tactic| first | with_reducible assumption | ((with_reducible refine' hid_tup ?hb ?hp); (case hp => with_reducible assumption); (case hb => wtm_at "bag")) | ((with_reducible refine' hid_new ?hb ?hn ?hp); (case hp => with_reducible assumption); (case hn => with_reducible assumption); (case hb => wtm_at "bag")) | ((with_reducible refine' ex_at ?exe (by with_reducible assumption)); (case exe => wtm_at "ex")))
local macro_rules | `(tactic| wtm_at "st2") => `(tactic| first
  | ((with_reducible refine' i_mulC ?u0 ?uq); (case u0 => first | exact cmul_l (by decide) | exact cmul_r (by decide)))
  | ((with_reducible refine' i_ixLr (v := ?u0) ?u1 ?u2 ?uq); (case u1 => with_reducible assumption); (case u2 => exact rfl))
  | (with_reducible refine' i_sub ?uq)
  | ((with_reducible refine' i_mkL ?u0 (fun np nH nfr nhe nhp => ?uq)); (case u0 => exact Nat.le_of_ble_eq_true rfl))
  | ((with_reducible refine' i_setL (n := ?u0) ?u1 ?u2 (fun sH sh se => ?uq)); (case u1 => with_reducible assumption); (case u2 => exact rfl))
  | (with_reducible refine' i_sl ?uq)
  | (with_reducible refine' i_nopart ?uq)
  | (with_reducible refine' i_part ?uq)
  | (with_reducible refine' i_part1 ?uq))
local macro_rules | `(tactic| wtm_at "sz2") => `(tactic| ((with_reducible refine' sz_fmod ?sz1 ?sz2); (case sz1 => wtm_at "nz"); (case sz2 => wtm_at "sz")))
local macro_rules | `(tactic| wtm_at "stb") => `(tactic| first
  | ((with_reducible refine' i_mkTB ?u0 ?u1 (fun np nH nhe nhb nhp => ?uq)); (case u0 => exact Nat.le_of_ble_eq_true rfl); (case u1 => wtm_at "bag"))
  | ((with_reducible refine' i_mkLB ?u0 ?u1 (fun np nH nfr nhe nhb nhp => ?uq)); (case u0 => exact Nat.le_of_ble_eq_true rfl); (case u1 => wtm_at "bag"))
  | wtm_at "st")
local macro_rules | `(tactic| wtm_at "gob") => `(tactic| repeat' (wtm_at "stb"))
local macro_rules | `(tactic| wtm_at "gob0") => `(tactic| ((try dsimp only [L2.cxOf, L2.Cx.nox, L2.Cx.wish, L2.Cx.tr, L2.Cx.blk]); (try wtm_at "nrm"); wtm_at "gob"))
local macro_rules | `(tactic| wtm_at "use") => `(tactic| ((with_reducible refine' use_is_integer ?u0 ?uq); (case u0 => wtm_at "dp")))
local macro_rules | `(tactic| wtm_at "use") => `(tactic| ((with_reducible refine' use_is_box ?u0 ?u1 (fun uH ue => ?uq)); (case u0 => wtm_at "dp"); (case u1 => with_reducible assumption)))
local macro_rules | `(tactic| wtm_at "use") => `(tactic| ((with_reducible refine' use_require_box ?u0 ?u1 (fun uH ue => ?uq)); (case u0 => wtm_at "dp"); (case u1 => with_reducible assumption)))
local macro_rules | `(tactic| wtm_at "use") => `(tactic| ((with_reducible refine' use_do_meet_in ?u0 ?u1 ?uq); (case u0 => wtm_at "dp"); (case u1 => wtm_at "dp")))
local macro_rules | `(tactic| wtm_at "use") => `(tactic| ((with_reducible refine' use_apart_word ?u0 ?u1 ?uq); (case u0 => wtm_at "dp"); (case u1 => wtm_at "dp")))
local macro_rules | `(tactic| wtm_at "st") => `(tactic| first | ((with_reducible refine' i_ixTS (z := ?u0) ?u1 ?u2 ?u3 ?uq); (case u1 => wtm_at "dp"); (case u2 => wtm_at "ex"); (case u3 => exact rfl)) | fail)
local macro_rules | `(tactic| wtm_at "st2") => `(tactic| first | ((with_reducible refine' i_eqST ?u0 ?uq); (case u0 => with_reducible rfl)) | ((with_reducible refine' i_eqSF ?u0 ?uq); (case u0 => decide +kernel)) | ((with_reducible refine' i_neST ?u0 ?uq); (case u0 => with_reducible rfl)) | ((with_reducible refine' i_neSF ?u0 ?uq); (case u0 => decide +kernel)) | fail)
section
variable {P : Program} {w : World} {K : PySem.W.Frag} {mg : Str → Option Value} {base : Heap} {H H' : Hp} {Q : VK} {E : XK} {v1 v2 v3 v4 v5 : V}
/-- small forms: at most four items on each level -/
def Sm : (n : Nat) → Fo n → Prop
  | 0, t => (foL t).length ≤ 4
  | n + 1, t => (foB t).length ≤ 4 ∧ ∀ p ∈ foB t, Sm n p.2
theorem flat_len {α β : Type} (f : α → List β) (k : Nat) : ∀ xs : List α, (∀ x ∈ xs, (f x).length ≤ k) → (xs.flatMap f).length ≤ xs.length * k
  | [], _ => Nat.zero_le _
  | x :: xs, h => by
    rw [List.flatMap_cons, List.length_append, List.length_cons, Nat.succ_mul]
    have h1 := h x List.mem_cons_self
    have h2 := flat_len f k xs fun y hy => h y (List.mem_cons_of_mem _ hy)
    omega
theorem ents_len : ∀ (n : Nat) (t : Fo n), Sm n t → (ents n t).length ≤ 4 ^ (n + 1)
  | 0, t, h => h
  | n + 1, t, h => by
    have h1 := flat_len (fun p : Bx × Fo n => ents n p.2) (4 ^ (n + 1)) (foB t) fun p hp => ents_len n p.2 (h.2 p hp)
    show ((foB t).flatMap fun p => ents n p.2).length ≤ 4 ^ (n + 1 + 1)
    rw [Nat.pow_succ 4 (n + 1), Nat.mul_comm]
    exact Nat.le_trans h1 (Nat.mul_le_mul_right _ h.1)
theorem pow4 {n : Nat} (h : n ≤ 2) : 4 ^ (n + 1) ≤ 100 := by
  have : n = 0 ∨ n = 1 ∨ n = 2 := by omega
  rcases this with rfl | rfl | rfl <;> decide
def RetL (K : PySem.W.Frag) (ds : List PyData) (H : Hp) (Q : VK) : Prop := ∀ p H2, H p = none → Ex H H2 → Dp K H2 (.ref p) (.list ds) → Q (.ref p) H2
def sp_entries_in (K : PySem.W.Frag) (n : Nat) : Sp := A1 fun v1 H Q => ∃ m, m < n ∧ m ≤ 3 ∧ ∃ t : Fo m, Dp K H v1 (foD m t) ∧ Sm m t ∧ RetL K ((ents m t).map enD) H Q
theorem use_entries_in {n m : Nat} {t : Fo m} (hlt : m < n) (hn : m ≤ 3) (h : Dp K H v1 (foD m t)) (hs : Sm m t) (q : ∀ p H2, H p = none → Ex H H2 → Dp K H2 (.ref p) (.list ((ents m t).map enD)) → Q (.ref p) H2) : sp_entries_in K n [v1] H Q E := ⟨_, rfl, m, hlt, hn, t, h, hs, q⟩
local macro_rules | `(tactic| wtm_at "uent") => `(tactic| ((with_reducible refine' use_entries_in ?u00 ?u0 ?u1 ?u2 ?uq); (case u1 => wtm_at "dp"); (case u00 => omega); (case u0 => omega); (case u2 => with_reducible assumption)))
abbrev s_entries_in : Stmt := top 30
theorem sc_entries_in : FnScope ["form", "box", "within", "entry"] ["form"] (defScope s_entries_in) := ⟨rfl, rfl, rfl, by decide +kernel, rfl, by decide +kernel, by decide +kernel⟩
theorem ok_entries_in {f : Addr} {fd : FuncData} (F : FnP K "entries_in" s_entries_in f fd) (g : G mg) {n : Nat} (c_entries_in : Cl P w K mg base n "entries_in" (sp_entries_in K n)) : FnOk P w K mg base CX0 (n + 1) f fd ["form"] (sp_entries_in K (n + 1)) := by
  have nd := sc_entries_in.nd
  refine F.ok sc_entries_in (fun vs H Q E h => h.len) (fun cdv A outer s H vs Q E hr h => ?_)
  obtain ⟨v1, rfl, h⟩ := h
  refine ⟨_, PSs.nox (pss_cons (ps_if (pt_cmpR op_eq (pe_ix ix_tup (pv 0) pe_int (fun _ _ => rfl)) (pe_glob (v := .str "leaf") (by rfl) g.c_LEAF.choose_spec ⟨_, rfl⟩) (nomark _)) (pss_one (ps_ret (pe_callTy call_qlist (by rfl) g.f_list boot_list (pa_cons (pe_ix ix_tup (pv 0) pe_int (fun _ _ => rfl)) pa_nil)))) pss_nil) (pss_one (ps_ret (pe_lc2 (own := [("box", 1), ("within", 2), ("entry", 3)]) (vs1 := [3]) (g := _) (g1 := gName 3) (by rfl) nd (pi_tup (pe_ix ix_tup (pv 0) pe_int (fun _ _ => rfl))) (blkOk_by (N := ["form", "box", "within", "entry"]) (sc := defScope s_entries_in) (own := [("box", 1), ("within", 2), ("entry", 3)]) (by decide +kernel)) (by decide) (fun _ _ _ _ _ => (show PG _ _ (gTup K 2 _) from (pg_tup (by rfl) (pgs_cons (pg_name (i := 1) nd rfl (Or.inl rfl)) (pgs_cons (pg_name (i := 2) nd rfl (Or.inl rfl)) pgs_nil))))) (fun _ _ _ _ _ => pts_nil) (fun _ _ _ _ _ => (show PI _ _ _ (iList K _) from (pi_list (pc c_entries_in hr (by first | decide | omega) (by rfl) (pa_cons (pv 2) pa_nil))))) (fun _ _ _ _ _ => (pg_name (i := 3) nd rfl (Or.inl rfl))) (fun _ _ _ _ _ => pts_nil) (fun _ _ _ _ _ => (pv 3)))))), ?_⟩
  obtain ⟨m, e, hn, t, h1, hs, q⟩ := h
  cases m with
  | zero =>
    unfold foD at h1
    wtm_at "go0"
    rename_i xu hx
    refine i_qlistT hx (fun p H2 hp e2 hh => ?_)
    obtain ⟨vs, h3, h4⟩ := hh
    exact q p H2 hp e2 (.lst (Evl.sq_of h3) h4)
  | succ m =>
    unfold foD at h1
    wtm_at "go0"
    refine i_lc2U ?_
    wtm_at "go"
    rename_i xu hx
    refine i_lc2 (enc := brD m) (enc1 := enD) (xs := foB t) (fun p => ents m p.2) (fun _ e => enD e) hx (by have := hs.1; omega) (fun x hx => ?_) (fun _ _ y _ => noL_en y) (fun _ _ y _ => noL_en y) (fun u x H2 R S e2 hm hu hS => ?_) (fun p H2 hp e2 hl => ?_)
    · exact Nat.le_trans (ents_len m x.2 (hs.2 x hx)) (pow4 (by omega))
    · unfold brD at hu
      wtm_at "nrm"
      wtm_at "go"
      refine ⟨rfl, ?_⟩
      wtm_at "go"
      have hsx := hs.2 x hm
      wtm_at "uent"
      intro p H3 hp3 e3 hl3
      refine hS _ p H3 e3 hp3 hl3 (fun u1 y H5 R1 Y e5 hy hu1 hY => ?_)
      wtm_at "nrm"
      wtm_at "go"
      refine ⟨rfl, ?_⟩
      wtm_at "go"
      exact hY _ _ (Ex.refl _) hu1
    · rw [← List.map_flatMap] at hl
      exact q p H2 hp e2 hl
theorem deps_len : ∀ (n : Nat) (t : Fo n), Sm n t → (deps n t).length ≤ 4 ^ (n + 1)
  | 0, t, h => Nat.le_of_ble_eq_true rfl
  | n + 1, t, h => by
    have h1 := flat_len (fun p : Bx × Fo n => (deps n p.2).map (1 + ·)) (4 ^ (n + 1)) (foB t) fun p hp => by rw [List.length_map]; exact deps_len n p.2 (h.2 p hp)
    show ((foB t).flatMap fun p => (deps n p.2).map (1 + ·)).length ≤ 4 ^ (n + 1 + 1)
    rw [Nat.pow_succ 4 (n + 1), Nat.mul_comm]
    exact Nat.le_trans h1 (Nat.mul_le_mul_right _ h.1)
theorem subs_len : ∀ (n : Nat) (t : Fo n), Sm n t → (subs n t).length + 2 ≤ 2 * 4 ^ n
  | 0, t, h => Nat.le_of_ble_eq_true rfl
  | n + 1, t, h => by
    have h1 := flat_len (fun p : Bx × Fo n => foD n p.2 :: subs n p.2) (2 * 4 ^ n - 1) (foB t) fun p hp => by
      have := subs_len n p.2 (h.2 p hp)
      rw [List.length_cons]
      omega
    show ((foB t).flatMap fun p => foD n p.2 :: subs n p.2).length + 2 ≤ 2 * 4 ^ (n + 1)
    rw [Nat.pow_succ 4 n]
    have h2 := Nat.mul_le_mul_right (2 * 4 ^ n - 1) h.1
    have h3 : 0 < 4 ^ n := Nat.pow_pos (by decide)
    omega
theorem brns_len : ∀ (n : Nat) (t : Fo n), (brns n t).length = (subs n t).length
  | 0, t => rfl
  | n + 1, t => by
    show ((foB t).flatMap fun p => brD n p :: brns n p.2).length = ((foB t).flatMap fun p => foD n p.2 :: subs n p.2).length
    induction (foB t) with
    | nil => rfl
    | cons p r ih =>
      rw [List.flatMap_cons, List.flatMap_cons, List.length_append, List.length_append, ih, List.length_cons, List.length_cons, brns_len n p.2]
theorem pow4b {n : Nat} (h : n ≤ 2) : 2 * 4 ^ n ≤ 50 := by
  have : n = 0 ∨ n = 1 ∨ n = 2 := by omega
  rcases this with rfl | rfl | rfl <;> decide
theorem subs_len' {n : Nat} {t : Fo n} (h : Sm n t) (hn : n ≤ 2) : (subs n t).length ≤ 60 := by
  have := subs_len n t h
  have := pow4b hn
  omega
theorem brns_len' {n : Nat} {t : Fo n} (h : Sm n t) (hn : n ≤ 2) : (brns n t).length ≤ 60 := by
  rw [brns_len]
  exact subs_len' h hn
theorem ex_none {H2 H3 : Hp} {p : Addr} (h : H3 p = none) (e : Ex H2 H3) : H2 p = none := by
  cases q : H2 p with
  | none => rfl
  | some o =>
    rw [e p o q] at h
    cases h
def sp_depths_in (K : PySem.W.Frag) (n : Nat) : Sp := A1 fun v1 H Q => ∃ m, m < n ∧ m ≤ 3 ∧ ∃ t : Fo m, Dp K H v1 (foD m t) ∧ Sm m t ∧ RetL K ((deps m t).map PyData.int) H Q
theorem use_depths_in {n m : Nat} {t : Fo m} (hlt : m < n) (hn : m ≤ 3) (h : Dp K H v1 (foD m t)) (hs : Sm m t) (q : ∀ p H2, H p = none → Ex H H2 → Dp K H2 (.ref p) (.list ((deps m t).map PyData.int)) → Q (.ref p) H2) : sp_depths_in K n [v1] H Q E := ⟨_, rfl, m, hlt, hn, t, h, hs, q⟩
local macro_rules | `(tactic| wtm_at "uent") => `(tactic| ((with_reducible refine' use_depths_in ?u00 ?u0 ?u1 ?u2 ?uq); (case u1 => wtm_at "dp"); (case u00 => omega); (case u0 => omega); (case u2 => with_reducible assumption)))
abbrev s_depths_in : Stmt := top 31
theorem sc_depths_in : FnScope ["form", "box", "within", "depth"] ["form"] (defScope s_depths_in) := ⟨rfl, rfl, rfl, by decide +kernel, rfl, by decide +kernel, by decide +kernel⟩
theorem ok_depths_in {f : Addr} {fd : FuncData} (F : FnP K "depths_in" s_depths_in f fd) (g : G mg) {n : Nat} (c_depths_in : Cl P w K mg base n "depths_in" (sp_depths_in K n)) : FnOk P w K mg base CX0 (n + 1) f fd ["form"] (sp_depths_in K (n + 1)) := by
  have nd := sc_depths_in.nd
  refine F.ok sc_depths_in (fun vs H Q E h => h.len) (fun cdv A outer s H vs Q E hr h => ?_)
  obtain ⟨v1, rfl, h⟩ := h
  refine ⟨_, PSs.nox (pss_cons (ps_if (pt_cmpR op_eq (pe_ix ix_tup (pv 0) pe_int (fun _ _ => rfl)) (pe_glob (v := .str "leaf") (by rfl) g.c_LEAF.choose_spec ⟨_, rfl⟩) (nomark _)) (pss_one (ps_ret (pe_lst (pa_cons pe_int pa_nil)))) pss_nil) (pss_one (ps_ret (pe_lc2 (own := [("box", 1), ("within", 2), ("depth", 3)]) (vs1 := [3]) (g := _) (g1 := gName 3) (by rfl) nd (pi_tup (pe_ix ix_tup (pv 0) pe_int (fun _ _ => rfl))) (blkOk_by (N := ["form", "box", "within", "depth"]) (sc := defScope s_depths_in) (own := [("box", 1), ("within", 2), ("depth", 3)]) (by decide +kernel)) (by decide) (fun _ _ _ _ _ => (show PG _ _ (gTup K 2 _) from (pg_tup (by rfl) (pgs_cons (pg_name (i := 1) nd rfl (Or.inl rfl)) (pgs_cons (pg_name (i := 2) nd rfl (Or.inl rfl)) pgs_nil))))) (fun _ _ _ _ _ => pts_nil) (fun _ _ _ _ _ => (show PI _ _ _ (iList K _) from (pi_list (pc c_depths_in hr (by first | decide | omega) (by rfl) (pa_cons (pv 2) pa_nil))))) (fun _ _ _ _ _ => (pg_name (i := 3) nd rfl (Or.inl rfl))) (fun _ _ _ _ _ => pts_nil) (fun _ _ _ _ _ => (pe_op op_add pe_int (pv 3))))))), ?_⟩
  obtain ⟨m, e, hn, t, h1, hs, q⟩ := h
  cases m with
  | zero =>
    unfold foD at h1
    wtm_at "go0"
    rename_i p H2 hp e2 hh
    exact q p H2 hp e2 (.lst (Evl.sq_of hh) (.cons (.int _) .nil))
  | succ m =>
    unfold foD at h1
    wtm_at "go0"
    refine i_lc2U ?_
    wtm_at "go"
    rename_i xu hx
    refine i_lc2 (enc := brD m) (enc1 := PyData.int) (xs := foB t) (fun p => deps m p.2) (fun _ k => .int (1 + k)) hx (by have := hs.1; omega) (fun x hx => ?_) (fun _ _ y _ => rfl) (fun _ _ y _ => rfl) (fun u x H2 R S e2 hm hu hS => ?_) (fun p H2 hp e2 hl => ?_)
    · exact Nat.le_trans (deps_len m x.2 (hs.2 x hx)) (pow4 (by omega))
    · unfold brD at hu
      wtm_at "nrm"
      wtm_at "go"
      refine ⟨rfl, ?_⟩
      wtm_at "go"
      have hsx := hs.2 x hm
      wtm_at "uent"
      intro p H3 hp3 e3 hl3
      refine hS _ p H3 e3 hp3 hl3 (fun u1 y H5 R1 Y e5 hy hu1 hY => ?_)
      cases dpInt hu1
      wtm_at "nrm"
      wtm_at "go"
      refine ⟨rfl, ?_⟩
      wtm_at "go"
      exact hY _ _ (Ex.refl _) (Dp.int _)
    · refine q p H2 hp e2 ?_
      have e : (deps (m + 1) t).map PyData.int = (foB t).flatMap fun p => (deps m p.2).map fun k => .int (1 + k) := by
        show ((foB t).flatMap fun p => (deps m p.2).map (1 + ·)).map PyData.int = _
        rw [List.map_flatMap]
        congr 1
        funext p
        rw [List.map_map]
        rfl
      rw [e]
      exact hl
theorem i_tstar {te : TE} {t : TA} {σ : L2.St} {R : List V → Hp → Prop} (q : te σ H fun y H1 => ∃ a xs, y = V.ref a ∧ (SqT K H1 a xs ∨ SqL K H1 a xs) ∧ t σ H1 fun vs H2 => R (xs ++ vs) H2) : tStar K te t σ H R := q
def sp_forms_in (K : PySem.W.Frag) (n : Nat) : Sp := A1 fun v1 H Q => ∃ m, m < n ∧ m ≤ 3 ∧ ∃ t : Fo m, Dp K H v1 (foD m t) ∧ Sm m t ∧ RetL K (subs m t) H Q
theorem use_forms_in {n m : Nat} {t : Fo m} (hlt : m < n) (hn : m ≤ 3) (h : Dp K H v1 (foD m t)) (hs : Sm m t) (q : ∀ p H2, H p = none → Ex H H2 → Dp K H2 (.ref p) (.list (subs m t)) → Q (.ref p) H2) : sp_forms_in K n [v1] H Q E := ⟨_, rfl, m, hlt, hn, t, h, hs, q⟩
local macro_rules | `(tactic| wtm_at "uent") => `(tactic| ((with_reducible refine' use_forms_in ?u00 ?u0 ?u1 ?u2 ?uq); (case u1 => wtm_at "dp"); (case u00 => omega); (case u0 => omega); (case u2 => with_reducible assumption)))
abbrev s_forms_in : Stmt := top 32
theorem sc_forms_in : FnScope ["form", "box", "within", "one"] ["form"] (defScope s_forms_in) := ⟨rfl, rfl, rfl, by decide +kernel, rfl, by decide +kernel, by decide +kernel⟩
theorem ok_forms_in {f : Addr} {fd : FuncData} (F : FnP K "forms_in" s_forms_in f fd) (g : G mg) {n : Nat} (c_forms_in : Cl P w K mg base n "forms_in" (sp_forms_in K n)) : FnOk P w K mg base CX0 (n + 1) f fd ["form"] (sp_forms_in K (n + 1)) := by
  have nd := sc_forms_in.nd
  refine F.ok sc_forms_in (fun vs H Q E h => h.len) (fun cdv A outer s H vs Q E hr h => ?_)
  obtain ⟨v1, rfl, h⟩ := h
  refine ⟨_, PSs.nox (pss_cons (ps_if (pt_cmpR op_eq (pe_ix ix_tup (pv 0) pe_int (fun _ _ => rfl)) (pe_glob (v := .str "leaf") (by rfl) g.c_LEAF.choose_spec ⟨_, rfl⟩) (nomark _)) (pss_one (ps_ret (pe_lst pa_nil))) pss_nil) (pss_one (ps_ret (pe_lc2 (own := [("box", 1), ("within", 2), ("one", 3)]) (vs1 := [3]) (g := _) (g1 := gName 3) (by rfl) nd (pi_tup (pe_ix ix_tup (pv 0) pe_int (fun _ _ => rfl))) (blkOk_by (N := ["form", "box", "within", "one"]) (sc := defScope s_forms_in) (own := [("box", 1), ("within", 2), ("one", 3)]) (by decide +kernel)) (by decide) (fun _ _ _ _ _ => (show PG _ _ (gTup K 2 _) from (pg_tup (by rfl) (pgs_cons (pg_name (i := 1) nd rfl (Or.inl rfl)) (pgs_cons (pg_name (i := 2) nd rfl (Or.inl rfl)) pgs_nil))))) (fun _ _ _ _ _ => pts_nil) (fun _ _ _ _ _ => (show PI _ _ _ (iList K _) from (pi_list (pe_lst (pa_cons (pv 2) (show PA _ _ (tStar K _ _) from pa_star (pc c_forms_in hr (by first | decide | omega) (by rfl) (pa_cons (pv 2) pa_nil)) pa_nil)))))) (fun _ _ _ _ _ => (pg_name (i := 3) nd rfl (Or.inl rfl))) (fun _ _ _ _ _ => pts_nil) (fun _ _ _ _ _ => (pv 3)))))), ?_⟩
  obtain ⟨m, e, hn, t, h1, hs, q⟩ := h
  cases m with
  | zero =>
    unfold foD at h1
    wtm_at "go0"
    rename_i p H2 hp e2 hh
    exact q p H2 hp e2 (.lst (Evl.sq_of hh) .nil)
  | succ m =>
    unfold foD at h1
    wtm_at "go0"
    refine i_lc2U ?_
    wtm_at "go"
    rename_i xu hx
    refine i_lc2 (enc := brD m) (enc1 := fun d : PyData => d) (xs := foB t) (fun p => foD m p.2 :: subs m p.2) (fun _ d => d) hx (by have := hs.1; omega) (fun x hx => ?_) (fun x _ y hy => ?_) (fun x _ y hy => ?_) (fun u x H2 R S e2 hm hu hS => ?_) (fun p H2 hp e2 hl => ?_)
    · have := subs_len m x.2 (hs.2 x hx)
      have := pow4b (n := m) (by omega)
      rw [List.length_cons]
      omega
    · rcases List.mem_cons.mp hy with rfl | hy
      · exact noL_fo m x.2
      · exact noL_subs m x.2 y hy
    · rcases List.mem_cons.mp hy with rfl | hy
      · exact noL_fo m x.2
      · exact noL_subs m x.2 y hy
    · unfold brD at hu
      wtm_at "nrm"
      wtm_at "go"
      refine ⟨rfl, ?_⟩
      wtm_at "go"
      refine i_tstar ?_
      wtm_at "go"
      have hsx := hs.2 x hm
      wtm_at "uent"
      intro p H3 hp3 e3 hl3
      obtain ⟨a, us, ea, hus, hua⟩ := dpLst hl3
      cases ea
      refine ⟨p, us, rfl, .inr hus, ?_⟩
      wtm_at "go"
      rename_i gv gr gh1 gh2
      refine i_mkL (by
        have := subs_len' (hs.2 x hm) (show m ≤ 2 by omega)
        rw [List.length_cons, List.length_append, dpLen hua, List.length_nil]
        omega) (fun np H4 nfr nhe nhp => ?_)
      rw [List.append_nil] at nhp
      refine hS _ np H4 (e3.trans nhe) (ex_none nfr e3) (.lst (Evl.sq_of nhp) (by rw [List.map_id']; exact .cons (dpMono (e3.trans nhe) gh1) (dpMonoA nhe hua))) (fun u1 y H5 R1 Y e5 hy hu1 hY => ?_)
      wtm_at "nrm"
      wtm_at "go"
      refine ⟨rfl, ?_⟩
      wtm_at "go"
      exact hY _ _ (Ex.refl _) hu1
    · refine q p H2 hp e2 ?_
      simp only [List.map_id'] at hl
      exact hl
def sp_branches_in (K : PySem.W.Frag) (n : Nat) : Sp := A1 fun v1 H Q => ∃ m, m < n ∧ m ≤ 3 ∧ ∃ t : Fo m, Dp K H v1 (foD m t) ∧ Sm m t ∧ RetL K (brns m t) H Q
theorem use_branches_in {n m : Nat} {t : Fo m} (hlt : m < n) (hn : m ≤ 3) (h : Dp K H v1 (foD m t)) (hs : Sm m t) (q : ∀ p H2, H p = none → Ex H H2 → Dp K H2 (.ref p) (.list (brns m t)) → Q (.ref p) H2) : sp_branches_in K n [v1] H Q E := ⟨_, rfl, m, hlt, hn, t, h, hs, q⟩
local macro_rules | `(tactic| wtm_at "uent") => `(tactic| ((with_reducible refine' use_branches_in ?u00 ?u0 ?u1 ?u2 ?uq); (case u1 => wtm_at "dp"); (case u00 => omega); (case u0 => omega); (case u2 => with_reducible assumption)))
abbrev s_branches_in : Stmt := top 33
theorem sc_branches_in : FnScope ["form", "branch", "one"] ["form"] (defScope s_branches_in) := ⟨rfl, rfl, rfl, by decide +kernel, rfl, by decide +kernel, by decide +kernel⟩
theorem ok_branches_in {f : Addr} {fd : FuncData} (F : FnP K "branches_in" s_branches_in f fd) (g : G mg) {n : Nat} (c_branches_in : Cl P w K mg base n "branches_in" (sp_branches_in K n)) : FnOk P w K mg base CX0 (n + 1) f fd ["form"] (sp_branches_in K (n + 1)) := by
  have nd := sc_branches_in.nd
  refine F.ok sc_branches_in (fun vs H Q E h => h.len) (fun cdv A outer s H vs Q E hr h => ?_)
  obtain ⟨v1, rfl, h⟩ := h
  refine ⟨_, PSs.nox (pss_cons (ps_if (pt_cmpR op_eq (pe_ix ix_tup (pv 0) pe_int (fun _ _ => rfl)) (pe_glob (v := .str "leaf") (by rfl) g.c_LEAF.choose_spec ⟨_, rfl⟩) (nomark _)) (pss_one (ps_ret (pe_lst pa_nil))) pss_nil) (pss_one (ps_ret (pe_lc2 (own := [("branch", 1), ("one", 2)]) (vs1 := [2]) (g := gName 1) (g1 := gName 2) (by rfl) nd (pi_tup (pe_ix ix_tup (pv 0) pe_int (fun _ _ => rfl))) (blkOk_by (N := ["form", "branch", "one"]) (sc := defScope s_branches_in) (own := [("branch", 1), ("one", 2)]) (by decide +kernel)) (by decide) (fun _ _ _ _ _ => (pg_name (i := 1) nd rfl (Or.inl rfl))) (fun _ _ _ _ _ => pts_nil) (fun _ _ _ _ _ => (show PI _ _ _ (iList K _) from (pi_list (pe_lst (pa_cons (pv 1) (show PA _ _ (tStar K _ _) from pa_star (pc c_branches_in hr (by first | decide | omega) (by rfl) (pa_cons (pe_ix (show IxR _ (rIxT K) from ix_tup) (pv 1) pe_int (fun _ _ => rfl)) pa_nil)) pa_nil)))))) (fun _ _ _ _ _ => (pg_name (i := 2) nd rfl (Or.inl rfl))) (fun _ _ _ _ _ => pts_nil) (fun _ _ _ _ _ => (pv 2)))))), ?_⟩
  obtain ⟨m, e, hn, t, h1, hs, q⟩ := h
  cases m with
  | zero =>
    unfold foD at h1
    wtm_at "go0"
    rename_i p H2 hp e2 hh
    exact q p H2 hp e2 (.lst (Evl.sq_of hh) .nil)
  | succ m =>
    unfold foD at h1
    wtm_at "go0"
    refine i_lc2U ?_
    wtm_at "go"
    rename_i xu hx
    refine i_lc2 (enc := brD m) (enc1 := fun d : PyData => d) (xs := foB t) (fun p => brD m p :: brns m p.2) (fun _ d => d) hx (by have := hs.1; omega) (fun x hx => ?_) (fun x _ y hy => ?_) (fun x _ y hy => ?_) (fun u x H2 R S e2 hm hu hS => ?_) (fun p H2 hp e2 hl => ?_)
    · have := brns_len' (hs.2 x hx) (show m ≤ 2 by omega)
      rw [List.length_cons]
      omega
    · rcases List.mem_cons.mp hy with rfl | hy
      · exact noL_br m x
      · exact noL_brns m x.2 y hy
    · rcases List.mem_cons.mp hy with rfl | hy
      · exact noL_br m x
      · exact noL_brns m x.2 y hy
    · have hu' := hu
      unfold brD at hu
      wtm_at "nrm"
      wtm_at "go"
      refine ⟨rfl, ?_⟩
      wtm_at "go"
      refine i_tstar ?_
      wtm_at "go"
      have hsx := hs.2 x hm
      wtm_at "uent"
      intro p H3 hp3 e3 hl3
      obtain ⟨a, us, ea, hus, hua⟩ := dpLst hl3
      cases ea
      refine ⟨p, us, rfl, .inr hus, ?_⟩
      wtm_at "go"
      refine i_mkL (by
        have := brns_len' (hs.2 x hm) (show m ≤ 2 by omega)
        rw [List.length_cons, List.length_append, dpLen hua, List.length_nil]
        omega) (fun np H4 nfr nhe nhp => ?_)
      rw [List.append_nil] at nhp
      refine hS _ np H4 (e3.trans nhe) (ex_none nfr e3) (.lst (Evl.sq_of nhp) (by rw [List.map_id']; exact .cons (dpMono (e3.trans nhe) hu') (dpMonoA nhe hua))) (fun u1 y H5 R1 Y e5 hy hu1 hY => ?_)
      wtm_at "nrm"
      wtm_at "go"
      refine ⟨rfl, ?_⟩
      wtm_at "go"
      exact hY _ _ (Ex.refl _) hu1
    · refine q p H2 hp e2 ?_
      simp only [List.map_id'] at hl
      exact hl
end
end Wb

namespace Wb
open PySem PySem.Spec PyProof.Rows L2 StX
open Evl (Ex Ex.refl Ex.trans Ex.new)
local macro_rules | `(tactic| wtm_at "dp") => `(tactic| first | with_reducible assumption | with_reducible exact Dp.int _ | with_reducible exact Dp.bl _ | with_reducible exact Dp.str _ | with_reducible exact Dp.non | ((with_reducible refine' dpMono ?dme (by with_reducible assumption)); (case dme => wtm_at "ex")) | ((with_reducible refine' Dp.tup (Evl.st_of ?dph) ?dpa); (case dph => wtm_at "hs"); (case dpa => wtm_at "dpa")) | ((with_reducible refine' Dp.lst (Evl.sq_of ?dph) ?dpa); (case dph => wtm_at "hs"); (case dpa => wtm_at "dpa")))
local macro_rules | `(tactic| wtm_at "dpa") => `(tactic| first | with_reducible exact DpAll.nil | ((with_reducible refine' DpAll.cons ?dp1 ?dp2); (case dp1 => wtm_at "dp"); (case dp2 => wtm_at "dpa")) | with_reducible assumption | ((with_reducible refine' dpMonoA ?dme (by with_reducible assumption)); (case dme => wtm_at "ex")))
local macro_rules | `(tactic| wtm_at "sz") => `(tactic| first | with_reducible assumption | ((with_reducible refine' sz_mul ?sz1 ?sz2); (case sz1 => wtm_at "sz"); (case sz2 => wtm_at "sz")) | ((with_reducible refine' sz_add ?sz1 ?sz2); (case sz1 => wtm_at "sz"); (case sz2 => wtm_at "sz")) | ((with_reducible refine' sz_sub ?sz1 ?sz2); (case sz1 => wtm_at "sz"); (case sz2 => wtm_at "sz")) | ((with_reducible refine' sz_neg ?sz1); (case sz1 => wtm_at "sz")) | ((with_reducible refine' sz_div ?sz1); (case sz1 => wtm_at "sz")) | ((with_reducible refine' sz_fdiv ?sz1); (case sz1 => wtm_at "sz")) | exact sz_lit (by decide) | wtm_at "sz2")
local macro_rules | `(tactic| wtm_at "szb") => `(tactic| first | with_reducible assumption | ((with_reducible refine' sz_mono ?szb1 ?szb2); (case szb1 => wtm_at "sz"); (case szb2 => decide)))
local macro_rules | `(tactic| wtm_at "nz") => `(tactic| first | assumption | decide | omega)
local macro_rules | `(tactic| wtm_at "shaped") => `(tactic| first | rfl | decide)
local macro_rules | `(tactic| wtm_at "sset") => `(tactic| ((dsimp only [L2.wipe, List.set, List.set_cons_zero, List.set_cons_succ]) <;> exact rfl))
local macro_rules | `(tactic| wtm_at "nrm") => `(tactic| dsimp only [L2.start, L2.wipe, List.set, List.append, List.map, List.map_cons, List.map_nil, List.length_cons, List.length_nil, Nat.reduceAdd, Nat.reduceSub, List.reduceReplicate, List.replicate, List.cons_append, List.nil_append, List.set_cons_zero, List.set_cons_succ])
local macro_rules | `(tactic| wtm_at "st") => `(tactic| first
  | ((with_reducible refine' i_var (v := ?u0) ?u1 ?uq); (case u1 => exact rfl))
  | ((with_reducible refine' i_nameN ?u0 ?uq); (case u0 => wtm_at "sset"))
  | (with_reducible refine' i_op ?uq)
  | (with_reducible refine' i_c ?uq)
  | (with_reducible refine' i_I0 ?uq)
  | ((with_reducible refine' i_ixTI (i := ?u0) ?u1 ?u2 ?u3 ?uq); (case u1 => wtm_at "dp"); (case u2 => wtm_at "ex"); (case u3 => exact rfl))
  | ((with_reducible refine' i_ixT (d := ?u0) ?u1 ?u2 ?u3 (fun xu hxu => ?uq)); (case u1 => wtm_at "dp"); (case u2 => wtm_at "ex"); (case u3 => exact rfl))
  | ((with_reducible refine' i_mul ?u0 ?u1 ?u2 ?uq); (case u0 => wtm_at "sz"); (case u1 => wtm_at "sz"); (case u2 => first | decide | omega))
  | (with_reducible refine' i_seq ?uq)
  | (with_reducible refine' i_asg ?uq)
  | (with_reducible refine' i_ret ?uq)
  | (with_reducible refine' i_ifs ?uq)
  | (with_reducible refine' i_drop ?uq)
  | (with_reducible refine' i_next ?uq)
  | (with_reducible refine' i_cons ?uq)
  | (with_reducible refine' i_nil ?uq)
  | (with_reducible refine' i_cl ?uq)
  | (with_reducible refine' i_cb ?uq)
  | (with_reducible refine' i_tup ?uq)
  | (with_reducible refine' i_lst ?uq)
  | ((with_reducible refine' i_mkT ?u0 (fun np nH nhe nhp => ?uq)); (case u0 => exact Nat.le_of_ble_eq_true rfl))
  | (with_reducible refine' i_test ?uq)
  | (with_reducible refine' i_B ?uq)
  | (with_reducible refine' i_k ?uq)
  | (with_reducible refine' i_and ?uq)
  | (with_reducible refine' i_or ?uq)
  | (with_reducible refine' i_not ?uq)
  | (with_reducible refine' i_andV ?uq)
  | (with_reducible refine' i_orV ?uq)
  | (with_reducible refine' i_notV ?uq)
  | (with_reducible refine' i_if ?uq)
  | (with_reducible refine' i_un ?uq)
  | (with_reducible refine' i_U ?uq)
  | (with_reducible refine' i_iteT ?uq)
  | (with_reducible refine' i_iteF ?uq)
  | ((with_reducible refine' i_iteTr ?u0 ?uq); (case u0 => first | with_reducible rfl | decide | (simp only [dIsInt, dIsBool, dIsTup, dIsStr, dIsLst, Bool.not_true, Bool.not_false]; done)))
  | ((with_reducible refine' i_iteFr ?u0 ?uq); (case u0 => first | with_reducible rfl | decide | (simp only [dIsInt, dIsBool, dIsTup, dIsStr, dIsLst, Bool.not_true, Bool.not_false]; done)))
  | (with_reducible refine' i_ite (fun hif => ?uqa) (fun hif => ?uqb))
  | (with_reducible refine' i_iteN (fun hif => ?uqa) (fun hif => ?uqb))
  | (with_reducible refine' i_iteBN (fun hif => ?uqa) (fun hif => ?uqb))
  | (with_reducible refine' i_iteB (fun hif => ?uqa) (fun hif => ?uqb))
  | ((with_reducible refine' i_modN ?u0 ?uq); (case u0 => wtm_at "nz"))
  | ((with_reducible refine' i_fdX ?u0 ?u1 ?u2 ?uq); (case u0 => wtm_at "nz"); (case u1 => wtm_at "sz"); (case u2 => first | decide | omega))
  | ((with_reducible refine' i_pow ?u0 ?uq); (case u0 => exact ⟨by decide, by decide +kernel⟩))
  | (with_reducible refine' i_eqI ?uq)
  | (with_reducible refine' i_neI ?uq)
  | (with_reducible refine' i_gcd ?uq)
  | (with_reducible refine' i_qabs ?uq)
  | (with_reducible refine' i_qint ?uq)
  | (with_reducible refine' i_qintB ?uq)
  | (with_reducible refine' i_qmax2 ?uq)
  | (with_reducible refine' i_qmin2 ?uq)
  | (with_reducible refine' i_isB ?uq)
  | (with_reducible refine' i_notB ?uq)
  | (with_reducible refine' i_chain ?uq)
  | (with_reducible refine' i_qisN ?uq)
  | (with_reducible refine' i_qnotN ?uq)
  | (with_reducible refine' i_yes ?uq)
  | (with_reducible refine' i_par ?uq)
  | (with_reducible refine' i_par3 ?uq)
  | ((with_reducible refine' i_par2 ?u0 ?uq); (case u0 => wtm_at "sset"))
  | ((with_reducible refine' i_par33 ?u0 ?uq); (case u0 => wtm_at "sset"))
  | ((with_reducible refine' i_ixLI (i := ?u0) ?u1 ?u2 ?u3 ?uq); (case u1 => wtm_at "dp"); (case u2 => wtm_at "ex"); (case u3 => exact rfl))
  | ((with_reducible refine' i_ixL (d := ?u0) ?u1 ?u2 ?u3 (fun xu hxu => ?uq)); (case u1 => wtm_at "dp"); (case u2 => wtm_at "ex"); (case u3 => exact rfl))
  | ((with_reducible refine' i_qlenT ?u0 ?uq); (case u0 => wtm_at "dp"))
  | ((with_reducible refine' i_qlenL ?u0 ?uq); (case u0 => wtm_at "dp"))
  | ((with_reducible refine' i_gtup ?u0 ?u1 ?u2 (fun gvs gdp => ?uq)); (case u0 => wtm_at "dp"); (case u1 => wtm_at "ex"); (case u2 => exact rfl))
  | ((with_reducible refine' i_glst ?u0 ?u1 ?u2 (fun gvs gdp => ?uq)); (case u0 => wtm_at "dp"); (case u1 => wtm_at "ex"); (case u2 => exact rfl))
  | ((with_reducible refine' i_gconsI ?u0 (fun gr gh => ?uq)); (case u0 => with_reducible assumption))
  | ((with_reducible refine' i_gconsA ?u0 (fun gv gr gh1 gh2 => ?uq)); (case u0 => with_reducible assumption))
  | ((with_reducible refine' i_gnilA ?u0 ?uq); (case u0 => with_reducible assumption))
  | ((with_reducible refine' i_isiI ?u0 ?uq); (case u0 => wtm_at "dp"))
  | ((with_reducible refine' i_isiB ?u0 ?uq); (case u0 => wtm_at "dp"))
  | ((with_reducible refine' i_isiT ?u0 ?uq); (case u0 => wtm_at "dp"))
  | ((with_reducible refine' i_isiS ?u0 ?uq); (case u0 => wtm_at "dp"))
  | ((with_reducible refine' i_isiL ?u0 ?uq); (case u0 => wtm_at "dp"))
  | ((with_reducible refine' i_eqD ?u0 ?u1 ?u2 ?u3 ?uq); (case u0 => wtm_at "dp"); (case u1 => wtm_at "dp"); (case u2 => wtm_at "shaped"); (case u3 => wtm_at "shaped"))
  | ((with_reducible refine' i_neD ?u0 ?u1 ?u2 ?u3 ?uq); (case u0 => wtm_at "dp"); (case u1 => wtm_at "dp"); (case u2 => wtm_at "shaped"); (case u3 => wtm_at "shaped"))
  | wtm_at "st2"
  | wtm_at "use")
local macro_rules | `(tactic| wtm_at "go") => `(tactic| repeat' (wtm_at "st"))
local macro_rules | `(tactic| wtm_at "go0") => `(tactic| ((try dsimp only [L2.cxOf, L2.Cx.nox, L2.Cx.wish, L2.Cx.tr, L2.Cx.blk]); (try wtm_at "nrm"); wtm_at "go"))
local macro_rules | `(tactic| wtm_at "fin") => `(tactic| ((try dsimp only); first | with_reducible assumption | assumption | ((with_reducible refine' Ret.use ?rur ?rue ?rud); (case rur => with_reducible assumption); (case rue => wtm_at "ex"); (case rud => wtm_at "dp"))))
local macro_rules | `(tactic| wtm_at "exh") => `(tactic| first | with_reducible assumption | with_reducible exact Ex.refl _ | with_reducible exact ex_hid | ((with_reducible refine' Ex.trans ?exe (by with_reducible assumption)); (case exe => wtm_at "exh")) | ((with_reducible refine' Ex.trans ?exe (hid_ex (by with_reducible assumption))); (case exe => wtm_at "exh")))
local macro_rules | `(tactic| wtm_at "ex") => `(tactic| first | with_reducible assumption | with_reducible exact Ex.refl _ | with_reducible exact ex_hid | ((with_reducible refine' Ex.trans ?exe (by with_reducible assumption)); (case exe => wtm_at "ex")) | ((with_reducible refine' Ex.trans ?exe (hid_ex (by with_reducible assumption))); (case exe => wtm_at "ex")) | ((with_reducible refine' Ex.trans ?exe ex_hid); (case exe => wtm_at "exh")))
local macro_rules | `(tactic| wtm_at "bag") => `(tactic| first | with_reducible assumption | ((with_reducible refine' Bag.mono ?bgm (by with_reducible assumption)); (case bgm => wtm_at "bag")))
local macro_rules | `(tactic| wtm_at "hs") => `(tactic| first | with_reducible assumption | ((with_reducible refine' hid_tup ?hb ?hp); (case hp => with_reducible assumption); (case hb => wtm_at "bag")) | ((with_reducible refine' hid_new ?hb ?hn ?hp); (case hp => with_reducible assumption); (case hn => with_reducible assumption); (case hb => wtm_at "bag")) | ((with_reducible refine' ex_at ?exe (by with_reducible assumption)); (case exe => wtm_at "ex")))
local macro_rules | `(tactic| wtm_at "st2") => `(tactic| first
  | ((with_reducible refine' i_mulC ?u0 ?uq); (case u0 => first | exact cmul_l (by decide) | exact cmul_r (by decide)))
  | ((with_reducible refine' i_ixLr (v := ?u0) ?u1 ?u2 ?uq); (case u1 => with_reducible assumption); (case u2 => exact rfl))
  | (with_reducible refine' i_sub ?uq)
  | ((with_reducible refine' i_mkL ?u0 (fun np nH nfr nhe nhp => ?uq)); (case u0 => exact Nat.le_of_ble_eq_true rfl))
  | ((with_reducible refine' i_setL (n := ?u0) ?u1 ?u2 (fun sH sh se => ?uq)); (case u1 => with_reducible assumption); (case u2 => exact rfl))
  | (with_reducible refine' i_sl ?uq)
  | (with_reducible refine' i_nopart ?uq)
  | (with_reducible refine' i_part ?uq)
  | (with_reducible refine' i_part1 ?uq))
local macro_rules | `(tactic| wtm_at "sz2") => `(tactic| ((with_reducible refine' sz_fmod ?sz1 ?sz2); (case sz1 => wtm_at "nz"); (case sz2 => wtm_at "sz")))
local macro_rules | `(tactic| wtm_at "stb") => `(tactic| first
  | ((with_reducible refine' i_mkTB ?u0 ?u1 (fun np nH nhe nhb nhp => ?uq)); (case u0 => exact Nat.le_of_ble_eq_true rfl); (case u1 => wtm_at "bag"))
  | ((with_reducible refine' i_mkLB ?u0 ?u1 (fun np nH nfr nhe nhb nhp => ?uq)); (case u0 => exact Nat.le_of_ble_eq_true rfl); (case u1 => wtm_at "bag"))
  | wtm_at "st")
local macro_rules | `(tactic| wtm_at "gob") => `(tactic| repeat' (wtm_at "stb"))
local macro_rules | `(tactic| wtm_at "gob0") => `(tactic| ((try dsimp only [L2.cxOf, L2.Cx.nox, L2.Cx.wish, L2.Cx.tr, L2.Cx.blk]); (try wtm_at "nrm"); wtm_at "gob"))
local macro_rules | `(tactic| wtm_at "use") => `(tactic| ((with_reducible refine' use_is_integer ?u0 ?uq); (case u0 => wtm_at "dp")))
local macro_rules | `(tactic| wtm_at "use") => `(tactic| ((with_reducible refine' use_is_box ?u0 ?u1 (fun uH ue => ?uq)); (case u0 => wtm_at "dp"); (case u1 => with_reducible assumption)))
local macro_rules | `(tactic| wtm_at "use") => `(tactic| ((with_reducible refine' use_require_box ?u0 ?u1 (fun uH ue => ?uq)); (case u0 => wtm_at "dp"); (case u1 => with_reducible assumption)))
local macro_rules | `(tactic| wtm_at "use") => `(tactic| ((with_reducible refine' use_do_meet_in ?u0 ?u1 ?uq); (case u0 => wtm_at "dp"); (case u1 => wtm_at "dp")))
local macro_rules | `(tactic| wtm_at "use") => `(tactic| ((with_reducible refine' use_apart_word ?u0 ?u1 ?uq); (case u0 => wtm_at "dp"); (case u1 => wtm_at "dp")))
local macro_rules | `(tactic| wtm_at "st") => `(tactic| first | ((with_reducible refine' i_ixTS (z := ?u0) ?u1 ?u2 ?u3 ?uq); (case u1 => wtm_at "dp"); (case u2 => wtm_at "ex"); (case u3 => exact rfl)) | fail)
local macro_rules | `(tactic| wtm_at "st2") => `(tactic| first | ((with_reducible refine' i_eqST ?u0 ?uq); (case u0 => with_reducible rfl)) | ((with_reducible refine' i_eqSF ?u0 ?uq); (case u0 => decide +kernel)) | ((with_reducible refine' i_neST ?u0 ?uq); (case u0 => with_reducible rfl)) | ((with_reducible refine' i_neSF ?u0 ?uq); (case u0 => decide +kernel)) | fail)
section
variable {P : Program} {w : World} {K : PySem.W.Frag} {mg : Str → Option Value} {base : Heap} {H H' : Hp} {Q : VK} {E : XK} {v1 v2 v3 v4 v5 : V}
theorem mn_mem : ∀ {ns : List Int}, ns ≠ [] → mnI ns ∈ ns ∧ ∀ y ∈ ns, mnI ns ≤ y
  | [], h => absurd rfl h
  | [x], _ => ⟨List.mem_singleton.mpr rfl, fun y hy => by rcases List.mem_singleton.mp hy with rfl; exact Int.le_refl _⟩
  | x :: y :: r, _ => by
    obtain ⟨h1, h2⟩ := mn_mem (ns := y :: r) (List.cons_ne_nil _ _)
    have e : mnI (x :: y :: r) = min x (mnI (y :: r)) := rfl
    rw [e]
    refine ⟨?_, fun z hz => ?_⟩
    · by_cases h : x ≤ mnI (y :: r)
      · rw [Int.min_eq_left h]
        exact List.mem_cons_self
      · rw [Int.min_eq_right (by omega)]
        exact List.mem_cons_of_mem _ h1
    · rcases List.mem_cons.mp hz with rfl | hz
      · exact Int.min_le_left _ _
      · exact Int.le_trans (Int.min_le_right _ _) (h2 z hz)
theorem mx_mem : ∀ {ns : List Int}, ns ≠ [] → mxI ns ∈ ns ∧ ∀ y ∈ ns, y ≤ mxI ns
  | [], h => absurd rfl h
  | [x], _ => ⟨List.mem_singleton.mpr rfl, fun y hy => by rcases List.mem_singleton.mp hy with rfl; exact Int.le_refl _⟩
  | x :: y :: r, _ => by
    obtain ⟨h1, h2⟩ := mx_mem (ns := y :: r) (List.cons_ne_nil _ _)
    have e : mxI (x :: y :: r) = max x (mxI (y :: r)) := rfl
    rw [e]
    refine ⟨?_, fun z hz => ?_⟩
    · by_cases h : x ≤ mxI (y :: r)
      · rw [Int.max_eq_right h]
        exact List.mem_cons_of_mem _ h1
      · rw [Int.max_eq_left (by omega)]
        exact List.mem_cons_self
    · rcases List.mem_cons.mp hz with rfl | hz
      · exact Int.le_max_left _ _
      · exact Int.le_trans (h2 z hz) (Int.le_max_right _ _)
theorem dp_ints_eq : ∀ {us : List V} {ns : List Int}, DpAll K H us (ns.map PyData.int) → us = ns.map V.int
  | _, [], .nil => rfl
  | _, n :: ns, .cons h t => by
    cases dpInt h
    rw [dp_ints_eq t]
    rfl
theorem i_min {ns : List Int} {v : V} (h : Dp K H v (.list (ns.map PyData.int))) (hne : ns ≠ []) (q : Q (.int (mnI ns)) H) : rMin K [v] H Q := by
  obtain ⟨a, us, rfl, hs, ha⟩ := dpLst h
  rw [dp_ints_eq ha] at hs
  refine ⟨a, ns, rfl, hs, List.length_pos_iff.mpr hne, fun m h1 h2 => ?_⟩
  obtain ⟨h3, h4⟩ := mn_mem hne
  rw [Int.le_antisymm (h2 _ h3) (h4 _ h1)]
  exact q
theorem i_max {ns : List Int} {v : V} (h : Dp K H v (.list (ns.map PyData.int))) (hne : ns ≠ []) (q : Q (.int (mxI ns)) H) : rMax K [v] H Q := by
  obtain ⟨a, us, rfl, hs, ha⟩ := dpLst h
  rw [dp_ints_eq ha] at hs
  refine ⟨a, ns, rfl, hs, List.length_pos_iff.mpr hne, fun m h1 h2 => ?_⟩
  obtain ⟨h3, h4⟩ := mx_mem hne
  rw [Int.le_antisymm (h4 _ h1) (h2 _ h3)]
  exact q
theorem lc_fld {bs : List Bx} {v : V} {j : Nat} {vs : List Nat} {σ : L2.St} (h : Dp K H v (.list (bs.map bxD))) (hl : bs.length ≤ 1000) (f : Bx → Int) (k : Int) (hk : ∀ b : Bx, atI [PyData.int b.1, .int b.2.1, .int b.2.2.1, .int b.2.2.2] k = some (.int (f b)))
    (hσ : ∀ u, ((wipe σ vs).set j (some u))[j]? = some (some u)) (hw : ∀ u, wipe ((wipe σ vs).set j (some u)) vs = wipe σ vs)
    (q : ∀ p H2, H p = none → Ex H H2 → Dp K H2 (.ref p) (.list ((bs.map f).map PyData.int)) → Q (.ref p) H2) : tLc (iList K (tC v)) (gName j) tYes (tOp (rIxT K) (tVar j) (tC (.int k))) vs σ H Q := by
  refine i_lcGL (enc := bxD) (fun _ => true) (fun b => .int (f b)) h (by omega) (fun _ _ => rfl) (fun u x H2 R Y e2 hm hu hn hy => ?_) (fun p H2 hp e2 hd => q p H2 hp e2 ?_)
  · refine ⟨hw u, ?_⟩
    refine i_yes ?_
    refine (if_pos rfl).mpr ?_
    refine ⟨u, hσ u, ?_⟩
    refine i_ixTI (i := f x) hu (Ex.refl _) (hk x) ?_
    exact hy rfl _ _ (Ex.refl _) (Dp.int _)
  · rw [List.map_map]
    have e : (bs.filter fun _ => true) = bs := List.filter_eq_self.mpr fun _ _ => rfl
    rw [e] at hd
    exact hd
def sp_joint_in (K : PySem.W.Frag) : Sp := A1 fun v1 H Q => ∃ bs : List Bx, Dp K H v1 (.list (bs.map bxD)) ∧ bs ≠ [] ∧ bs.length ≤ 1000 ∧ Ret K (bxD (joint bs)) H Q
abbrev s_joint_in : Stmt := top 19
theorem sc_joint_in : FnScope ["boxes", "left", "bottom", "box"] ["boxes"] (defScope s_joint_in) := ⟨rfl, rfl, rfl, by decide +kernel, rfl, by decide +kernel, by decide +kernel⟩
theorem ok_joint_in {f : Addr} {fd : FuncData} (F : FnP K "joint_in" s_joint_in f fd) (g : G mg)   : FnOk P w K mg base CX0 1 f fd ["boxes"] (sp_joint_in K) := by
  have nd := sc_joint_in.nd
  refine F.ok sc_joint_in (fun vs H Q E h => h.len) (fun cdv A outer s H vs Q E hr h => ?_)
  obtain ⟨v1, rfl, h⟩ := h
  refine ⟨_, PSs.nox (pss_cons (ps_par (i := 1) (j := 2) (by rfl) nd rfl rfl (by decide) rfl rfl (pa_cons (pe_callB (cr_min rfl) (by rfl) g.f_min boot_min (pa_cons (pe_lc (own := [("box", 3)]) (g := gName 3) (by rfl) nd (pi_list (pv 0)) (blkOk_by (N := ["boxes", "left", "bottom", "box"]) (sc := defScope s_joint_in) (own := [("box", 3)]) (by decide +kernel)) (fun _ _ _ _ _ => (pg_name (i := 3) nd rfl (Or.inl rfl))) (fun _ _ _ _ _ => pts_nil) (fun _ _ _ _ _ => (pe_ix (show IxR _ (rIxT K) from ix_tup) (pv 3) pe_int (fun _ _ => rfl)))) pa_nil)) (pa_cons (pe_callB (cr_min rfl) (by rfl) g.f_min boot_min (pa_cons (pe_lc (own := [("box", 3)]) (g := gName 3) (by rfl) nd (pi_list (pv 0)) (blkOk_by (N := ["boxes", "left", "bottom", "box"]) (sc := defScope s_joint_in) (own := [("box", 3)]) (by decide +kernel)) (fun _ _ _ _ _ => (pg_name (i := 3) nd rfl (Or.inl rfl))) (fun _ _ _ _ _ => pts_nil) (fun _ _ _ _ _ => (pe_ix (show IxR _ (rIxT K) from ix_tup) (pv 3) pe_int (fun _ _ => rfl)))) pa_nil)) pa_nil)) (by rfl)) (pss_one (ps_ret (pe_tup (pa_cons (pv 1) (pa_cons (pv 2) (pa_cons (pe_callB (cr_max rfl) (by rfl) g.f_max boot_max (pa_cons (pe_lc (own := [("box", 3)]) (g := gName 3) (by rfl) nd (pi_list (pv 0)) (blkOk_by (N := ["boxes", "left", "bottom", "box"]) (sc := defScope s_joint_in) (own := [("box", 3)]) (by decide +kernel)) (fun _ _ _ _ _ => (pg_name (i := 3) nd rfl (Or.inl rfl))) (fun _ _ _ _ _ => pts_nil) (fun _ _ _ _ _ => (pe_ix (show IxR _ (rIxT K) from ix_tup) (pv 3) pe_int (fun _ _ => rfl)))) pa_nil)) (pa_cons (pe_callB (cr_max rfl) (by rfl) g.f_max boot_max (pa_cons (pe_lc (own := [("box", 3)]) (g := gName 3) (by rfl) nd (pi_list (pv 0)) (blkOk_by (N := ["boxes", "left", "bottom", "box"]) (sc := defScope s_joint_in) (own := [("box", 3)]) (by decide +kernel)) (fun _ _ _ _ _ => (pg_name (i := 3) nd rfl (Or.inl rfl))) (fun _ _ _ _ _ => pts_nil) (fun _ _ _ _ _ => (pe_ix (show IxR _ (rIxT K) from ix_tup) (pv 3) pe_int (fun _ _ => rfl)))) pa_nil)) pa_nil)))))))), ?_⟩
  obtain ⟨bs, h1, hne, hl, q⟩ := h
  have q2 : Ret K (.tuple [.int (mnI (bs.map (·.1))), .int (mnI (bs.map (·.2.1))), .int (mxI (bs.map (·.2.2.1))), .int (mxI (bs.map (·.2.2.2)))]) H Q := q
  clear q
  have n0 : ∀ f : Bx → Int, bs.map f ≠ [] := fun f e => hne (List.map_eq_nil_iff.mp e)
  wtm_at "go0"
  refine i_lcLU ?_
  wtm_at "go"
  refine lc_fld (bs := bs) (by wtm_at "dp") hl (·.1) 0 (fun _ => rfl) (fun _ => rfl) (fun _ => rfl) (fun p0 H2 hp0 e0 d0 => ?_)
  wtm_at "go"
  refine i_min d0 (n0 _) ?_
  wtm_at "go"
  refine i_lcLU ?_
  wtm_at "go"
  refine lc_fld (bs := bs) (by wtm_at "dp") hl (·.2.1) 1 (fun _ => rfl) (fun _ => rfl) (fun _ => rfl) (fun p1 H3 hp1 e1 d1 => ?_)
  wtm_at "go"
  refine i_min d1 (n0 _) ?_
  wtm_at "go"
  refine i_lcLU ?_
  wtm_at "go"
  refine lc_fld (bs := bs) (by wtm_at "dp") hl (·.2.2.1) 2 (fun _ => rfl) (fun _ => rfl) (fun _ => rfl) (fun p2 H4 hp2 e2 d2 => ?_)
  wtm_at "go"
  refine i_max d2 (n0 _) ?_
  wtm_at "go"
  refine i_lcLU ?_
  wtm_at "go"
  refine lc_fld (bs := bs) (by wtm_at "dp") hl (·.2.2.2) 3 (fun _ => rfl) (fun _ => rfl) (fun _ => rfl) (fun p3 H5 hp3 e3 d3 => ?_)
  wtm_at "go"
  refine i_max d3 (n0 _) ?_
  wtm_at "go"
  all_goals wtm_at "fin"
theorem use_joint_in {bs : List Bx} (h : Dp K H v1 (.list (bs.map bxD))) (hne : bs ≠ []) (hl : bs.length ≤ 1000) (q : ∀ v H2, Ex H H2 → Dp K H2 v (bxD (joint bs)) → Q v H2) : sp_joint_in K [v1] H Q E := ⟨_, rfl, bs, h, hne, hl, q⟩
def sp_has_size (K : PySem.W.Frag) : Sp := A2 fun v1 v2 H Q => ∃ (s : Str) (ds : List PyData) (l : Int), Dp K H v1 (.tuple [.str s, .tuple ds]) ∧ v2 = .int l ∧ Q (.bl (decide (l ≤ ds.length) && decide ((ds.length : Int) ≤ 4))) H
abbrev s_has_size : Stmt := top 34
theorem sc_has_size : FnScope ["form", "least"] ["form", "least"] (defScope s_has_size) := ⟨rfl, rfl, rfl, by decide +kernel, rfl, by decide +kernel, by decide +kernel⟩
theorem ok_has_size {f : Addr} {fd : FuncData} (F : FnP K "has_size" s_has_size f fd) (g : G mg)   : FnOk P w K mg base CX0 1 f fd ["form", "least"] (sp_has_size K) := by
  have nd := sc_has_size.nd
  refine F.ok sc_has_size (fun vs H Q E h => h.len) (fun cdv A outer s H vs Q E hr h => ?_)
  obtain ⟨v1, v2, rfl, h⟩ := h
  refine ⟨_, PSs.nox (pss_one (ps_ret (pe_chain op_le op_le (pv 1) (pe_callB call_qlen (by rfl) g.f_len boot_len (pa_cons (pe_ix ix_tup (pv 0) pe_int (fun _ _ => rfl)) pa_nil)) (pe_glob (v := .int 4) (by rfl) g.c_MOST.choose_spec ⟨_, rfl⟩)))), ?_⟩
  obtain ⟨s, ds, l, h1, rfl, q⟩ := h
  wtm_at "go0"
  all_goals (dsimp only; simpa only [*, decide_true, decide_false, Bool.and_true, Bool.true_and, Bool.and_false, Bool.false_and] using q)
theorem use_has_size {s : Str} {ds : List PyData} {l : Int} (h : Dp K H v1 (.tuple [.str s, .tuple ds])) (q : Q (.bl (decide (l ≤ ds.length) && decide ((ds.length : Int) ≤ 4))) H) : sp_has_size K [v1, .int l] H Q E := ⟨_, _, rfl, s, ds, l, h, rfl, q⟩
/-- box_at: an entry's box, a branch's box -/
def sp_box_at (K : PySem.W.Frag) : Sp := A2 fun v1 v2 H Q => ∃ (s : Str) (ds : List PyData) (a b : PyData), Dp K H v1 (.tuple [.str s, .tuple ds]) ∧ Dp K H v2 (.tuple [a, b]) ∧ (s = "leaf" → ∀ v, Dp K H v b → Q v H) ∧ ((s == ("leaf" : Str)) = false → ∀ v, Dp K H v a → Q v H)
abbrev s_box_at : Stmt := top 38
theorem sc_box_at : FnScope ["form", "item"] ["form", "item"] (defScope s_box_at) := ⟨rfl, rfl, rfl, by decide +kernel, rfl, by decide +kernel, by decide +kernel⟩
theorem ok_box_at {f : Addr} {fd : FuncData} (F : FnP K "box_at" s_box_at f fd) (g : G mg)   : FnOk P w K mg base CX0 1 f fd ["form", "item"] (sp_box_at K) := by
  have nd := sc_box_at.nd
  refine F.ok sc_box_at (fun vs H Q E h => h.len) (fun cdv A outer s H vs Q E hr h => ?_)
  obtain ⟨v1, v2, rfl, h⟩ := h
  refine ⟨_, PSs.nox (pss_one (ps_ret (pe_ifExp (pt_cmpR op_eq (pe_ix ix_tup (pv 0) pe_int (fun _ _ => rfl)) (pe_glob (v := .str "leaf") (by rfl) g.c_LEAF.choose_spec ⟨_, rfl⟩) (nomark _)) (pe_ix ix_tup (pv 1) pe_int (fun _ _ => rfl)) (pe_ix ix_tup (pv 1) pe_int (fun _ _ => rfl))))), ?_⟩
  obtain ⟨s, ds, a, b, h1, h2, q1, q2⟩ := h
  by_cases hs : s = ("leaf" : Str)
  · subst hs
    have q1 := q1 rfl
    wtm_at "go0"
    exact q1 _ (by assumption)
  · have hs' : (s == ("leaf" : Str)) = false := beq_eq_false_iff_ne.mpr hs
    have q2 := q2 hs'
    wtm_at "go0"
    refine i_eqSF hs' ?_
    wtm_at "go"
    exact q2 _ (by assumption)
end
end Wb

namespace Wb
open PySem PySem.Spec PyProof.Rows L2 StX
open Evl (Ex Ex.refl Ex.trans Ex.new)
local macro_rules | `(tactic| wtm_at "dp") => `(tactic| first | with_reducible assumption | with_reducible exact Dp.int _ | with_reducible exact Dp.bl _ | with_reducible exact Dp.str _ | with_reducible exact Dp.non | ((with_reducible refine' dpMono ?dme (by with_reducible assumption)); (case dme => wtm_at "ex")) | ((with_reducible refine' Dp.tup (Evl.st_of ?dph) ?dpa); (case dph => wtm_at "hs"); (case dpa => wtm_at "dpa")) | ((with_reducible refine' Dp.lst (Evl.sq_of ?dph) ?dpa); (case dph => wtm_at "hs"); (case dpa => wtm_at "dpa")))
local macro_rules | `(tactic| wtm_at "dpa") => `(tactic| first | with_reducible exact DpAll.nil | ((with_reducible refine' DpAll.cons ?dp1 ?dp2); (case dp1 => wtm_at "dp"); (case dp2 => wtm_at "dpa")) | with_reducible assumption | ((with_reducible refine' dpMonoA ?dme (by with_reducible assumption)); (case dme => wtm_at "ex")))
local macro_rules | `(tactic| wtm_at "sz") => `(tactic| first | with_reducible assumption | ((with_reducible refine' sz_mul ?sz1 ?sz2); (case sz1 => wtm_at "sz"); (case sz2 => wtm_at "sz")) | ((with_reducible refine' sz_add ?sz1 ?sz2); (case sz1 => wtm_at "sz"); (case sz2 => wtm_at "sz")) | ((with_reducible refine' sz_sub ?sz1 ?sz2); (case sz1 => wtm_at "sz"); (case sz2 => wtm_at "sz")) | ((with_reducible refine' sz_neg ?sz1); (case sz1 => wtm_at "sz")) | ((with_reducible refine' sz_div ?sz1); (case sz1 => wtm_at "sz")) | ((with_reducible refine' sz_fdiv ?sz1); (case sz1 => wtm_at "sz")) | exact sz_lit (by decide) | wtm_at "sz2")
local macro_rules | `(tactic| wtm_at "szb") => `(tactic| first | with_reducible assumption | ((with_reducible refine' sz_mono ?szb1 ?szb2); (case szb1 => wtm_at "sz"); (case szb2 => decide)))
local macro_rules | `(tactic| wtm_at "nz") => `(tactic| first | assumption | decide | omega)
local macro_rules | `(tactic| wtm_at "shaped") => `(tactic| first | rfl | decide)
local macro_rules | `(tactic| wtm_at "sset") => `(tactic| ((dsimp only [L2.wipe, List.set, List.set_cons_zero, List.set_cons_succ]) <;> exact rfl))
local macro_rules | `(tactic| wtm_at "nrm") => `(tactic| dsimp only [L2.start, L2.wipe, List.set, List.append, List.map, List.map_cons, List.map_nil, List.length_cons, List.length_nil, Nat.reduceAdd, Nat.reduceSub, List.reduceReplicate, List.replicate, List.cons_append, List.nil_append, List.set_cons_zero, List.set_cons_succ])
local macro_rules | `(tactic| wtm_at "st") => `(tactic| first
  | ((with_reducible refine' i_var (v := ?u0) ?u1 ?uq); (case u1 => exact rfl))
  | ((with_reducible refine' i_nameN ?u0 ?uq); (case u0 => wtm_at "sset"))
  | (with_reducible refine' i_op ?uq)
  | (with_reducible refine' i_c ?uq)
  | (with_reducible refine' i_I0 ?uq)
  | ((with_reducible refine' i_ixTI (i := ?u0) ?u1 ?u2 ?u3 ?uq); (case u1 => wtm_at "dp"); (case u2 => wtm_at "ex"); (case u3 => exact rfl))
  | ((with_reducible refine' i_ixT (d := ?u0) ?u1 ?u2 ?u3 (fun xu hxu => ?uq)); (case u1 => wtm_at "dp"); (case u2 => wtm_at "ex"); (case u3 => exact rfl))
  | ((with_reducible refine' i_mul ?u0 ?u1 ?u2 ?uq); (case u0 => wtm_at "sz"); (case u1 => wtm_at "sz"); (case u2 => first | decide | omega))
  | (with_reducible refine' i_seq ?uq)
  | (with_reducible refine' i_asg ?uq)
  | (with_reducible refine' i_ret ?uq)
  | (with_reducible refine' i_ifs ?uq)
  | (with_reducible refine' i_drop ?uq)
  | (with_reducible refine' i_next ?uq)
  | (with_reducible refine' i_cons ?uq)
  | (with_reducible refine' i_nil ?uq)
  | (with_reducible refine' i_cl ?uq)
  | (with_reducible refine' i_cb ?uq)
  | (with_reducible refine' i_tup ?uq)
  | (with_reducible refine' i_lst ?uq)
  | ((with_reducible refine' i_mkT ?u0 (fun np nH nhe nhp => ?uq)); (case u0 => exact Nat.le_of_ble_eq_true rfl))
  | (with_reducible refine' i_test ?uq)
  | (with_reducible refine' i_B ?uq)
  | (with_reducible refine' i_k ?uq)
  | (with_reducible refine' i_and ?uq)
  | (with_reducible refine' i_or ?uq)
  | (with_reducible refine' i_not ?uq)
  | (with_reducible refine' i_andV ?uq)
  | (with_reducible refine' i_orV ?uq)
  | (with_reducible refine' i_notV ?uq)
  | (with_reducible refine' i_if ?uq)
  | (with_reducible refine' i_un ?uq)
  | (with_reducible refine' i_U ?uq)
  | (with_reducible refine' i_iteT ?uq)
  | (with_reducible refine' i_iteF ?uq)
  | ((with_reducible refine' i_iteTr ?u0 ?uq); (case u0 => first | with_reducible rfl | decide | (simp only [dIsInt, dIsBool, dIsTup, dIsStr, dIsLst, Bool.not_true, Bool.not_false]; done)))
  | ((with_reducible refine' i_iteFr ?u0 ?uq); (case u0 => first | with_reducible rfl | decide | (simp only [dIsInt, dIsBool, dIsTup, dIsStr, dIsLst, Bool.not_true, Bool.not_false]; done)))
  | (with_reducible refine' i_ite (fun hif => ?uqa) (fun hif => ?uqb))
  | (with_reducible refine' i_iteN (fun hif => ?uqa) (fun hif => ?uqb))
  | (with_reducible refine' i_iteBN (fun hif => ?uqa) (fun hif => ?uqb))
  | (with_reducible refine' i_iteB (fun hif => ?uqa) (fun hif => ?uqb))
  | ((with_reducible refine' i_modN ?u0 ?uq); (case u0 => wtm_at "nz"))
  | ((with_reducible refine' i_fdX ?u0 ?u1 ?u2 ?uq); (case u0 => wtm_at "nz"); (case u1 => wtm_at "sz"); (case u2 => first | decide | omega))
  | ((with_reducible refine' i_pow ?u0 ?uq); (case u0 => exact ⟨by decide, by decide +kernel⟩))
  | (with_reducible refine' i_eqI ?uq)
  | (with_reducible refine' i_neI ?uq)
  | (with_reducible refine' i_gcd ?uq)
  | (with_reducible refine' i_qabs ?uq)
  | (with_reducible refine' i_qint ?uq)
  | (with_reducible refine' i_qintB ?uq)
  | (with_reducible refine' i_qmax2 ?uq)
  | (with_reducible refine' i_qmin2 ?uq)
  | (with_reducible refine' i_isB ?uq)
  | (with_reducible refine' i_notB ?uq)
  | (with_reducible refine' i_chain ?uq)
  | (with_reducible refine' i_qisN ?uq)
  | (with_reducible refine' i_qnotN ?uq)
  | (with_reducible refine' i_yes ?uq)
  | (with_reducible refine' i_par ?uq)
  | (with_reducible refine' i_par3 ?uq)
  | ((with_reducible refine' i_par2 ?u0 ?uq); (case u0 => wtm_at "sset"))
  | ((with_reducible refine' i_par33 ?u0 ?uq); (case u0 => wtm_at "sset"))
  | ((with_reducible refine' i_ixLI (i := ?u0) ?u1 ?u2 ?u3 ?uq); (case u1 => wtm_at "dp"); (case u2 => wtm_at "ex"); (case u3 => exact rfl))
  | ((with_reducible refine' i_ixL (d := ?u0) ?u1 ?u2 ?u3 (fun xu hxu => ?uq)); (case u1 => wtm_at "dp"); (case u2 => wtm_at "ex"); (case u3 => exact rfl))
  | ((with_reducible refine' i_qlenT ?u0 ?uq); (case u0 => wtm_at "dp"))
  | ((with_reducible refine' i_qlenL ?u0 ?uq); (case u0 => wtm_at "dp"))
  | ((with_reducible refine' i_gtup ?u0 ?u1 ?u2 (fun gvs gdp => ?uq)); (case u0 => wtm_at "dp"); (case u1 => wtm_at "ex"); (case u2 => exact rfl))
  | ((with_reducible refine' i_glst ?u0 ?u1 ?u2 (fun gvs gdp => ?uq)); (case u0 => wtm_at "dp"); (case u1 => wtm_at "ex"); (case u2 => exact rfl))
  | ((with_reducible refine' i_gconsI ?u0 (fun gr gh => ?uq)); (case u0 => with_reducible assumption))
  | ((with_reducible refine' i_gconsA ?u0 (fun gv gr gh1 gh2 => ?uq)); (case u0 => with_reducible assumption))
  | ((with_reducible refine' i_gnilA ?u0 ?uq); (case u0 => with_reducible assumption))
  | ((with_reducible refine' i_isiI ?u0 ?uq); (case u0 => wtm_at "dp"))
  | ((with_reducible refine' i_isiB ?u0 ?uq); (case u0 => wtm_at "dp"))
  | ((with_reducible refine' i_isiT ?u0 ?uq); (case u0 => wtm_at "dp"))
  | ((with_reducible refine' i_isiS ?u0 ?uq); (case u0 => wtm_at "dp"))
  | ((with_reducible refine' i_isiL ?u0 ?uq); (case u0 => wtm_at "dp"))
  | ((with_reducible refine' i_eqD ?u0 ?u1 ?u2 ?u3 ?uq); (case u0 => wtm_at "dp"); (case u1 => wtm_at "dp"); (case u2 => wtm_at "shaped"); (case u3 => wtm_at "shaped"))
  | ((with_reducible refine' i_neD ?u0 ?u1 ?u2 ?u3 ?uq); (case u0 => wtm_at "dp"); (case u1 => wtm_at "dp"); (case u2 => wtm_at "shaped"); (case u3 => wtm_at "shaped"))
  | wtm_at "st2"
  | wtm_at "use")
local macro_rules | `(tactic| wtm_at "go") => `(tactic| repeat' (wtm_at "st"))
local macro_rules | `(tactic| wtm_at "go0") => `(tactic| ((try dsimp only [L2.cxOf, L2.Cx.nox, L2.Cx.wish, L2.Cx.tr, L2.Cx.blk]); (try wtm_at "nrm"); wtm_at "go"))
local macro_rules | `(tactic| wtm_at "fin") => `(tactic| ((try dsimp only); first | with_reducible assumption | assumption | ((with_reducible refine' Ret.use ?rur ?rue ?rud); (case rur => with_reducible assumption); (case rue => wtm_at "ex"); (case rud => wtm_at "dp"))))
local macro_rules | `(tactic| wtm_at "exh") => `(tactic| first | with_reducible assumption | with_reducible exact Ex.refl _ | with_reducible exact ex_hid | ((with_reducible refine' Ex.trans ?exe (by with_reducible assumption)); (case exe => wtm_at "exh")) | ((with_reducible refine' Ex.trans ?exe (hid_ex (by with_reducible assumption))); (case exe => wtm_at "exh")))
local macro_rules | `(tactic| wtm_at "ex") => `(tactic| first | with_reducible assumption | with_reducible exact Ex.refl _ | with_reducible exact ex_hid | ((with_reducible refine' Ex.trans ?exe (by with_reducible assumption)); (case exe => wtm_at "ex")) | ((with_reducible refine' Ex.trans ?exe (hid_ex (by with_reducible assumption))); (case exe => wtm_at "ex")) | ((with_reducible refine' Ex.trans ?exe ex_hid); (case exe => wtm_at "exh")))
local macro_rules | `(tactic| wtm_at "bag") => `(tactic| first | with_reducible assumption | ((with_reducible refine' Bag.mono ?bgm (by with_reducible assumption)); (case bgm => wtm_at "bag")))
local macro_rules | `(tactic| wtm_at "hs") => `(tactic| first | with_reducible assumption | ((with_reducible refine' hid_tup ?hb ?hp); (case hp => with_reducible assumption); (case hb => wtm_at "bag")) | ((with_reducible refine' hid_new ?hb ?hn ?hp); (case hp => with_reducible assumption); (case hn => with_reducible assumption); (case hb => wtm_at "bag")) | ((with_reducible refine' ex_at ?exe (by with_reducible assumption)); (case exe => wtm_at "ex")))
local macro_rules | `(tactic| wtm_at "st2") => `(tactic| first
  | ((with_reducible refine' i_mulC ?u0 ?uq); (case u0 => first | exact cmul_l (by decide) | exact cmul_r (by decide)))
  | ((with_reducible refine' i_ixLr (v := ?u0) ?u1 ?u2 ?uq); (case u1 => with_reducible assumption); (case u2 => exact rfl))
  | (with_reducible refine' i_sub ?uq)
  | ((with_reducible refine' i_mkL ?u0 (fun np nH nfr nhe nhp => ?uq)); (case u0 => exact Nat.le_of_ble_eq_true rfl))
  | ((with_reducible refine' i_setL (n := ?u0) ?u1 ?u2 (fun sH sh se => ?uq)); (case u1 => with_reducible assumption); (case u2 => exact rfl))
  | (with_reducible refine' i_sl ?uq)
  | (with_reducible refine' i_nopart ?uq)
  | (with_reducible refine' i_part ?uq)
  | (with_reducible refine' i_part1 ?uq))
local macro_rules | `(tactic| wtm_at "sz2") => `(tactic| ((with_reducible refine' sz_fmod ?sz1 ?sz2); (case sz1 => wtm_at "nz"); (case sz2 => wtm_at "sz")))
local macro_rules | `(tactic| wtm_at "stb") => `(tactic| first
  | ((with_reducible refine' i_mkTB ?u0 ?u1 (fun np nH nhe nhb nhp => ?uq)); (case u0 => exact Nat.le_of_ble_eq_true rfl); (case u1 => wtm_at "bag"))
  | ((with_reducible refine' i_mkLB ?u0 ?u1 (fun np nH nfr nhe nhb nhp => ?uq)); (case u0 => exact Nat.le_of_ble_eq_true rfl); (case u1 => wtm_at "bag"))
  | wtm_at "st")
local macro_rules | `(tactic| wtm_at "gob") => `(tactic| repeat' (wtm_at "stb"))
local macro_rules | `(tactic| wtm_at "gob0") => `(tactic| ((try dsimp only [L2.cxOf, L2.Cx.nox, L2.Cx.wish, L2.Cx.tr, L2.Cx.blk]); (try wtm_at "nrm"); wtm_at "gob"))
local macro_rules | `(tactic| wtm_at "use") => `(tactic| ((with_reducible refine' use_is_integer ?u0 ?uq); (case u0 => wtm_at "dp")))
local macro_rules | `(tactic| wtm_at "use") => `(tactic| ((with_reducible refine' use_is_box ?u0 ?u1 (fun uH ue => ?uq)); (case u0 => wtm_at "dp"); (case u1 => with_reducible assumption)))
local macro_rules | `(tactic| wtm_at "use") => `(tactic| ((with_reducible refine' use_require_box ?u0 ?u1 (fun uH ue => ?uq)); (case u0 => wtm_at "dp"); (case u1 => with_reducible assumption)))
local macro_rules | `(tactic| wtm_at "use") => `(tactic| ((with_reducible refine' use_do_meet_in ?u0 ?u1 ?uq); (case u0 => wtm_at "dp"); (case u1 => wtm_at "dp")))
local macro_rules | `(tactic| wtm_at "use") => `(tactic| ((with_reducible refine' use_apart_word ?u0 ?u1 ?uq); (case u0 => wtm_at "dp"); (case u1 => wtm_at "dp")))
section
variable {P : Program} {w : World} {K : PySem.W.Frag} {mg : Str → Option Value} {base : Heap} {H H' : Hp} {Q : VK} {E : XK} {v1 v2 v3 v4 v5 : V}
theorem use_is_entry {e : En} (h : Dp K H v1 (enD e)) (ho : e.2.ok) (q : ∀ H2, Ex H H2 → Q (.bl true) H2) : sp_is_entry K [v1] H Q E := ⟨_, rfl, e, h, ho, ret_bl q⟩
theorem i_ninT {a : Addr} {xs : List V} {x : V} {b : Bool} (h : H a = some (.tup xs)) (hx : flatV x = true) (hs : xs.all flatV = true) (e : (!inV x xs) = b) (q : Q (.bl b) H) : rIn K true x (.ref a) H Q := by
  subst e
  exact ⟨a, xs, rfl, .inr (Evl.st_of h), hx, hs, q⟩
local macro_rules | `(tactic| wtm_at "use") => `(tactic| (first | ((with_reducible refine' use_is_entry ?u0 ?u1 (fun uH ue => ?uq)); (case u0 => wtm_at "dp"); (case u1 => with_reducible assumption)) | fail))
local macro_rules | `(tactic| wtm_at "use") => `(tactic| (first | ((with_reducible refine' use_has_size ?u0 ?uq); (case u0 => wtm_at "dp")) | fail))
local macro_rules | `(tactic| wtm_at "uent") => `(tactic| ((with_reducible refine' use_entries_in ?u00 ?u0 ?u1 ?u2 ?uq); (case u1 => wtm_at "dp"); (case u00 => omega); (case u0 => omega); (case u2 => with_reducible assumption)))
local macro_rules | `(tactic| wtm_at "uent") => `(tactic| ((with_reducible refine' use_depths_in ?u00 ?u0 ?u1 ?u2 ?uq); (case u1 => wtm_at "dp"); (case u00 => omega); (case u0 => omega); (case u2 => with_reducible assumption)))
local macro_rules | `(tactic| wtm_at "uent") => `(tactic| ((with_reducible refine' use_forms_in ?u00 ?u0 ?u1 ?u2 ?uq); (case u1 => wtm_at "dp"); (case u00 => omega); (case u0 => omega); (case u2 => with_reducible assumption)))
local macro_rules | `(tactic| wtm_at "uent") => `(tactic| ((with_reducible refine' use_branches_in ?u00 ?u0 ?u1 ?u2 ?uq); (case u1 => wtm_at "dp"); (case u00 => omega); (case u0 => omega); (case u2 => with_reducible assumption)))
local macro_rules | `(tactic| wtm_at "st") => `(tactic| first | ((with_reducible refine' i_ixTS (z := ?u0) ?u1 ?u2 ?u3 ?uq); (case u1 => wtm_at "dp"); (case u2 => wtm_at "ex"); (case u3 => exact rfl)) | fail)
local macro_rules | `(tactic| wtm_at "st2") => `(tactic| first | ((with_reducible refine' i_eqST ?u0 ?uq); (case u0 => with_reducible rfl)) | ((with_reducible refine' i_eqSF ?u0 ?uq); (case u0 => decide +kernel)) | ((with_reducible refine' i_neST ?u0 ?uq); (case u0 => with_reducible rfl)) | ((with_reducible refine' i_neSF ?u0 ?uq); (case u0 => decide +kernel)) | fail)
/-- boxes that are boxes -/
def Bok : (n : Nat) → Fo n → Prop
  | 0, t => ∀ e ∈ foL t, e.2.ok
  | n + 1, t => ∀ p ∈ foB t, p.1.ok ∧ Bok n p.2
def sp_is_built (K : PySem.W.Frag) (n : Nat) : Sp := A1 fun v1 H Q => ∃ m, m < n ∧ m ≤ 3 ∧ ∃ t : Fo m, Dp K H v1 (foD m t) ∧ Sm m t ∧ Bok m t ∧ Ret K (.bool true) H Q
def sp_is_branch (K : PySem.W.Frag) (n : Nat) : Sp := A1 fun v1 H Q => ∃ m, m < n ∧ m ≤ 3 ∧ ∃ p : Bx × Fo m, Dp K H v1 (brD m p) ∧ p.1.ok ∧ Sm m p.2 ∧ Bok m p.2 ∧ Ret K (.bool true) H Q
theorem use_is_built {n m : Nat} {t : Fo m} (hlt : m < n) (hn : m ≤ 3) (h : Dp K H v1 (foD m t)) (hs : Sm m t) (hb : Bok m t) (q : ∀ H2, Ex H H2 → Q (.bl true) H2) : sp_is_built K n [v1] H Q E := ⟨_, rfl, m, hlt, hn, t, h, hs, hb, ret_bl q⟩
theorem use_is_branch {n m : Nat} {p : Bx × Fo m} (hlt : m < n) (hn : m ≤ 3) (h : Dp K H v1 (brD m p)) (ho : p.1.ok) (hs : Sm m p.2) (hb : Bok m p.2) (q : ∀ H2, Ex H H2 → Q (.bl true) H2) : sp_is_branch K n [v1] H Q E := ⟨_, rfl, m, hlt, hn, p, h, ho, hs, hb, ret_bl q⟩
theorem layA {k : Nat} : ∀ {ds : List PyData}, (∀ d ∈ ds, PyData.canLay0 d = true ∧ PyData.depth d ≤ k) → PyData.canLayAll0 ds = true ∧ PyData.depthAll ds ≤ k
  | [], _ => ⟨rfl, Nat.zero_le _⟩
  | d :: ds, h => by
    obtain ⟨h1, h2⟩ := h d List.mem_cons_self
    obtain ⟨h3, h4⟩ := layA (k := k) fun x hx => h x (List.mem_cons_of_mem _ hx)
    exact ⟨by show (PyData.canLay0 d && PyData.canLayAll0 ds) = true; rw [h1, h3]; rfl, by show max (PyData.depth d) (PyData.depthAll ds) ≤ k; omega⟩
theorem shp_list {k : Nat} {ds : List PyData} (hk : k ≤ 63) (h : ∀ d ∈ ds, PyData.canLay0 d = true ∧ PyData.depth d ≤ k) : SeqAt.shaped (.list ds) = true := by
  obtain ⟨h1, h2⟩ := layA h
  unfold SeqAt.shaped
  have e1 : PyData.canLay0 (.list ds) = true := h1
  have e2 : PyData.depth (.list ds) ≤ 64 := by
    show PyData.depthAll ds + 1 ≤ 64
    omega
  rw [e1, decide_eq_true e2]
  rfl
theorem shp_tup {k : Nat} {ds : List PyData} (hk : k ≤ 63) (h : ∀ d ∈ ds, PyData.canLay0 d = true ∧ PyData.depth d ≤ k) : SeqAt.shaped (.tuple ds) = true := by
  obtain ⟨h1, h2⟩ := layA h
  unfold SeqAt.shaped
  have e1 : PyData.canLay0 (.tuple ds) = true := h1
  have e2 : PyData.depth (.tuple ds) ≤ 64 := by
    show PyData.depthAll ds + 1 ≤ 64
    omega
  rw [e1, decide_eq_true e2]
  rfl
theorem lay_bx (b : Bx) : PyData.canLay0 (bxD b) = true ∧ PyData.depth (bxD b) ≤ 1 := ⟨rfl, Nat.le_of_ble_eq_true rfl⟩
theorem shp_bx (b : Bx) : SeqAt.shaped (bxD b) = true := rfl
theorem shp_bxs (bs : List Bx) : SeqAt.shaped (.list (bs.map bxD)) = true := shp_list (k := 1) (by decide) fun d hd => by
  obtain ⟨b, _, rfl⟩ := List.mem_map.mp hd
  exact lay_bx b
theorem eqv_self {d : PyData} (h : SeqAt.shaped d = true) : PyData.eqv d d = true := SeqAt.eqv_refl d (SeqAt.canLay_of_shaped h)
theorem i_allT {α : Type} {xs : List α} {v : V} (h : Dp K H v (.list (xs.map fun _ => .bool true))) (q : Q (.bl true) H) : rAll K [v] H Q := by
  refine i_all (bs := xs.map fun _ => true) h (by rw [List.map_map]; rfl) ?_
  have e : (xs.map fun _ => true).all id = true := by
    rw [List.all_map]
    exact List.all_eq_true.mpr fun _ _ => rfl
  rw [e]
  exact q
abbrev s_is_branch : Stmt := top 29
theorem sc_is_branch : FnScope ["value"] ["value"] (defScope s_is_branch) := ⟨rfl, rfl, rfl, by decide +kernel, rfl, by decide +kernel, by decide +kernel⟩
theorem ok_is_branch {f : Addr} {fd : FuncData} (F : FnP K "is_branch" s_is_branch f fd) (g : G mg) {n : Nat} (c_is_box : Cl P w K mg base 2 "is_box" (sp_is_box K)) (c_is_built : Cl P w K mg base (2 * n + 2) "is_built" (sp_is_built K n)) : FnOk P w K mg base CX0 (2 * n + 3) f fd ["value"] (sp_is_branch K n) := by
  have nd := sc_is_branch.nd
  refine F.ok sc_is_branch (fun vs H Q E h => h.len) (fun cdv A outer s H vs Q E hr h => ?_)
  obtain ⟨v1, rfl, h⟩ := h
  refine ⟨_, PSs.nox (pss_one (ps_ret (pe_and (pe_callB call_isi (by rfl) g.f_isinstance boot_isinstance (pa_cons (pv 0) (pa_cons (pe_bltn (v := .ty "tuple") (by rfl) g.f_tuple boot_tuple rfl) pa_nil))) (pe_and (pe_cmpR op_eq (pe_callB call_qlen (by rfl) g.f_len boot_len (pa_cons (pv 0) pa_nil)) pe_int (nomark _)) (pe_and (pc c_is_box hr (by first | decide | omega) (by rfl) (pa_cons (pe_ix ix_tup (pv 0) pe_int (fun _ _ => rfl)) pa_nil)) (pe_one (pc c_is_built hr (by first | decide | omega) (by rfl) (pa_cons (pe_ix ix_tup (pv 0) pe_int (fun _ _ => rfl)) pa_nil)))))))), ?_⟩
  obtain ⟨m, e, hn, ⟨b, t⟩, h1, ho, hs, hb, q⟩ := h
  unfold brD at h1
  dsimp only at h1 ho hs hb
  wtm_at "go0"
  · refine use_is_built (by omega) (by omega) (by wtm_at "dp") hs hb (fun H2 e2 => ?_)
    exact Ret.bl q (by wtm_at "ex")
  · rename_i hz
    exact absurd rfl hz
abbrev s_is_built : Stmt := top 28
theorem sc_is_built : FnScope ["value", "one"] ["value"] (defScope s_is_built) := ⟨rfl, rfl, rfl, by decide +kernel, rfl, by decide +kernel, by decide +kernel⟩
theorem ok_is_built {f : Addr} {fd : FuncData} (F : FnP K "is_built" s_is_built f fd) (g : G mg) {n : Nat} (c_is_entry : Cl P w K mg base 3 "is_entry" (sp_is_entry K)) (c_is_branch : Cl P w K mg base (2 * n + 3) "is_branch" (sp_is_branch K n)) : FnOk P w K mg base CX0 (2 * n + 4) f fd ["value"] (sp_is_built K (n + 1)) := by
  have nd := sc_is_built.nd
  refine F.ok sc_is_built (fun vs H Q E h => h.len) (fun cdv A outer s H vs Q E hr h => ?_)
  obtain ⟨v1, rfl, h⟩ := h
  refine ⟨_, PSs.nox (pss_cons (ps_if (PW.pt (pw_or (pt_not (pt_val (pe_callB call_isi (by rfl) g.f_isinstance boot_isinstance (pa_cons (pv 0) (pa_cons (pe_bltn (v := .ty "tuple") (by rfl) g.f_tuple boot_tuple rfl) pa_nil))))) (pw_or (pt_cmpR op_ne (pe_callB call_qlen (by rfl) g.f_len boot_len (pa_cons (pv 0) pa_nil)) pe_int (nomark _)) (pw_or1 (pt_not (pt_val (pe_callB call_isi (by rfl) g.f_isinstance boot_isinstance (pa_cons (pe_ix ix_tup (pv 0) pe_int (fun _ _ => rfl)) (pa_cons (pe_bltn (v := .ty "tuple") (by rfl) g.f_tuple boot_tuple rfl) pa_nil))))))))) (pss_one (ps_ret pe_bl)) pss_nil) (pss_cons (ps_if (PW.pt (pw_or (pt_not (pt_val (pe_callB call_isi (by rfl) g.f_isinstance boot_isinstance (pa_cons (pe_ix ix_tup (pv 0) pe_int (fun _ _ => rfl)) (pa_cons (pe_bltn (v := .ty "str") (by rfl) g.f_str boot_str rfl) pa_nil))))) (pw_or1 (pt_cmpR op_notIn_seq (pe_ix ix_tup (pv 0) pe_int (fun _ _ => rfl)) (pe_tup (pa_cons (pe_glob (v := .str "leaf") (by rfl) g.c_LEAF.choose_spec ⟨_, rfl⟩) (pa_cons (pe_glob (v := .str "node") (by rfl) g.c_NODE.choose_spec ⟨_, rfl⟩) pa_nil))) (by rfl))))) (pss_one (ps_ret pe_bl)) pss_nil) (pss_cons (ps_if (pt_cmpR op_eq (pe_ix ix_tup (pv 0) pe_int (fun _ _ => rfl)) (pe_glob (v := .str "leaf") (by rfl) g.c_LEAF.choose_spec ⟨_, rfl⟩) (nomark _)) (pss_one (ps_ret (pe_callB (cr_all rfl) (by rfl) g.f_all boot_all (pa_cons (pe_lc (own := [("one", 1)]) (g := gName 1) (by rfl) nd (pi_tup (pe_ix ix_tup (pv 0) pe_int (fun _ _ => rfl))) (blkOk_by (N := ["value", "one"]) (sc := defScope s_is_built) (own := [("one", 1)]) (by decide +kernel)) (fun _ _ _ _ _ => (pg_name (i := 1) nd rfl (Or.inl rfl))) (fun _ _ _ _ _ => pts_nil) (fun _ _ _ _ _ => (pc c_is_entry hr (by first | decide | omega) (by rfl) (pa_cons (pv 1) pa_nil)))) pa_nil)))) pss_nil) (pss_one (ps_ret (pe_callB (cr_all rfl) (by rfl) g.f_all boot_all (pa_cons (pe_lc (own := [("one", 1)]) (g := gName 1) (by rfl) nd (pi_tup (pe_ix ix_tup (pv 0) pe_int (fun _ _ => rfl))) (blkOk_by (N := ["value", "one"]) (sc := defScope s_is_built) (own := [("one", 1)]) (by decide +kernel)) (fun _ _ _ _ _ => (pg_name (i := 1) nd rfl (Or.inl rfl))) (fun _ _ _ _ _ => pts_nil) (fun _ _ _ _ _ => (pc c_is_branch hr (by first | decide | omega) (by rfl) (pa_cons (pv 1) pa_nil)))) pa_nil))))))), ?_⟩
  obtain ⟨m, e, hn, t, h1, hs, hb, q⟩ := h
  cases m with
  | zero =>
    unfold foD at h1
    wtm_at "go0"
    · rename_i hz
      exact absurd rfl hz
    rename_i nH nhe nhp
    refine i_ninT (b := false) nhp rfl rfl (by decide +kernel) ?_
    wtm_at "go"
    refine i_lcTU ?_
    wtm_at "go"
    rename_i xu hx
    refine i_lcGT (enc := enD) (xs := foL t) (fun _ => true) (fun _ => .bool true) (dpMono nhe hx) (by have : (foL t).length ≤ 4 := hs; omega) (fun _ _ => rfl) (fun u x H2 R Y e2 hm hu hn hy => ?_) (fun p H2 hp e2 hl => ?_)
    · refine ⟨rfl, ?_⟩
      have ho := hb x hm
      wtm_at "nrm"
      wtm_at "go"
      exact hy rfl _ _ (by wtm_at "ex") (Dp.bl _)
    · wtm_at "go"
      refine i_allT hl ?_
      wtm_at "go"
      exact Ret.bl q (by wtm_at "ex")
  | succ m =>
    unfold foD at h1
    wtm_at "go0"
    · rename_i hz
      exact absurd rfl hz
    rename_i nH nhe nhp
    refine i_ninT (b := false) nhp rfl rfl (by decide +kernel) ?_
    wtm_at "go"
    refine i_lcTU ?_
    wtm_at "go"
    rename_i xu hx
    refine i_lcGT (enc := brD m) (xs := foB t) (fun _ => true) (fun _ => .bool true) (dpMono nhe hx) (by have : (foB t).length ≤ 4 := hs.1; omega) (fun _ _ => rfl) (fun u x H2 R Y e2 hm hu hn hy => ?_) (fun p H2 hp e2 hl => ?_)
    · refine ⟨rfl, ?_⟩
      obtain ⟨ho, hb2⟩ := hb x hm
      have hs2 := hs.2 x hm
      wtm_at "nrm"
      wtm_at "go"
      refine use_is_branch (p := x) (by omega) (by omega) (by wtm_at "dp") ho hs2 hb2 (fun H3 e3 => ?_)
      exact hy rfl _ _ (by wtm_at "ex") (Dp.bl _)
    · wtm_at "go"
      refine i_allT hl ?_
      wtm_at "go"
      exact Ret.bl q (by wtm_at "ex")
def sp_has_box (K : PySem.W.Frag) (n : Nat) : Sp := A1 fun v1 H Q => ∃ m, m < n ∧ m ≤ 3 ∧ ∃ p : Bx × Fo m, Dp K H v1 (brD m p) ∧ Sm m p.2 ∧ p.1 = joint ((ents m p.2).map (·.2)) ∧ ents m p.2 ≠ [] ∧ Ret K (.bool true) H Q
theorem use_has_box {n m : Nat} {p : Bx × Fo m} (hlt : m < n) (hn : m ≤ 3) (h : Dp K H v1 (brD m p)) (hs : Sm m p.2) (ho : p.1 = joint ((ents m p.2).map (·.2))) (hne : ents m p.2 ≠ []) (q : ∀ H2, Ex H H2 → Q (.bl true) H2) : sp_has_box K n [v1] H Q E := ⟨_, rfl, m, hlt, hn, p, h, hs, ho, hne, ret_bl q⟩
abbrev s_has_box : Stmt := top 35
theorem sc_has_box : FnScope ["branch", "boxes", "number", "box"] ["branch"] (defScope s_has_box) := ⟨rfl, rfl, rfl, by decide +kernel, rfl, by decide +kernel, by decide +kernel⟩
theorem ok_has_box {f : Addr} {fd : FuncData} (F : FnP K "has_box" s_has_box f fd) (g : G mg) {n : Nat} (c_entries_in : Cl P w K mg base n "entries_in" (sp_entries_in K n)) (c_joint_in : Cl P w K mg base 1 "joint_in" (sp_joint_in K)) : FnOk P w K mg base CX0 (n + 2) f fd ["branch"] (sp_has_box K n) := by
  have nd := sc_has_box.nd
  refine F.ok sc_has_box (fun vs H Q E h => h.len) (fun cdv A outer s H vs Q E hr h => ?_)
  obtain ⟨v1, rfl, h⟩ := h
  refine ⟨_, PSs.nox (pss_cons (ps_setLc (i := 1) (own := [("number", 2), ("box", 3)]) (g := _) (by rfl) nd rfl rfl (sw_true rfl rfl rfl (by decide +kernel)) (pi_list (pc c_entries_in hr (by first | decide | omega) (by rfl) (pa_cons (pe_ix ix_tup (pv 0) pe_int (fun _ _ => rfl)) pa_nil))) (blkOk_by (N := ["branch", "boxes", "number", "box"]) (sc := defScope s_has_box) (own := [("number", 2), ("box", 3)]) (by decide +kernel)) (fun _ _ _ _ _ => (show PG _ _ (gTup K 2 _) from (pg_tup (by rfl) (pgs_cons (pg_name (i := 2) nd rfl (Or.inl rfl)) (pgs_cons (pg_name (i := 3) nd rfl (Or.inl rfl)) pgs_nil))))) (fun _ _ _ _ _ => pts_nil) (fun _ _ _ _ _ => (pv 3))) (pss_one (ps_ret (pe_and (pe_cmpR (op_neD hr.units) (pv 1) (pe_lst pa_nil) (nomark _)) (pe_one (pe_cmpR (op_eqD hr.units) (pe_ix ix_tup (pv 0) pe_int (fun _ _ => rfl)) (pc c_joint_in hr (by first | decide | omega) (by rfl) (pa_cons (pv 1) pa_nil)) (nomark _))))))), ?_⟩
  obtain ⟨m, e, hn, ⟨b, t⟩, h1, hs, ho, hne, q⟩ := h
  unfold brD at h1
  dsimp only at h1 hs ho hne
  wtm_at "go0"
  refine i_lcLU ?_
  wtm_at "go"
  wtm_at "uent"
  intro p H3 hp3 e3 hl3
  have hlen : (ents m t).length ≤ 1000 := by
    have := ents_len m t hs
    have h4 : 4 ^ (m + 1) ≤ 256 := by
      have hm : m = 0 ∨ m = 1 ∨ m = 2 ∨ m = 3 := by omega
      rcases hm with rfl | rfl | rfl | rfl <;> decide
    omega
  refine i_lcGL (enc := enD) (xs := ents m t) (fun _ => true) (fun e => bxD e.2) hl3 (by omega) (fun x _ => noL_bx x.2) (fun u x H2 R Y e2 hm hu hn hy => ?_) (fun p2 H4 hp4 e4 hl => ?_)
  · unfold enD at hu
    wtm_at "nrm"
    wtm_at "go"
    refine ⟨rfl, ?_⟩
    wtm_at "go"
    exact hy rfl _ _ (Ex.refl _) (by assumption)
  have hl2 : Dp K H4 (.ref p2) (.list (((ents m t).map (·.2)).map bxD)) := by
    rw [List.map_map]
    have e : ((ents m t).filter fun _ => true) = ents m t := List.filter_eq_self.mpr fun _ _ => rfl
    rw [e] at hl
    exact hl
  clear hl
  generalize hbs : (ents m t).map (·.2) = bs at *
  have hnb : bs ≠ [] := fun z => hne (List.map_eq_nil_iff.mp (hbs.trans z))
  have hlb : bs.length ≤ 1000 := by rw [← hbs, List.length_map]; exact hlen
  wtm_at "nrm"
  wtm_at "go"
  rename_i nH nfr nhe nhp
  refine i_neD (dpMono nhe hl2) (.lst (Evl.sq_of nhp) .nil) (shp_bxs bs) rfl ?_
  have en : (!PyData.eqv (.list (bs.map bxD)) (.list [])) = true := by
    cases bs with
    | nil => exact absurd rfl hnb
    | cons b r => rfl
  rw [en]
  wtm_at "go"
  rename_i xu hxu
  refine use_joint_in (bs := bs) (by wtm_at "dp") hnb hlb (fun v5 H5 e5 hd5 => ?_)
  refine i_eqD (dpMono ((e3.trans e4).trans (nhe.trans e5)) hxu) hd5 (shp_bx _) (shp_bx _) ?_
  rw [ho, eqv_self (shp_bx _)]
  exact Ret.bl q (by wtm_at "ex")
end
end Wb

/-! dict comprehensions over typed lists: the keys -/
namespace Wb
open PySem PySem.Spec PyProof.Rows L2 
open Evl (Ex Ex.refl Ex.trans Ex.new)
theorem putK_mem {kvs : List (Key × V)} {k j : Key} {v : V} : j ∈ (putK kvs k v).map (·.1) ↔ j ∈ kvs.map (·.1) ∨ j = k := by
  unfold putK
  split
  · rename_i h
    obtain ⟨p, hp, e⟩ := List.any_eq_true.mp h
    have e := of_decide_eq_true e
    have e2 : ((kvs.map fun kv => if kv.1 = k then (kv.1, v) else kv).map (·.1)) = kvs.map (·.1) := by
      rw [List.map_map]
      refine List.map_congr_left fun q _ => ?_
      show (if q.1 = k then (q.1, v) else q).1 = q.1
      split <;> rfl
    rw [e2]
    constructor
    · exact .inl
    · rintro (h | rfl)
      · exact h
      · exact List.mem_map.mpr ⟨p, hp, e⟩
  · rw [List.map_append, List.mem_append]
    constructor
    · rintro (h | h)
      · exact .inl h
      · exact .inr (List.mem_singleton.mp h)
    · rintro (h | rfl)
      · exact .inl h
      · exact .inr (List.mem_singleton.mpr rfl)
theorem putK_nodup {kvs : List (Key × V)} {k : Key} {v : V} (h : (kvs.map (·.1)).Nodup) : ((putK kvs k v).map (·.1)).Nodup := by
  unfold putK
  split
  · have e2 : ((kvs.map fun kv => if kv.1 = k then (kv.1, v) else kv).map (·.1)) = kvs.map (·.1) := by
      rw [List.map_map]
      refine List.map_congr_left fun q _ => ?_
      show (if q.1 = k then (q.1, v) else q).1 = q.1
      split <;> rfl
    rw [e2]
    exact h
  · rename_i hn
    rw [List.map_append]
    refine List.nodup_append.mpr ⟨h, by simp, fun a ha b hb e => ?_⟩
    have hb : b = k := List.mem_singleton.mp hb
    subst hb
    subst e
    obtain ⟨p, hp, e⟩ := List.mem_map.mp ha
    exact hn (List.any_eq_true.mpr ⟨p, hp, decide_eq_true e⟩)
section
variable {K : PySem.W.Frag} {H H' : Hp} {Q : VK} {v : V} {σ : L2.St} {vs : List Nat} {tk tv : TE} {tt : TT} {g : TG} {α : Type} {enc : α → PyData} {xs : List α}
theorem i_dcU {tl : TE} (q : tl σ H fun x H1 => tDc (iList K (tC x)) g tt tk tv vs σ H1 Q) : tDc (iList K tl) g tt tk tv vs σ H Q := q
theorem i_dcK (kf : α → Key) (h : Dp K H v (.list (xs.map enc))) (hl : xs.length ≤ 1000)
    (ht : ∀ (u : V) (x : α) (H2 : Hp) (R : Hp → Prop) (Y : V → V → Hp → Prop), Ex H H2 → x ∈ xs → Dp K H2 u (enc x) → (∀ z H3, Ex H2 H3 → Y (kV (kf x)) z H3) →
      g u (wipe σ vs) H2 fun σ2 H3 => wipe σ2 vs = wipe σ vs ∧ tt σ2 H3 fun b H4 => if b = true then tk σ2 H4 fun y H5 => tv σ2 H5 fun z H6 => Y y z H6 else R H4)
    (q : ∀ D H2 kvs, H D = none → Ex H H2 → H2 D = some (.dK kvs) → (kvs.map (·.1)).Nodup → (∀ k, k ∈ kvs.map (·.1) ↔ k ∈ xs.map kf) → Q (.ref D) H2) : tDc (iList K (tC v)) g tt tk tv vs σ H Q := by
  obtain ⟨a, us, rfl, hs, ha⟩ := dpLst h
  have el : us.length = xs.length := by rw [dpLen ha, List.length_map]
  refine ⟨a, rfl, ⟨us, hs⟩, fun D hD => ?_⟩
  refine ⟨fun i m H5 => m = us.length - i ∧ i ≤ us.length ∧ Ex H H5 ∧ ∃ kvs, H5 D = some (.dK kvs) ∧ kvs.length ≤ i ∧ (kvs.map (·.1)).Nodup ∧ ∀ k, k ∈ kvs.map (·.1) ↔ k ∈ (xs.take i).map kf, ⟨us.length, by simp, Nat.zero_le _, Ex.new hD, [], upd_same, Nat.zero_le _, by simp, by simp⟩, ?_⟩
  rintro i m H5 ⟨rfl, hi, e5, kvs, hd, hk, hn, hm⟩
  have hs5 := Evl.ex_l e5 hs
  by_cases hlt : i < us.length
  · refine .inr ⟨⟨us, us[i], hs5, by simp [hlt]⟩, fun H6 => Ex H H6 ∧ ∃ kvs, H6 D = some (.dK kvs) ∧ kvs.length ≤ i + 1 ∧ (kvs.map (·.1)).Nodup ∧ ∀ k, k ∈ kvs.map (·.1) ↔ k ∈ (xs.take (i + 1)).map kf, fun H6 p' => ⟨us.length - (i + 1), by omega, rfl, hlt, p'⟩, fun u H6 y => ?_⟩
    obtain ⟨e, y⟩ := y
    subst e
    have hx := y us hs5
    obtain ⟨d, hd1, hu⟩ := dpIdx ha hx
    rw [List.getElem?_map] at hd1
    obtain ⟨z, hz, rfl⟩ := Option.map_eq_some_iff.mp hd1
    have ht1 : xs.take (i + 1) = xs.take i ++ [z] := by rw [List.take_add_one, hz]; rfl
    refine ht u z H6 _ _ e5 (List.mem_of_getElem? hz) (dpMono e5 hu) fun w H7 e7 => ?_
    refine ⟨kvs, kf z, rfl, e7 _ _ hd, Evl.sz_lt (by omega), Evl.Ex.mut (e5.trans e7) hD, putK kvs (kf z) w, upd_same, ?_, putK_nodup hn, fun k => ?_⟩
    · have := length_putK kvs (kf z) w
      omega
    · rw [putK_mem, hm k, ht1, List.map_append, List.mem_append]
      constructor
      · rintro (h | rfl)
        · exact .inl h
        · exact .inr (List.mem_singleton.mpr rfl)
      · rintro (h | h)
        · exact .inl h
        · exact .inr (List.mem_singleton.mp h)
  · have e : i = us.length := by omega
    subst e
    refine .inl ⟨⟨us, hs5, Nat.le_refl _⟩, ?_⟩
    rw [el, List.take_length] at hm
    exact q D H5 kvs hD e5 hd hn hm
def qLenD : List V → Hp → VK → Prop := fun xs H Q => ∃ a kvs, xs = [V.ref a] ∧ H a = some (.dK kvs) ∧ Q (.int kvs.length) H
theorem call_qlenD {X : Cx} : CallR X (.builtin "len") qLenD := call_lenD
theorem i_qlenD {a : Addr} {kvs : List (Key × V)} (h : H a = some (.dK kvs)) (q : Q (.int kvs.length) H) : qLenD [.ref a] H Q := ⟨a, kvs, rfl, h, q⟩
end
theorem keys_nodup {α : Type} {ks : List Key} {xs : List α} {kf : α → Key} (hn : ks.Nodup) (hm : ∀ k, k ∈ ks ↔ k ∈ xs.map kf) (hx : (xs.map kf).Nodup) : ks.length = xs.length := by
  have p : ks.Perm (xs.map kf) := (List.perm_ext_iff_of_nodup hn hx).mpr hm
  rw [p.length_eq, List.length_map]
theorem keys_one {α : Type} {ks : List Key} {xs : List α} {kf : α → Key} {k0 : Key} (hn : ks.Nodup) (hm : ∀ k, k ∈ ks ↔ k ∈ xs.map kf) (h : ∀ x ∈ xs, kf x = k0) : ks.length ≤ 1 := by
  match ks, hn, hm with
  | [], _, _ => exact Nat.zero_le _
  | [_], _, _ => exact Nat.le_refl _
  | a :: b :: r, hn, hm =>
    exfalso
    have h1 : a = k0 := by
      obtain ⟨x, hx, e⟩ := List.mem_map.mp ((hm a).mp List.mem_cons_self)
      rw [← e, h x hx]
    have h2 : b = k0 := by
      obtain ⟨x, hx, e⟩ := List.mem_map.mp ((hm b).mp (List.mem_cons_of_mem _ List.mem_cons_self))
      rw [← e, h x hx]
    have := (List.nodup_cons.mp hn).1
    exact this (by rw [h1, h2]; exact List.mem_cons_self)
end Wb

namespace Wb
open PySem PySem.Spec PyProof.Rows L2 StX
open Evl (Ex Ex.refl Ex.trans Ex.new)
local macro_rules | `(tactic| wtm_at "dp") => `(tactic| first | with_reducible assumption | with_reducible exact Dp.int _ | with_reducible exact Dp.bl _ | with_reducible exact Dp.str _ | with_reducible exact Dp.non | ((with_reducible refine' dpMono ?dme (by with_reducible assumption)); (case dme => wtm_at "ex")) | ((with_reducible refine' Dp.tup (Evl.st_of ?dph) ?dpa); (case dph => wtm_at "hs"); (case dpa => wtm_at "dpa")) | ((with_reducible refine' Dp.lst (Evl.sq_of ?dph) ?dpa); (case dph => wtm_at "hs"); (case dpa => wtm_at "dpa")))
local macro_rules | `(tactic| wtm_at "dpa") => `(tactic| first | with_reducible exact DpAll.nil | ((with_reducible refine' DpAll.cons ?dp1 ?dp2); (case dp1 => wtm_at "dp"); (case dp2 => wtm_at "dpa")) | with_reducible assumption | ((with_reducible refine' dpMonoA ?dme (by with_reducible assumption)); (case dme => wtm_at "ex")))
local macro_rules | `(tactic| wtm_at "sz") => `(tactic| first | with_reducible assumption | ((with_reducible refine' sz_mul ?sz1 ?sz2); (case sz1 => wtm_at "sz"); (case sz2 => wtm_at "sz")) | ((with_reducible refine' sz_add ?sz1 ?sz2); (case sz1 => wtm_at "sz"); (case sz2 => wtm_at "sz")) | ((with_reducible refine' sz_sub ?sz1 ?sz2); (case sz1 => wtm_at "sz"); (case sz2 => wtm_at "sz")) | ((with_reducible refine' sz_neg ?sz1); (case sz1 => wtm_at "sz")) | ((with_reducible refine' sz_div ?sz1); (case sz1 => wtm_at "sz")) | ((with_reducible refine' sz_fdiv ?sz1); (case sz1 => wtm_at "sz")) | exact sz_lit (by decide) | wtm_at "sz2")
local macro_rules | `(tactic| wtm_at "szb") => `(tactic| first | with_reducible assumption | ((with_reducible refine' sz_mono ?szb1 ?szb2); (case szb1 => wtm_at "sz"); (case szb2 => decide)))
local macro_rules | `(tactic| wtm_at "nz") => `(tactic| first | assumption | decide | omega)
local macro_rules | `(tactic| wtm_at "shaped") => `(tactic| first | rfl | decide)
local macro_rules | `(tactic| wtm_at "sset") => `(tactic| ((dsimp only [L2.wipe, List.set, List.set_cons_zero, List.set_cons_succ]) <;> exact rfl))
local macro_rules | `(tactic| wtm_at "nrm") => `(tactic| dsimp only [L2.start, L2.wipe, List.set, List.append, List.map, List.map_cons, List.map_nil, List.length_cons, List.length_nil, Nat.reduceAdd, Nat.reduceSub, List.reduceReplicate, List.replicate, List.cons_append, List.nil_append, List.set_cons_zero, List.set_cons_succ])
local macro_rules | `(tactic| wtm_at "st") => `(tactic| first
  | ((with_reducible refine' i_var (v := ?u0) ?u1 ?uq); (case u1 => exact rfl))
  | ((with_reducible refine' i_nameN ?u0 ?uq); (case u0 => wtm_at "sset"))
  | (with_reducible refine' i_op ?uq)
  | (with_reducible refine' i_c ?uq)
  | (with_reducible refine' i_I0 ?uq)
  | ((with_reducible refine' i_ixTI (i := ?u0) ?u1 ?u2 ?u3 ?uq); (case u1 => wtm_at "dp"); (case u2 => wtm_at "ex"); (case u3 => exact rfl))
  | ((with_reducible refine' i_ixT (d := ?u0) ?u1 ?u2 ?u3 (fun xu hxu => ?uq)); (case u1 => wtm_at "dp"); (case u2 => wtm_at "ex"); (case u3 => exact rfl))
  | ((with_reducible refine' i_mul ?u0 ?u1 ?u2 ?uq); (case u0 => wtm_at "sz"); (case u1 => wtm_at "sz"); (case u2 => first | decide | omega))
  | (with_reducible refine' i_seq ?uq)
  | (with_reducible refine' i_asg ?uq)
  | (with_reducible refine' i_ret ?uq)
  | (with_reducible refine' i_ifs ?uq)
  | (with_reducible refine' i_drop ?uq)
  | (with_reducible refine' i_next ?uq)
  | (with_reducible refine' i_cons ?uq)
  | (with_reducible refine' i_nil ?uq)
  | (with_reducible refine' i_cl ?uq)
  | (with_reducible refine' i_cb ?uq)
  | (with_reducible refine' i_tup ?uq)
  | (with_reducible refine' i_lst ?uq)
  | ((with_reducible refine' i_mkT ?u0 (fun np nH nhe nhp => ?uq)); (case u0 => exact Nat.le_of_ble_eq_true rfl))
  | (with_reducible refine' i_test ?uq)
  | (with_reducible refine' i_B ?uq)
  | (with_reducible refine' i_k ?uq)
  | (with_reducible refine' i_and ?uq)
  | (with_reducible refine' i_or ?uq)
  | (with_reducible refine' i_not ?uq)
  | (with_reducible refine' i_andV ?uq)
  | (with_reducible refine' i_orV ?uq)
  | (with_reducible refine' i_notV ?uq)
  | (with_reducible refine' i_if ?uq)
  | (with_reducible refine' i_un ?uq)
  | (with_reducible refine' i_U ?uq)
  | (with_reducible refine' i_iteT ?uq)
  | (with_reducible refine' i_iteF ?uq)
  | ((with_reducible refine' i_iteTr ?u0 ?uq); (case u0 => first | with_reducible rfl | decide | (simp only [dIsInt, dIsBool, dIsTup, dIsStr, dIsLst, Bool.not_true, Bool.not_false]; done)))
  | ((with_reducible refine' i_iteFr ?u0 ?uq); (case u0 => first | with_reducible rfl | decide | (simp only [dIsInt, dIsBool, dIsTup, dIsStr, dIsLst, Bool.not_true, Bool.not_false]; done)))
  | (with_reducible refine' i_ite (fun hif => ?uqa) (fun hif => ?uqb))
  | (with_reducible refine' i_iteN (fun hif => ?uqa) (fun hif => ?uqb))
  | (with_reducible refine' i_iteBN (fun hif => ?uqa) (fun hif => ?uqb))
  | (with_reducible refine' i_iteB (fun hif => ?uqa) (fun hif => ?uqb))
  | ((with_reducible refine' i_modN ?u0 ?uq); (case u0 => wtm_at "nz"))
  | ((with_reducible refine' i_fdX ?u0 ?u1 ?u2 ?uq); (case u0 => wtm_at "nz"); (case u1 => wtm_at "sz"); (case u2 => first | decide | omega))
  | ((with_reducible refine' i_pow ?u0 ?uq); (case u0 => exact ⟨by decide, by decide +kernel⟩))
  | (with_reducible refine' i_eqI ?uq)
  | (with_reducible refine' i_neI ?uq)
  | (with_reducible refine' i_gcd ?uq)
  | (with_reducible refine' i_qabs ?uq)
  | (with_reducible refine' i_qint ?uq)
  | (with_reducible refine' i_qintB ?uq)
  | (with_reducible refine' i_qmax2 ?uq)
  | (with_reducible refine' i_qmin2 ?uq)
  | (with_reducible refine' i_isB ?uq)
  | (with_reducible refine' i_notB ?uq)
  | (with_reducible refine' i_chain ?uq)
  | (with_reducible refine' i_qisN ?uq)
  | (with_reducible refine' i_qnotN ?uq)
  | (with_reducible refine' i_yes ?uq)
  | (with_reducible refine' i_par ?uq)
  | (with_reducible refine' i_par3 ?uq)
  | ((with_reducible refine' i_par2 ?u0 ?uq); (case u0 => wtm_at "sset"))
  | ((with_reducible refine' i_par33 ?u0 ?uq); (case u0 => wtm_at "sset"))
  | ((with_reducible refine' i_ixLI (i := ?u0) ?u1 ?u2 ?u3 ?uq); (case u1 => wtm_at "dp"); (case u2 => wtm_at "ex"); (case u3 => exact rfl))
  | ((with_reducible refine' i_ixL (d := ?u0) ?u1 ?u2 ?u3 (fun xu hxu => ?uq)); (case u1 => wtm_at "dp"); (case u2 => wtm_at "ex"); (case u3 => exact rfl))
  | ((with_reducible refine' i_qlenT ?u0 ?uq); (case u0 => wtm_at "dp"))
  | ((with_reducible refine' i_qlenL ?u0 ?uq); (case u0 => wtm_at "dp"))
  | ((with_reducible refine' i_gtup ?u0 ?u1 ?u2 (fun gvs gdp => ?uq)); (case u0 => wtm_at "dp"); (case u1 => wtm_at "ex"); (case u2 => exact rfl))
  | ((with_reducible refine' i_glst ?u0 ?u1 ?u2 (fun gvs gdp => ?uq)); (case u0 => wtm_at "dp"); (case u1 => wtm_at "ex"); (case u2 => exact rfl))
  | ((with_reducible refine' i_gconsI ?u0 (fun gr gh => ?uq)); (case u0 => with_reducible assumption))
  | ((with_reducible refine' i_gconsA ?u0 (fun gv gr gh1 gh2 => ?uq)); (case u0 => with_reducible assumption))
  | ((with_reducible refine' i_gnilA ?u0 ?uq); (case u0 => with_reducible assumption))
  | ((with_reducible refine' i_isiI ?u0 ?uq); (case u0 => wtm_at "dp"))
  | ((with_reducible refine' i_isiB ?u0 ?uq); (case u0 => wtm_at "dp"))
  | ((with_reducible refine' i_isiT ?u0 ?uq); (case u0 => wtm_at "dp"))
  | ((with_reducible refine' i_isiS ?u0 ?uq); (case u0 => wtm_at "dp"))
  | ((with_reducible refine' i_isiL ?u0 ?uq); (case u0 => wtm_at "dp"))
  | ((with_reducible refine' i_eqD ?u0 ?u1 ?u2 ?u3 ?uq); (case u0 => wtm_at "dp"); (case u1 => wtm_at "dp"); (case u2 => wtm_at "shaped"); (case u3 => wtm_at "shaped"))
  | ((with_reducible refine' i_neD ?u0 ?u1 ?u2 ?u3 ?uq); (case u0 => wtm_at "dp"); (case u1 => wtm_at "dp"); (case u2 => wtm_at "shaped"); (case u3 => wtm_at "shaped"))
  | wtm_at "st2"
  | wtm_at "use")
local macro_rules | `(tactic| wtm_at "go") => `(tactic| repeat' (wtm_at "st"))
local macro_rules | `(tactic| wtm_at "go0") => `(tactic| ((try dsimp only [L2.cxOf, L2.Cx.nox, L2.Cx.wish, L2.Cx.tr, L2.Cx.blk]); (try wtm_at "nrm"); wtm_at "go"))
local macro_rules | `(tactic| wtm_at "fin") => `(tactic| ((try dsimp only); first | with_reducible assumption | assumption | ((with_reducible refine' Ret.use ?rur ?rue ?rud); (case rur => with_reducible assumption); (case rue => wtm_at "ex"); (case rud => wtm_at "dp"))))
local macro_rules | `(tactic| wtm_at "exh") => `(tactic| first | with_reducible assumption | with_reducible exact Ex.refl _ | with_reducible exact ex_hid | ((with_reducible refine' Ex.trans ?exe (by with_reducible assumption)); (case exe => wtm_at "exh")) | ((with_reducible refine' Ex.trans ?exe (hid_ex (by with_reducible assumption))); (case exe => wtm_at "exh")))
local macro_rules | `(tactic| wtm_at "ex") => `(tactic| first | with_reducible assumption | with_reducible exact Ex.refl _ | with_reducible exact ex_hid | ((with_reducible refine' Ex.trans ?exe (by with_reducible assumption)); (case exe => wtm_at "ex")) | ((with_reducible refine' Ex.trans ?exe (hid_ex (by with_reducible assumption))); (case exe => wtm_at "ex")) | ((with_reducible refine' Ex.trans ?exe ex_hid); (case exe => wtm_at "exh")))
local macro_rules | `(tactic| wtm_at "bag") => `(tactic| first | with_reducible assumption | ((with_reducible refine' Bag.mono ?bgm (by with_reducible assumption)); (case bgm => wtm_at "bag")))
local macro_rules | `(tactic| wtm_at "hs") => `(tactic| first | with_reducible assumption | ((with_reducible refine' hid_tup ?hb ?hp); (case hp => with_reducible assumption); (case hb => wtm_at "bag")) | ((with_reducible refine' hid_new ?hb ?hn ?hp); (case hp => with_reducible assumption); (case hn => with_reducible assumption); (case hb => wtm_at "bag")) | ((with_reducible refine' ex_at ?exe (by with_reducible assumption)); (case exe => wtm_at "ex")))
local macro_rules | `(tactic| wtm_at "st2") => `(tactic| first
  | ((with_reducible refine' i_mulC ?u0 ?uq); (case u0 => first | exact cmul_l (by decide) | exact cmul_r (by decide)))
  | ((with_reducible refine' i_ixLr (v := ?u0) ?u1 ?u2 ?uq); (case u1 => with_reducible assumption); (case u2 => exact rfl))
  | (with_reducible refine' i_sub ?uq)
  | ((with_reducible refine' i_mkL ?u0 (fun np nH nfr nhe nhp => ?uq)); (case u0 => exact Nat.le_of_ble_eq_true rfl))
  | ((with_reducible refine' i_setL (n := ?u0) ?u1 ?u2 (fun sH sh se => ?uq)); (case u1 => with_reducible assumption); (case u2 => exact rfl))
  | (with_reducible refine' i_sl ?uq)
  | (with_reducible refine' i_nopart ?uq)
  | (with_reducible refine' i_part ?uq)
  | (with_reducible refine' i_part1 ?uq))
local macro_rules | `(tactic| wtm_at "sz2") => `(tactic| ((with_reducible refine' sz_fmod ?sz1 ?sz2); (case sz1 => wtm_at "nz"); (case sz2 => wtm_at "sz")))
local macro_rules | `(tactic| wtm_at "stb") => `(tactic| first
  | ((with_reducible refine' i_mkTB ?u0 ?u1 (fun np nH nhe nhb nhp => ?uq)); (case u0 => exact Nat.le_of_ble_eq_true rfl); (case u1 => wtm_at "bag"))
  | ((with_reducible refine' i_mkLB ?u0 ?u1 (fun np nH nfr nhe nhb nhp => ?uq)); (case u0 => exact Nat.le_of_ble_eq_true rfl); (case u1 => wtm_at "bag"))
  | wtm_at "st")
local macro_rules | `(tactic| wtm_at "gob") => `(tactic| repeat' (wtm_at "stb"))
local macro_rules | `(tactic| wtm_at "gob0") => `(tactic| ((try dsimp only [L2.cxOf, L2.Cx.nox, L2.Cx.wish, L2.Cx.tr, L2.Cx.blk]); (try wtm_at "nrm"); wtm_at "gob"))
local macro_rules | `(tactic| wtm_at "use") => `(tactic| ((with_reducible refine' use_is_integer ?u0 ?uq); (case u0 => wtm_at "dp")))
local macro_rules | `(tactic| wtm_at "use") => `(tactic| ((with_reducible refine' use_is_box ?u0 ?u1 (fun uH ue => ?uq)); (case u0 => wtm_at "dp"); (case u1 => with_reducible assumption)))
local macro_rules | `(tactic| wtm_at "use") => `(tactic| ((with_reducible refine' use_require_box ?u0 ?u1 (fun uH ue => ?uq)); (case u0 => wtm_at "dp"); (case u1 => with_reducible assumption)))
local macro_rules | `(tactic| wtm_at "use") => `(tactic| ((with_reducible refine' use_do_meet_in ?u0 ?u1 ?uq); (case u0 => wtm_at "dp"); (case u1 => wtm_at "dp")))
local macro_rules | `(tactic| wtm_at "use") => `(tactic| ((with_reducible refine' use_apart_word ?u0 ?u1 ?uq); (case u0 => wtm_at "dp"); (case u1 => wtm_at "dp")))
local macro_rules | `(tactic| wtm_at "use") => `(tactic| (first | ((with_reducible refine' use_is_entry ?u0 ?u1 (fun uH ue => ?uq)); (case u0 => wtm_at "dp"); (case u1 => with_reducible assumption)) | fail))
local macro_rules | `(tactic| wtm_at "use") => `(tactic| (first | ((with_reducible refine' use_has_size ?u0 ?uq); (case u0 => wtm_at "dp")) | fail))
local macro_rules | `(tactic| wtm_at "uent") => `(tactic| ((with_reducible refine' use_entries_in ?u00 ?u0 ?u1 ?u2 ?uq); (case u1 => wtm_at "dp"); (case u00 => omega); (case u0 => omega); (case u2 => with_reducible assumption)))
local macro_rules | `(tactic| wtm_at "uent") => `(tactic| ((with_reducible refine' use_depths_in ?u00 ?u0 ?u1 ?u2 ?uq); (case u1 => wtm_at "dp"); (case u00 => omega); (case u0 => omega); (case u2 => with_reducible assumption)))
local macro_rules | `(tactic| wtm_at "uent") => `(tactic| ((with_reducible refine' use_forms_in ?u00 ?u0 ?u1 ?u2 ?uq); (case u1 => wtm_at "dp"); (case u00 => omega); (case u0 => omega); (case u2 => with_reducible assumption)))
local macro_rules | `(tactic| wtm_at "uent") => `(tactic| ((with_reducible refine' use_branches_in ?u00 ?u0 ?u1 ?u2 ?uq); (case u1 => wtm_at "dp"); (case u00 => omega); (case u0 => omega); (case u2 => with_reducible assumption)))
local macro_rules | `(tactic| wtm_at "st") => `(tactic| first | ((with_reducible refine' i_ixTS (z := ?u0) ?u1 ?u2 ?u3 ?uq); (case u1 => wtm_at "dp"); (case u2 => wtm_at "ex"); (case u3 => exact rfl)) | fail)
local macro_rules | `(tactic| wtm_at "st2") => `(tactic| first | ((with_reducible refine' i_eqST ?u0 ?uq); (case u0 => with_reducible rfl)) | ((with_reducible refine' i_eqSF ?u0 ?uq); (case u0 => decide +kernel)) | ((with_reducible refine' i_neST ?u0 ?uq); (case u0 => with_reducible rfl)) | ((with_reducible refine' i_neSF ?u0 ?uq); (case u0 => decide +kernel)) | fail)
section
variable {P : Program} {w : World} {K : PySem.W.Frag} {mg : Str → Option Value} {base : Heap} {H H' : Hp} {Q : VK} {E : XK} {v1 v2 v3 v4 v5 : V}
theorem foD_eq : ∀ (n : Nat) (t : Fo n), ∃ (s : Str) (ds : List PyData), foD n t = .tuple [.str s, .tuple ds] ∧ ds.length = foSz n t ∧ ((n = 0 ∧ s = "leaf") ∨ (0 < n ∧ s = "node"))
  | 0, t => ⟨"leaf", (foL t).map enD, rfl, List.length_map _, .inl ⟨rfl, rfl⟩⟩
  | n + 1, t => ⟨"node", (foB t).map fun p => .tuple [bxD p.1, foD n p.2], rfl, List.length_map _, .inr ⟨Nat.succ_pos n, rfl⟩⟩
theorem ents_ne : ∀ (n : Nat) (t : Fo n), 2 ≤ foSz n t → Right n t → ents n t ≠ []
  | 0, t, h, _ => fun e => by
    have e' : foL t = [] := e
    have h' : 2 ≤ (foL t).length := h
    rw [e'] at h'
    exact absurd h' (Nat.not_succ_le_zero 1)
  | n + 1, t, h, r => fun e => by
    have e' : ((foB t).flatMap fun p => ents n p.2) = [] := e
    have h' : 2 ≤ (foB t).length := h
    cases q : foB t with
    | nil =>
      rw [q] at h'
      exact absurd h' (Nat.not_succ_le_zero 1)
    | cons p r2 =>
      obtain ⟨r1, r2, r3, r4⟩ := r p (by rw [q]; exact List.mem_cons_self)
      rw [q, List.flatMap_cons] at e'
      exact ents_ne n p.2 r2 r4 (List.append_eq_nil_iff.mp e').1
theorem brns_in : ∀ (n : Nat) (t : Fo n), Right n t → Sm n t → ∀ d ∈ brns n t, ∃ (k : Nat) (p : Bx × Fo k), k < n ∧ d = brD k p ∧ Sm k p.2 ∧ p.1 = joint ((ents k p.2).map (·.2)) ∧ ents k p.2 ≠ []
  | 0, _, _, _, _, h => by cases h
  | n + 1, t, r, s, d, h => by
    obtain ⟨p, hp, h⟩ := List.mem_flatMap.mp h
    obtain ⟨r1, r2, r3, r4⟩ := r p hp
    rcases List.mem_cons.mp h with rfl | h
    · exact ⟨n, p, Nat.lt_succ_self n, rfl, s.2 p hp, r1, ents_ne n p.2 r2 r4⟩
    · obtain ⟨k, q, h1, h2⟩ := brns_in n p.2 r4 (s.2 p hp) d h
      exact ⟨k, q, Nat.lt_succ_of_lt h1, h2⟩
theorem subs_in : ∀ (n : Nat) (t : Fo n), Right n t → ∀ d ∈ subs n t, ∃ (s : Str) (ds : List PyData), d = .tuple [.str s, .tuple ds] ∧ 2 ≤ ds.length ∧ ds.length ≤ 4
  | 0, _, _, _, h => by cases h
  | n + 1, t, r, d, h => by
    obtain ⟨p, hp, h⟩ := List.mem_flatMap.mp h
    obtain ⟨r1, r2, r3, r4⟩ := r p hp
    rcases List.mem_cons.mp h with rfl | h
    · obtain ⟨s, ds, e, hl, _⟩ := foD_eq n p.2
      exact ⟨s, ds, e, by omega, by omega⟩
    · exact subs_in n p.2 r4 d h
theorem deps_all : ∀ (n : Nat) (t : Fo n), ∀ x ∈ deps n t, x = (n : Int) + 1
  | 0, _, x, h => by
    rcases List.mem_singleton.mp h with rfl
    rfl
  | n + 1, t, x, h => by
    obtain ⟨p, _, h⟩ := List.mem_flatMap.mp h
    obtain ⟨y, hy, rfl⟩ := List.mem_map.mp h
    rw [deps_all n p.2 y hy]
    omega
theorem nodup_inl : ∀ {ns : List Int}, ns.Nodup → (ns.map fun i => (Sum.inl i : Key)).Nodup
  | [], _ => by simp
  | n :: ns, h => by
    obtain ⟨h1, h2⟩ := List.nodup_cons.mp h
    rw [List.map_cons]
    refine List.nodup_cons.mpr ⟨fun q => ?_, nodup_inl h2⟩
    obtain ⟨x, hx, e⟩ := List.mem_map.mp q
    cases e
    exact h1 hx
def sp_flaws_of (K : PySem.W.Frag) (n : Nat) : Sp := A1 fun v1 H Q => ∃ m, m < n ∧ m ≤ 3 ∧ ∃ t : Fo m, Dp K H v1 (foD m t) ∧ Sm m t ∧ Bok m t ∧ Right m t ∧ (0 < m → 2 ≤ foSz m t) ∧ foSz m t ≤ 4 ∧ ((ents m t).map (·.1)).Nodup ∧ RetL K [] H Q
abbrev s_flaws_of : Stmt := top 36
theorem sc_flaws_of : FnScope ["value", "found", "numbers", "least", "number", "box", "branch", "depth", "one"] ["value"] (defScope s_flaws_of) := ⟨rfl, rfl, rfl, by decide +kernel, rfl, by decide +kernel, by decide +kernel⟩
theorem ok_flaws_of {f : Addr} {fd : FuncData} (F : FnP K "flaws_of" s_flaws_of f fd) (g : G mg) {n : Nat} (c_is_built : Cl P w K mg base (2 * n + 2) "is_built" (sp_is_built K n)) (c_entries_in : Cl P w K mg base n "entries_in" (sp_entries_in K n)) (c_has_box : Cl P w K mg base (n + 2) "has_box" (sp_has_box K n)) (c_branches_in : Cl P w K mg base n "branches_in" (sp_branches_in K n)) (c_depths_in : Cl P w K mg base n "depths_in" (sp_depths_in K n)) (c_has_size : Cl P w K mg base 1 "has_size" (sp_has_size K)) (c_forms_in : Cl P w K mg base n "forms_in" (sp_forms_in K n)) : FnOk P w K mg base CX0 (2 * n + 3) f fd ["value"] (sp_flaws_of K n) := by
  have nd := sc_flaws_of.nd
  refine F.ok sc_flaws_of (fun vs H Q E h => h.len) (fun cdv A outer s H vs Q E hr h => ?_)
  obtain ⟨v1, rfl, h⟩ := h
  refine ⟨_, PSs.nox (pss_cons (ps_if (pt_not (pt_val (pc c_is_built hr (by first | decide | omega) (by rfl) (pa_cons (pv 0) pa_nil)))) (pss_one (ps_ret (pe_lst (pa_cons pe_str pa_nil)))) pss_nil) (pss_cons (ps_par (i := 1) (j := 2) (by rfl) nd rfl rfl (by decide) rfl rfl (pa_cons (pe_lst pa_nil) (pa_cons (pe_lc (own := [("number", 4), ("box", 5)]) (g := _) (by rfl) nd (pi_list (pc c_entries_in hr (by first | decide | omega) (by rfl) (pa_cons (pv 0) pa_nil))) (blkOk_by (N := ["value", "found", "numbers", "least", "number", "box", "branch", "depth", "one"]) (sc := defScope s_flaws_of) (own := [("number", 4), ("box", 5)]) (by decide +kernel)) (fun _ _ _ _ _ => (show PG _ _ (gTup K 2 _) from (pg_tup (by rfl) (pgs_cons (pg_name (i := 4) nd rfl (Or.inl rfl)) (pgs_cons (pg_name (i := 5) nd rfl (Or.inl rfl)) pgs_nil))))) (fun _ _ _ _ _ => pts_nil) (fun _ _ _ _ _ => (pv 4))) pa_nil)) (by rfl)) (pss_cons (ps_if (pt_not (pt_val (pe_callB (cr_all rfl) (by rfl) g.f_all boot_all (pa_cons (pe_lc (own := [("branch", 6)]) (g := gName 6) (by rfl) nd (pi_list (pc c_branches_in hr (by first | decide | omega) (by rfl) (pa_cons (pv 0) pa_nil))) (blkOk_by (N := ["value", "found", "numbers", "least", "number", "box", "branch", "depth", "one"]) (sc := defScope s_flaws_of) (own := [("branch", 6)]) (by decide +kernel)) (fun _ _ _ _ _ => (pg_name (i := 6) nd rfl (Or.inl rfl))) (fun _ _ _ _ _ => pts_nil) (fun _ _ _ _ _ => (pc c_has_box hr (by first | decide | omega) (by rfl) (pa_cons (pv 6) pa_nil)))) pa_nil)))) (pss_one ps_never) pss_nil) (pss_cons (ps_if (pt_cmpR op_gt (pe_callB call_qlenD (by rfl) g.f_len boot_len (pa_cons (pe_dc (own := [("depth", 7)]) (g := gName 7) (by rfl) nd (pi_list (pc c_depths_in hr (by first | decide | omega) (by rfl) (pa_cons (pv 0) pa_nil))) (blkOk_by (N := ["value", "found", "numbers", "least", "number", "box", "branch", "depth", "one"]) (sc := defScope s_flaws_of) (own := [("depth", 7)]) (by decide +kernel)) (fun _ _ _ _ _ => (pg_name (i := 7) nd rfl (Or.inl rfl))) (fun _ _ _ _ _ => pts_nil) (fun _ _ _ _ _ => (pv 7)) (fun _ _ _ _ _ => pe_bl)) pa_nil)) pe_int (nomark _)) (pss_one ps_never) pss_nil) (pss_cons (ps_if (pt_cmpR op_gt (pe_callB call_qlen (by rfl) g.f_len boot_len (pa_cons (pv 2) pa_nil)) (pe_glob (v := .int 300) (by rfl) g.c_MAX_ENTRIES.choose_spec ⟨_, rfl⟩) (nomark _)) (pss_one ps_never) pss_nil) (pss_cons (ps_set (i := 3) nd rfl (Or.inl rfl) (pe_ifExp (pt_cmpR op_eq (pe_ix ix_tup (pv 0) pe_int (fun _ _ => rfl)) (pe_glob (v := .str "leaf") (by rfl) g.c_LEAF.choose_spec ⟨_, rfl⟩) (nomark _)) pe_int (pe_glob (v := .int 2) (by rfl) g.c_LEAST.choose_spec ⟨_, rfl⟩))) (pss_cons (ps_if (PW.pt (pw_or (pt_not (pt_val (pc c_has_size hr (by first | decide | omega) (by rfl) (pa_cons (pv 0) (pa_cons (pv 3) pa_nil))))) (pw_or1 (pt_not (pt_val (pe_callB (cr_all rfl) (by rfl) g.f_all boot_all (pa_cons (pe_lc (own := [("one", 8)]) (g := gName 8) (by rfl) nd (pi_list (pc c_forms_in hr (by first | decide | omega) (by rfl) (pa_cons (pv 0) pa_nil))) (blkOk_by (N := ["value", "found", "numbers", "least", "number", "box", "branch", "depth", "one"]) (sc := defScope s_flaws_of) (own := [("one", 8)]) (by decide +kernel)) (fun _ _ _ _ _ => (pg_name (i := 8) nd rfl (Or.inl rfl))) (fun _ _ _ _ _ => pts_nil) (fun _ _ _ _ _ => (pc c_has_size hr (by first | decide | omega) (by rfl) (pa_cons (pv 8) (pa_cons (pe_glob (v := .int 2) (by rfl) g.c_LEAST.choose_spec ⟨_, rfl⟩) pa_nil))))) pa_nil))))))) (pss_one ps_never) pss_nil) (pss_cons (ps_if (pt_cmpR op_lt (pe_callB call_qlenD (by rfl) g.f_len boot_len (pa_cons (pe_dc (own := [("number", 4)]) (g := gName 4) (by rfl) nd (pi_list (pv 2)) (blkOk_by (N := ["value", "found", "numbers", "least", "number", "box", "branch", "depth", "one"]) (sc := defScope s_flaws_of) (own := [("number", 4)]) (by decide +kernel)) (fun _ _ _ _ _ => (pg_name (i := 4) nd rfl (Or.inl rfl))) (fun _ _ _ _ _ => pts_nil) (fun _ _ _ _ _ => (pv 4)) (fun _ _ _ _ _ => pe_bl)) pa_nil)) (pe_callB call_qlen (by rfl) g.f_len boot_len (pa_cons (pv 2) pa_nil)) (nomark _)) (pss_one ps_never) pss_nil) (pss_one (ps_ret (pv 1))))))))))), ?_⟩
  obtain ⟨m, hlt, hn, t, h1, hs, hb, hr', h2, h4, hd, q⟩ := h
  wtm_at "go0"
  refine use_is_built hlt hn h1 hs hb (fun H2 e2 => ?_)
  wtm_at "go"
  refine i_lcLU ?_
  wtm_at "go"
  wtm_at "uent"
  intro p3 H3 hp3 e3 hl3
  have hpx : 4 ^ (m + 1) ≤ 256 := by
    have hm : m = 0 ∨ m = 1 ∨ m = 2 ∨ m = 3 := by omega
    rcases hm with rfl | rfl | rfl | rfl <;> decide
  have hlen : (ents m t).length ≤ 256 := Nat.le_trans (ents_len m t hs) hpx
  refine i_lcGL (enc := enD) (xs := ents m t) (fun _ => true) (fun e => .int e.1) hl3 (by omega) (fun x _ => rfl) (fun u x H2 R Y e2 hm hu hn hy => ?_) (fun p4 H4 hp4 e4 hl4 => ?_)
  · unfold enD at hu
    wtm_at "nrm"
    wtm_at "go"
    refine ⟨rfl, ?_⟩
    wtm_at "go"
    exact hy rfl _ _ (Ex.refl _) (Dp.int _)
  have hl4' : Dp K H4 (.ref p4) (.list (((ents m t).map (·.1)).map PyData.int)) := by
    rw [List.map_map]
    have e : ((ents m t).filter fun _ => true) = ents m t := List.filter_eq_self.mpr fun _ _ => rfl
    rw [e] at hl4
    exact hl4
  clear hl4
  have hlen2 : ((ents m t).map (·.1)).length ≤ 256 := by rw [List.length_map]; exact hlen
  generalize (ents m t).map (·.1) = ns at *
  wtm_at "nrm"
  rename_i np nH nfr nhe nhp
  wtm_at "go"
  have hpw : 2 * 4 ^ m ≤ 128 := by
    have hm : m = 0 ∨ m = 1 ∨ m = 2 ∨ m = 3 := by omega
    rcases hm with rfl | rfl | rfl | rfl <;> decide
  have hsub : (subs m t).length ≤ 128 := by
    have := subs_len m t hs
    omega
  refine i_lcLU ?_
  wtm_at "go"
  wtm_at "uent"
  intro p5 H5 hp5 e5 hl5
  refine i_lcGL (enc := fun d : PyData => d) (xs := brns m t) (fun _ => true) (fun _ => .bool true) (by rw [List.map_id']; exact hl5) (by rw [brns_len]; omega) (fun _ _ => rfl) (fun u x H6 R Y e6 hm hu hn hy => ?_) (fun p6 H6 hp6 e6 hl6 => ?_)
  · obtain ⟨k, pp, hk, rfl, s1, s2, s3⟩ := brns_in m t hr' hs x hm
    wtm_at "nrm"
    refine ⟨rfl, ?_⟩
    wtm_at "go"
    refine use_has_box (p := pp) (by omega) (by omega) hu s1 s2 s3 (fun H7 e7 => ?_)
    exact hy rfl _ _ e7 (Dp.bl _)
  wtm_at "go"
  refine i_allT hl6 ?_
  wtm_at "go"
  refine i_dcU ?_
  wtm_at "go"
  wtm_at "uent"
  intro p7 H7 hp7 e7 hl7
  refine i_dcK (enc := PyData.int) (xs := deps m t) (fun i => Sum.inl i) hl7 (by have := deps_len m t hs; omega) (fun u x H8 R Y e8 hm hu hy => ?_) (fun D H8 kvs hD e8 hd8 hn8 hm8 => ?_)
  · cases dpInt hu
    wtm_at "nrm"
    refine ⟨rfl, ?_⟩
    wtm_at "go"
    exact hy _ _ (Ex.refl _)
  have hk1 := keys_one hn8 hm8 (k0 := Sum.inl ((m : Int) + 1)) fun x hx => by rw [deps_all m t x hx]
  rw [List.length_map] at hk1
  wtm_at "go"
  refine i_qlenD hd8 ?_
  wtm_at "go"
  · rename_i hz
    omega
  · rename_i hz
    rw [List.length_map] at hz
    omega
  obtain ⟨s, ds, ef, hds, hcase⟩ := foD_eq m t
  have h1t : Dp K H v1 (.tuple [.str s, .tuple ds]) := by rw [← ef]; exact h1
  rcases hcase with ⟨hm0, rfl⟩ | ⟨hm0, rfl⟩
  · have hsz : (decide ((0 : Int) ≤ (ds.length : Int)) && decide ((ds.length : Int) ≤ 4)) = true := by
      rw [decide_eq_true (by omega), decide_eq_true (by omega)]
      rfl
    wtm_at "go"
    · rename_i hz
      rw [hsz] at hz
      cases hz
    refine i_lcLU ?_
    wtm_at "go"
    wtm_at "uent"
    intro p9 H9 hp9 e9 hl9
    refine i_lcGL (enc := fun d : PyData => d) (xs := subs m t) (fun _ => true) (fun _ => .bool true) (by rw [List.map_id']; exact hl9) (by omega) (fun _ _ => rfl) (fun u x H10 R Y e10 hm hu hn hy => ?_) (fun p10 H10 hp10 e10 hl10 => ?_)
    · obtain ⟨s5, ds5, rfl, z1, z2⟩ := subs_in m t hr' x hm
      have hsz5 : (decide ((2 : Int) ≤ (ds5.length : Int)) && decide ((ds5.length : Int) ≤ 4)) = true := by
        rw [decide_eq_true (by omega), decide_eq_true (by omega)]
        rfl
      wtm_at "nrm"
      refine ⟨rfl, ?_⟩
      wtm_at "go"
      rw [hsz5]
      exact hy rfl _ _ (Ex.refl _) (Dp.bl _)
    wtm_at "go"
    refine i_allT hl10 ?_
    wtm_at "go"
    refine i_dcU ?_
    wtm_at "go"
    have hl5' : Dp K H10 (.ref p4) (.list (ns.map PyData.int)) := dpMono (by wtm_at "ex") hl4'
    refine i_dcK (enc := PyData.int) (xs := ns) (fun i => Sum.inl i) hl5' (by omega) (fun u x H11 R Y e11 hm hu hy => ?_) (fun D2 H11 kvs2 hD2 e11 hd11 hn11 hm11 => ?_)
    · cases dpInt hu
      wtm_at "nrm"
      refine ⟨rfl, ?_⟩
      wtm_at "go"
      exact hy _ _ (Ex.refl _)
    have hk2 := keys_nodup hn11 hm11 (nodup_inl hd)
    rw [List.length_map] at hk2
    wtm_at "go"
    refine i_qlenD hd11 ?_
    wtm_at "go"
    · rename_i hz
      rw [List.length_map] at hz
      omega
    exact q _ _ (ex_none nfr e2) (by wtm_at "ex") (.lst (Evl.sq_of (ex_at (by wtm_at "ex") nhp)) .nil)
  · have hsz : (decide ((2 : Int) ≤ (ds.length : Int)) && decide ((ds.length : Int) ≤ 4)) = true := by
      have := h2 hm0
      rw [decide_eq_true (by omega), decide_eq_true (by omega)]
      rfl
    wtm_at "go"
    · rename_i hz
      rw [hsz] at hz
      cases hz
    refine i_lcLU ?_
    wtm_at "go"
    wtm_at "uent"
    intro p9 H9 hp9 e9 hl9
    refine i_lcGL (enc := fun d : PyData => d) (xs := subs m t) (fun _ => true) (fun _ => .bool true) (by rw [List.map_id']; exact hl9) (by omega) (fun _ _ => rfl) (fun u x H10 R Y e10 hm hu hn hy => ?_) (fun p10 H10 hp10 e10 hl10 => ?_)
    · obtain ⟨s5, ds5, rfl, z1, z2⟩ := subs_in m t hr' x hm
      have hsz5 : (decide ((2 : Int) ≤ (ds5.length : Int)) && decide ((ds5.length : Int) ≤ 4)) = true := by
        rw [decide_eq_true (by omega), decide_eq_true (by omega)]
        rfl
      wtm_at "nrm"
      refine ⟨rfl, ?_⟩
      wtm_at "go"
      rw [hsz5]
      exact hy rfl _ _ (Ex.refl _) (Dp.bl _)
    wtm_at "go"
    refine i_allT hl10 ?_
    wtm_at "go"
    refine i_dcU ?_
    wtm_at "go"
    have hl5' : Dp K H10 (.ref p4) (.list (ns.map PyData.int)) := dpMono (by wtm_at "ex") hl4'
    refine i_dcK (enc := PyData.int) (xs := ns) (fun i => Sum.inl i) hl5' (by omega) (fun u x H11 R Y e11 hm hu hy => ?_) (fun D2 H11 kvs2 hD2 e11 hd11 hn11 hm11 => ?_)
    · cases dpInt hu
      wtm_at "nrm"
      refine ⟨rfl, ?_⟩
      wtm_at "go"
      exact hy _ _ (Ex.refl _)
    have hk2 := keys_nodup hn11 hm11 (nodup_inl hd)
    rw [List.length_map] at hk2
    wtm_at "go"
    refine i_qlenD hd11 ?_
    wtm_at "go"
    · rename_i hz
      rw [List.length_map] at hz
      omega
    exact q _ _ (ex_none nfr e2) (by wtm_at "ex") (.lst (Evl.sq_of (ex_at (by wtm_at "ex") nhp)) .nil)
end
end Wb

namespace Wb
open PySem PySem.Spec PyProof.Rows L2 StX
open Evl (Ex Ex.refl Ex.trans Ex.new)
local macro_rules | `(tactic| wtm_at "dp") => `(tactic| first | with_reducible assumption | with_reducible exact Dp.int _ | with_reducible exact Dp.bl _ | with_reducible exact Dp.str _ | with_reducible exact Dp.non | ((with_reducible refine' dpMono ?dme (by with_reducible assumption)); (case dme => wtm_at "ex")) | ((with_reducible refine' Dp.tup (Evl.st_of ?dph) ?dpa); (case dph => wtm_at "hs"); (case dpa => wtm_at "dpa")) | ((with_reducible refine' Dp.lst (Evl.sq_of ?dph) ?dpa); (case dph => wtm_at "hs"); (case dpa => wtm_at "dpa")))
local macro_rules | `(tactic| wtm_at "dpa") => `(tactic| first | with_reducible exact DpAll.nil | ((with_reducible refine' DpAll.cons ?dp1 ?dp2); (case dp1 => wtm_at "dp"); (case dp2 => wtm_at "dpa")) | with_reducible assumption | ((with_reducible refine' dpMonoA ?dme (by with_reducible assumption)); (case dme => wtm_at "ex")))
local macro_rules | `(tactic| wtm_at "sz") => `(tactic| first | with_reducible assumption | ((with_reducible refine' sz_mul ?sz1 ?sz2); (case sz1 => wtm_at "sz"); (case sz2 => wtm_at "sz")) | ((with_reducible refine' sz_add ?sz1 ?sz2); (case sz1 => wtm_at "sz"); (case sz2 => wtm_at "sz")) | ((with_reducible refine' sz_sub ?sz1 ?sz2); (case sz1 => wtm_at "sz"); (case sz2 => wtm_at "sz")) | ((with_reducible refine' sz_neg ?sz1); (case sz1 => wtm_at "sz")) | ((with_reducible refine' sz_div ?sz1); (case sz1 => wtm_at "sz")) | ((with_reducible refine' sz_fdiv ?sz1); (case sz1 => wtm_at "sz")) | exact sz_lit (by decide) | wtm_at "sz2")
local macro_rules | `(tactic| wtm_at "szb") => `(tactic| first | with_reducible assumption | ((with_reducible refine' sz_mono ?szb1 ?szb2); (case szb1 => wtm_at "sz"); (case szb2 => decide)))
local macro_rules | `(tactic| wtm_at "nz") => `(tactic| first | assumption | decide | omega)
local macro_rules | `(tactic| wtm_at "shaped") => `(tactic| first | rfl | decide)
local macro_rules | `(tactic| wtm_at "sset") => `(tactic| ((dsimp only [L2.wipe, List.set, List.set_cons_zero, List.set_cons_succ]) <;> exact rfl))
local macro_rules | `(tactic| wtm_at "nrm") => `(tactic| dsimp only [L2.start, L2.wipe, List.set, List.append, List.map, List.map_cons, List.map_nil, List.length_cons, List.length_nil, Nat.reduceAdd, Nat.reduceSub, List.reduceReplicate, List.replicate, List.cons_append, List.nil_append, List.set_cons_zero, List.set_cons_succ])
local macro_rules | `(tactic| wtm_at "st") => `(tactic| first
  | ((with_reducible refine' i_var (v := ?u0) ?u1 ?uq); (case u1 => exact rfl))
  | ((with_reducible refine' i_nameN ?u0 ?uq); (case u0 => wtm_at "sset"))
  | (with_reducible refine' i_op ?uq)
  | (with_reducible refine' i_c ?uq)
  | (with_reducible refine' i_I0 ?uq)
  | ((with_reducible refine' i_ixTI (i := ?u0) ?u1 ?u2 ?u3 ?uq); (case u1 => wtm_at "dp"); (case u2 => wtm_at "ex"); (case u3 => exact rfl))
  | ((with_reducible refine' i_ixT (d := ?u0) ?u1 ?u2 ?u3 (fun xu hxu => ?uq)); (case u1 => wtm_at "dp"); (case u2 => wtm_at "ex"); (case u3 => exact rfl))
  | ((with_reducible refine' i_mul ?u0 ?u1 ?u2 ?uq); (case u0 => wtm_at "sz"); (case u1 => wtm_at "sz"); (case u2 => first | decide | omega))
  | (with_reducible refine' i_seq ?uq)
  | (with_reducible refine' i_asg ?uq)
  | (with_reducible refine' i_ret ?uq)
  | (with_reducible refine' i_ifs ?uq)
  | (with_reducible refine' i_drop ?uq)
  | (with_reducible refine' i_next ?uq)
  | (with_reducible refine' i_cons ?uq)
  | (with_reducible refine' i_nil ?uq)
  | (with_reducible refine' i_cl ?uq)
  | (with_reducible refine' i_cb ?uq)
  | (with_reducible refine' i_tup ?uq)
  | (with_reducible refine' i_lst ?uq)
  | ((with_reducible refine' i_mkT ?u0 (fun np nH nhe nhp => ?uq)); (case u0 => exact Nat.le_of_ble_eq_true rfl))
  | (with_reducible refine' i_test ?uq)
  | (with_reducible refine' i_B ?uq)
  | (with_reducible refine' i_k ?uq)
  | (with_reducible refine' i_and ?uq)
  | (with_reducible refine' i_or ?uq)
  | (with_reducible refine' i_not ?uq)
  | (with_reducible refine' i_andV ?uq)
  | (with_reducible refine' i_orV ?uq)
  | (with_reducible refine' i_notV ?uq)
  | (with_reducible refine' i_if ?uq)
  | (with_reducible refine' i_un ?uq)
  | (with_reducible refine' i_U ?uq)
  | (with_reducible refine' i_iteT ?uq)
  | (with_reducible refine' i_iteF ?uq)
  | ((with_reducible refine' i_iteTr ?u0 ?uq); (case u0 => first | with_reducible rfl | decide | (simp only [dIsInt, dIsBool, dIsTup, dIsStr, dIsLst, Bool.not_true, Bool.not_false]; done)))
  | ((with_reducible refine' i_iteFr ?u0 ?uq); (case u0 => first | with_reducible rfl | decide | (simp only [dIsInt, dIsBool, dIsTup, dIsStr, dIsLst, Bool.not_true, Bool.not_false]; done)))
  | (with_reducible refine' i_ite (fun hif => ?uqa) (fun hif => ?uqb))
  | (with_reducible refine' i_iteN (fun hif => ?uqa) (fun hif => ?uqb))
  | (with_reducible refine' i_iteBN (fun hif => ?uqa) (fun hif => ?uqb))
  | (with_reducible refine' i_iteB (fun hif => ?uqa) (fun hif => ?uqb))
  | ((with_reducible refine' i_modN ?u0 ?uq); (case u0 => wtm_at "nz"))
  | ((with_reducible refine' i_fdX ?u0 ?u1 ?u2 ?uq); (case u0 => wtm_at "nz"); (case u1 => wtm_at "sz"); (case u2 => first | decide | omega))
  | ((with_reducible refine' i_pow ?u0 ?uq); (case u0 => exact ⟨by decide, by decide +kernel⟩))
  | (with_reducible refine' i_eqI ?uq)
  | (with_reducible refine' i_neI ?uq)
  | (with_reducible refine' i_gcd ?uq)
  | (with_reducible refine' i_qabs ?uq)
  | (with_reducible refine' i_qint ?uq)
  | (with_reducible refine' i_qintB ?uq)
  | (with_reducible refine' i_qmax2 ?uq)
  | (with_reducible refine' i_qmin2 ?uq)
  | (with_reducible refine' i_isB ?uq)
  | (with_reducible refine' i_notB ?uq)
  | (with_reducible refine' i_chain ?uq)
  | (with_reducible refine' i_qisN ?uq)
  | (with_reducible refine' i_qnotN ?uq)
  | (with_reducible refine' i_yes ?uq)
  | (with_reducible refine' i_par ?uq)
  | (with_reducible refine' i_par3 ?uq)
  | ((with_reducible refine' i_par2 ?u0 ?uq); (case u0 => wtm_at "sset"))
  | ((with_reducible refine' i_par33 ?u0 ?uq); (case u0 => wtm_at "sset"))
  | ((with_reducible refine' i_ixLI (i := ?u0) ?u1 ?u2 ?u3 ?uq); (case u1 => wtm_at "dp"); (case u2 => wtm_at "ex"); (case u3 => exact rfl))
  | ((with_reducible refine' i_ixL (d := ?u0) ?u1 ?u2 ?u3 (fun xu hxu => ?uq)); (case u1 => wtm_at "dp"); (case u2 => wtm_at "ex"); (case u3 => exact rfl))
  | ((with_reducible refine' i_qlenT ?u0 ?uq); (case u0 => wtm_at "dp"))
  | ((with_reducible refine' i_qlenL ?u0 ?uq); (case u0 => wtm_at "dp"))
  | ((with_reducible refine' i_gtup ?u0 ?u1 ?u2 (fun gvs gdp => ?uq)); (case u0 => wtm_at "dp"); (case u1 => wtm_at "ex"); (case u2 => exact rfl))
  | ((with_reducible refine' i_glst ?u0 ?u1 ?u2 (fun gvs gdp => ?uq)); (case u0 => wtm_at "dp"); (case u1 => wtm_at "ex"); (case u2 => exact rfl))
  | ((with_reducible refine' i_gconsI ?u0 (fun gr gh => ?uq)); (case u0 => with_reducible assumption))
  | ((with_reducible refine' i_gconsA ?u0 (fun gv gr gh1 gh2 => ?uq)); (case u0 => with_reducible assumption))
  | ((with_reducible refine' i_gnilA ?u0 ?uq); (case u0 => with_reducible assumption))
  | ((with_reducible refine' i_isiI ?u0 ?uq); (case u0 => wtm_at "dp"))
  | ((with_reducible refine' i_isiB ?u0 ?uq); (case u0 => wtm_at "dp"))
  | ((with_reducible refine' i_isiT ?u0 ?uq); (case u0 => wtm_at "dp"))
  | ((with_reducible refine' i_isiS ?u0 ?uq); (case u0 => wtm_at "dp"))
  | ((with_reducible refine' i_isiL ?u0 ?uq); (case u0 => wtm_at "dp"))
  | ((with_reducible refine' i_eqD ?u0 ?u1 ?u2 ?u3 ?uq); (case u0 => wtm_at "dp"); (case u1 => wtm_at "dp"); (case u2 => wtm_at "shaped"); (case u3 => wtm_at "shaped"))
  | ((with_reducible refine' i_neD ?u0 ?u1 ?u2 ?u3 ?uq); (case u0 => wtm_at "dp"); (case u1 => wtm_at "dp"); (case u2 => wtm_at "shaped"); (case u3 => wtm_at "shaped"))
  | wtm_at "st2"
  | wtm_at "use")
local macro_rules | `(tactic| wtm_at "go") => `(tactic| repeat' (wtm_at "st"))
local macro_rules | `(tactic| wtm_at "go0") => `(tactic| ((try dsimp only [L2.cxOf, L2.Cx.nox, L2.Cx.wish, L2.Cx.tr, L2.Cx.blk]); (try wtm_at "nrm"); wtm_at "go"))
local macro_rules | `(tactic| wtm_at "fin") => `(tactic| ((try dsimp only); first | with_reducible assumption | assumption | ((with_reducible refine' Ret.use ?rur ?rue ?rud); (case rur => with_reducible assumption); (case rue => wtm_at "ex"); (case rud => wtm_at "dp"))))
local macro_rules | `(tactic| wtm_at "exh") => `(tactic| first | with_reducible assumption | with_reducible exact Ex.refl _ | with_reducible exact ex_hid | ((with_reducible refine' Ex.trans ?exe (by with_reducible assumption)); (case exe => wtm_at "exh")) | ((with_reducible refine' Ex.trans ?exe (hid_ex (by with_reducible assumption))); (case exe => wtm_at "exh")))
local macro_rules | `(tactic| wtm_at "ex") => `(tactic| first | with_reducible assumption | with_reducible exact Ex.refl _ | with_reducible exact ex_hid | ((with_reducible refine' Ex.trans ?exe (by with_reducible assumption)); (case exe => wtm_at "ex")) | ((with_reducible refine' Ex.trans ?exe (hid_ex (by with_reducible assumption))); (case exe => wtm_at "ex")) | ((with_reducible refine' Ex.trans ?exe ex_hid); (case exe => wtm_at "exh")))
local macro_rules | `(tactic| wtm_at "bag") => `(tactic| first | with_reducible assumption | ((with_reducible refine' Bag.mono ?bgm (by with_reducible assumption)); (case bgm => wtm_at "bag")))
local macro_rules | `(tactic| wtm_at "hs") => `(tactic| first | with_reducible assumption | ((with_reducible refine' hid_tup ?hb ?hp); (case hp => with_reducible assumption); (case hb => wtm_at "bag")) | ((with_reducible refine' hid_new ?hb ?hn ?hp); (case hp => with_reducible assumption); (case hn => with_reducible assumption); (case hb => wtm_at "bag")) | ((with_reducible refine' ex_at ?exe (by with_reducible assumption)); (case exe => wtm_at "ex")))
local macro_rules | `(tactic| wtm_at "st2") => `(tactic| first
  | ((with_reducible refine' i_mulC ?u0 ?uq); (case u0 => first | exact cmul_l (by decide) | exact cmul_r (by decide)))
  | ((with_reducible refine' i_ixLr (v := ?u0) ?u1 ?u2 ?uq); (case u1 => with_reducible assumption); (case u2 => exact rfl))
  | (with_reducible refine' i_sub ?uq)
  | ((with_reducible refine' i_mkL ?u0 (fun np nH nfr nhe nhp => ?uq)); (case u0 => exact Nat.le_of_ble_eq_true rfl))
  | ((with_reducible refine' i_setL (n := ?u0) ?u1 ?u2 (fun sH sh se => ?uq)); (case u1 => with_reducible assumption); (case u2 => exact rfl))
  | (with_reducible refine' i_sl ?uq)
  | (with_reducible refine' i_nopart ?uq)
  | (with_reducible refine' i_part ?uq)
  | (with_reducible refine' i_part1 ?uq))
local macro_rules | `(tactic| wtm_at "sz2") => `(tactic| ((with_reducible refine' sz_fmod ?sz1 ?sz2); (case sz1 => wtm_at "nz"); (case sz2 => wtm_at "sz")))
local macro_rules | `(tactic| wtm_at "stb") => `(tactic| first
  | ((with_reducible refine' i_mkTB ?u0 ?u1 (fun np nH nhe nhb nhp => ?uq)); (case u0 => exact Nat.le_of_ble_eq_true rfl); (case u1 => wtm_at "bag"))
  | ((with_reducible refine' i_mkLB ?u0 ?u1 (fun np nH nfr nhe nhb nhp => ?uq)); (case u0 => exact Nat.le_of_ble_eq_true rfl); (case u1 => wtm_at "bag"))
  | wtm_at "st")
local macro_rules | `(tactic| wtm_at "gob") => `(tactic| repeat' (wtm_at "stb"))
local macro_rules | `(tactic| wtm_at "gob0") => `(tactic| ((try dsimp only [L2.cxOf, L2.Cx.nox, L2.Cx.wish, L2.Cx.tr, L2.Cx.blk]); (try wtm_at "nrm"); wtm_at "gob"))
local macro_rules | `(tactic| wtm_at "use") => `(tactic| ((with_reducible refine' use__law_draw ?u0 ?u1 ?u2 (fun dn dH dn0 dn1 de db => ?uq)); (case u0 => wtm_at "bag"); (case u1 => wtm_at "pos"); (case u2 => wtm_at "szb")))
local macro_rules | `(tactic| wtm_at "pos") => `(tactic| first | assumption | decide | omega)
local macro_rules | `(tactic| wtm_at "oneof") => `(tactic| ((with_reducible refine' use__law_one_of ?u0 ?u1 ?u2 ?u3 ?uq); (case u0 => wtm_at "bag"); (case u1 => wtm_at "dp"); (case u2 => exact Nat.le_of_ble_eq_true rfl); (case u3 => exact Nat.le_of_ble_eq_true rfl)))
local macro_rules | `(tactic| wtm_at "st") => `(tactic| first | ((with_reducible refine' i_ixTS (z := ?u0) ?u1 ?u2 ?u3 ?uq); (case u1 => wtm_at "dp"); (case u2 => wtm_at "ex"); (case u3 => exact rfl)) | fail)
local macro_rules | `(tactic| wtm_at "st2") => `(tactic| first | ((with_reducible refine' i_eqST ?u0 ?uq); (case u0 => with_reducible rfl)) | ((with_reducible refine' i_eqSF ?u0 ?uq); (case u0 => decide +kernel)) | ((with_reducible refine' i_neST ?u0 ?uq); (case u0 => with_reducible rfl)) | ((with_reducible refine' i_neSF ?u0 ?uq); (case u0 => decide +kernel)) | fail)
section
variable {P : Program} {w : World} {K : PySem.W.Frag} {mg : Str → Option Value} {base : Heap} {H H' : Hp} {Q : VK} {E : XK} {v1 v2 v3 v4 v5 : V}
def sp__law_apart_word (K : PySem.W.Frag) : Sp := A2 fun v1 v2 H Q => ∃ b c : Bx, Dp K H v1 (bxD b) ∧ Dp K H v2 (bxD c) ∧ Q (wdV (apart b c)) H
abbrev s__law_apart_word : Stmt := top 64
theorem sc__law_apart_word : FnScope ["_law_box", "_law_other"] ["_law_box", "_law_other"] (defScope s__law_apart_word) := ⟨rfl, rfl, rfl, by decide +kernel, rfl, by decide +kernel, by decide +kernel⟩
theorem ok__law_apart_word {f : Addr} {fd : FuncData} (F : FnP K "_law_apart_word" s__law_apart_word f fd) (g : G mg)   : FnOk P w K mg base CX0 1 f fd ["_law_box", "_law_other"] (sp__law_apart_word K) := by
  have nd := sc__law_apart_word.nd
  refine F.ok sc__law_apart_word (fun vs H Q E h => h.len) (fun cdv A outer s H vs Q E hr h => ?_)
  obtain ⟨v1, v2, rfl, h⟩ := h
  refine ⟨_, PSs.nox (pss_cons (ps_if (pt_cmpR op_lt (pe_ix ix_tup (pv 0) pe_int (fun _ _ => rfl)) (pe_ix ix_tup (pv 1) pe_int (fun _ _ => rfl)) (nomark _)) (pss_one (ps_ret pe_str)) pss_nil) (pss_cons (ps_if (pt_cmpR op_gt (pe_ix ix_tup (pv 0) pe_int (fun _ _ => rfl)) (pe_ix ix_tup (pv 1) pe_int (fun _ _ => rfl)) (nomark _)) (pss_one (ps_ret pe_str)) pss_nil) (pss_cons (ps_if (pt_cmpR op_lt (pe_ix ix_tup (pv 0) pe_int (fun _ _ => rfl)) (pe_ix ix_tup (pv 1) pe_int (fun _ _ => rfl)) (nomark _)) (pss_one (ps_ret pe_str)) pss_nil) (pss_one (ps_ret (pe_ifExp (pt_cmpR op_gt (pe_ix ix_tup (pv 0) pe_int (fun _ _ => rfl)) (pe_ix ix_tup (pv 1) pe_int (fun _ _ => rfl)) (nomark _)) pe_str pe_non)))))), ?_⟩
  obtain ⟨⟨x0, x1, x2, x3⟩, ⟨y0, y1, y2, y3⟩, h1, h2, q⟩ := h
  unfold bxD at h1 h2
  unfold apart at q
  dsimp only at h1 h2 q
  wtm_at "go0"
  all_goals (dsimp only; simpa only [*, if_true, if_false, wdV] using q)
theorem use__law_apart_word {b c : Bx} (h : Dp K H v1 (bxD b)) (h2 : Dp K H v2 (bxD c)) (q : Q (wdV (apart b c)) H) : sp__law_apart_word K [v1, v2] H Q E := ⟨_, _, rfl, b, c, h, h2, q⟩
def sp__law_small_box (K : PySem.W.Frag) : Sp := A1 fun v1 H Q => ∃ b : Addr, v1 = .ref b ∧ Bag b H ∧ ∀ v H2 (x : Bx), x.ok → Ex (hid b H) (hid b H2) → Bag b H2 → Dp K (hid b H2) v (bxD x) → Q v H2
abbrev s__law_small_box : Stmt := top 62
theorem sc__law_small_box : FnScope ["_law_bag_here", "_law_left", "_law_bottom", "_law_wide", "_law_high", "_law_far"] ["_law_bag_here"] (defScope s__law_small_box) := ⟨rfl, rfl, rfl, by decide +kernel, rfl, by decide +kernel, by decide +kernel⟩
theorem ok__law_small_box {f : Addr} {fd : FuncData} (F : FnP K "_law_small_box" s__law_small_box f fd) (g : G mg) (c__law_one_of : Cl P w K mg base 2 "_law_one_of" (sp__law_one_of K)) (c__law_draw : Cl P w K mg base 1 "_law_draw" (sp__law_draw K))  : FnOk P w K mg base CX0 3 f fd ["_law_bag_here"] (sp__law_small_box K) := by
  have nd := sc__law_small_box.nd
  refine F.ok sc__law_small_box (fun vs H Q E h => h.len) (fun cdv A outer s H vs Q E hr h => ?_)
  obtain ⟨v1, rfl, h⟩ := h
  refine ⟨_, PSs.nox (pss_cons (ps_par (i := 1) (j := 2) (by rfl) nd rfl rfl (by decide) rfl rfl (pa_cons (pe_op op_sub (pc c__law_draw hr (by first | decide | omega) (by rfl) (pa_cons (pv 0) (pa_cons pe_int pa_nil))) pe_int) (pa_cons (pe_op op_sub (pc c__law_draw hr (by first | decide | omega) (by rfl) (pa_cons (pv 0) (pa_cons pe_int pa_nil))) pe_int) pa_nil)) (by rfl)) (pss_cons (ps_asg (pc c__law_one_of hr (by first | decide | omega) (by rfl) (pa_cons (pv 0) (pa_cons (pe_lst (pa_cons (pe_tup (pa_cons pe_int (pa_cons pe_int pa_nil))) (pa_cons (pe_tup (pa_cons pe_int (pa_cons pe_int pa_nil))) (pa_cons (pe_tup (pa_cons pe_int (pa_cons pe_int pa_nil))) (pa_cons (pe_tup (pa_cons pe_int (pa_cons pe_int pa_nil))) (pa_cons (pe_tup (pa_cons pe_int (pa_cons pe_int pa_nil))) (pa_cons (pe_tup (pa_cons pe_int (pa_cons pe_int pa_nil))) (pa_cons (pe_tup (pa_cons pe_int (pa_cons pe_int pa_nil))) (pa_cons (pe_tup (pa_cons pe_int (pa_cons pe_int pa_nil))) pa_nil))))))))) pa_nil))) (pg_tup (n := 2) (by rfl) (pgs_cons (pg_name (i := 3) nd rfl (Or.inl rfl)) (pgs_cons (pg_name (i := 4) nd rfl (Or.inl rfl)) pgs_nil)))) (pss_cons (ps_set (i := 5) nd rfl (Or.inl rfl) (pe_ifExp (pt_cmpR op_eq (pc c__law_draw hr (by first | decide | omega) (by rfl) (pa_cons (pv 0) (pa_cons pe_int pa_nil))) pe_int (nomark _)) (pe_op op_powX pe_int pe_int) pe_int)) (pss_one (ps_ret (pe_tup (pa_cons (pv 1) (pa_cons (pe_op op_sub (pv 2) (pv 5)) (pa_cons (pe_op op_add (pv 1) (pv 3)) (pa_cons (pe_op op_add (pv 2) (pv 4)) pa_nil)))))))))), ?_⟩
  obtain ⟨b, rfl, hb, q⟩ := h
  have p25 : 0 < (10 : Int) ^ (25 : Int).toNat := by decide +kernel
  wtm_at "gob0"
  wtm_at "oneof"
  intro d v H2 hd e2 b2 hv
  obtain ⟨wd, hg, rfl, hw0, hg0⟩ : ∃ p q : Int, d = .tuple [.int p, .int q] ∧ 0 ≤ p ∧ 0 ≤ q := by
    simp only [List.mem_cons, List.not_mem_nil, or_false] at hd
    rcases hd with rfl | rfl | rfl | rfl | rfl | rfl | rfl | rfl <;> exact ⟨_, _, rfl, by decide, by decide⟩
  clear hd
  wtm_at "gob"
  · rename_i nH nhe nhb nhp
    refine q _ _ (_, _, _, _) ⟨?_, ?_⟩ (by wtm_at "ex") nhb (.tup (Evl.st_of nhp) (.cons (.int _) (.cons (.int _) (.cons (.int _) (.cons (.int _) .nil)))))
    · dsimp only
      omega
    · dsimp only
      omega
  · rename_i nH nhe nhb nhp
    refine q _ _ (_, _, _, _) ⟨?_, ?_⟩ (by wtm_at "ex") nhb (.tup (Evl.st_of nhp) (.cons (.int _) (.cons (.int _) (.cons (.int _) (.cons (.int _) .nil)))))
    · dsimp only
      omega
    · dsimp only
      omega
theorem use__law_small_box {b : Addr} (hb : Bag b H) (q : ∀ v H2 (x : Bx), x.ok → Ex (hid b H) (hid b H2) → Bag b H2 → Dp K (hid b H2) v (bxD x) → Q v H2) : sp__law_small_box K [.ref b] H Q E := ⟨_, rfl, b, rfl, hb, q⟩
def sp__law_joint_box (K : PySem.W.Frag) : Sp := A1 fun v1 H Q => ∃ bs : List Bx, Dp K H v1 (.list (bs.map bxD)) ∧ bs ≠ [] ∧ bs.length ≤ 1000 ∧ Ret K (bxD (joint bs)) H Q
abbrev s__law_joint_box : Stmt := top 63
theorem sc__law_joint_box : FnScope ["_law_boxes", "_law_low", "_law_box"] ["_law_boxes"] (defScope s__law_joint_box) := ⟨rfl, rfl, rfl, by decide +kernel, rfl, by decide +kernel, by decide +kernel⟩
theorem ok__law_joint_box {f : Addr} {fd : FuncData} (F : FnP K "_law_joint_box" s__law_joint_box f fd) (g : G mg)   : FnOk P w K mg base CX0 1 f fd ["_law_boxes"] (sp__law_joint_box K) := by
  have nd := sc__law_joint_box.nd
  refine F.ok sc__law_joint_box (fun vs H Q E h => h.len) (fun cdv A outer s H vs Q E hr h => ?_)
  obtain ⟨v1, rfl, h⟩ := h
  refine ⟨_, PSs.nox (pss_cons (ps_if (pt_cmpR (op_eqD hr.units) (pv 0) (pe_lst pa_nil) (nomark _)) (pss_one (ps_ret pe_non)) pss_nil) (pss_cons (ps_set (i := 1) nd rfl (Or.inl rfl) (pe_tup (pa_cons (pe_callB (cr_min rfl) (by rfl) g.f_min boot_min (pa_cons (pe_lc (own := [("_law_box", 2)]) (g := gName 2) (by rfl) nd (pi_list (pv 0)) (blkOk_by (N := ["_law_boxes", "_law_low", "_law_box"]) (sc := defScope s__law_joint_box) (own := [("_law_box", 2)]) (by decide +kernel)) (fun _ _ _ _ _ => (pg_name (i := 2) nd rfl (Or.inl rfl))) (fun _ _ _ _ _ => pts_nil) (fun _ _ _ _ _ => (pe_ix (show IxR _ (rIxT K) from ix_tup) (pv 2) pe_int (fun _ _ => rfl)))) pa_nil)) (pa_cons (pe_callB (cr_min rfl) (by rfl) g.f_min boot_min (pa_cons (pe_lc (own := [("_law_box", 2)]) (g := gName 2) (by rfl) nd (pi_list (pv 0)) (blkOk_by (N := ["_law_boxes", "_law_low", "_law_box"]) (sc := defScope s__law_joint_box) (own := [("_law_box", 2)]) (by decide +kernel)) (fun _ _ _ _ _ => (pg_name (i := 2) nd rfl (Or.inl rfl))) (fun _ _ _ _ _ => pts_nil) (fun _ _ _ _ _ => (pe_ix (show IxR _ (rIxT K) from ix_tup) (pv 2) pe_int (fun _ _ => rfl)))) pa_nil)) pa_nil)))) (pss_one (ps_ret (pe_op op_catA (pv 1) (pe_tup (pa_cons (pe_callB (cr_max rfl) (by rfl) g.f_max boot_max (pa_cons (pe_lc (own := [("_law_box", 2)]) (g := gName 2) (by rfl) nd (pi_list (pv 0)) (blkOk_by (N := ["_law_boxes", "_law_low", "_law_box"]) (sc := defScope s__law_joint_box) (own := [("_law_box", 2)]) (by decide +kernel)) (fun _ _ _ _ _ => (pg_name (i := 2) nd rfl (Or.inl rfl))) (fun _ _ _ _ _ => pts_nil) (fun _ _ _ _ _ => (pe_ix (show IxR _ (rIxT K) from ix_tup) (pv 2) pe_int (fun _ _ => rfl)))) pa_nil)) (pa_cons (pe_callB (cr_max rfl) (by rfl) g.f_max boot_max (pa_cons (pe_lc (own := [("_law_box", 2)]) (g := gName 2) (by rfl) nd (pi_list (pv 0)) (blkOk_by (N := ["_law_boxes", "_law_low", "_law_box"]) (sc := defScope s__law_joint_box) (own := [("_law_box", 2)]) (by decide +kernel)) (fun _ _ _ _ _ => (pg_name (i := 2) nd rfl (Or.inl rfl))) (fun _ _ _ _ _ => pts_nil) (fun _ _ _ _ _ => (pe_ix (show IxR _ (rIxT K) from ix_tup) (pv 2) pe_int (fun _ _ => rfl)))) pa_nil)) pa_nil)))))))), ?_⟩
  obtain ⟨bs, h1, hne, hl, q⟩ := h
  have q2 : Ret K (.tuple [.int (mnI (bs.map (·.1))), .int (mnI (bs.map (·.2.1))), .int (mxI (bs.map (·.2.2.1))), .int (mxI (bs.map (·.2.2.2)))]) H Q := q
  clear q
  have n0 : ∀ f : Bx → Int, bs.map f ≠ [] := fun f e => hne (List.map_eq_nil_iff.mp e)
  wtm_at "go0"
  rename_i nH nfr nhe nhp
  refine i_eqD (dpMono nhe h1) (.lst (Evl.sq_of nhp) .nil) (shp_bxs bs) rfl ?_
  have en : PyData.eqv (.list (bs.map bxD)) (.list []) = false := by
    cases bs with
    | nil => exact absurd rfl hne
    | cons b r => rfl
  rw [en]
  wtm_at "go"
  refine i_lcLU ?_
  wtm_at "go"
  refine lc_fld (bs := bs) (by wtm_at "dp") hl (·.1) 0 (fun _ => rfl) (fun _ => rfl) (fun _ => rfl) (fun p0 H2 hp0 e0 d0 => ?_)
  wtm_at "go"
  refine i_min d0 (n0 _) ?_
  wtm_at "go"
  refine i_lcLU ?_
  wtm_at "go"
  refine lc_fld (bs := bs) (by wtm_at "dp") hl (·.2.1) 1 (fun _ => rfl) (fun _ => rfl) (fun _ => rfl) (fun p1 H3 hp1 e1 d1 => ?_)
  wtm_at "go"
  refine i_min d1 (n0 _) ?_
  wtm_at "go"
  refine i_lcLU ?_
  wtm_at "go"
  refine lc_fld (bs := bs) (by wtm_at "dp") hl (·.2.2.1) 2 (fun _ => rfl) (fun _ => rfl) (fun _ => rfl) (fun p2 H4 hp2 e2 d2 => ?_)
  wtm_at "go"
  refine i_max d2 (n0 _) ?_
  wtm_at "go"
  refine i_lcLU ?_
  wtm_at "go"
  refine lc_fld (bs := bs) (by wtm_at "dp") hl (·.2.2.2) 3 (fun _ => rfl) (fun _ => rfl) (fun _ => rfl) (fun p3 H5 hp3 e3 d3 => ?_)
  wtm_at "go"
  refine i_max d3 (n0 _) ?_
  wtm_at "go"
  refine i_catAD (by wtm_at "dp") (by wtm_at "dp") (Nat.le_of_ble_eq_true rfl) (fun y H9 e9 hy => ?_)
  exact q2 _ _ (by wtm_at "ex") hy
theorem use__law_joint_box {bs : List Bx} (h : Dp K H v1 (.list (bs.map bxD))) (hne : bs ≠ []) (hl : bs.length ≤ 1000) (q : ∀ v H2, Ex H H2 → Dp K H2 v (bxD (joint bs)) → Q v H2) : sp__law_joint_box K [v1] H Q E := ⟨_, rfl, bs, h, hne, hl, q⟩
end
end Wb

/-! right forms: their boxes -/
namespace Wb
open PySem PySem.Spec
theorem joint_ok {bs : List Bx} (hne : bs ≠ []) (h : ∀ b ∈ bs, b.ok) : (joint bs).ok := by
  cases bs with
  | nil => exact absurd rfl hne
  | cons b r =>
    have hb := h b List.mem_cons_self
    have m1 := (mn_mem (ns := (b :: r).map (·.1)) (List.cons_ne_nil _ _)).2 b.1 (List.mem_map.mpr ⟨b, List.mem_cons_self, rfl⟩)
    have m2 := (mn_mem (ns := (b :: r).map (·.2.1)) (List.cons_ne_nil _ _)).2 b.2.1 (List.mem_map.mpr ⟨b, List.mem_cons_self, rfl⟩)
    have m3 := (mx_mem (ns := (b :: r).map (·.2.2.1)) (List.cons_ne_nil _ _)).2 b.2.2.1 (List.mem_map.mpr ⟨b, List.mem_cons_self, rfl⟩)
    have m4 := (mx_mem (ns := (b :: r).map (·.2.2.2)) (List.cons_ne_nil _ _)).2 b.2.2.2 (List.mem_map.mpr ⟨b, List.mem_cons_self, rfl⟩)
    exact ⟨Int.le_trans m1 (Int.le_trans hb.1 m3), Int.le_trans m2 (Int.le_trans hb.2 m4)⟩
theorem ents_ok : ∀ (n : Nat) (t : Fo n), Right n t → ∀ e ∈ ents n t, e.2.ok
  | 0, t, r, e, he => r e he
  | n + 1, t, r, e, he => by
    obtain ⟨p, hp, he⟩ := List.mem_flatMap.mp he
    exact ents_ok n p.2 (r p hp).2.2.2 e he
theorem bok_of : ∀ (n : Nat) (t : Fo n), Right n t → Bok n t
  | 0, t, r => r
  | n + 1, t, r => fun p hp => by
    obtain ⟨r1, r2, r3, r4⟩ := r p hp
    refine ⟨?_, bok_of n p.2 r4⟩
    rw [r1]
    refine joint_ok (fun e => ents_ne n p.2 r2 r4 (List.map_eq_nil_iff.mp e)) fun b hb => ?_
    obtain ⟨e, he, rfl⟩ := List.mem_map.mp hb
    exact ents_ok n p.2 r4 e he
theorem sm_of : ∀ (n : Nat) (t : Fo n), foSz n t ≤ 4 → Right n t → Sm n t
  | 0, t, h, _ => h
  | n + 1, t, h, r => ⟨h, fun p hp => sm_of n p.2 (r p hp).2.2.1 (r p hp).2.2.2⟩
/-- a box that holds b -/
def holdsB (c b : Bx) : Prop := c.1 ≤ b.1 ∧ c.2.1 ≤ b.2.1 ∧ b.2.2.1 ≤ c.2.2.1 ∧ b.2.2.2 ≤ c.2.2.2
theorem joint_holds {bs : List Bx} {b : Bx} (h : b ∈ bs) : holdsB (joint bs) b := by
  have hne : ∀ f : Bx → Int, bs.map f ≠ [] := fun f e => by
    rw [List.map_eq_nil_iff.mp e] at h
    cases h
  exact ⟨(mn_mem (hne _)).2 _ (List.mem_map.mpr ⟨b, h, rfl⟩), (mn_mem (hne _)).2 _ (List.mem_map.mpr ⟨b, h, rfl⟩), (mx_mem (hne _)).2 _ (List.mem_map.mpr ⟨b, h, rfl⟩), (mx_mem (hne _)).2 _ (List.mem_map.mpr ⟨b, h, rfl⟩)⟩
/-- what meets a held box meets the holder -/
theorem apart_held {c b w : Bx} (h : holdsB c b) (hm : apart b w = none) : apart c w = none := by
  have e : meetB b w = true := by rw [meet_apart, hm]; rfl
  have e2 : meetB c w = true := by
    unfold meetB at e ⊢
    obtain ⟨h1, h2, h3, h4⟩ := h
    simp only [Bool.and_eq_true, decide_eq_true_eq] at e ⊢
    omega
  rw [meet_apart] at e2
  exact of_decide_eq_true e2
end Wb

/-! own lists that change: found, waits, .. -/
namespace Wb
open PySem PySem.Spec PyProof.Rows L2
open Evl (Ex Ex.refl Ex.trans Ex.new)
section
variable {K : PySem.W.Frag} {G0 G G' H H' : Hp} {ls : List (Addr × List PyData)} {a : Addr} {ds es : List PyData} {us : List V} {i : Nat}
structure Lsts (K : PySem.W.Frag) (G0 : Hp) (ls : List (Addr × List PyData)) (G : Hp) : Prop where
  nd : (ls.map (·.1)).Nodup
  fr : ∀ p ∈ ls, G0 p.1 = none
  ex : Ex G0 G
  no : ∀ p ∈ ls, noLs p.2 = true
  at_ : ∀ p ∈ ls, ∃ us, G p.1 = some (.lst us) ∧ DpAll K G us p.2
theorem Lsts.nil : Lsts K G0 [] G0 := ⟨List.nodup_nil, fun p h => (by cases h), Ex.refl _, fun p h => (by cases h), fun p h => (by cases h)⟩
theorem Lsts.up (L : Lsts K G0 ls G) (e : Ex G G') : Lsts K G0 ls G' := ⟨L.nd, L.fr, L.ex.trans e, L.no, fun p hp => by
  obtain ⟨us, h1, h2⟩ := L.at_ p hp
  exact ⟨us, e _ _ h1, dpMonoA e h2⟩⟩
theorem Lsts.ref (L : Lsts K G0 ls G) (e : ls[i]? = some (a, ds)) : Dp K G (.ref a) (.list ds) := by
  obtain ⟨us, h1, h2⟩ := L.at_ _ (List.mem_of_getElem? e)
  exact .lst (Evl.sq_of h1) h2
theorem Lsts.fresh (L : Lsts K G0 ls G) (h : G a = none) : G0 a = none := Evl.fresh_back L.ex h
theorem Lsts.add (L : Lsts K G0 ls G) (hn : G a = none) (e : Ex G G') (h : G' a = some (.lst us)) (hd : DpAll K G' us ds) (hno : noLs ds = true) : Lsts K G0 ((a, ds) :: ls) G' := by
  refine ⟨List.nodup_cons.mpr ⟨fun q => ?_, L.nd⟩, fun p hp => ?_, L.ex.trans e, fun p hp => ?_, fun p hp => ?_⟩
  · obtain ⟨p, hp, e1⟩ := List.mem_map.mp q
    obtain ⟨us, h1, h2⟩ := L.at_ p hp
    have e1 : p.1 = a := e1
    rw [e1, hn] at h1
    cases h1
  · rcases List.mem_cons.mp hp with rfl | hp
    · exact L.fresh hn
    · exact L.fr p hp
  · rcases List.mem_cons.mp hp with rfl | hp
    · exact hno
    · exact L.no p hp
  · rcases List.mem_cons.mp hp with rfl | hp
    · exact ⟨us, h, hd⟩
    · obtain ⟨us, h1, h2⟩ := L.at_ p hp
      exact ⟨us, e _ _ h1, dpMonoA e h2⟩
theorem Lsts.set (L : Lsts K G0 ls G) (e : ls[i]? = some (a, ds)) (hd : DpAll K G us es) (hno : noLs es = true) : Lsts K G0 (ls.set i (a, es)) (upd G a (.lst us)) := by
  have hm := List.mem_of_getElem? e
  obtain ⟨ws, w1, w2⟩ := L.at_ _ hm
  have em : (ls.set i (a, es)).map (·.1) = ls.map (·.1) := by
    refine List.ext_getElem? fun j => ?_
    rw [List.getElem?_map, List.getElem?_map, List.getElem?_set]
    by_cases hj : i = j
    · subst hj
      rw [if_pos rfl, e]
      have : i < ls.length := (List.getElem?_eq_some_iff.mp e).1
      rw [if_pos this]
      rfl
    · rw [if_neg hj]
  have g : ∀ p ∈ ls.set i (a, es), p = (a, es) ∨ (p ∈ ls ∧ p.1 ≠ a) := fun p hp => by
    obtain ⟨j, hj⟩ := List.getElem?_of_mem hp
    rw [List.getElem?_set] at hj
    by_cases hij : i = j
    · rw [if_pos hij] at hj
      split at hj
      · exact .inl (Option.some.inj hj).symm
      · cases hj
    · rw [if_neg hij] at hj
      refine .inr ⟨List.mem_of_getElem? hj, fun z => hij ?_⟩
      have hil : i < (ls.map (·.1)).length := by
        rw [List.length_map]
        exact (List.getElem?_eq_some_iff.mp e).1
      refine (List.getElem?_inj hil L.nd).mp ?_
      rw [List.getElem?_map, List.getElem?_map, e, hj]
      show some a = some p.1
      rw [z]
  refine ⟨by rw [em]; exact L.nd, fun p hp => ?_, Evl.Ex.mut L.ex (L.fr _ hm), fun p hp => ?_, fun p hp => ?_⟩
  · rcases g p hp with rfl | ⟨h, _⟩
    · exact (L.fr _ hm : G0 a = none)
    · exact L.fr _ h
  · rcases g p hp with rfl | ⟨h, _⟩
    · exact hno
    · exact L.no _ h
  · rcases g p hp with rfl | ⟨h, hne⟩
    · exact ⟨us, upd_same, dpUpdA w1 hno hd⟩
    · obtain ⟨vs, h1, h2⟩ := L.at_ _ h
      exact ⟨vs, by rw [upd_ne hne]; exact h1, dpUpdA w1 (L.no _ h) h2⟩
theorem hid_updn {b a : Addr} {o : HO} (h : a ≠ b) : hid b (upd H a o) = upd (hid b H) a o := by
  funext c
  unfold hid upd
  by_cases h1 : c = b
  · have h2 : c ≠ a := fun z => h (z.symm.trans h1)
    simp [h1, h2]
    intro z
    exact absurd z.symm h
  · by_cases h2 : c = a
    · simp [h1, h2]
      intro z
      exact absurd z h
    · simp [h1, h2]
theorem Lsts.keep (L : Lsts K G0 ls G) (e : ls[i]? = some (a, ds)) {v : V} {d : PyData} (hn : noL d = true) (h : Dp K G v d) : Dp K (upd G a (.lst us)) v d := by
  obtain ⟨ws, w1, w2⟩ := L.at_ _ (List.mem_of_getElem? e)
  exact dpUpd w1 hn h
end
section
variable {K : PySem.W.Frag} {G0 H : Hp} {ls : List (Addr × List PyData)} {a : Addr} {ds : List PyData} {d : PyData} {i : Nat} {Q : VK} {v : V} {σ : L2.St}
theorem i_bm0 {T : String} {r : V → List V → Hp → VK → Prop} {to : TE} (q : to σ H fun x H1 => tyV K T x H1 ∧ r x [] H1 Q) : tBM0 K T r to σ H Q := q
theorem i_bmA {T : String} {r : V → List V → Hp → VK → Prop} {to : TE} {t : TA} (q : to σ H fun x H1 => tyV K T x H1 ∧ t σ H1 fun xs H2 => r x xs H2 Q) : tBM K T r to t σ H Q := q
theorem Lsts.ty (L : Lsts K G0 ls H) (e : ls[i]? = some (a, ds)) {R : Prop} (q : R) : tyV K "list" (.ref a) H ∧ R := by
  obtain ⟨us, h1, _⟩ := L.at_ _ (List.mem_of_getElem? e)
  exact ⟨.inl ⟨rfl, us, Evl.sq_of h1⟩, q⟩
theorem dpSplit : ∀ {ds : List PyData} {us : List V}, DpAll K H us (ds ++ [d]) → ∃ ws y, us = ws ++ [y] ∧ DpAll K H ws ds ∧ Dp K H y d
  | [], _, h => by
    cases h with
    | cons h1 h2 =>
      cases h2
      exact ⟨[], _, rfl, .nil, h1⟩
  | c :: ds, _, h => by
    cases h with
    | cons h1 h2 =>
      obtain ⟨ws, y, rfl, h3, h4⟩ := dpSplit h2
      exact ⟨_ :: ws, y, rfl, .cons h1 h3, h4⟩
theorem noLs_split {ds es : List PyData} (h : noLs (ds ++ es) = true) : noLs ds = true ∧ noLs es = true := by
  induction ds with
  | nil => exact ⟨rfl, h⟩
  | cons c ds ih =>
    obtain ⟨h1, h2⟩ := Bool.and_eq_true_iff.mp (show (noL c && noLs (ds ++ es)) = true from h)
    obtain ⟨h3, h4⟩ := ih h2
    exact ⟨by show (noL c && noLs ds) = true; rw [h1, h3]; rfl, h4⟩
theorem noLs_app {ds es : List PyData} (h1 : noLs ds = true) (h2 : noLs es = true) : noLs (ds ++ es) = true := by
  induction ds with
  | nil => exact h2
  | cons c ds ih =>
    obtain ⟨h3, h4⟩ := Bool.and_eq_true_iff.mp (show (noL c && noLs ds) = true from h1)
    show (noL c && noLs (ds ++ es)) = true
    rw [h3, ih h4]
    rfl
/-- pop of the last item -/
theorem Lsts.pop (L : Lsts K G0 ls H) (e : ls[i]? = some (a, ds ++ [d])) (q : ∀ y H2, Lsts K G0 (ls.set i (a, ds)) H2 → Dp K H2 y d → (∀ {v : V} {c : PyData}, noL c = true → Dp K H v c → Dp K H2 v c) → Q y H2) : rPop (.ref a) [] H Q := by
  obtain ⟨us, h1, h2⟩ := L.at_ _ (List.mem_of_getElem? e)
  have hno := noLs_split (L.no _ (List.mem_of_getElem? e))
  have hnd : noL d = true := by
    have := hno.2
    exact (Bool.and_eq_true_iff.mp (show (noL d && noLs []) = true from this)).1
  obtain ⟨ws, y, rfl, h3, h4⟩ := dpSplit h2
  refine ⟨a, ws ++ [y], y, rfl, rfl, h1, by simp, ?_⟩
  rw [List.dropLast_concat]
  exact q y _ (L.set e h3 hno.1) (L.keep e hnd h4) fun hn h => L.keep e hn h
theorem Lsts.extend (L : Lsts K G0 ls H) (e : ls[i]? = some (a, ds)) {b : Addr} {zs : List V} {es : List PyData} (hb : H b = some (.lst zs)) (hz : DpAll K H zs es) (hn : noLs es = true) (hl : ds.length + es.length ≤ 100000)
    (q : ∀ H2, Lsts K G0 (ls.set i (a, ds ++ es)) H2 → (∀ {v : V} {c : PyData}, noL c = true → Dp K H v c → Dp K H2 v c) → Q .non H2) : rExtend (.ref a) [.ref b] H Q := by
  obtain ⟨us, h1, h2⟩ := L.at_ _ (List.mem_of_getElem? e)
  refine ⟨a, b, us, zs, rfl, rfl, h1, hb, Evl.sz_of (by rw [dpLen h2, dpLen hz]; exact hl), ?_⟩
  exact q _ (L.set e (dpAllApp h2 hz) (noLs_app (L.no _ (List.mem_of_getElem? e)) hn)) fun hn h => L.keep e hn h
theorem Lsts.append (L : Lsts K G0 ls H) (e : ls[i]? = some (a, ds)) (hd : Dp K H v d) (hn : noL d = true) (hl : ds.length < 100000)
    (q : ∀ H2, Lsts K G0 (ls.set i (a, ds ++ [d])) H2 → (∀ {v : V} {c : PyData}, noL c = true → Dp K H v c → Dp K H2 v c) → Q .non H2) : rAppend (.ref a) [v] H Q := by
  obtain ⟨us, h1, h2⟩ := L.at_ _ (List.mem_of_getElem? e)
  refine ⟨a, us, v, rfl, rfl, h1, Evl.sz_lt (by rw [dpLen h2]; exact hl), ?_⟩
  exact q _ (L.set e (dpAllApp h2 (.cons hd .nil)) (noLs_app (L.no _ (List.mem_of_getElem? e)) (by show (noL d && noLs []) = true; rw [hn]; rfl))) fun hn h => L.keep e hn h
variable {α : Type} {enc : α → PyData} {xs : List α} {te : TE} {tt : TT} {g : TG} {vs : List Nat}
/-- as i_lcGT, the new list told as one of the frame's own -/
theorem lcg_endR {c : α → Bool} {f : α → PyData} {us : List V} {D : Addr} {H' : Hp} (ha : DpAll K H us (xs.map enc)) (p : Acc K H D (((xs.take us.length).filter c).map f) H') (q : ∀ p H2 zs, H p = none → Ex H H2 → H2 p = some (.lst zs) → DpAll K H2 zs ((xs.filter c).map f) → Q (.ref p) H2) : Q (.ref D) H' := by
  have e : us.length = xs.length := by rw [dpLen ha, List.length_map]
  rw [e, List.take_length] at p
  obtain ⟨p1, p2, acc, p3, p4⟩ := p
  exact q D H' acc p1 p2 p3 p4
theorem i_lcGTR (c : α → Bool) (f : α → PyData) (h : Dp K H v (.tuple (xs.map enc))) (hl : xs.length ≤ 100000) (hn : ∀ x ∈ xs, noL (f x) = true) (ht : LcTurn K H enc xs c f g tt te vs σ)
    (q : ∀ p H2 zs, H p = none → Ex H H2 → H2 p = some (.lst zs) → DpAll K H2 zs ((xs.filter c).map f) → Q (.ref p) H2) : tLc (iTup K (tC v)) g tt te vs σ H Q := by
  obtain ⟨a, us, rfl, hs, ha⟩ := dpTup h
  exact ⟨a, rfl, ⟨us, hs⟩, fun D hD => lc_tup (xs := us) (fun i H' => Acc K H D (((xs.take i).filter c).map f) H') (Acc.new hD) (fun i H' _ p => Evl.ex_t p.2.1 hs) (fun i u H' hi p => lcg_step c f hl hn ht ha hi p) (fun H' p => lcg_endR ha p q)⟩
theorem i_lcGLR (c : α → Bool) (f : α → PyData) (h : Dp K H v (.list (xs.map enc))) (hl : xs.length ≤ 100000) (hn : ∀ x ∈ xs, noL (f x) = true) (ht : LcTurn K H enc xs c f g tt te vs σ)
    (q : ∀ p H2 zs, H p = none → Ex H H2 → H2 p = some (.lst zs) → DpAll K H2 zs ((xs.filter c).map f) → Q (.ref p) H2) : tLc (iList K (tC v)) g tt te vs σ H Q := by
  obtain ⟨a, us, rfl, hs, ha⟩ := dpLst h
  exact ⟨a, rfl, ⟨us, hs⟩, fun D hD => lc_list (xs := us) (fun i H' => Acc K H D (((xs.take i).filter c).map f) H') (Acc.new hD) (fun i H' _ p => Evl.ex_l p.2.1 hs) (fun i u H' hi p => lcg_step c f hl hn ht ha hi p) (fun H' p => lcg_endR ha p q)⟩
end
end Wb

namespace Wb
open PySem PySem.Spec PyProof.Rows L2 StX
open Evl (Ex Ex.refl Ex.trans Ex.new)
local macro_rules | `(tactic| wtm_at "dp") => `(tactic| first | with_reducible assumption | with_reducible exact Dp.int _ | with_reducible exact Dp.bl _ | with_reducible exact Dp.str _ | with_reducible exact Dp.non | ((with_reducible refine' dpMono ?dme (by with_reducible assumption)); (case dme => wtm_at "ex")) | ((with_reducible refine' Dp.tup (Evl.st_of ?dph) ?dpa); (case dph => wtm_at "hs"); (case dpa => wtm_at "dpa")) | ((with_reducible refine' Dp.lst (Evl.sq_of ?dph) ?dpa); (case dph => wtm_at "hs"); (case dpa => wtm_at "dpa")))
local macro_rules | `(tactic| wtm_at "dpa") => `(tactic| first | with_reducible exact DpAll.nil | ((with_reducible refine' DpAll.cons ?dp1 ?dp2); (case dp1 => wtm_at "dp"); (case dp2 => wtm_at "dpa")) | with_reducible assumption | ((with_reducible refine' dpMonoA ?dme (by with_reducible assumption)); (case dme => wtm_at "ex")))
local macro_rules | `(tactic| wtm_at "sz") => `(tactic| first | with_reducible assumption | ((with_reducible refine' sz_mul ?sz1 ?sz2); (case sz1 => wtm_at "sz"); (case sz2 => wtm_at "sz")) | ((with_reducible refine' sz_add ?sz1 ?sz2); (case sz1 => wtm_at "sz"); (case sz2 => wtm_at "sz")) | ((with_reducible refine' sz_sub ?sz1 ?sz2); (case sz1 => wtm_at "sz"); (case sz2 => wtm_at "sz")) | ((with_reducible refine' sz_neg ?sz1); (case sz1 => wtm_at "sz")) | ((with_reducible refine' sz_div ?sz1); (case sz1 => wtm_at "sz")) | ((with_reducible refine' sz_fdiv ?sz1); (case sz1 => wtm_at "sz")) | exact sz_lit (by decide) | wtm_at "sz2")
local macro_rules | `(tactic| wtm_at "szb") => `(tactic| first | with_reducible assumption | ((with_reducible refine' sz_mono ?szb1 ?szb2); (case szb1 => wtm_at "sz"); (case szb2 => decide)))
local macro_rules | `(tactic| wtm_at "nz") => `(tactic| first | assumption | decide | omega)
local macro_rules | `(tactic| wtm_at "shaped") => `(tactic| first | rfl | decide)
local macro_rules | `(tactic| wtm_at "sset") => `(tactic| ((dsimp only [L2.wipe, List.set, List.set_cons_zero, List.set_cons_succ]) <;> exact rfl))
local macro_rules | `(tactic| wtm_at "nrm") => `(tactic| dsimp only [L2.start, L2.wipe, List.set, List.append, List.map, List.map_cons, List.map_nil, List.length_cons, List.length_nil, Nat.reduceAdd, Nat.reduceSub, List.reduceReplicate, List.replicate, List.cons_append, List.nil_append, List.set_cons_zero, List.set_cons_succ])
local macro_rules | `(tactic| wtm_at "st") => `(tactic| first
  | ((with_reducible refine' i_var (v := ?u0) ?u1 ?uq); (case u1 => exact rfl))
  | ((with_reducible refine' i_nameN ?u0 ?uq); (case u0 => wtm_at "sset"))
  | (with_reducible refine' i_op ?uq)
  | (with_reducible refine' i_c ?uq)
  | (with_reducible refine' i_I0 ?uq)
  | ((with_reducible refine' i_ixTI (i := ?u0) ?u1 ?u2 ?u3 ?uq); (case u1 => wtm_at "dp"); (case u2 => wtm_at "ex"); (case u3 => exact rfl))
  | ((with_reducible refine' i_ixT (d := ?u0) ?u1 ?u2 ?u3 (fun xu hxu => ?uq)); (case u1 => wtm_at "dp"); (case u2 => wtm_at "ex"); (case u3 => exact rfl))
  | ((with_reducible refine' i_mul ?u0 ?u1 ?u2 ?uq); (case u0 => wtm_at "sz"); (case u1 => wtm_at "sz"); (case u2 => first | decide | omega))
  | (with_reducible refine' i_seq ?uq)
  | (with_reducible refine' i_asg ?uq)
  | (with_reducible refine' i_ret ?uq)
  | (with_reducible refine' i_ifs ?uq)
  | (with_reducible refine' i_drop ?uq)
  | (with_reducible refine' i_next ?uq)
  | (with_reducible refine' i_cons ?uq)
  | (with_reducible refine' i_nil ?uq)
  | (with_reducible refine' i_cl ?uq)
  | (with_reducible refine' i_cb ?uq)
  | (with_reducible refine' i_tup ?uq)
  | (with_reducible refine' i_lst ?uq)
  | ((with_reducible refine' i_mkT ?u0 (fun np nH nhe nhp => ?uq)); (case u0 => exact Nat.le_of_ble_eq_true rfl))
  | (with_reducible refine' i_test ?uq)
  | (with_reducible refine' i_B ?uq)
  | (with_reducible refine' i_k ?uq)
  | (with_reducible refine' i_and ?uq)
  | (with_reducible refine' i_or ?uq)
  | (with_reducible refine' i_not ?uq)
  | (with_reducible refine' i_andV ?uq)
  | (with_reducible refine' i_orV ?uq)
  | (with_reducible refine' i_notV ?uq)
  | (with_reducible refine' i_if ?uq)
  | (with_reducible refine' i_un ?uq)
  | (with_reducible refine' i_U ?uq)
  | (with_reducible refine' i_iteT ?uq)
  | (with_reducible refine' i_iteF ?uq)
  | ((with_reducible refine' i_iteTr ?u0 ?uq); (case u0 => first | with_reducible rfl | decide | (simp only [dIsInt, dIsBool, dIsTup, dIsStr, dIsLst, Bool.not_true, Bool.not_false]; done)))
  | ((with_reducible refine' i_iteFr ?u0 ?uq); (case u0 => first | with_reducible rfl | decide | (simp only [dIsInt, dIsBool, dIsTup, dIsStr, dIsLst, Bool.not_true, Bool.not_false]; done)))
  | (with_reducible refine' i_ite (fun hif => ?uqa) (fun hif => ?uqb))
  | (with_reducible refine' i_iteN (fun hif => ?uqa) (fun hif => ?uqb))
  | (with_reducible refine' i_iteBN (fun hif => ?uqa) (fun hif => ?uqb))
  | (with_reducible refine' i_iteB (fun hif => ?uqa) (fun hif => ?uqb))
  | ((with_reducible refine' i_modN ?u0 ?uq); (case u0 => wtm_at "nz"))
  | ((with_reducible refine' i_fdX ?u0 ?u1 ?u2 ?uq); (case u0 => wtm_at "nz"); (case u1 => wtm_at "sz"); (case u2 => first | decide | omega))
  | ((with_reducible refine' i_pow ?u0 ?uq); (case u0 => exact ⟨by decide, by decide +kernel⟩))
  | (with_reducible refine' i_eqI ?uq)
  | (with_reducible refine' i_neI ?uq)
  | (with_reducible refine' i_gcd ?uq)
  | (with_reducible refine' i_qabs ?uq)
  | (with_reducible refine' i_qint ?uq)
  | (with_reducible refine' i_qintB ?uq)
  | (with_reducible refine' i_qmax2 ?uq)
  | (with_reducible refine' i_qmin2 ?uq)
  | (with_reducible refine' i_isB ?uq)
  | (with_reducible refine' i_notB ?uq)
  | (with_reducible refine' i_chain ?uq)
  | (with_reducible refine' i_qisN ?uq)
  | (with_reducible refine' i_qnotN ?uq)
  | (with_reducible refine' i_yes ?uq)
  | (with_reducible refine' i_par ?uq)
  | (with_reducible refine' i_par3 ?uq)
  | ((with_reducible refine' i_par2 ?u0 ?uq); (case u0 => wtm_at "sset"))
  | ((with_reducible refine' i_par33 ?u0 ?uq); (case u0 => wtm_at "sset"))
  | ((with_reducible refine' i_ixLI (i := ?u0) ?u1 ?u2 ?u3 ?uq); (case u1 => wtm_at "dp"); (case u2 => wtm_at "ex"); (case u3 => exact rfl))
  | ((with_reducible refine' i_ixL (d := ?u0) ?u1 ?u2 ?u3 (fun xu hxu => ?uq)); (case u1 => wtm_at "dp"); (case u2 => wtm_at "ex"); (case u3 => exact rfl))
  | ((with_reducible refine' i_qlenT ?u0 ?uq); (case u0 => wtm_at "dp"))
  | ((with_reducible refine' i_qlenL ?u0 ?uq); (case u0 => wtm_at "dp"))
  | ((with_reducible refine' i_gtup ?u0 ?u1 ?u2 (fun gvs gdp => ?uq)); (case u0 => wtm_at "dp"); (case u1 => wtm_at "ex"); (case u2 => exact rfl))
  | ((with_reducible refine' i_glst ?u0 ?u1 ?u2 (fun gvs gdp => ?uq)); (case u0 => wtm_at "dp"); (case u1 => wtm_at "ex"); (case u2 => exact rfl))
  | ((with_reducible refine' i_gconsI ?u0 (fun gr gh => ?uq)); (case u0 => with_reducible assumption))
  | ((with_reducible refine' i_gconsA ?u0 (fun gv gr gh1 gh2 => ?uq)); (case u0 => with_reducible assumption))
  | ((with_reducible refine' i_gnilA ?u0 ?uq); (case u0 => with_reducible assumption))
  | ((with_reducible refine' i_isiI ?u0 ?uq); (case u0 => wtm_at "dp"))
  | ((with_reducible refine' i_isiB ?u0 ?uq); (case u0 => wtm_at "dp"))
  | ((with_reducible refine' i_isiT ?u0 ?uq); (case u0 => wtm_at "dp"))
  | ((with_reducible refine' i_isiS ?u0 ?uq); (case u0 => wtm_at "dp"))
  | ((with_reducible refine' i_isiL ?u0 ?uq); (case u0 => wtm_at "dp"))
  | ((with_reducible refine' i_eqD ?u0 ?u1 ?u2 ?u3 ?uq); (case u0 => wtm_at "dp"); (case u1 => wtm_at "dp"); (case u2 => wtm_at "shaped"); (case u3 => wtm_at "shaped"))
  | ((with_reducible refine' i_neD ?u0 ?u1 ?u2 ?u3 ?uq); (case u0 => wtm_at "dp"); (case u1 => wtm_at "dp"); (case u2 => wtm_at "shaped"); (case u3 => wtm_at "shaped"))
  | wtm_at "st2"
  | wtm_at "use")
local macro_rules | `(tactic| wtm_at "go") => `(tactic| repeat' (wtm_at "st"))
local macro_rules | `(tactic| wtm_at "go0") => `(tactic| ((try dsimp only [L2.cxOf, L2.Cx.nox, L2.Cx.wish, L2.Cx.tr, L2.Cx.blk]); (try wtm_at "nrm"); wtm_at "go"))
local macro_rules | `(tactic| wtm_at "fin") => `(tactic| ((try dsimp only); first | with_reducible assumption | assumption | ((with_reducible refine' Ret.use ?rur ?rue ?rud); (case rur => with_reducible assumption); (case rue => wtm_at "ex"); (case rud => wtm_at "dp"))))
local macro_rules | `(tactic| wtm_at "exh") => `(tactic| first | with_reducible assumption | with_reducible exact Ex.refl _ | with_reducible exact ex_hid | ((with_reducible refine' Ex.trans ?exe (by with_reducible assumption)); (case exe => wtm_at "exh")) | ((with_reducible refine' Ex.trans ?exe (hid_ex (by with_reducible assumption))); (case exe => wtm_at "exh")))
local macro_rules | `(tactic| wtm_at "ex") => `(tactic| first | with_reducible assumption | with_reducible exact Ex.refl _ | with_reducible exact ex_hid | ((with_reducible refine' Ex.trans ?exe (by with_reducible assumption)); (case exe => wtm_at "ex")) | ((with_reducible refine' Ex.trans ?exe (hid_ex (by with_reducible assumption))); (case exe => wtm_at "ex")) | ((with_reducible refine' Ex.trans ?exe ex_hid); (case exe => wtm_at "exh")))
local macro_rules | `(tactic| wtm_at "bag") => `(tactic| first | with_reducible assumption | ((with_reducible refine' Bag.mono ?bgm (by with_reducible assumption)); (case bgm => wtm_at "bag")))
local macro_rules | `(tactic| wtm_at "hs") => `(tactic| first | with_reducible assumption | ((with_reducible refine' hid_tup ?hb ?hp); (case hp => with_reducible assumption); (case hb => wtm_at "bag")) | ((with_reducible refine' hid_new ?hb ?hn ?hp); (case hp => with_reducible assumption); (case hn => with_reducible assumption); (case hb => wtm_at "bag")) | ((with_reducible refine' ex_at ?exe (by with_reducible assumption)); (case exe => wtm_at "ex")))
local macro_rules | `(tactic| wtm_at "st2") => `(tactic| first
  | ((with_reducible refine' i_mulC ?u0 ?uq); (case u0 => first | exact cmul_l (by decide) | exact cmul_r (by decide)))
  | ((with_reducible refine' i_ixLr (v := ?u0) ?u1 ?u2 ?uq); (case u1 => with_reducible assumption); (case u2 => exact rfl))
  | (with_reducible refine' i_sub ?uq)
  | ((with_reducible refine' i_mkL ?u0 (fun np nH nfr nhe nhp => ?uq)); (case u0 => exact Nat.le_of_ble_eq_true rfl))
  | ((with_reducible refine' i_setL (n := ?u0) ?u1 ?u2 (fun sH sh se => ?uq)); (case u1 => with_reducible assumption); (case u2 => exact rfl))
  | (with_reducible refine' i_sl ?uq)
  | (with_reducible refine' i_nopart ?uq)
  | (with_reducible refine' i_part ?uq)
  | (with_reducible refine' i_part1 ?uq))
local macro_rules | `(tactic| wtm_at "sz2") => `(tactic| ((with_reducible refine' sz_fmod ?sz1 ?sz2); (case sz1 => wtm_at "nz"); (case sz2 => wtm_at "sz")))
local macro_rules | `(tactic| wtm_at "stb") => `(tactic| first
  | ((with_reducible refine' i_mkTB ?u0 ?u1 (fun np nH nhe nhb nhp => ?uq)); (case u0 => exact Nat.le_of_ble_eq_true rfl); (case u1 => wtm_at "bag"))
  | ((with_reducible refine' i_mkLB ?u0 ?u1 (fun np nH nfr nhe nhb nhp => ?uq)); (case u0 => exact Nat.le_of_ble_eq_true rfl); (case u1 => wtm_at "bag"))
  | wtm_at "st")
local macro_rules | `(tactic| wtm_at "gob") => `(tactic| repeat' (wtm_at "stb"))
local macro_rules | `(tactic| wtm_at "gob0") => `(tactic| ((try dsimp only [L2.cxOf, L2.Cx.nox, L2.Cx.wish, L2.Cx.tr, L2.Cx.blk]); (try wtm_at "nrm"); wtm_at "gob"))
local macro_rules | `(tactic| wtm_at "st") => `(tactic| first | ((with_reducible refine' i_ixTS (z := ?u0) ?u1 ?u2 ?u3 ?uq); (case u1 => wtm_at "dp"); (case u2 => wtm_at "ex"); (case u3 => exact rfl)) | fail)
local macro_rules | `(tactic| wtm_at "st2") => `(tactic| first | ((with_reducible refine' i_eqST ?u0 ?uq); (case u0 => with_reducible rfl)) | ((with_reducible refine' i_eqSF ?u0 ?uq); (case u0 => decide +kernel)) | ((with_reducible refine' i_neST ?u0 ?uq); (case u0 => with_reducible rfl)) | ((with_reducible refine' i_neSF ?u0 ?uq); (case u0 => decide +kernel)) | fail)
section
variable {P : Program} {w : World} {K : PySem.W.Frag} {mg : Str → Option Value} {base : Heap} {H H' : Hp} {Q : VK} {E : XK} {v1 v2 v3 v4 v5 : V}
/-- a form that waits -/
abbrev Fs : Type := (k : Nat) × Fo k
def fsD (s : Fs) : PyData := foD s.1 s.2
def fsE (s : Fs) : List En := ents s.1 s.2
def fsN (s : Fs) : Nat := (subs s.1 s.2).length + 1
def stN : List Fs → Nat
  | [] => 0
  | s :: r => fsN s + stN r
theorem stN_app : ∀ (xs ys : List Fs), stN (xs ++ ys) = stN xs + stN ys
  | [], ys => by simp [stN]
  | s :: r, ys => by
    rw [List.cons_append, stN, stN, stN_app r ys]
    omega
theorem noL_fs (s : Fs) : noL (fsD s) = true := noL_fo s.1 s.2
def kids {n : Nat} (t : Fo (n + 1)) : List Fs := (foB t).map fun p => ⟨n, p.2⟩
theorem kids_N {n : Nat} (t : Fo (n + 1)) : stN (kids t) = (subs (n + 1) t).length := by
  show stN ((foB t).map fun p => (⟨n, p.2⟩ : Fs)) = ((foB t).flatMap fun p => foD n p.2 :: subs n p.2).length
  induction (foB t) with
  | nil => rfl
  | cons p r ih =>
    rw [List.map_cons, List.flatMap_cons, List.length_append, stN, ih]
    show (subs n p.2).length + 1 + _ = _
    rw [List.length_cons]
theorem kids_E {n : Nat} (t : Fo (n + 1)) : (kids t).flatMap fsE = ents (n + 1) t := by
  show ((foB t).map fun p => (⟨n, p.2⟩ : Fs)).flatMap fsE = (foB t).flatMap fun p => ents n p.2
  rw [List.flatMap_map]
  rfl
theorem eqv_nil (ds : List PyData) : PyData.eqv (.list ds) (.list []) = decide (ds = []) := by
  cases ds with
  | nil => rfl
  | cons d r => rfl
theorem lay_tup {k : Nat} {ds : List PyData} (h : ∀ d ∈ ds, PyData.canLay0 d = true ∧ PyData.depth d ≤ k) : PyData.canLay0 (.tuple ds) = true ∧ PyData.depth (.tuple ds) ≤ k + 1 := by
  obtain ⟨h1, h2⟩ := layA h
  exact ⟨h1, by show PyData.depthAll ds + 1 ≤ k + 1; omega⟩
theorem lay_lst {k : Nat} {ds : List PyData} (h : ∀ d ∈ ds, PyData.canLay0 d = true ∧ PyData.depth d ≤ k) : PyData.canLay0 (.list ds) = true ∧ PyData.depth (.list ds) ≤ k + 1 := by
  obtain ⟨h1, h2⟩ := layA h
  exact ⟨h1, by show PyData.depthAll ds + 1 ≤ k + 1; omega⟩
theorem lay_two {k : Nat} {a b : PyData} (h1 : PyData.canLay0 a = true ∧ PyData.depth a ≤ k) (h2 : PyData.canLay0 b = true ∧ PyData.depth b ≤ k) : PyData.canLay0 (.tuple [a, b]) = true ∧ PyData.depth (.tuple [a, b]) ≤ k + 1 := lay_tup fun d hd => by
  simp only [List.mem_cons, List.not_mem_nil, or_false] at hd
  rcases hd with rfl | rfl
  · exact h1
  · exact h2
theorem lay_en (e : En) : PyData.canLay0 (enD e) = true ∧ PyData.depth (enD e) ≤ 2 := ⟨rfl, Nat.le_of_ble_eq_true rfl⟩
theorem lay_leaf (k : Nat) : PyData.canLay0 (.str "leaf") = true ∧ PyData.depth (.str "leaf") ≤ k := ⟨by decide +kernel, Nat.zero_le _⟩
theorem lay_node (k : Nat) : PyData.canLay0 (.str "node") = true ∧ PyData.depth (.str "node") ≤ k := ⟨by decide +kernel, Nat.zero_le _⟩
theorem lay_fo : ∀ (n : Nat) (t : Fo n), PyData.canLay0 (foD n t) = true ∧ PyData.depth (foD n t) ≤ 4 + 3 * n
  | 0, t => by
    unfold foD
    refine lay_two (k := 3) (lay_leaf _) (lay_tup (k := 2) fun d hd => ?_)
    obtain ⟨e, _, rfl⟩ := List.mem_map.mp hd
    exact lay_en e
  | n + 1, t => by
    have h : ∀ d ∈ (foB t).map fun p => PyData.tuple [bxD p.1, foD n p.2], PyData.canLay0 d = true ∧ PyData.depth d ≤ 4 + 3 * n + 1 := fun d hd => by
      obtain ⟨p, _, rfl⟩ := List.mem_map.mp hd
      obtain ⟨h1, h2⟩ := lay_fo n p.2
      exact lay_two (k := 4 + 3 * n) ⟨rfl, Nat.le_trans (lay_bx p.1).2 (by omega)⟩ ⟨h1, h2⟩
    obtain ⟨h1, h2⟩ := lay_two (lay_node _) (lay_tup h)
    exact ⟨h1, Nat.le_trans h2 (by omega)⟩
theorem shp_of {d : PyData} (h : PyData.canLay0 d = true ∧ PyData.depth d ≤ 64) : SeqAt.shaped d = true := by
  unfold SeqAt.shaped
  rw [h.1, decide_eq_true h.2]
  rfl
theorem shp_fs {st : List Fs} (h : ∀ s ∈ st, s.1 ≤ 3) : SeqAt.shaped (.list (st.map fsD)) = true := shp_list (k := 13) (by decide) fun d hd => by
  obtain ⟨s, hs, rfl⟩ := List.mem_map.mp hd
  obtain ⟨h1, h2⟩ := lay_fo s.1 s.2
  have := h s hs
  exact ⟨h1, by show PyData.depth (foD s.1 s.2) ≤ 13; omega⟩
theorem kids_Sm {n : Nat} {t : Fo (n + 1)} (h : Sm (n + 1) t) : ∀ s ∈ kids t, Sm s.1 s.2 ∧ s.1 = n := fun s hs => by
  obtain ⟨p, hp, rfl⟩ := List.mem_map.mp hs
  exact ⟨h.2 p hp, rfl⟩
theorem noLs_fs (st : List Fs) : noLs (st.map fsD) = true := noLs_map _ noL_fs st
theorem st_last {st : List Fs} (h : st ≠ []) : ∃ r s, st = r ++ [s] := ⟨st.dropLast, st.getLast h, (List.dropLast_concat_getLast h).symm⟩
theorem stN_len : ∀ st : List Fs, st.length ≤ stN st
  | [] => Nat.le_refl _
  | s :: r => by
    have := stN_len r
    have e : stN (s :: r) = (subs s.1 s.2).length + 1 + stN r := rfl
    rw [List.length_cons, e]
    omega
theorem subs_le {m : Nat} {t : Fo m} (hm : m ≤ 3) (h : Sm m t) : (subs m t).length ≤ 128 := by
  have := subs_len m t h
  have hm : m = 0 ∨ m = 1 ∨ m = 2 ∨ m = 3 := by omega
  have : 2 * 4 ^ m ≤ 128 := by rcases hm with rfl | rfl | rfl | rfl <;> decide
  omega
theorem ents_le {m : Nat} {t : Fo m} (hm : m ≤ 3) (h : Sm m t) : (ents m t).length ≤ 256 := by
  have := ents_len m t h
  have hm : m = 0 ∨ m = 1 ∨ m = 2 ∨ m = 3 := by omega
  have : 4 ^ (m + 1) ≤ 256 := by rcases hm with rfl | rfl | rfl | rfl <;> decide
  omega
def sp__law_entries_in (K : PySem.W.Frag) : Sp := A1 fun v1 H Q => ∃ m, m ≤ 3 ∧ ∃ t : Fo m, Dp K H v1 (foD m t) ∧ Sm m t ∧ ∀ es : List En, es.Perm (ents m t) → RetL K (es.map enD) H Q
abbrev s__law_entries_in : Stmt := top 65
theorem sc__law_entries_in : FnScope ["_law_form", "_law_found", "_law_waits", "_law_word", "_law_items", "_law_branch"] ["_law_form"] (defScope s__law_entries_in) := ⟨rfl, rfl, rfl, by decide +kernel, rfl, by decide +kernel, by decide +kernel⟩
theorem ok__law_entries_in {f : Addr} {fd : FuncData} (F : FnP K "_law_entries_in" s__law_entries_in f fd) (g : G mg)   : FnOk P w K mg base CX0 1 f fd ["_law_form"] (sp__law_entries_in K) := by
  have nd := sc__law_entries_in.nd
  refine F.ok sc__law_entries_in (fun vs H Q E h => h.len) (fun cdv A outer s H vs Q E hr h => ?_)
  obtain ⟨v1, rfl, h⟩ := h
  refine ⟨_, PSs.nox (pss_cons (ps_par (i := 1) (j := 2) (by rfl) nd rfl rfl (by decide) rfl rfl (pa_cons (pe_lst pa_nil) (pa_cons (pe_lst (pa_cons (pv 0) pa_nil)) pa_nil)) (by rfl)) (pss_cons (ps_while PassesOwn.never (pt_cmpR (op_neD hr.units) (pv 2) (pe_lst pa_nil) (nomark _)) (pss_cons (ps_asg (pe_bm0 PySem.F.plainAttrs_list PySem.F.slot_list_pop PySem.F.type_list_pop mt_pop (pv 2) ) (pg_tup (n := 2) (by rfl) (pgs_cons (pg_name (i := 3) nd rfl (Or.inl rfl)) (pgs_cons (pg_name (i := 4) nd rfl (Or.inl rfl)) pgs_nil)))) (pss_one (ps_if (pt_cmpR op_eq (pv 3) pe_str (nomark _)) (pss_one (ps_expr (pe_bm PySem.F.plainAttrs_list PySem.F.slot_list_extend PySem.F.type_list_extend mt_extend (pv 1) (pa_cons (pe_callTy call_qlist (by rfl) g.f_list boot_list (pa_cons (pv 4) pa_nil)) pa_nil)))) (pss_one (ps_expr (pe_bm PySem.F.plainAttrs_list PySem.F.slot_list_extend PySem.F.type_list_extend mt_extend (pv 2) (pa_cons (pe_lc (own := [("_law_branch", 5)]) (g := gName 5) (by rfl) nd (pi_tup (pv 4)) (blkOk_by (N := ["_law_form", "_law_found", "_law_waits", "_law_word", "_law_items", "_law_branch"]) (sc := defScope s__law_entries_in) (own := [("_law_branch", 5)]) (by decide +kernel)) (fun _ _ _ _ _ => (pg_name (i := 5) nd rfl (Or.inl rfl))) (fun _ _ _ _ _ => pts_nil) (fun _ _ _ _ _ => (pe_ix (show IxR _ (rIxT K) from ix_tup) (pv 5) pe_int (fun _ _ => rfl)))) pa_nil)))))))) (pss_one (ps_ret (pv 1))))), ?_⟩
  obtain ⟨m, hm, t, h1, hs, q⟩ := h
  wtm_at "go0"
  rename_i fA H1 fn1 fe1 fp1 wA H2 fn2 fe2 fp2
  have L0 : Lsts K H [(wA, [foD m t]), (fA, [])] H2 := (((Lsts.nil (K := K) (G0 := H)).add fn1 fe1 fp1 .nil rfl).add fn2 fe2 fp2 (.cons (dpMono (fe1.trans fe2) h1) .nil) (noLs_fs [⟨m, t⟩]))
  have hle := ents_le hm hs
  have hls := subs_le hm hs
  refine i_tw (fun μ σ' H' => ∃ (st : List Fs) (fs : List En) (a b c : Option V), σ' = [some v1, some (.ref fA), some (.ref wA), a, b, c] ∧ Lsts K H [(wA, st.map fsD), (fA, fs.map enD)] H' ∧ (fs ++ st.flatMap fsE).Perm (ents m t) ∧ (∀ s ∈ st, Sm s.1 s.2 ∧ s.1 ≤ 3) ∧ stN st = μ ∧ stN st ≤ 129) (stN [⟨m, t⟩])
    ⟨[⟨m, t⟩], [], _, _, _, rfl, L0, by simp [fsE], fun s h => by rcases List.mem_singleton.mp h with rfl; exact ⟨hs, hm⟩, rfl, by show (subs m t).length + 1 + 0 ≤ 129; omega⟩ ?_
  rintro μ σ' H' ⟨st, fs, a, b, c, rfl, L, hp, hsm, rfl, h129⟩
  wtm_at "go"
  rename_i np nH nfr nhe nhp
  have L1 := L.up nhe
  refine i_neD (L1.ref (i := 0) rfl) (.lst (Evl.sq_of nhp) .nil) (shp_fs fun s h => (hsm s h).2) rfl ?_
  rw [eqv_nil]
  wtm_at "go"
  · rename_i hne
    have hne' : st ≠ [] := fun z => hne (by rw [z]; rfl)
    obtain ⟨r, s, rfl⟩ := st_last hne'
    rw [List.map_append] at L1
    refine ⟨fun σ2 G2 => ∃ μ', μ' < stN (r ++ [s]) ∧ ∃ (st : List Fs) (fs : List En) (a b c : Option V), σ2 = [some v1, some (.ref fA), some (.ref wA), a, b, c] ∧ Lsts K H [(wA, st.map fsD), (fA, fs.map enD)] G2 ∧ (fs ++ st.flatMap fsE).Perm (ents m t) ∧ (∀ s ∈ st, Sm s.1 s.2 ∧ s.1 ≤ 3) ∧ stN st = μ' ∧ stN st ≤ 129, fun _ _ h => h, ?_⟩
    wtm_at "go"
    refine i_bm0 ?_
    wtm_at "go"
    refine L1.ty (i := 0) rfl ?_
    refine L1.pop (i := 0) (ds := r.map fsD) (d := fsD s) rfl (fun y H3 L3 hy hk => ?_)
    have L3' : Lsts K H [(wA, r.map fsD), (fA, fs.map enD)] H3 := L3
    obtain ⟨k, ft⟩ := s
    obtain ⟨sk, k3⟩ := hsm ⟨k, ft⟩ (List.mem_append_right _ List.mem_cons_self)
    have hsm' : ∀ s ∈ r, Sm s.1 s.2 ∧ s.1 ≤ 3 := fun s h => hsm s (List.mem_append_left _ h)
    have hN : stN (r ++ [⟨k, ft⟩]) = stN r + ((subs k ft).length + 1) := by rw [stN_app]; rfl
    rw [List.flatMap_append] at hp
    have hp' : (fs ++ (r.flatMap fsE ++ ents k ft)).Perm (ents m t) := by simpa [fsE] using hp
    have hlf : fs.length ≤ 256 := by
      have := hp'.length_eq
      rw [List.length_append] at this
      omega
    have hrl := stN_len r
    cases k with
    | zero =>
      have hy : Dp K H3 y (.tuple [.str "leaf", .tuple ((foL ft).map enD)]) := hy
      wtm_at "go"
      rename_i gv gr gh1 gh2 gv2 gr2 gh3 gh4
      cases dpStr gh1
      wtm_at "go"
      refine i_bmA ?_
      wtm_at "go"
      refine L3'.ty (i := 1) rfl ?_
      wtm_at "go"
      refine i_qlistT gh3 (fun p H4 hp4 e4 hh => ?_)
      obtain ⟨zs, hz1, hz2⟩ := hh
      wtm_at "go"
      refine (L3'.up e4).extend (i := 1) rfl hz1 hz2 (noLs_map _ noL_en _) (by have : (foL ft).length ≤ 4 := sk; rw [List.length_map, List.length_map]; omega) (fun H5 L5 hk5 => ?_)
      wtm_at "go"
      refine ⟨stN r, by omega, r, fs ++ foL ft, _, _, _, rfl, ?_, ?_, hsm', rfl, by omega⟩
      · rw [List.map_append]
        exact L5
      · refine List.Perm.trans ?_ hp'
        rw [List.append_assoc]
        exact (List.perm_append_comm).append_left fs
    | succ k =>
      have sk : Sm (k + 1) ft := sk
      have k3 : k + 1 ≤ 3 := k3
      have hy : Dp K H3 y (.tuple [.str "node", .tuple ((foB ft).map fun p => .tuple [bxD p.1, foD k p.2])]) := hy
      wtm_at "go"
      rename_i gv gr gh1 gh2 gv2 gr2 gh3 gh4
      cases dpStr gh1
      wtm_at "go"
      refine i_bmA ?_
      wtm_at "go"
      refine L3'.ty (i := 0) rfl ?_
      wtm_at "go"
      refine i_lcTU ?_
      wtm_at "go"
      refine i_lcGTR (enc := brD k) (xs := foB ft) (fun _ => true) (fun p => foD k p.2) gh3 (by have := sk.1; omega) (fun p _ => noL_fo k p.2) (fun u x H4 R Y e4 hm4 hu hn4 hy4 => ?_) (fun p H4 zs hp4 e4 hz1 hz2 => ?_)
      · unfold brD at hu
        wtm_at "nrm"
        refine ⟨rfl, ?_⟩
        wtm_at "go"
        rename_i xu hxu
        exact hy4 rfl _ _ (Ex.refl _) hxu
      wtm_at "go"
      have ek : ((foB ft).filter fun _ => true).map (fun p => foD k p.2) = (kids ft).map fsD := by
        rw [List.filter_eq_self.mpr fun _ _ => rfl]
        show _ = ((foB ft).map fun p => (⟨k, p.2⟩ : Fs)).map fsD
        rw [List.map_map]
        rfl
      rw [ek] at hz2
      have h4 : (kids ft).length ≤ 4 := by
        show ((foB ft).map fun p => (⟨k, p.2⟩ : Fs)).length ≤ 4
        rw [List.length_map]
        exact sk.1
      refine (L3'.up e4).extend (i := 0) rfl hz1 hz2 (noLs_fs _) (by rw [List.length_map, List.length_map]; omega) (fun H5 L5 hk5 => ?_)
      wtm_at "go"
      have hN2 : stN (r ++ kids ft) = stN r + (subs (k + 1) ft).length := by rw [stN_app, kids_N]
      refine ⟨stN (r ++ kids ft), by omega, r ++ kids ft, fs, _, _, _, rfl, ?_, ?_, ?_, rfl, by omega⟩
      · rw [List.map_append]
        exact L5
      · rw [List.flatMap_append, kids_E]
        exact hp'
      · intro s h
        rcases List.mem_append.mp h with h | h
        · exact hsm' s h
        · obtain ⟨a1, a2⟩ := kids_Sm sk s h
          exact ⟨a1, by omega⟩
  · rename_i hz
    have hz' : st = [] := List.map_eq_nil_iff.mp hz
    subst hz'
    have hp' : fs.Perm (ents m t) := by simpa using hp
    wtm_at "go"
    exact q fs hp' fA nH (Evl.fresh_back (Ex.refl _) (by have := L1.fr (fA, fs.map enD) (List.mem_cons_of_mem _ List.mem_cons_self); exact this)) L1.ex (L1.ref (i := 1) rfl)
theorem use__law_entries_in {m : Nat} {t : Fo m} (hm : m ≤ 3) (h : Dp K H v1 (foD m t)) (hs : Sm m t) (q : ∀ es : List En, es.Perm (ents m t) → ∀ p H2, H p = none → Ex H H2 → Dp K H2 (.ref p) (.list (es.map enD)) → Q (.ref p) H2) : sp__law_entries_in K [v1] H Q E := ⟨_, rfl, m, hm, t, h, hs, q⟩
end
end Wb

namespace Wb
open PySem PySem.Spec PyProof.Rows L2 StX
open Evl (Ex Ex.refl Ex.trans Ex.new)
local macro_rules | `(tactic| wtm_at "dp") => `(tactic| first | with_reducible assumption | with_reducible exact Dp.int _ | with_reducible exact Dp.bl _ | with_reducible exact Dp.str _ | with_reducible exact Dp.non | ((with_reducible refine' dpMono ?dme (by with_reducible assumption)); (case dme => wtm_at "ex")) | ((with_reducible refine' Dp.tup (Evl.st_of ?dph) ?dpa); (case dph => wtm_at "hs"); (case dpa => wtm_at "dpa")) | ((with_reducible refine' Dp.lst (Evl.sq_of ?dph) ?dpa); (case dph => wtm_at "hs"); (case dpa => wtm_at "dpa")))
local macro_rules | `(tactic| wtm_at "dpa") => `(tactic| first | with_reducible exact DpAll.nil | ((with_reducible refine' DpAll.cons ?dp1 ?dp2); (case dp1 => wtm_at "dp"); (case dp2 => wtm_at "dpa")) | with_reducible assumption | ((with_reducible refine' dpMonoA ?dme (by with_reducible assumption)); (case dme => wtm_at "ex")))
local macro_rules | `(tactic| wtm_at "sz") => `(tactic| first | with_reducible assumption | ((with_reducible refine' sz_mul ?sz1 ?sz2); (case sz1 => wtm_at "sz"); (case sz2 => wtm_at "sz")) | ((with_reducible refine' sz_add ?sz1 ?sz2); (case sz1 => wtm_at "sz"); (case sz2 => wtm_at "sz")) | ((with_reducible refine' sz_sub ?sz1 ?sz2); (case sz1 => wtm_at "sz"); (case sz2 => wtm_at "sz")) | ((with_reducible refine' sz_neg ?sz1); (case sz1 => wtm_at "sz")) | ((with_reducible refine' sz_div ?sz1); (case sz1 => wtm_at "sz")) | ((with_reducible refine' sz_fdiv ?sz1); (case sz1 => wtm_at "sz")) | exact sz_lit (by decide) | wtm_at "sz2")
local macro_rules | `(tactic| wtm_at "szb") => `(tactic| first | with_reducible assumption | ((with_reducible refine' sz_mono ?szb1 ?szb2); (case szb1 => wtm_at "sz"); (case szb2 => decide)))
local macro_rules | `(tactic| wtm_at "nz") => `(tactic| first | assumption | decide | omega)
local macro_rules | `(tactic| wtm_at "shaped") => `(tactic| first | rfl | decide)
local macro_rules | `(tactic| wtm_at "sset") => `(tactic| ((dsimp only [L2.wipe, List.set, List.set_cons_zero, List.set_cons_succ]) <;> exact rfl))
local macro_rules | `(tactic| wtm_at "nrm") => `(tactic| dsimp only [L2.start, L2.wipe, List.set, List.append, List.map, List.map_cons, List.map_nil, List.length_cons, List.length_nil, Nat.reduceAdd, Nat.reduceSub, List.reduceReplicate, List.replicate, List.cons_append, List.nil_append, List.set_cons_zero, List.set_cons_succ])
local macro_rules | `(tactic| wtm_at "st") => `(tactic| first
  | ((with_reducible refine' i_var (v := ?u0) ?u1 ?uq); (case u1 => exact rfl))
  | ((with_reducible refine' i_nameN ?u0 ?uq); (case u0 => wtm_at "sset"))
  | (with_reducible refine' i_op ?uq)
  | (with_reducible refine' i_c ?uq)
  | (with_reducible refine' i_I0 ?uq)
  | ((with_reducible refine' i_ixTI (i := ?u0) ?u1 ?u2 ?u3 ?uq); (case u1 => wtm_at "dp"); (case u2 => wtm_at "ex"); (case u3 => exact rfl))
  | ((with_reducible refine' i_ixT (d := ?u0) ?u1 ?u2 ?u3 (fun xu hxu => ?uq)); (case u1 => wtm_at "dp"); (case u2 => wtm_at "ex"); (case u3 => exact rfl))
  | ((with_reducible refine' i_mul ?u0 ?u1 ?u2 ?uq); (case u0 => wtm_at "sz"); (case u1 => wtm_at "sz"); (case u2 => first | decide | omega))
  | (with_reducible refine' i_seq ?uq)
  | (with_reducible refine' i_asg ?uq)
  | (with_reducible refine' i_ret ?uq)
  | (with_reducible refine' i_ifs ?uq)
  | (with_reducible refine' i_drop ?uq)
  | (with_reducible refine' i_next ?uq)
  | (with_reducible refine' i_cons ?uq)
  | (with_reducible refine' i_nil ?uq)
  | (with_reducible refine' i_cl ?uq)
  | (with_reducible refine' i_cb ?uq)
  | (with_reducible refine' i_tup ?uq)
  | (with_reducible refine' i_lst ?uq)
  | ((with_reducible refine' i_mkT ?u0 (fun np nH nhe nhp => ?uq)); (case u0 => exact Nat.le_of_ble_eq_true rfl))
  | (with_reducible refine' i_test ?uq)
  | (with_reducible refine' i_B ?uq)
  | (with_reducible refine' i_k ?uq)
  | (with_reducible refine' i_and ?uq)
  | (with_reducible refine' i_or ?uq)
  | (with_reducible refine' i_not ?uq)
  | (with_reducible refine' i_andV ?uq)
  | (with_reducible refine' i_orV ?uq)
  | (with_reducible refine' i_notV ?uq)
  | (with_reducible refine' i_if ?uq)
  | (with_reducible refine' i_un ?uq)
  | (with_reducible refine' i_U ?uq)
  | (with_reducible refine' i_iteT ?uq)
  | (with_reducible refine' i_iteF ?uq)
  | ((with_reducible refine' i_iteTr ?u0 ?uq); (case u0 => first | with_reducible rfl | decide | (simp only [dIsInt, dIsBool, dIsTup, dIsStr, dIsLst, Bool.not_true, Bool.not_false]; done)))
  | ((with_reducible refine' i_iteFr ?u0 ?uq); (case u0 => first | with_reducible rfl | decide | (simp only [dIsInt, dIsBool, dIsTup, dIsStr, dIsLst, Bool.not_true, Bool.not_false]; done)))
  | (with_reducible refine' i_ite (fun hif => ?uqa) (fun hif => ?uqb))
  | (with_reducible refine' i_iteN (fun hif => ?uqa) (fun hif => ?uqb))
  | (with_reducible refine' i_iteBN (fun hif => ?uqa) (fun hif => ?uqb))
  | (with_reducible refine' i_iteB (fun hif => ?uqa) (fun hif => ?uqb))
  | ((with_reducible refine' i_modN ?u0 ?uq); (case u0 => wtm_at "nz"))
  | ((with_reducible refine' i_fdX ?u0 ?u1 ?u2 ?uq); (case u0 => wtm_at "nz"); (case u1 => wtm_at "sz"); (case u2 => first | decide | omega))
  | ((with_reducible refine' i_pow ?u0 ?uq); (case u0 => exact ⟨by decide, by decide +kernel⟩))
  | (with_reducible refine' i_eqI ?uq)
  | (with_reducible refine' i_neI ?uq)
  | (with_reducible refine' i_gcd ?uq)
  | (with_reducible refine' i_qabs ?uq)
  | (with_reducible refine' i_qint ?uq)
  | (with_reducible refine' i_qintB ?uq)
  | (with_reducible refine' i_qmax2 ?uq)
  | (with_reducible refine' i_qmin2 ?uq)
  | (with_reducible refine' i_isB ?uq)
  | (with_reducible refine' i_notB ?uq)
  | (with_reducible refine' i_chain ?uq)
  | (with_reducible refine' i_qisN ?uq)
  | (with_reducible refine' i_qnotN ?uq)
  | (with_reducible refine' i_yes ?uq)
  | (with_reducible refine' i_par ?uq)
  | (with_reducible refine' i_par3 ?uq)
  | ((with_reducible refine' i_par2 ?u0 ?uq); (case u0 => wtm_at "sset"))
  | ((with_reducible refine' i_par33 ?u0 ?uq); (case u0 => wtm_at "sset"))
  | ((with_reducible refine' i_ixLI (i := ?u0) ?u1 ?u2 ?u3 ?uq); (case u1 => wtm_at "dp"); (case u2 => wtm_at "ex"); (case u3 => exact rfl))
  | ((with_reducible refine' i_ixL (d := ?u0) ?u1 ?u2 ?u3 (fun xu hxu => ?uq)); (case u1 => wtm_at "dp"); (case u2 => wtm_at "ex"); (case u3 => exact rfl))
  | ((with_reducible refine' i_qlenT ?u0 ?uq); (case u0 => wtm_at "dp"))
  | ((with_reducible refine' i_qlenL ?u0 ?uq); (case u0 => wtm_at "dp"))
  | ((with_reducible refine' i_gtup ?u0 ?u1 ?u2 (fun gvs gdp => ?uq)); (case u0 => wtm_at "dp"); (case u1 => wtm_at "ex"); (case u2 => exact rfl))
  | ((with_reducible refine' i_glst ?u0 ?u1 ?u2 (fun gvs gdp => ?uq)); (case u0 => wtm_at "dp"); (case u1 => wtm_at "ex"); (case u2 => exact rfl))
  | ((with_reducible refine' i_gconsI ?u0 (fun gr gh => ?uq)); (case u0 => with_reducible assumption))
  | ((with_reducible refine' i_gconsA ?u0 (fun gv gr gh1 gh2 => ?uq)); (case u0 => with_reducible assumption))
  | ((with_reducible refine' i_gnilA ?u0 ?uq); (case u0 => with_reducible assumption))
  | ((with_reducible refine' i_isiI ?u0 ?uq); (case u0 => wtm_at "dp"))
  | ((with_reducible refine' i_isiB ?u0 ?uq); (case u0 => wtm_at "dp"))
  | ((with_reducible refine' i_isiT ?u0 ?uq); (case u0 => wtm_at "dp"))
  | ((with_reducible refine' i_isiS ?u0 ?uq); (case u0 => wtm_at "dp"))
  | ((with_reducible refine' i_isiL ?u0 ?uq); (case u0 => wtm_at "dp"))
  | ((with_reducible refine' i_eqD ?u0 ?u1 ?u2 ?u3 ?uq); (case u0 => wtm_at "dp"); (case u1 => wtm_at "dp"); (case u2 => wtm_at "shaped"); (case u3 => wtm_at "shaped"))
  | ((with_reducible refine' i_neD ?u0 ?u1 ?u2 ?u3 ?uq); (case u0 => wtm_at "dp"); (case u1 => wtm_at "dp"); (case u2 => wtm_at "shaped"); (case u3 => wtm_at "shaped"))
  | wtm_at "st2"
  | wtm_at "use")
local macro_rules | `(tactic| wtm_at "go") => `(tactic| repeat' (wtm_at "st"))
local macro_rules | `(tactic| wtm_at "go0") => `(tactic| ((try dsimp only [L2.cxOf, L2.Cx.nox, L2.Cx.wish, L2.Cx.tr, L2.Cx.blk]); (try wtm_at "nrm"); wtm_at "go"))
local macro_rules | `(tactic| wtm_at "fin") => `(tactic| ((try dsimp only); first | with_reducible assumption | assumption | ((with_reducible refine' Ret.use ?rur ?rue ?rud); (case rur => with_reducible assumption); (case rue => wtm_at "ex"); (case rud => wtm_at "dp"))))
local macro_rules | `(tactic| wtm_at "exh") => `(tactic| first | with_reducible assumption | with_reducible exact Ex.refl _ | with_reducible exact ex_hid | ((with_reducible refine' Ex.trans ?exe (by with_reducible assumption)); (case exe => wtm_at "exh")) | ((with_reducible refine' Ex.trans ?exe (hid_ex (by with_reducible assumption))); (case exe => wtm_at "exh")))
local macro_rules | `(tactic| wtm_at "ex") => `(tactic| first | with_reducible assumption | with_reducible exact Ex.refl _ | with_reducible exact ex_hid | ((with_reducible refine' Ex.trans ?exe (by with_reducible assumption)); (case exe => wtm_at "ex")) | ((with_reducible refine' Ex.trans ?exe (hid_ex (by with_reducible assumption))); (case exe => wtm_at "ex")) | ((with_reducible refine' Ex.trans ?exe ex_hid); (case exe => wtm_at "exh")))
local macro_rules | `(tactic| wtm_at "bag") => `(tactic| first | with_reducible assumption | ((with_reducible refine' Bag.mono ?bgm (by with_reducible assumption)); (case bgm => wtm_at "bag")))
local macro_rules | `(tactic| wtm_at "hs") => `(tactic| first | with_reducible assumption | ((with_reducible refine' hid_tup ?hb ?hp); (case hp => with_reducible assumption); (case hb => wtm_at "bag")) | ((with_reducible refine' hid_new ?hb ?hn ?hp); (case hp => with_reducible assumption); (case hn => with_reducible assumption); (case hb => wtm_at "bag")) | ((with_reducible refine' ex_at ?exe (by with_reducible assumption)); (case exe => wtm_at "ex")))
local macro_rules | `(tactic| wtm_at "st2") => `(tactic| first
  | ((with_reducible refine' i_mulC ?u0 ?uq); (case u0 => first | exact cmul_l (by decide) | exact cmul_r (by decide)))
  | ((with_reducible refine' i_ixLr (v := ?u0) ?u1 ?u2 ?uq); (case u1 => with_reducible assumption); (case u2 => exact rfl))
  | (with_reducible refine' i_sub ?uq)
  | ((with_reducible refine' i_mkL ?u0 (fun np nH nfr nhe nhp => ?uq)); (case u0 => exact Nat.le_of_ble_eq_true rfl))
  | ((with_reducible refine' i_setL (n := ?u0) ?u1 ?u2 (fun sH sh se => ?uq)); (case u1 => with_reducible assumption); (case u2 => exact rfl))
  | (with_reducible refine' i_sl ?uq)
  | (with_reducible refine' i_nopart ?uq)
  | (with_reducible refine' i_part ?uq)
  | (with_reducible refine' i_part1 ?uq))
local macro_rules | `(tactic| wtm_at "sz2") => `(tactic| ((with_reducible refine' sz_fmod ?sz1 ?sz2); (case sz1 => wtm_at "nz"); (case sz2 => wtm_at "sz")))
local macro_rules | `(tactic| wtm_at "stb") => `(tactic| first
  | ((with_reducible refine' i_mkTB ?u0 ?u1 (fun np nH nhe nhb nhp => ?uq)); (case u0 => exact Nat.le_of_ble_eq_true rfl); (case u1 => wtm_at "bag"))
  | ((with_reducible refine' i_mkLB ?u0 ?u1 (fun np nH nfr nhe nhb nhp => ?uq)); (case u0 => exact Nat.le_of_ble_eq_true rfl); (case u1 => wtm_at "bag"))
  | wtm_at "st")
local macro_rules | `(tactic| wtm_at "gob") => `(tactic| repeat' (wtm_at "stb"))
local macro_rules | `(tactic| wtm_at "gob0") => `(tactic| ((try dsimp only [L2.cxOf, L2.Cx.nox, L2.Cx.wish, L2.Cx.tr, L2.Cx.blk]); (try wtm_at "nrm"); wtm_at "gob"))
local macro_rules | `(tactic| wtm_at "st") => `(tactic| first | ((with_reducible refine' i_ixTS (z := ?u0) ?u1 ?u2 ?u3 ?uq); (case u1 => wtm_at "dp"); (case u2 => wtm_at "ex"); (case u3 => exact rfl)) | fail)
local macro_rules | `(tactic| wtm_at "st2") => `(tactic| first | ((with_reducible refine' i_eqST ?u0 ?uq); (case u0 => with_reducible rfl)) | ((with_reducible refine' i_eqSF ?u0 ?uq); (case u0 => decide +kernel)) | ((with_reducible refine' i_neST ?u0 ?uq); (case u0 => with_reducible rfl)) | ((with_reducible refine' i_neSF ?u0 ?uq); (case u0 => decide +kernel)) | fail)
section
variable {P : Program} {w : World} {K : PySem.W.Frag} {mg : Str → Option Value} {base : Heap} {H H' : Hp} {Q : VK} {E : XK} {v1 v2 v3 v4 v5 : V}
local macro_rules | `(tactic| wtm_at "use") => `(tactic| ((with_reducible refine' use__law_draw ?u0 ?u1 ?u2 (fun dn dH dn0 dn1 de db => ?uq)); (case u0 => wtm_at "bag"); (case u1 => wtm_at "pos"); (case u2 => wtm_at "szb")))
local macro_rules | `(tactic| wtm_at "pos") => `(tactic| first | assumption | decide | omega)
local macro_rules | `(tactic| wtm_at "oneof") => `(tactic| ((with_reducible refine' use__law_one_of ?u0 ?u1 ?u2 ?u3 ?uq); (case u0 => wtm_at "bag"); (case u1 => wtm_at "dp"); (case u2 => exact Nat.le_of_ble_eq_true rfl); (case u3 => exact Nat.le_of_ble_eq_true rfl)))
theorem perm_map_inv {α β : Type} {enc : α → β} : ∀ {xs : List α} {es : List β}, es.Perm (xs.map enc) → ∃ ys : List α, ys.Perm xs ∧ es = ys.map enc
  | [], es, h => ⟨[], List.Perm.refl _, List.Perm.eq_nil h⟩
  | x :: xs, es, h => by
    have hm : enc x ∈ es := h.mem_iff.mpr (by rw [List.map_cons]; exact List.mem_cons_self)
    obtain ⟨l1, l2, rfl⟩ := List.append_of_mem hm
    have h2 : (l1 ++ l2).Perm (xs.map enc) := by
      have := List.perm_middle.symm.trans h
      rw [List.map_cons] at this
      exact this.cons_inv
    obtain ⟨ys, h3, h4⟩ := perm_map_inv h2
    obtain ⟨y1, y2, e1, e2, e3⟩ := List.append_eq_map_iff.mp h4
    subst e1 e2 e3
    exact ⟨y1 ++ x :: y2, List.perm_middle.trans (h3.cons x), by rw [List.map_append, List.map_cons]⟩
theorem dpIntsOf : ∀ {ns : List Int}, DpAll K H (ns.map V.int) (ns.map PyData.int)
  | [] => .nil
  | n :: ns => .cons (.int n) dpIntsOf
section
variable {σ : L2.St} {te tl : TE} {tt : TT} {g : TG} {vs : List Nat} {j : Nat} {v : V}
/-- [.. for j in range(n)], nothing but new things made -/
theorem i_lcRG {n : Nat} (f : Nat → PyData) (hn : n ≤ 1000) (hf : ∀ i, noL (f i) = true) (hw : ∀ x, wipe ((wipe σ vs).set j (some x)) vs = wipe σ vs)
    (he : ∀ (i : Nat) (H2 : Hp) (R : VK), i < n → Ex H H2 → (∀ w H3, Ex H2 H3 → Dp K H3 w (f i) → R w H3) → te ((wipe σ vs).set j (some (.int (i : Int)))) H2 R)
    (q : ∀ p H2 zs, H p = none → Ex H H2 → H2 p = some (.lst zs) → DpAll K H2 zs ((List.range n).map f) → Q (.ref p) H2) : tLc (iRng1 (kA [.int (n : Int)])) (gName j) tYes te vs σ H Q := by
  refine ⟨(n : Int), rfl, by omega, by omega, fun D0 hD => ?_⟩
  refine lc_range (lo := 0) (n := ((n : Int)).toNat) (fun i H' => Acc K H D0 ((List.range i).map f) H') (Acc.new hD) (fun i H' hi p => ?_) (fun H' p => ?_)
  · have e0 : (0 : Int) + (i : Int) = (i : Int) := Int.zero_add _
    show wipe ((wipe σ vs).set j (some (.int ((0 : Int) + (i : Int))))) vs = wipe σ vs ∧ tYes ((wipe σ vs).set j (some (.int ((0 : Int) + (i : Int))))) H' fun b' H3 => _
    rw [e0]
    refine ⟨hw _, he i H' _ (by omega) p.2.1 fun w H3 e3 hy => ?_⟩
    have := (p.up e3).put (by rw [List.length_map, List.length_range]; omega) (fun z hz => by
      obtain ⟨k, _, rfl⟩ := List.mem_map.mp hz
      exact hf k) (hf i) hy
    rw [List.range_succ, List.map_append]
    exact this
  · obtain ⟨p1, p2, acc, p3, p4⟩ := p
    exact q D0 H' acc p1 p2 p3 p4
/-- [.. for x in xs], each turn draws from the bag -/
theorem i_lcGLB {α β : Type} {enc : α → PyData} {enc2 : β → PyData} {key : β → α} {xs : List α} {P : β → Prop} {b : Addr} (hb : Bag b H) (h : Dp K (hid b H) v (.list (xs.map enc))) (hl : xs.length ≤ 1000) (hn : ∀ y, noL (enc2 y) = true)
    (ht : ∀ (u : V) (x : α) (H2 : Hp) (R : Hp → Prop) (Y : VK), Ex (hid b H) (hid b H2) → Bag b H2 → x ∈ xs → Dp K (hid b H2) u (enc x) → (∀ w H3 y, key y = x → P y → Ex (hid b H2) (hid b H3) → Bag b H3 → Dp K (hid b H3) w (enc2 y) → Y w H3) →
      g u (wipe σ vs) H2 fun σ2 H3 => wipe σ2 vs = wipe σ vs ∧ tt σ2 H3 fun b H4 => if b = true then te σ2 H4 Y else R H4)
    (q : ∀ p H2 (ys : List β), ys.map key = xs → (∀ y ∈ ys, P y) → Ex (hid b H) (hid b H2) → Bag b H2 → Dp K (hid b H2) (.ref p) (.list (ys.map enc2)) → Q (.ref p) H2) : tLc (iList K (tC v)) g tt te vs σ H Q := by
  obtain ⟨a, us, rfl, hs, ha⟩ := dpLst h
  have el : us.length = xs.length := by rw [dpLen ha, List.length_map]
  refine ⟨a, rfl, ⟨us, Evl.ex_l ex_hid hs⟩, fun D hD => ?_⟩
  have hDb : D ≠ b := hb.ne hD
  have hD' : hid b H D = none := by
    unfold hid
    rw [if_neg hDb]
    exact hD
  have n0 : Acc K (hid b H) D [] (hid b (upd H D (.lst []))) := by
    rw [hid_updn hDb]
    exact Acc.new hD'
  refine lc_list (xs := us) (fun i H' => Bag b H' ∧ ∃ ys : List β, ys.map key = xs.take i ∧ (∀ y ∈ ys, P y) ∧ Acc K (hid b H) D (ys.map enc2) (hid b H')) ⟨bag_upd hDb hb, [], by simp, fun y hy => (by cases hy), n0⟩ (fun i H' _ p => ?_) (fun i u H' hi p => ?_) (fun H' p => ?_)
  · obtain ⟨_, ys, _, _, p⟩ := p
    exact Evl.ex_l ex_hid (Evl.ex_l p.2.1 hs)
  · obtain ⟨pb, ys, py, pP, p⟩ := p
    obtain ⟨d, hd, hu⟩ := dpIdx ha hi
    rw [List.getElem?_map] at hd
    obtain ⟨x, hx, rfl⟩ := Option.map_eq_some_iff.mp hd
    have ht1 : xs.take (i + 1) = xs.take i ++ [x] := by rw [List.take_add_one, hx]; rfl
    have hyl : ys.length ≤ i := by
      have : (ys.map key).length = (xs.take i).length := by rw [py]
      rw [List.length_map, List.length_take] at this
      omega
    have hil : i < xs.length := (List.getElem?_eq_some_iff.mp hx).1
    refine ht u x H' _ _ p.2.1 pb (List.mem_of_getElem? hx) (dpMono p.2.1 hu) fun w H3 y hk hP e3 b3 hw => ?_
    obtain ⟨acc, q1, q2, q3⟩ := (p.up e3).put (by rw [List.length_map]; omega) (fun z hz => by
      obtain ⟨k, _, rfl⟩ := List.mem_map.mp hz
      exact hn k) (hn y) hw
    refine ⟨acc, (of_hid q1).2, q2, bag_upd hDb b3, ys ++ [y], ?_, ?_, ?_⟩
    · rw [List.map_append, py, ht1, ← hk]
      rfl
    · intro z hz
      rcases List.mem_append.mp hz with h | h
      · exact pP z h
      · rcases List.mem_singleton.mp h with rfl
        exact hP
    · rw [hid_updn hDb, List.map_append]
      exact q3
  · obtain ⟨pb, ys, py, pP, p⟩ := p
    rw [el, List.take_length] at py
    obtain ⟨p1, p2, acc, p3, p4⟩ := p
    exact q D H' ys py pP p2 pb (.lst (Evl.sq_of p3) p4)
end
def sp__law_boxes_in (K : PySem.W.Frag) : Sp := A1 fun v1 H Q => ∃ m, m ≤ 3 ∧ ∃ t : Fo m, Dp K H v1 (foD m t) ∧ Sm m t ∧ ∀ es : List En, es.Perm (ents m t) → RetL K ((es.map (·.2)).map bxD) H Q
abbrev s__law_boxes_in : Stmt := top 61
theorem sc__law_boxes_in : FnScope ["_law_form", "_law_entry"] ["_law_form"] (defScope s__law_boxes_in) := ⟨rfl, rfl, rfl, by decide +kernel, rfl, by decide +kernel, by decide +kernel⟩
theorem ok__law_boxes_in {f : Addr} {fd : FuncData} (F : FnP K "_law_boxes_in" s__law_boxes_in f fd) (g : G mg) (c__law_entries_in : Cl P w K mg base 1 "_law_entries_in" (sp__law_entries_in K))  : FnOk P w K mg base CX0 2 f fd ["_law_form"] (sp__law_boxes_in K) := by
  have nd := sc__law_boxes_in.nd
  refine F.ok sc__law_boxes_in (fun vs H Q E h => h.len) (fun cdv A outer s H vs Q E hr h => ?_)
  obtain ⟨v1, rfl, h⟩ := h
  refine ⟨_, PSs.nox (pss_one (ps_ret (pe_lc (own := [("_law_entry", 1)]) (g := gName 1) (by rfl) nd (pi_list (pc c__law_entries_in hr (by first | decide | omega) (by rfl) (pa_cons (pv 0) pa_nil))) (blkOk_by (N := ["_law_form", "_law_entry"]) (sc := defScope s__law_boxes_in) (own := [("_law_entry", 1)]) (by decide +kernel)) (fun _ _ _ _ _ => (pg_name (i := 1) nd rfl (Or.inl rfl))) (fun _ _ _ _ _ => pts_nil) (fun _ _ _ _ _ => (pe_ix (show IxR _ (rIxT K) from ix_tup) (pv 1) pe_int (fun _ _ => rfl)))))), ?_⟩
  obtain ⟨m, hm, t, h1, hs, q⟩ := h
  have hle := ents_le hm hs
  wtm_at "go0"
  refine i_lcLU ?_
  wtm_at "go"
  refine use__law_entries_in hm h1 hs (fun es hp p H2 hpn e2 hl => ?_)
  have hel : es.length ≤ 256 := by rw [hp.length_eq]; exact hle
  refine i_lcGL (enc := enD) (xs := es) (fun _ => true) (fun e => bxD e.2) hl (by omega) (fun x _ => noL_bx _) (fun u x H3 R Y e3 hm3 hu hn hy => ?_) (fun p3 H3 hp3 e3 hl3 => ?_)
  · unfold enD at hu
    wtm_at "nrm"
    refine ⟨rfl, ?_⟩
    wtm_at "go"
    rename_i xu hxu
    exact hy rfl _ _ (Ex.refl _) hxu
  · rw [List.filter_eq_self.mpr fun _ _ => rfl] at hl3
    refine q es hp p3 H3 (ex_none hp3 e2) (e2.trans e3) ?_
    rw [List.map_map]
    exact hl3
theorem use__law_boxes_in {m : Nat} {t : Fo m} (hm : m ≤ 3) (h : Dp K H v1 (foD m t)) (hs : Sm m t) (q : ∀ es : List En, es.Perm (ents m t) → ∀ p H2, H p = none → Ex H H2 → Dp K H2 (.ref p) (.list ((es.map (·.2)).map bxD)) → Q (.ref p) H2) : sp__law_boxes_in K [v1] H Q E := ⟨_, rfl, m, hm, t, h, hs, q⟩
/-- drawn entries: different numbers, boxes that are boxes -/
def EnOk (es : List En) : Prop := (es.map (·.1)).Nodup ∧ ∀ e ∈ es, e.2.ok
def sp__law_drawn_entries (K : PySem.W.Frag) : Sp := A2 fun v1 v2 H Q => ∃ (b : Addr) (n : Nat), v1 = .ref b ∧ v2 = .int (n : Int) ∧ n ≤ 14 ∧ Bag b H ∧ ∀ p H2 (es : List En), es.length = n → EnOk es → Ex (hid b H) (hid b H2) → Bag b H2 → Dp K (hid b H2) (.ref p) (.list (es.map enD)) → Q (.ref p) H2
theorem nums_nodup (n : Nat) : ((List.range n).map fun i : Nat => ((i : Int) * 7 - 9)).Nodup := List.Pairwise.map _ (fun a b (h : a ≠ b) => by omega) List.nodup_range
abbrev s__law_drawn_entries : Stmt := top 66
theorem sc__law_drawn_entries : FnScope ["_law_bag_here", "_law_size", "_law_numbers", "_law_number", "_law_at"] ["_law_bag_here", "_law_size"] (defScope s__law_drawn_entries) := ⟨rfl, rfl, rfl, by decide +kernel, rfl, by decide +kernel, by decide +kernel⟩
theorem ok__law_drawn_entries {f : Addr} {fd : FuncData} (F : FnP K "_law_drawn_entries" s__law_drawn_entries f fd) (g : G mg) (c__law_shuffled : Cl P w K mg base 2 "_law_shuffled" (sp__law_shuffled K)) (c__law_small_box : Cl P w K mg base 3 "_law_small_box" (sp__law_small_box K))  : FnOk P w K mg base CX0 4 f fd ["_law_bag_here", "_law_size"] (sp__law_drawn_entries K) := by
  have nd := sc__law_drawn_entries.nd
  refine F.ok sc__law_drawn_entries (fun vs H Q E h => h.len) (fun cdv A outer s H vs Q E hr h => ?_)
  obtain ⟨v1, v2, rfl, h⟩ := h
  refine ⟨_, PSs.nox (pss_cons (ps_set (i := 2) nd rfl (Or.inl rfl) (pc c__law_shuffled hr (by first | decide | omega) (by rfl) (pa_cons (pv 0) (pa_cons (pe_lc (own := [("_law_at", 4)]) (g := gName 4) (by rfl) nd (pi_range1 (by rfl) g.f_range (pa_cons (pv 1) pa_nil)) (blkOk_by (N := ["_law_bag_here", "_law_size", "_law_numbers", "_law_number", "_law_at"]) (sc := defScope s__law_drawn_entries) (own := [("_law_at", 4)]) (by decide +kernel)) (fun _ _ _ _ _ => (pg_name (i := 4) nd rfl (Or.inl rfl))) (fun _ _ _ _ _ => pts_nil) (fun _ _ _ _ _ => (pe_op op_sub (pe_op op_mul (pv 4) pe_int) pe_int))) pa_nil)))) (pss_one (ps_ret (pe_lc (own := [("_law_number", 3)]) (g := gName 3) (by rfl) nd (pi_list (pv 2)) (blkOk_by (N := ["_law_bag_here", "_law_size", "_law_numbers", "_law_number", "_law_at"]) (sc := defScope s__law_drawn_entries) (own := [("_law_number", 3)]) (by decide +kernel)) (fun _ _ _ _ _ => (pg_name (i := 3) nd rfl (Or.inl rfl))) (fun _ _ _ _ _ => pts_nil) (fun _ _ _ _ _ => (pe_tup (pa_cons (pv 3) (pa_cons (pc c__law_small_box hr (by first | decide | omega) (by rfl) (pa_cons (pv 0) pa_nil)) pa_nil)))))))), ?_⟩
  obtain ⟨b, n, rfl, rfl, hn, hb, q⟩ := h
  wtm_at "gob0"
  refine i_lcRU ?_
  wtm_at "gob"
  refine i_lcRG (K := K) (n := n) (fun i => .int ((i : Int) * 7 - 9)) (by omega) (fun _ => rfl) (fun x => wipe1 x) (fun i H2 R hi e2 hr2 => ?_) (fun p H2 zs hp e2 hz1 hz2 => ?_)
  · wtm_at "nrm"
    wtm_at "gob"
    exact hr2 _ _ (Ex.refl _) (Dp.int _)
  have en : (List.range n).map (fun i : Nat => PyData.int ((i : Int) * 7 - 9)) = ((List.range n).map fun i : Nat => ((i : Int) * 7 - 9)).map PyData.int := by rw [List.map_map]; rfl
  rw [en] at hz2
  have hnd := nums_nodup n
  have hln : ((List.range n).map fun i : Nat => ((i : Int) * 7 - 9)).length = n := by rw [List.length_map, List.length_range]
  generalize (List.range n).map (fun i : Nat => ((i : Int) * 7 - 9)) = ns at *
  have hzs := dpInts hz2
  subst hzs
  have hl1 : Dp K (hid b H2) (.ref p) (.list (ns.map PyData.int)) := .lst (Evl.sq_of (hid_new hb hp hz1)) dpIntsOf
  wtm_at "gob"
  refine use__law_shuffled (b := b) (hb.mono e2) hl1 (by rw [List.length_map]; omega) (fun es a us H3 hpm e3 b3 h3 d3 => ?_)
  obtain ⟨ms, hms, rfl⟩ := perm_map_inv hpm
  have hml : ms.length = n := by rw [hms.length_eq, hln]
  wtm_at "gob"
  refine i_lcLU ?_
  wtm_at "gob"
  refine i_lcGLB (enc := PyData.int) (enc2 := enD) (key := fun e : En => e.1) (P := fun e => e.2.ok) b3 (.lst (Evl.sq_of h3) d3) (by omega) noL_en (fun u x H4 R Y e4 b4 hm4 hu hY => ?_) (fun p5 H5 ys hk hP e5 b5 hl5 => ?_)
  · cases dpInt hu
    wtm_at "nrm"
    refine ⟨rfl, ?_⟩
    wtm_at "gob"
    refine use__law_small_box b4 (fun v H5 x5 hok e5 b5 hv => ?_)
    wtm_at "gob"
    rename_i np nH nhe nhb nhp
    exact hY _ _ (x, x5) rfl hok (by wtm_at "ex") nhb (.tup (Evl.st_of nhp) (.cons (.int _) (.cons (dpMono (hid_ex nhe) hv) .nil)))
  · have hyl : ys.length = n := by rw [← List.length_map (f := fun e : En => e.1), hk, hml]
    refine q p5 H5 ys hyl ⟨?_, hP⟩ (by wtm_at "ex") b5 hl5
    rw [hk]
    exact hms.nodup_iff.mpr hnd
theorem use__law_drawn_entries {b : Addr} {n : Nat} (hn : n ≤ 14) (hb : Bag b H) (q : ∀ p H2 (es : List En), es.length = n → EnOk es → Ex (hid b H) (hid b H2) → Bag b H2 → Dp K (hid b H2) (.ref p) (.list (es.map enD)) → Q (.ref p) H2) : sp__law_drawn_entries K [.ref b, .int (n : Int)] H Q E := ⟨_, _, rfl, b, n, rfl, rfl, hn, hb, q⟩
end
end Wb

namespace Wb
open PySem PySem.Spec PyProof.Rows L2 StX
open Evl (Ex Ex.refl Ex.trans Ex.new)
local macro_rules | `(tactic| wtm_at "dp") => `(tactic| first | with_reducible assumption | with_reducible exact Dp.int _ | with_reducible exact Dp.bl _ | with_reducible exact Dp.str _ | with_reducible exact Dp.non | ((with_reducible refine' dpMono ?dme (by with_reducible assumption)); (case dme => wtm_at "ex")) | ((with_reducible refine' Dp.tup (Evl.st_of ?dph) ?dpa); (case dph => wtm_at "hs"); (case dpa => wtm_at "dpa")) | ((with_reducible refine' Dp.lst (Evl.sq_of ?dph) ?dpa); (case dph => wtm_at "hs"); (case dpa => wtm_at "dpa")))
local macro_rules | `(tactic| wtm_at "dpa") => `(tactic| first | with_reducible exact DpAll.nil | ((with_reducible refine' DpAll.cons ?dp1 ?dp2); (case dp1 => wtm_at "dp"); (case dp2 => wtm_at "dpa")) | with_reducible assumption | ((with_reducible refine' dpMonoA ?dme (by with_reducible assumption)); (case dme => wtm_at "ex")))
local macro_rules | `(tactic| wtm_at "sz") => `(tactic| first | with_reducible assumption | ((with_reducible refine' sz_mul ?sz1 ?sz2); (case sz1 => wtm_at "sz"); (case sz2 => wtm_at "sz")) | ((with_reducible refine' sz_add ?sz1 ?sz2); (case sz1 => wtm_at "sz"); (case sz2 => wtm_at "sz")) | ((with_reducible refine' sz_sub ?sz1 ?sz2); (case sz1 => wtm_at "sz"); (case sz2 => wtm_at "sz")) | ((with_reducible refine' sz_neg ?sz1); (case sz1 => wtm_at "sz")) | ((with_reducible refine' sz_div ?sz1); (case sz1 => wtm_at "sz")) | ((with_reducible refine' sz_fdiv ?sz1); (case sz1 => wtm_at "sz")) | exact sz_lit (by decide) | wtm_at "sz2")
local macro_rules | `(tactic| wtm_at "szb") => `(tactic| first | with_reducible assumption | ((with_reducible refine' sz_mono ?szb1 ?szb2); (case szb1 => wtm_at "sz"); (case szb2 => decide)))
local macro_rules | `(tactic| wtm_at "nz") => `(tactic| first | assumption | decide | omega)
local macro_rules | `(tactic| wtm_at "shaped") => `(tactic| first | rfl | decide)
local macro_rules | `(tactic| wtm_at "sset") => `(tactic| ((dsimp only [L2.wipe, List.set, List.set_cons_zero, List.set_cons_succ]) <;> exact rfl))
local macro_rules | `(tactic| wtm_at "nrm") => `(tactic| dsimp only [L2.start, L2.wipe, List.set, List.append, List.map, List.map_cons, List.map_nil, List.length_cons, List.length_nil, Nat.reduceAdd, Nat.reduceSub, List.reduceReplicate, List.replicate, List.cons_append, List.nil_append, List.set_cons_zero, List.set_cons_succ])
local macro_rules | `(tactic| wtm_at "st") => `(tactic| first
  | ((with_reducible refine' i_var (v := ?u0) ?u1 ?uq); (case u1 => exact rfl))
  | ((with_reducible refine' i_nameN ?u0 ?uq); (case u0 => wtm_at "sset"))
  | (with_reducible refine' i_op ?uq)
  | (with_reducible refine' i_c ?uq)
  | (with_reducible refine' i_I0 ?uq)
  | ((with_reducible refine' i_ixTI (i := ?u0) ?u1 ?u2 ?u3 ?uq); (case u1 => wtm_at "dp"); (case u2 => wtm_at "ex"); (case u3 => exact rfl))
  | ((with_reducible refine' i_ixT (d := ?u0) ?u1 ?u2 ?u3 (fun xu hxu => ?uq)); (case u1 => wtm_at "dp"); (case u2 => wtm_at "ex"); (case u3 => exact rfl))
  | ((with_reducible refine' i_mul ?u0 ?u1 ?u2 ?uq); (case u0 => wtm_at "sz"); (case u1 => wtm_at "sz"); (case u2 => first | decide | omega))
  | (with_reducible refine' i_seq ?uq)
  | (with_reducible refine' i_asg ?uq)
  | (with_reducible refine' i_ret ?uq)
  | (with_reducible refine' i_ifs ?uq)
  | (with_reducible refine' i_drop ?uq)
  | (with_reducible refine' i_next ?uq)
  | (with_reducible refine' i_cons ?uq)
  | (with_reducible refine' i_nil ?uq)
  | (with_reducible refine' i_cl ?uq)
  | (with_reducible refine' i_cb ?uq)
  | (with_reducible refine' i_tup ?uq)
  | (with_reducible refine' i_lst ?uq)
  | ((with_reducible refine' i_mkT ?u0 (fun np nH nhe nhp => ?uq)); (case u0 => exact Nat.le_of_ble_eq_true rfl))
  | (with_reducible refine' i_test ?uq)
  | (with_reducible refine' i_B ?uq)
  | (with_reducible refine' i_k ?uq)
  | (with_reducible refine' i_and ?uq)
  | (with_reducible refine' i_or ?uq)
  | (with_reducible refine' i_not ?uq)
  | (with_reducible refine' i_andV ?uq)
  | (with_reducible refine' i_orV ?uq)
  | (with_reducible refine' i_notV ?uq)
  | (with_reducible refine' i_if ?uq)
  | (with_reducible refine' i_un ?uq)
  | (with_reducible refine' i_U ?uq)
  | (with_reducible refine' i_iteT ?uq)
  | (with_reducible refine' i_iteF ?uq)
  | ((with_reducible refine' i_iteTr ?u0 ?uq); (case u0 => first | with_reducible rfl | decide | (simp only [dIsInt, dIsBool, dIsTup, dIsStr, dIsLst, Bool.not_true, Bool.not_false]; done)))
  | ((with_reducible refine' i_iteFr ?u0 ?uq); (case u0 => first | with_reducible rfl | decide | (simp only [dIsInt, dIsBool, dIsTup, dIsStr, dIsLst, Bool.not_true, Bool.not_false]; done)))
  | (with_reducible refine' i_ite (fun hif => ?uqa) (fun hif => ?uqb))
  | (with_reducible refine' i_iteN (fun hif => ?uqa) (fun hif => ?uqb))
  | (with_reducible refine' i_iteBN (fun hif => ?uqa) (fun hif => ?uqb))
  | (with_reducible refine' i_iteB (fun hif => ?uqa) (fun hif => ?uqb))
  | ((with_reducible refine' i_modN ?u0 ?uq); (case u0 => wtm_at "nz"))
  | ((with_reducible refine' i_fdX ?u0 ?u1 ?u2 ?uq); (case u0 => wtm_at "nz"); (case u1 => wtm_at "sz"); (case u2 => first | decide | omega))
  | ((with_reducible refine' i_pow ?u0 ?uq); (case u0 => exact ⟨by decide, by decide +kernel⟩))
  | (with_reducible refine' i_eqI ?uq)
  | (with_reducible refine' i_neI ?uq)
  | (with_reducible refine' i_gcd ?uq)
  | (with_reducible refine' i_qabs ?uq)
  | (with_reducible refine' i_qint ?uq)
  | (with_reducible refine' i_qintB ?uq)
  | (with_reducible refine' i_qmax2 ?uq)
  | (with_reducible refine' i_qmin2 ?uq)
  | (with_reducible refine' i_isB ?uq)
  | (with_reducible refine' i_notB ?uq)
  | (with_reducible refine' i_chain ?uq)
  | (with_reducible refine' i_qisN ?uq)
  | (with_reducible refine' i_qnotN ?uq)
  | (with_reducible refine' i_yes ?uq)
  | (with_reducible refine' i_par ?uq)
  | (with_reducible refine' i_par3 ?uq)
  | ((with_reducible refine' i_par2 ?u0 ?uq); (case u0 => wtm_at "sset"))
  | ((with_reducible refine' i_par33 ?u0 ?uq); (case u0 => wtm_at "sset"))
  | ((with_reducible refine' i_ixLI (i := ?u0) ?u1 ?u2 ?u3 ?uq); (case u1 => wtm_at "dp"); (case u2 => wtm_at "ex"); (case u3 => exact rfl))
  | ((with_reducible refine' i_ixL (d := ?u0) ?u1 ?u2 ?u3 (fun xu hxu => ?uq)); (case u1 => wtm_at "dp"); (case u2 => wtm_at "ex"); (case u3 => exact rfl))
  | ((with_reducible refine' i_qlenT ?u0 ?uq); (case u0 => wtm_at "dp"))
  | ((with_reducible refine' i_qlenL ?u0 ?uq); (case u0 => wtm_at "dp"))
  | ((with_reducible refine' i_gtup ?u0 ?u1 ?u2 (fun gvs gdp => ?uq)); (case u0 => wtm_at "dp"); (case u1 => wtm_at "ex"); (case u2 => exact rfl))
  | ((with_reducible refine' i_glst ?u0 ?u1 ?u2 (fun gvs gdp => ?uq)); (case u0 => wtm_at "dp"); (case u1 => wtm_at "ex"); (case u2 => exact rfl))
  | ((with_reducible refine' i_gconsI ?u0 (fun gr gh => ?uq)); (case u0 => with_reducible assumption))
  | ((with_reducible refine' i_gconsA ?u0 (fun gv gr gh1 gh2 => ?uq)); (case u0 => with_reducible assumption))
  | ((with_reducible refine' i_gnilA ?u0 ?uq); (case u0 => with_reducible assumption))
  | ((with_reducible refine' i_isiI ?u0 ?uq); (case u0 => wtm_at "dp"))
  | ((with_reducible refine' i_isiB ?u0 ?uq); (case u0 => wtm_at "dp"))
  | ((with_reducible refine' i_isiT ?u0 ?uq); (case u0 => wtm_at "dp"))
  | ((with_reducible refine' i_isiS ?u0 ?uq); (case u0 => wtm_at "dp"))
  | ((with_reducible refine' i_isiL ?u0 ?uq); (case u0 => wtm_at "dp"))
  | ((with_reducible refine' i_eqD ?u0 ?u1 ?u2 ?u3 ?uq); (case u0 => wtm_at "dp"); (case u1 => wtm_at "dp"); (case u2 => wtm_at "shaped"); (case u3 => wtm_at "shaped"))
  | ((with_reducible refine' i_neD ?u0 ?u1 ?u2 ?u3 ?uq); (case u0 => wtm_at "dp"); (case u1 => wtm_at "dp"); (case u2 => wtm_at "shaped"); (case u3 => wtm_at "shaped"))
  | wtm_at "st2"
  | wtm_at "use")
local macro_rules | `(tactic| wtm_at "go") => `(tactic| repeat' (wtm_at "st"))
local macro_rules | `(tactic| wtm_at "go0") => `(tactic| ((try dsimp only [L2.cxOf, L2.Cx.nox, L2.Cx.wish, L2.Cx.tr, L2.Cx.blk]); (try wtm_at "nrm"); wtm_at "go"))
local macro_rules | `(tactic| wtm_at "fin") => `(tactic| ((try dsimp only); first | with_reducible assumption | assumption | ((with_reducible refine' Ret.use ?rur ?rue ?rud); (case rur => with_reducible assumption); (case rue => wtm_at "ex"); (case rud => wtm_at "dp"))))
local macro_rules | `(tactic| wtm_at "exh") => `(tactic| first | with_reducible assumption | with_reducible exact Ex.refl _ | with_reducible exact ex_hid | ((with_reducible refine' Ex.trans ?exe (by with_reducible assumption)); (case exe => wtm_at "exh")) | ((with_reducible refine' Ex.trans ?exe (hid_ex (by with_reducible assumption))); (case exe => wtm_at "exh")))
local macro_rules | `(tactic| wtm_at "ex") => `(tactic| first | with_reducible assumption | with_reducible exact Ex.refl _ | with_reducible exact ex_hid | ((with_reducible refine' Ex.trans ?exe (by with_reducible assumption)); (case exe => wtm_at "ex")) | ((with_reducible refine' Ex.trans ?exe (hid_ex (by with_reducible assumption))); (case exe => wtm_at "ex")) | ((with_reducible refine' Ex.trans ?exe ex_hid); (case exe => wtm_at "exh")))
local macro_rules | `(tactic| wtm_at "bag") => `(tactic| first | with_reducible assumption | ((with_reducible refine' Bag.mono ?bgm (by with_reducible assumption)); (case bgm => wtm_at "bag")))
local macro_rules | `(tactic| wtm_at "hs") => `(tactic| first | with_reducible assumption | ((with_reducible refine' hid_tup ?hb ?hp); (case hp => with_reducible assumption); (case hb => wtm_at "bag")) | ((with_reducible refine' hid_new ?hb ?hn ?hp); (case hp => with_reducible assumption); (case hn => with_reducible assumption); (case hb => wtm_at "bag")) | ((with_reducible refine' ex_at ?exe (by with_reducible assumption)); (case exe => wtm_at "ex")))
local macro_rules | `(tactic| wtm_at "st2") => `(tactic| first
  | ((with_reducible refine' i_mulC ?u0 ?uq); (case u0 => first | exact cmul_l (by decide) | exact cmul_r (by decide)))
  | ((with_reducible refine' i_ixLr (v := ?u0) ?u1 ?u2 ?uq); (case u1 => with_reducible assumption); (case u2 => exact rfl))
  | (with_reducible refine' i_sub ?uq)
  | ((with_reducible refine' i_mkL ?u0 (fun np nH nfr nhe nhp => ?uq)); (case u0 => exact Nat.le_of_ble_eq_true rfl))
  | ((with_reducible refine' i_setL (n := ?u0) ?u1 ?u2 (fun sH sh se => ?uq)); (case u1 => with_reducible assumption); (case u2 => exact rfl))
  | (with_reducible refine' i_sl ?uq)
  | (with_reducible refine' i_nopart ?uq)
  | (with_reducible refine' i_part ?uq)
  | (with_reducible refine' i_part1 ?uq))
local macro_rules | `(tactic| wtm_at "sz2") => `(tactic| ((with_reducible refine' sz_fmod ?sz1 ?sz2); (case sz1 => wtm_at "nz"); (case sz2 => wtm_at "sz")))
local macro_rules | `(tactic| wtm_at "stb") => `(tactic| first
  | ((with_reducible refine' i_mkTB ?u0 ?u1 (fun np nH nhe nhb nhp => ?uq)); (case u0 => exact Nat.le_of_ble_eq_true rfl); (case u1 => wtm_at "bag"))
  | ((with_reducible refine' i_mkLB ?u0 ?u1 (fun np nH nfr nhe nhb nhp => ?uq)); (case u0 => exact Nat.le_of_ble_eq_true rfl); (case u1 => wtm_at "bag"))
  | wtm_at "st")
local macro_rules | `(tactic| wtm_at "gob") => `(tactic| repeat' (wtm_at "stb"))
local macro_rules | `(tactic| wtm_at "gob0") => `(tactic| ((try dsimp only [L2.cxOf, L2.Cx.nox, L2.Cx.wish, L2.Cx.tr, L2.Cx.blk]); (try wtm_at "nrm"); wtm_at "gob"))
local macro_rules | `(tactic| wtm_at "st") => `(tactic| first | ((with_reducible refine' i_ixTS (z := ?u0) ?u1 ?u2 ?u3 ?uq); (case u1 => wtm_at "dp"); (case u2 => wtm_at "ex"); (case u3 => exact rfl)) | fail)
local macro_rules | `(tactic| wtm_at "st2") => `(tactic| first | ((with_reducible refine' i_eqST ?u0 ?uq); (case u0 => with_reducible rfl)) | ((with_reducible refine' i_eqSF ?u0 ?uq); (case u0 => decide +kernel)) | ((with_reducible refine' i_neST ?u0 ?uq); (case u0 => with_reducible rfl)) | ((with_reducible refine' i_neSF ?u0 ?uq); (case u0 => decide +kernel)) | fail)
section
variable {P : Program} {w : World} {K : PySem.W.Frag} {mg : Str → Option Value} {base : Heap} {H H' : Hp} {Q : VK} {E : XK} {v1 v2 v3 v4 v5 : V}
local macro_rules | `(tactic| wtm_at "use") => `(tactic| ((with_reducible refine' use__law_draw ?u0 ?u1 ?u2 (fun dn dH dn0 dn1 de db => ?uq)); (case u0 => wtm_at "bag"); (case u1 => wtm_at "pos"); (case u2 => wtm_at "szb")))
local macro_rules | `(tactic| wtm_at "pos") => `(tactic| first | assumption | decide | omega)
local macro_rules | `(tactic| wtm_at "oneof") => `(tactic| ((with_reducible refine' use__law_one_of ?u0 ?u1 ?u2 ?u3 ?uq); (case u0 => wtm_at "bag"); (case u1 => wtm_at "dp"); (case u2 => exact Nat.le_of_ble_eq_true rfl); (case u3 => exact Nat.le_of_ble_eq_true rfl)))
theorem Lsts.drop1 {G0 G : Hp} {x y : Addr × List PyData} {ls : List (Addr × List PyData)} (L : Lsts K G0 (x :: y :: ls) G) : Lsts K G0 (x :: ls) G := by
  have hs : ∀ p ∈ x :: ls, p ∈ x :: y :: ls := fun p hp => by
    rcases List.mem_cons.mp hp with rfl | hp
    · exact List.mem_cons_self
    · exact List.mem_cons_of_mem _ (List.mem_cons_of_mem _ hp)
  refine ⟨?_, fun p hp => L.fr p (hs p hp), L.ex, fun p hp => L.no p (hs p hp), fun p hp => L.at_ p (hs p hp)⟩
  have h := L.nd
  rw [List.map_cons, List.map_cons] at h
  rw [List.map_cons]
  obtain ⟨h1, h2⟩ := List.nodup_cons.mp h
  obtain ⟨h3, h4⟩ := List.nodup_cons.mp h2
  exact List.nodup_cons.mpr ⟨fun z => h1 (List.mem_cons_of_mem _ z), h4⟩
theorem cut_to {xs : List V} {k : Nat} : cutV xs none (some (k : Int)) = xs.take k := by
  unfold cutV
  rw [HT.sIx_none, HT.sIx_nat, List.drop_zero, Nat.sub_zero, ← List.take_take, List.take_length]
theorem cut_from {xs : List V} {k : Nat} : cutV xs (some (k : Int)) none = xs.drop k := by
  unfold cutV
  rw [HT.sIx_none, HT.sIx_nat]
  by_cases h : k ≤ xs.length
  · rw [Nat.min_eq_left h, List.take_of_length_le (by rw [List.length_drop]; omega)]
  · rw [Nat.min_eq_right (by omega), Nat.sub_self, List.take_zero, List.drop_of_length_le (by omega)]
theorem noLs_take {ds : List PyData} (h : noLs ds = true) (k : Nat) : noLs (ds.take k) = true ∧ noLs (ds.drop k) = true := by
  have := noLs_split (ds := ds.take k) (es := ds.drop k) (by rw [List.take_append_drop]; exact h)
  exact this
theorem i_qlistLh {G : Hp} {v : V} {ds : List PyData} (h : Dp K G v (.list ds)) (e : Ex G H) (q : ∀ p H2 us, H p = none → Ex H H2 → H2 p = some (.lst us) → DpAll K G us ds → Q (.ref p) H2) : qListOf K [v] H Q := by
  obtain ⟨a, us, rfl, hs, ha⟩ := dpLst h
  exact ⟨a, us, rfl, .inl (Evl.ex_l e hs), fun l hl => q l _ us hl (ex_upd hl) upd_same ha⟩
theorem i_qtupleR {a : Addr} {us : List V} (h : SqL K H a us) (q : ∀ p H2, H p = none → Ex H H2 → H2 p = some (.tup us) → Q (.ref p) H2) : qTupleOf K [.ref a] H Q := ⟨a, us, rfl, .inl ⟨h, fun l hl => q l _ hl (ex_upd hl) upd_same⟩⟩
theorem hid_none {b p : Addr} (h : H p = none) : hid b H p = none := by
  unfold hid
  split
  · rfl
  · exact h
theorem i_catR {l c : Addr} {xs zs : List V} (h1 : H l = some (.lst xs)) (h2 : H c = some (.lst zs)) (hl : xs.length + zs.length ≤ 100000) (q : ∀ p H2, H p = none → Ex H H2 → H2 p = some (.lst (xs ++ zs)) → Q (.ref p) H2) : rCat (.ref l) (.ref c) H Q :=
  ⟨l, c, xs, zs, rfl, rfl, h1, h2, Evl.sz_of hl, fun p hp => q p _ hp (ex_upd hp) upd_same⟩
theorem Lsts.appendB {b : Addr} {G0 : Hp} {ls : List (Addr × List PyData)} {i : Nat} {a : Addr} {ds : List PyData} {d : PyData} {v : V} (L : Lsts K G0 ls (hid b H)) (hb : Bag b H) (e : ls[i]? = some (a, ds)) (hd : Dp K (hid b H) v d) (hn : noL d = true) (hl : ds.length < 100000)
    (q : ∀ H2, Lsts K G0 (ls.set i (a, ds ++ [d])) (hid b H2) → Bag b H2 → (∀ {v : V} {c : PyData}, noL c = true → Dp K (hid b H) v c → Dp K (hid b H2) v c) → Q .non H2) : rAppend (.ref a) [v] H Q := by
  obtain ⟨us, h1, h2⟩ := L.at_ _ (List.mem_of_getElem? e)
  have hab : a ≠ b := (of_hid h1).1
  refine ⟨a, us, v, rfl, rfl, (of_hid h1).2, Evl.sz_lt (by rw [dpLen h2]; exact hl), ?_⟩
  refine q _ ?_ (bag_upd hab hb) ?_
  · rw [hid_updn hab]
    exact L.set e (dpAllApp h2 (.cons hd .nil)) (noLs_app (L.no _ (List.mem_of_getElem? e)) (by show (noL d && noLs []) = true; rw [hn]; rfl))
  · intro v c hn h
    rw [hid_updn hab]
    exact L.keep e hn h
theorem flat_ge {α : Type} {k : Nat} : ∀ {xss : List (List α)}, (∀ xs ∈ xss, k ≤ xs.length) → xss.length * k ≤ xss.flatten.length
  | [], _ => by simp
  | xs :: r, h => by
    rw [List.flatten_cons, List.length_append, List.length_cons, Nat.succ_mul]
    have h1 := h xs List.mem_cons_self
    have h2 := flat_ge (k := k) fun ys hy => h ys (List.mem_cons_of_mem _ hy)
    omega
def sp__law_lots_of (K : PySem.W.Frag) : Sp := A2 fun v1 v2 H Q => ∃ (b : Addr) (ds : List PyData), v1 = .ref b ∧ Bag b H ∧ Dp K (hid b H) v2 (.list ds) ∧ noLs ds = true ∧ 2 ≤ ds.length ∧ ds.length ≤ 20 ∧
  ∀ p H2 (dss : List (List PyData)), dss.flatten = ds → (∀ es ∈ dss, 2 ≤ es.length ∧ es.length ≤ 4) → Ex (hid b H) (hid b H2) → Bag b H2 → Dp K (hid b H2) (.ref p) (.list (dss.map .tuple)) → Q (.ref p) H2
abbrev s__law_lots_of : Stmt := top 67
theorem sc__law_lots_of : FnScope ["_law_bag_here", "_law_items", "_law_found", "_law_left", "_law_size"] ["_law_bag_here", "_law_items"] (defScope s__law_lots_of) := ⟨rfl, rfl, rfl, by decide +kernel, rfl, by decide +kernel, by decide +kernel⟩
theorem ok__law_lots_of {f : Addr} {fd : FuncData} (F : FnP K "_law_lots_of" s__law_lots_of f fd) (g : G mg) (c__law_draw : Cl P w K mg base 1 "_law_draw" (sp__law_draw K))  : FnOk P w K mg base CX0 2 f fd ["_law_bag_here", "_law_items"] (sp__law_lots_of K) := by
  have nd := sc__law_lots_of.nd
  refine F.ok sc__law_lots_of (fun vs H Q E h => h.len) (fun cdv A outer s H vs Q E hr h => ?_)
  obtain ⟨v1, v2, rfl, h⟩ := h
  refine ⟨_, PSs.nox (pss_cons (ps_par (i := 2) (j := 3) (by rfl) nd rfl rfl (by decide) rfl rfl (pa_cons (pe_lst pa_nil) (pa_cons (pe_callTy call_qlist (by rfl) g.f_list boot_list (pa_cons (pv 1) pa_nil)) pa_nil)) (by rfl)) (pss_cons (ps_while PassesOwn.never (pt_cmpR op_gt (pe_callB call_qlen (by rfl) g.f_len boot_len (pa_cons (pv 3) pa_nil)) pe_int (nomark _)) (pss_cons (ps_set (i := 4) nd rfl (Or.inl rfl) (pe_callB (call_qmin2 rfl) (by rfl) g.f_min boot_min (pa_cons (pe_op op_add pe_int (pc c__law_draw hr (by first | decide | omega) (by rfl) (pa_cons (pv 0) (pa_cons pe_int pa_nil)))) (pa_cons (pe_op op_sub (pe_callB call_qlen (by rfl) g.f_len boot_len (pa_cons (pv 3) pa_nil)) pe_int) pa_nil)))) (pss_cons (ps_expr (pe_bm PySem.F.plainAttrs_list PySem.F.slot_list_append PySem.F.type_list_append mt_append (pv 2) (pa_cons (pe_callTy call_qtuple (by rfl) g.f_tuple boot_tuple (pa_cons (pe_slice sl_list (pv 3) po_none (po_some (pv 4))) pa_nil)) pa_nil))) (pss_one (ps_set (i := 3) nd rfl (Or.inl rfl) (pe_slice sl_list (pv 3) (po_some (pv 4)) po_none)))))) (pss_one (ps_ret (pe_op op_cat (pv 2) (pe_lst (pa_cons (pe_callTy call_qtuple (by rfl) g.f_tuple boot_tuple (pa_cons (pv 3) pa_nil)) pa_nil))))))), ?_⟩
  obtain ⟨b, ds, rfl, hb, hd, hno, hl2, hl20, q⟩ := h
  wtm_at "gob0"
  rename_i fA H1 fn1 fe1 fb1 fp1
  refine i_qlistLh hd (ex_hid.trans fe1) (fun lA H2 us ln2 le2 lp2 ha => ?_)
  have b2 : Bag b H2 := fb1.mono le2
  have L0 : Lsts K (hid b H) [(lA, ds), (fA, [])] (hid b H2) := ((Lsts.nil (K := K) (G0 := hid b H)).add (hid_none fn1) (hid_ex fe1) fp1 .nil rfl).add (hid_none ln2) (hid_ex le2) (hid_new fb1 ln2 lp2) (dpMonoA (hid_ex (fe1.trans le2)) ha) hno
  wtm_at "gob"
  refine i_tw (fun μ σ' H' => ∃ (lA : Addr) (rest : List PyData) (dss : List (List PyData)) (c : Option V), σ' = [some (.ref b), some v2, some (.ref fA), some (.ref lA), c] ∧ Lsts K (hid b H) [(lA, rest), (fA, dss.map .tuple)] (hid b H') ∧ Bag b H' ∧ dss.flatten ++ rest = ds ∧ (∀ es ∈ dss, 2 ≤ es.length ∧ es.length ≤ 4) ∧ 2 ≤ rest.length ∧ rest.length = μ) ds.length
    ⟨lA, ds, [], _, rfl, L0, b2, rfl, fun s h => (by cases h), hl2, rfl⟩ ?_
  rintro μ σ' H' ⟨lA, rest, dss, c, rfl, L, hbg, hfl, hss, hr2, rfl⟩
  obtain ⟨us2, hu1, hu2⟩ := L.at_ (lA, rest) List.mem_cons_self
  have hlD : Dp K H' (.ref lA) (.list rest) := dpMono ex_hid (L.ref (i := 0) rfl)
  have hfl2 : dss.flatten.length + rest.length = ds.length := by rw [← hfl, List.length_append]
  have hd2 := flat_ge fun es h => (hss es h).1
  wtm_at "gob"
  · rename_i h4
    refine ⟨fun σ2 G2 => ∃ μ', μ' < rest.length ∧ ∃ (lA : Addr) (rest : List PyData) (dss : List (List PyData)) (c : Option V), σ2 = [some (.ref b), some v2, some (.ref fA), some (.ref lA), c] ∧ Lsts K (hid b H) [(lA, rest), (fA, dss.map .tuple)] (hid b G2) ∧ Bag b G2 ∧ dss.flatten ++ rest = ds ∧ (∀ es ∈ dss, 2 ≤ es.length ∧ es.length ≤ 4) ∧ 2 ≤ rest.length ∧ rest.length = μ', fun _ _ h => h, ?_⟩
    wtm_at "gob"
    rename_i dn dH dn0 dn1 de db
    have hlD2 : Dp K dH (.ref lA) (.list rest) := dpMono ex_hid (dpMono de (L.ref (i := 0) rfl))
    wtm_at "gob"
    obtain ⟨k, hk, k2, k4, kr⟩ : ∃ k : Nat, (if (rest.length : Int) - 2 < 2 + dn then (rest.length : Int) - 2 else 2 + dn) = (k : Int) ∧ 2 ≤ k ∧ k ≤ 4 ∧ k + 2 ≤ rest.length := by
      split
      · exact ⟨rest.length - 2, by omega, by omega, by omega, by omega⟩
      · exact ⟨(2 + dn).toNat, by omega, by omega, by omega, by omega⟩
    rw [hk]
    wtm_at "gob"
    refine i_bmA ?_
    wtm_at "gob"
    have L1 := L.up de
    obtain ⟨fus, hf1, hf2⟩ := L1.at_ (fA, dss.map .tuple) (List.mem_cons_of_mem _ List.mem_cons_self)
    refine ⟨.inl ⟨rfl, fus, Evl.sq_of (of_hid hf1).2⟩, ?_⟩
    wtm_at "gob"
    refine i_slL (Evl.sq_of (of_hid (de _ _ hu1)).2) (fun p3 H3 hp3 e3 h3 => ?_)
    rw [cut_to] at h3
    wtm_at "gob"
    refine i_qtupleR (Evl.sq_of h3) (fun p4 H4 hp4 e4 h4' => ?_)
    wtm_at "gob"
    have b4 : Bag b H4 := (db.mono e3).mono e4
    have e14 : Ex (hid b dH) (hid b H4) := hid_ex (e3.trans e4)
    refine (L1.up e14).appendB b4 (i := 1) (d := .tuple (rest.take k)) rfl (.tup (Evl.st_of (hid_tup b4 h4')) (dpTakeN (dpMonoA (de.trans e14) hu2))) (noLs_take (L.no _ List.mem_cons_self) k).1 (by rw [List.length_map]; omega) (fun H5 L5 b5 hk5 => ?_)
    have L5' : Lsts K (hid b H) [(lA, rest), (fA, dss.map .tuple ++ [.tuple (rest.take k)])] (hid b H5) := L5
    obtain ⟨us5, h51, h52⟩ := L5'.at_ (lA, rest) List.mem_cons_self
    wtm_at "gob"
    refine i_slL (Evl.sq_of (of_hid h51).2) (fun p6 H6 hp6 e6 h6 => ?_)
    rw [cut_from] at h6
    wtm_at "gob"
    refine ⟨rest.length - k, by omega, p6, rest.drop k, dss ++ [rest.take k], _, rfl, ?_, b5.mono e6, ?_, ?_, ?_, ?_⟩
    · have L6 := (L5'.add (hid_none hp6) (hid_ex e6) (hid_new b5 hp6 h6) (dpMonoA (hid_ex e6) (dpDropN h52)) (noLs_take (L.no _ List.mem_cons_self) k).2).drop1
      rw [List.map_append]
      exact L6
    · rw [List.flatten_append, List.append_assoc]
      have : [rest.take k].flatten ++ rest.drop k = rest := by
        rw [List.flatten_cons, List.flatten_nil, List.append_nil, List.take_append_drop]
      rw [this]
      exact hfl
    · intro es h
      rcases List.mem_append.mp h with h | h
      · exact hss es h
      · rcases List.mem_singleton.mp h with rfl
        rw [List.length_take]
        omega
    · rw [List.length_drop]
      omega
    · rw [List.length_drop]
  · rename_i h4
    wtm_at "gob"
    refine i_qtupleR (Evl.sq_of (of_hid hu1).2) (fun p4 H4 hp4 e4 h4' => ?_)
    wtm_at "gob"
    rename_i p5 H5 hp5 e5 b5 h5
    have L5 := L.up (hid_ex (e4.trans e5))
    obtain ⟨fus, hf1, hf2⟩ := L5.at_ (fA, dss.map .tuple) (List.mem_cons_of_mem _ List.mem_cons_self)
    refine i_catR (of_hid hf1).2 (of_hid h5).2 (by rw [dpLen hf2, List.length_map]; simp; omega) (fun p6 H6 hp6 e6 h6 => ?_)
    have ht4 : hid b H6 p4 = some (.tup us2) := hid_tup (b5.mono e6) (e6 _ _ (e5 _ _ h4'))
    refine q p6 H6 (dss ++ [rest]) ?_ ?_ (L5.ex.trans (hid_ex e6)) (b5.mono e6) (.lst (Evl.sq_of (hid_new b5 hp6 h6)) ?_)
    · rw [List.flatten_append]
      simpa using hfl
    · intro es h
      rcases List.mem_append.mp h with h | h
      · exact hss es h
      · rcases List.mem_singleton.mp h with rfl
        exact ⟨hr2, by omega⟩
    · rw [List.map_append]
      exact dpAllApp (dpMonoA (hid_ex e6) hf2) (.cons (.tup (Evl.st_of ht4) (dpMonoA (hid_ex ((e4.trans e5).trans e6)) hu2)) .nil)
theorem use__law_lots_of {b : Addr} {ds : List PyData} (hb : Bag b H) (hd : Dp K (hid b H) v2 (.list ds)) (hno : noLs ds = true) (h2 : 2 ≤ ds.length) (h20 : ds.length ≤ 20)
    (q : ∀ p H2 (dss : List (List PyData)), dss.flatten = ds → (∀ es ∈ dss, 2 ≤ es.length ∧ es.length ≤ 4) → Ex (hid b H) (hid b H2) → Bag b H2 → Dp K (hid b H2) (.ref p) (.list (dss.map .tuple)) → Q (.ref p) H2) : sp__law_lots_of K [.ref b, v2] H Q E := ⟨_, _, rfl, b, ds, rfl, hb, hd, hno, h2, h20, q⟩
theorem flat_inv {α β : Type} {enc : α → β} : ∀ {dss : List (List β)} {xs : List α}, dss.flatten = xs.map enc → ∃ yss : List (List α), yss.flatten = xs ∧ dss = yss.map (List.map enc)
  | [], xs, h => ⟨[], (List.map_eq_nil_iff.mp h.symm).symm, rfl⟩
  | ds :: r, xs, h => by
    rw [List.flatten_cons] at h
    obtain ⟨x1, x2, e1, e2, e3⟩ := List.append_eq_map_iff.mp h
    subst e1 e2
    obtain ⟨yss, h1, h2⟩ := flat_inv e3.symm
    exact ⟨x1 :: yss, by rw [List.flatten_cons, h1], by rw [List.map_cons, h2]⟩
end
end Wb

namespace Wb
open PySem PySem.Spec PyProof.Rows L2 StX
open Evl (Ex Ex.refl Ex.trans Ex.new)
local macro_rules | `(tactic| wtm_at "dp") => `(tactic| first | with_reducible assumption | with_reducible exact Dp.int _ | with_reducible exact Dp.bl _ | with_reducible exact Dp.str _ | with_reducible exact Dp.non | ((with_reducible refine' dpMono ?dme (by with_reducible assumption)); (case dme => wtm_at "ex")) | ((with_reducible refine' Dp.tup (Evl.st_of ?dph) ?dpa); (case dph => wtm_at "hs"); (case dpa => wtm_at "dpa")) | ((with_reducible refine' Dp.lst (Evl.sq_of ?dph) ?dpa); (case dph => wtm_at "hs"); (case dpa => wtm_at "dpa")))
local macro_rules | `(tactic| wtm_at "dpa") => `(tactic| first | with_reducible exact DpAll.nil | ((with_reducible refine' DpAll.cons ?dp1 ?dp2); (case dp1 => wtm_at "dp"); (case dp2 => wtm_at "dpa")) | with_reducible assumption | ((with_reducible refine' dpMonoA ?dme (by with_reducible assumption)); (case dme => wtm_at "ex")))
local macro_rules | `(tactic| wtm_at "sz") => `(tactic| first | with_reducible assumption | ((with_reducible refine' sz_mul ?sz1 ?sz2); (case sz1 => wtm_at "sz"); (case sz2 => wtm_at "sz")) | ((with_reducible refine' sz_add ?sz1 ?sz2); (case sz1 => wtm_at "sz"); (case sz2 => wtm_at "sz")) | ((with_reducible refine' sz_sub ?sz1 ?sz2); (case sz1 => wtm_at "sz"); (case sz2 => wtm_at "sz")) | ((with_reducible refine' sz_neg ?sz1); (case sz1 => wtm_at "sz")) | ((with_reducible refine' sz_div ?sz1); (case sz1 => wtm_at "sz")) | ((with_reducible refine' sz_fdiv ?sz1); (case sz1 => wtm_at "sz")) | exact sz_lit (by decide) | wtm_at "sz2")
local macro_rules | `(tactic| wtm_at "szb") => `(tactic| first | with_reducible assumption | ((with_reducible refine' sz_mono ?szb1 ?szb2); (case szb1 => wtm_at "sz"); (case szb2 => decide)))
local macro_rules | `(tactic| wtm_at "nz") => `(tactic| first | assumption | decide | omega)
local macro_rules | `(tactic| wtm_at "shaped") => `(tactic| first | rfl | decide)
local macro_rules | `(tactic| wtm_at "sset") => `(tactic| ((dsimp only [L2.wipe, List.set, List.set_cons_zero, List.set_cons_succ]) <;> exact rfl))
local macro_rules | `(tactic| wtm_at "nrm") => `(tactic| dsimp only [L2.start, L2.wipe, List.set, List.append, List.map, List.map_cons, List.map_nil, List.length_cons, List.length_nil, Nat.reduceAdd, Nat.reduceSub, List.reduceReplicate, List.replicate, List.cons_append, List.nil_append, List.set_cons_zero, List.set_cons_succ])
local macro_rules | `(tactic| wtm_at "st") => `(tactic| first
  | ((with_reducible refine' i_var (v := ?u0) ?u1 ?uq); (case u1 => exact rfl))
  | ((with_reducible refine' i_nameN ?u0 ?uq); (case u0 => wtm_at "sset"))
  | (with_reducible refine' i_op ?uq)
  | (with_reducible refine' i_c ?uq)
  | (with_reducible refine' i_I0 ?uq)
  | ((with_reducible refine' i_ixTI (i := ?u0) ?u1 ?u2 ?u3 ?uq); (case u1 => wtm_at "dp"); (case u2 => wtm_at "ex"); (case u3 => exact rfl))
  | ((with_reducible refine' i_ixT (d := ?u0) ?u1 ?u2 ?u3 (fun xu hxu => ?uq)); (case u1 => wtm_at "dp"); (case u2 => wtm_at "ex"); (case u3 => exact rfl))
  | ((with_reducible refine' i_mul ?u0 ?u1 ?u2 ?uq); (case u0 => wtm_at "sz"); (case u1 => wtm_at "sz"); (case u2 => first | decide | omega))
  | (with_reducible refine' i_seq ?uq)
  | (with_reducible refine' i_asg ?uq)
  | (with_reducible refine' i_ret ?uq)
  | (with_reducible refine' i_ifs ?uq)
  | (with_reducible refine' i_drop ?uq)
  | (with_reducible refine' i_next ?uq)
  | (with_reducible refine' i_cons ?uq)
  | (with_reducible refine' i_nil ?uq)
  | (with_reducible refine' i_cl ?uq)
  | (with_reducible refine' i_cb ?uq)
  | (with_reducible refine' i_tup ?uq)
  | (with_reducible refine' i_lst ?uq)
  | ((with_reducible refine' i_mkT ?u0 (fun np nH nhe nhp => ?uq)); (case u0 => exact Nat.le_of_ble_eq_true rfl))
  | (with_reducible refine' i_test ?uq)
  | (with_reducible refine' i_B ?uq)
  | (with_reducible refine' i_k ?uq)
  | (with_reducible refine' i_and ?uq)
  | (with_reducible refine' i_or ?uq)
  | (with_reducible refine' i_not ?uq)
  | (with_reducible refine' i_andV ?uq)
  | (with_reducible refine' i_orV ?uq)
  | (with_reducible refine' i_notV ?uq)
  | (with_reducible refine' i_if ?uq)
  | (with_reducible refine' i_un ?uq)
  | (with_reducible refine' i_U ?uq)
  | (with_reducible refine' i_iteT ?uq)
  | (with_reducible refine' i_iteF ?uq)
  | ((with_reducible refine' i_iteTr ?u0 ?uq); (case u0 => first | with_reducible rfl | decide | (simp only [dIsInt, dIsBool, dIsTup, dIsStr, dIsLst, Bool.not_true, Bool.not_false]; done)))
  | ((with_reducible refine' i_iteFr ?u0 ?uq); (case u0 => first | with_reducible rfl | decide | (simp only [dIsInt, dIsBool, dIsTup, dIsStr, dIsLst, Bool.not_true, Bool.not_false]; done)))
  | (with_reducible refine' i_ite (fun hif => ?uqa) (fun hif => ?uqb))
  | (with_reducible refine' i_iteN (fun hif => ?uqa) (fun hif => ?uqb))
  | (with_reducible refine' i_iteBN (fun hif => ?uqa) (fun hif => ?uqb))
  | (with_reducible refine' i_iteB (fun hif => ?uqa) (fun hif => ?uqb))
  | ((with_reducible refine' i_modN ?u0 ?uq); (case u0 => wtm_at "nz"))
  | ((with_reducible refine' i_fdX ?u0 ?u1 ?u2 ?uq); (case u0 => wtm_at "nz"); (case u1 => wtm_at "sz"); (case u2 => first | decide | omega))
  | ((with_reducible refine' i_pow ?u0 ?uq); (case u0 => exact ⟨by decide, by decide +kernel⟩))
  | (with_reducible refine' i_eqI ?uq)
  | (with_reducible refine' i_neI ?uq)
  | (with_reducible refine' i_gcd ?uq)
  | (with_reducible refine' i_qabs ?uq)
  | (with_reducible refine' i_qint ?uq)
  | (with_reducible refine' i_qintB ?uq)
  | (with_reducible refine' i_qmax2 ?uq)
  | (with_reducible refine' i_qmin2 ?uq)
  | (with_reducible refine' i_isB ?uq)
  | (with_reducible refine' i_notB ?uq)
  | (with_reducible refine' i_chain ?uq)
  | (with_reducible refine' i_qisN ?uq)
  | (with_reducible refine' i_qnotN ?uq)
  | (with_reducible refine' i_yes ?uq)
  | (with_reducible refine' i_par ?uq)
  | (with_reducible refine' i_par3 ?uq)
  | ((with_reducible refine' i_par2 ?u0 ?uq); (case u0 => wtm_at "sset"))
  | ((with_reducible refine' i_par33 ?u0 ?uq); (case u0 => wtm_at "sset"))
  | ((with_reducible refine' i_ixLI (i := ?u0) ?u1 ?u2 ?u3 ?uq); (case u1 => wtm_at "dp"); (case u2 => wtm_at "ex"); (case u3 => exact rfl))
  | ((with_reducible refine' i_ixL (d := ?u0) ?u1 ?u2 ?u3 (fun xu hxu => ?uq)); (case u1 => wtm_at "dp"); (case u2 => wtm_at "ex"); (case u3 => exact rfl))
  | ((with_reducible refine' i_qlenT ?u0 ?uq); (case u0 => wtm_at "dp"))
  | ((with_reducible refine' i_qlenL ?u0 ?uq); (case u0 => wtm_at "dp"))
  | ((with_reducible refine' i_gtup ?u0 ?u1 ?u2 (fun gvs gdp => ?uq)); (case u0 => wtm_at "dp"); (case u1 => wtm_at "ex"); (case u2 => exact rfl))
  | ((with_reducible refine' i_glst ?u0 ?u1 ?u2 (fun gvs gdp => ?uq)); (case u0 => wtm_at "dp"); (case u1 => wtm_at "ex"); (case u2 => exact rfl))
  | ((with_reducible refine' i_gconsI ?u0 (fun gr gh => ?uq)); (case u0 => with_reducible assumption))
  | ((with_reducible refine' i_gconsA ?u0 (fun gv gr gh1 gh2 => ?uq)); (case u0 => with_reducible assumption))
  | ((with_reducible refine' i_gnilA ?u0 ?uq); (case u0 => with_reducible assumption))
  | ((with_reducible refine' i_isiI ?u0 ?uq); (case u0 => wtm_at "dp"))
  | ((with_reducible refine' i_isiB ?u0 ?uq); (case u0 => wtm_at "dp"))
  | ((with_reducible refine' i_isiT ?u0 ?uq); (case u0 => wtm_at "dp"))
  | ((with_reducible refine' i_isiS ?u0 ?uq); (case u0 => wtm_at "dp"))
  | ((with_reducible refine' i_isiL ?u0 ?uq); (case u0 => wtm_at "dp"))
  | ((with_reducible refine' i_eqD ?u0 ?u1 ?u2 ?u3 ?uq); (case u0 => wtm_at "dp"); (case u1 => wtm_at "dp"); (case u2 => wtm_at "shaped"); (case u3 => wtm_at "shaped"))
  | ((with_reducible refine' i_neD ?u0 ?u1 ?u2 ?u3 ?uq); (case u0 => wtm_at "dp"); (case u1 => wtm_at "dp"); (case u2 => wtm_at "shaped"); (case u3 => wtm_at "shaped"))
  | wtm_at "st2"
  | wtm_at "use")
local macro_rules | `(tactic| wtm_at "go") => `(tactic| repeat' (wtm_at "st"))
local macro_rules | `(tactic| wtm_at "go0") => `(tactic| ((try dsimp only [L2.cxOf, L2.Cx.nox, L2.Cx.wish, L2.Cx.tr, L2.Cx.blk]); (try wtm_at "nrm"); wtm_at "go"))
local macro_rules | `(tactic| wtm_at "fin") => `(tactic| ((try dsimp only); first | with_reducible assumption | assumption | ((with_reducible refine' Ret.use ?rur ?rue ?rud); (case rur => with_reducible assumption); (case rue => wtm_at "ex"); (case rud => wtm_at "dp"))))
local macro_rules | `(tactic| wtm_at "exh") => `(tactic| first | with_reducible assumption | with_reducible exact Ex.refl _ | with_reducible exact ex_hid | ((with_reducible refine' Ex.trans ?exe (by with_reducible assumption)); (case exe => wtm_at "exh")) | ((with_reducible refine' Ex.trans ?exe (hid_ex (by with_reducible assumption))); (case exe => wtm_at "exh")))
local macro_rules | `(tactic| wtm_at "ex") => `(tactic| first | with_reducible assumption | with_reducible exact Ex.refl _ | with_reducible exact ex_hid | ((with_reducible refine' Ex.trans ?exe (by with_reducible assumption)); (case exe => wtm_at "ex")) | ((with_reducible refine' Ex.trans ?exe (hid_ex (by with_reducible assumption))); (case exe => wtm_at "ex")) | ((with_reducible refine' Ex.trans ?exe ex_hid); (case exe => wtm_at "exh")))
local macro_rules | `(tactic| wtm_at "bag") => `(tactic| first | with_reducible assumption | ((with_reducible refine' Bag.mono ?bgm (by with_reducible assumption)); (case bgm => wtm_at "bag")))
local macro_rules | `(tactic| wtm_at "hs") => `(tactic| first | with_reducible assumption | ((with_reducible refine' hid_tup ?hb ?hp); (case hp => with_reducible assumption); (case hb => wtm_at "bag")) | ((with_reducible refine' hid_new ?hb ?hn ?hp); (case hp => with_reducible assumption); (case hn => with_reducible assumption); (case hb => wtm_at "bag")) | ((with_reducible refine' ex_at ?exe (by with_reducible assumption)); (case exe => wtm_at "ex")))
local macro_rules | `(tactic| wtm_at "st2") => `(tactic| first
  | ((with_reducible refine' i_mulC ?u0 ?uq); (case u0 => first | exact cmul_l (by decide) | exact cmul_r (by decide)))
  | ((with_reducible refine' i_ixLr (v := ?u0) ?u1 ?u2 ?uq); (case u1 => with_reducible assumption); (case u2 => exact rfl))
  | (with_reducible refine' i_sub ?uq)
  | ((with_reducible refine' i_mkL ?u0 (fun np nH nfr nhe nhp => ?uq)); (case u0 => exact Nat.le_of_ble_eq_true rfl))
  | ((with_reducible refine' i_setL (n := ?u0) ?u1 ?u2 (fun sH sh se => ?uq)); (case u1 => with_reducible assumption); (case u2 => exact rfl))
  | (with_reducible refine' i_sl ?uq)
  | (with_reducible refine' i_nopart ?uq)
  | (with_reducible refine' i_part ?uq)
  | (with_reducible refine' i_part1 ?uq))
local macro_rules | `(tactic| wtm_at "sz2") => `(tactic| ((with_reducible refine' sz_fmod ?sz1 ?sz2); (case sz1 => wtm_at "nz"); (case sz2 => wtm_at "sz")))
local macro_rules | `(tactic| wtm_at "stb") => `(tactic| first
  | ((with_reducible refine' i_mkTB ?u0 ?u1 (fun np nH nhe nhb nhp => ?uq)); (case u0 => exact Nat.le_of_ble_eq_true rfl); (case u1 => wtm_at "bag"))
  | ((with_reducible refine' i_mkLB ?u0 ?u1 (fun np nH nfr nhe nhb nhp => ?uq)); (case u0 => exact Nat.le_of_ble_eq_true rfl); (case u1 => wtm_at "bag"))
  | wtm_at "st")
local macro_rules | `(tactic| wtm_at "gob") => `(tactic| repeat' (wtm_at "stb"))
local macro_rules | `(tactic| wtm_at "gob0") => `(tactic| ((try dsimp only [L2.cxOf, L2.Cx.nox, L2.Cx.wish, L2.Cx.tr, L2.Cx.blk]); (try wtm_at "nrm"); wtm_at "gob"))
local macro_rules | `(tactic| wtm_at "st") => `(tactic| first | ((with_reducible refine' i_ixTS (z := ?u0) ?u1 ?u2 ?u3 ?uq); (case u1 => wtm_at "dp"); (case u2 => wtm_at "ex"); (case u3 => exact rfl)) | fail)
local macro_rules | `(tactic| wtm_at "st2") => `(tactic| first | ((with_reducible refine' i_eqST ?u0 ?uq); (case u0 => with_reducible rfl)) | ((with_reducible refine' i_eqSF ?u0 ?uq); (case u0 => decide +kernel)) | ((with_reducible refine' i_neST ?u0 ?uq); (case u0 => with_reducible rfl)) | ((with_reducible refine' i_neSF ?u0 ?uq); (case u0 => decide +kernel)) | fail)
section
variable {P : Program} {w : World} {K : PySem.W.Frag} {mg : Str → Option Value} {base : Heap} {H H' : Hp} {Q : VK} {E : XK} {v1 v2 v3 v4 v5 : V}
local macro_rules | `(tactic| wtm_at "use") => `(tactic| ((with_reducible refine' use__law_draw ?u0 ?u1 ?u2 (fun dn dH dn0 dn1 de db => ?uq)); (case u0 => wtm_at "bag"); (case u1 => wtm_at "pos"); (case u2 => wtm_at "szb")))
local macro_rules | `(tactic| wtm_at "pos") => `(tactic| first | assumption | decide | omega)
local macro_rules | `(tactic| wtm_at "oneof") => `(tactic| ((with_reducible refine' use__law_one_of ?u0 ?u1 ?u2 ?u3 ?uq); (case u0 => wtm_at "bag"); (case u1 => wtm_at "dp"); (case u2 => exact Nat.le_of_ble_eq_true rfl); (case u3 => exact Nat.le_of_ble_eq_true rfl)))
theorem sqT_hid {b a : Addr} {us : List V} (hb : Bag b H) (h : SqT K H a us) : SqT K (hid b H) a us := by
  obtain ⟨x, y, z, h1, _⟩ := hb.ex
  rcases h with (h | ⟨o, h⟩) | h
  · exact .inl (.inl (hid_of h (ne_of h h1 (by intro z; cases z))))
  · exact .inl (.inr ⟨o, hid_of h (ne_of h h1 (by intro z; cases z))⟩)
  · exact .inr h
mutual
theorem dpHid {b : Addr} (hb : Bag b H) : ∀ {d : PyData} {v : V}, noL d = true → Dp K H v d → Dp K (hid b H) v d
  | .none, _, _, h => by cases h; exact .non
  | .bool _, _, _, h => by cases h; exact .bl _
  | .int _, _, _, h => by cases h; exact .int _
  | .str _, _, _, h => by cases h; exact .str _
  | .list ds, _, n, h => by cases n
  | .tuple ds, _, n, h => by
    cases h with
    | tup hs ha => exact .tup (sqT_hid hb hs) (dpHidA hb n ha)
  | .dict _, _, _, h => by cases h
theorem dpHidA {b : Addr} (hb : Bag b H) : ∀ {ds : List PyData} {vs : List V}, noLs ds = true → DpAll K H vs ds → DpAll K (hid b H) vs ds
  | [], _, _, h => by cases h; exact .nil
  | d :: ds, _, n, h => by
    cases h with
    | cons h1 h2 =>
      have n2 := Bool.and_eq_true_iff.mp (show (noL d && noLs ds) = true from n)
      exact .cons (dpHid hb n2.1 h1) (dpHidA hb n2.2 h2)
end
theorem dpHidL {b p : Addr} {ds : List PyData} (hb : Bag b H) (hne : p ≠ b) (hn : noLs ds = true) (h : Dp K H (.ref p) (.list ds)) : Dp K (hid b H) (.ref p) (.list ds) := by
  obtain ⟨a, us, e, hs, ha⟩ := dpLst h
  cases e
  refine .lst ?_ (dpHidA hb hn ha)
  rcases hs with (h | ⟨o, h⟩) | h
  · exact .inl (.inl (hid_of h hne))
  · exact .inl (.inr ⟨o, hid_of h hne⟩)
  · exact .inr h
theorem mn_perm {ns ms : List Int} (h : ns.Perm ms) : mnI ns = mnI ms := by
  by_cases e : ns = []
  · subst e
    rw [List.Perm.nil_eq h]
  · have e2 : ms ≠ [] := fun z => e (by rw [z] at h; exact List.Perm.eq_nil h)
    have h1 := mn_mem e
    have h2 := mn_mem e2
    have h3 := h1.2 _ (h.mem_iff.mpr h2.1)
    have h4 := h2.2 _ (h.mem_iff.mp h1.1)
    omega
theorem mx_perm {ns ms : List Int} (h : ns.Perm ms) : mxI ns = mxI ms := by
  by_cases e : ns = []
  · subst e
    rw [List.Perm.nil_eq h]
  · have e2 : ms ≠ [] := fun z => e (by rw [z] at h; exact List.Perm.eq_nil h)
    have h1 := mx_mem e
    have h2 := mx_mem e2
    have h3 := h1.2 _ (h.mem_iff.mpr h2.1)
    have h4 := h2.2 _ (h.mem_iff.mp h1.1)
    omega
theorem joint_perm {bs cs : List Bx} (h : bs.Perm cs) : joint bs = joint cs := by
  unfold joint
  rw [mn_perm (h.map (·.1)), mn_perm (h.map (·.2.1)), mx_perm (h.map (·.2.2.1)), mx_perm (h.map (·.2.2.2))]
def brO {k : Nat} (t : Fo k) : Bx × Fo k := (joint ((ents k t).map (·.2)), t)
def upF {k : Nat} (ts : List (Fo k)) : Fo (k + 1) := mkNd (ts.map brO)
/-- a form that may stand below another one -/
def Low (k : Nat) (t : Fo k) : Prop := Right k t ∧ 2 ≤ foSz k t ∧ foSz k t ≤ 4
theorem Low.sm {k : Nat} {t : Fo k} (h : Low k t) : Sm k t := sm_of k t h.2.2 h.1
theorem right_up {k : Nat} {ts : List (Fo k)} (h : ∀ t ∈ ts, Low k t) : Right (k + 1) (upF ts) := fun p hp => by
  obtain ⟨t, ht, rfl⟩ := List.mem_map.mp hp
  exact ⟨rfl, (h t ht).2.1, (h t ht).2.2, (h t ht).1⟩
theorem sz_up {k : Nat} (ts : List (Fo k)) : foSz (k + 1) (upF ts) = ts.length := List.length_map _
theorem ents_up {k : Nat} (ts : List (Fo k)) : ents (k + 1) (upF ts) = ts.flatMap (ents k) := by
  show (ts.map brO).flatMap (fun p => ents k p.2) = _
  rw [List.flatMap_map]
  rfl
theorem foD_up {k : Nat} (ts : List (Fo k)) : foD (k + 1) (upF ts) = .tuple [.str "node", .tuple (ts.map fun t => brD k (brO t))] := by
  show PyData.tuple [.str "node", .tuple ((ts.map brO).map fun p => .tuple [bxD p.1, foD k p.2])] = _
  rw [List.map_map]
  rfl
abbrev brE (K : PySem.W.Frag) (src : TI) : TE := tLc src (gName 5) tYes (tTup (tCons (tCl (sp__law_joint_box K) (tCons (tCl (sp__law_boxes_in K) (tCons (tVar 5) tNil)) tNil)) (tCons (tVar 5) tNil))) [5]
theorem br_turn {k : Nat} {ts : List (Fo k)} {c0 c1 c2 c3 c4 c5 : Option V} (hk : k ≤ 2) (hl : ∀ t ∈ ts, Low k t) :
    LcTurn K H (foD k) ts (fun _ => true) (fun t => brD k (brO t)) (gName 5) tYes (tTup (tCons (tCl (sp__law_joint_box K) (tCons (tCl (sp__law_boxes_in K) (tCons (tVar 5) tNil)) tNil)) (tCons (tVar 5) tNil))) [5] [c0, c1, c2, c3, c4, c5] := by
  intro u x H2 R Y e2 hm hu hn hy
  have hL := hl x hm
  wtm_at "nrm"
  refine ⟨rfl, ?_⟩
  wtm_at "go"
  refine use__law_boxes_in (by omega) hu hL.sm (fun es' hp p H3 hp3 e3 hl3 => ?_)
  wtm_at "go"
  have hne : es' ≠ [] := fun z => ents_ne k x hL.2.1 hL.1 (by rw [z] at hp; exact (List.Perm.nil_eq hp).symm)
  have hle := ents_le (show k ≤ 3 by omega) hL.sm
  refine use__law_joint_box (bs := es'.map (·.2)) hl3 (fun z => hne (List.map_eq_nil_iff.mp z)) (by rw [List.length_map, hp.length_eq]; omega) (fun v H4 e4 hv => ?_)
  rw [joint_perm (hp.map (·.2))] at hv
  wtm_at "go"
  rename_i np nH nhe nhp
  exact hy rfl _ _ (by wtm_at "ex") (.tup (Evl.st_of nhp) (.cons (dpMono nhe hv) (.cons (dpMono (by wtm_at "ex") hu) .nil)))
abbrev lotsE (K : PySem.W.Frag) (i : Nat) : TE := tIf (tTest (tOp (rI0 fun i j => V.bl (decide (j < i))) (tCB (qLen K) (tCons (tVar i) tNil)) (tC (V.int 4)))) (tCl (sp__law_lots_of K) (tCons (tVar 0) (tCons (tVar i) tNil)))
  (tLst (tCons (tCB (qTupleOf K) (tCons (tSl (rSlL K) (tVar i) tNoPart (tPart (tC (V.int 2)))) tNil)) (tCons (tCB (qTupleOf K) (tCons (tSl (rSlL K) (tVar i) (tPart (tC (V.int 2))) tNoPart) tNil)) tNil)))
theorem lots_expr {i : Nat} {σ : L2.St} {b : Addr} {l : V} {ds : List PyData} (h0 : σ[0]? = some (some (.ref b))) (hi : σ[i]? = some (some l)) (hb : Bag b H) (hd : Dp K (hid b H) l (.list ds)) (hno : noLs ds = true) (h4 : 4 ≤ ds.length) (h20 : ds.length ≤ 20)
    (q : ∀ p H2 (dss : List (List PyData)), dss.flatten = ds → (∀ es ∈ dss, 2 ≤ es.length ∧ es.length ≤ 4) → 2 ≤ dss.length → dss.length * 2 ≤ ds.length → Ex (hid b H) (hid b H2) → Bag b H2 → Dp K (hid b H2) (.ref p) (.list (dss.map .tuple)) → Q (.ref p) H2) : lotsE K i σ H Q := by
  have hd1 : Dp K H l (.list ds) := dpMono ex_hid hd
  obtain ⟨a, us, rfl, hs, ha⟩ := dpLst hd
  refine i_if (i_test (i_op (i_cb (i_cons (i_var hi (i_nil (i_qlenL hd1 (i_c (i_I0 (i_k ?_))))))))))
  refine i_ite (fun h => ?_) (fun h => ?_)
  · refine i_cl (i_cons (i_var h0 (i_cons (i_var hi (i_nil ?_)))))
    refine use__law_lots_of hb hd hno (by omega) h20 (fun p H2 dss f1 f2 e2 b2 h2 => ?_)
    have f3 := flat_ge fun es h => (f2 es h).1
    rw [f1] at f3
    have f4 : ∀ {xss : List (List PyData)}, (∀ es ∈ xss, 2 ≤ es.length ∧ es.length ≤ 4) → xss.flatten.length ≤ xss.length * 4 := by
      intro xss
      induction xss with
      | nil => intro _; exact Nat.le_refl _
      | cons y ys ih =>
        intro hy
        rw [List.flatten_cons, List.length_append, List.length_cons, Nat.succ_mul]
        have := (hy y List.mem_cons_self).2
        have := ih fun z hz => hy z (List.mem_cons_of_mem _ hz)
        omega
    have f5 := f4 f2
    rw [f1] at f5
    exact q p H2 dss f1 f2 (by omega) f3 e2 b2 h2
  · have hl4 : ds.length = 4 := by omega
    have hsH : SqL K H a us := Evl.ex_l ex_hid hs
    refine i_lst ?_
    refine i_cons ?_
    refine i_cb ?_
    refine i_cons ?_
    refine i_sl ?_
    refine i_var hi ?_
    refine i_nopart ?_
    refine i_part ?_
    refine i_c ?_
    refine i_part1 ?_
    refine i_slL hsH fun p1 H1 n1 e1 h1 => ?_
    refine i_nil ?_
    refine i_qtupleR (Evl.sq_of h1) fun p2 H2 n2 e2 h2 => ?_
    refine i_cons ?_
    refine i_cb ?_
    refine i_cons ?_
    refine i_sl ?_
    refine i_var hi ?_
    refine i_part ?_
    refine i_c ?_
    refine i_part1 ?_
    refine i_nopart ?_
    refine i_slL (Evl.ex_l (e1.trans e2) hsH) fun p3 H3 n3 e3 h3 => ?_
    refine i_nil ?_
    refine i_qtupleR (Evl.sq_of h3) fun p4 H4 n4 e4 h4' => ?_
    refine i_nil ?_
    rw [show (2 : Int) = ((2 : Nat) : Int) from rfl, cut_to] at h1 h2
    rw [show (2 : Int) = ((2 : Nat) : Int) from rfl, cut_from] at h3 h4'
    refine i_mkL (Nat.le_of_ble_eq_true rfl) (fun p5 H5 n5 e5 h5 => ?_)
    have eH : Ex H H5 := ((e1.trans e2).trans (e3.trans e4)).trans e5
    have b5 : Bag b H5 := hb.mono eH
    have ha5 := dpMonoA (hid_ex eH) ha
    have t2 : hid b H5 p2 = some (.tup (us.take 2)) := hid_tup b5 (e5 _ _ (e4 _ _ (e3 _ _ h2)))
    have t4 : hid b H5 p4 = some (.tup (us.drop 2)) := hid_tup b5 (e5 _ _ h4')
    refine q p5 H5 [ds.take 2, ds.drop 2] (by simp) (fun es h => ?_) (Nat.le_refl _) (by simp; omega) (hid_ex eH) b5 (.lst (Evl.sq_of (hid_new (hb.mono ((e1.trans e2).trans (e3.trans e4))) n5 h5)) ?_)
    · simp only [List.mem_cons, List.not_mem_nil, or_false] at h
      rcases h with rfl | rfl
      · rw [List.length_take]
        omega
      · rw [List.length_drop]
        omega
    · exact .cons (.tup (Evl.st_of t2) (dpTakeN ha5)) (.cons (.tup (Evl.st_of t4) (dpDropN ha5)) .nil)
abbrev nodesE (K : PySem.W.Frag) : TE := tLc (iList K (tVar 3)) (gName 4) tYes (tTup (tCons (tC (V.str "node")) (tCons (tCB (qTupleOf K) (tCons (brE K (iTup K (tVar 4))) tNil)) tNil))) [4]
abbrev leafsE (K : PySem.W.Frag) : TE := tLc (iList K (lotsE K 1)) (gName 4) tYes (tTup (tCons (tC (V.str "leaf")) (tCons (tVar 4) tNil))) [4]
abbrev topE (K : PySem.W.Frag) : TE := tTup (tCons (tC (V.str "node")) (tCons (tCB (qTupleOf K) (tCons (brE K (iList K (tVar 2))) tNil)) tNil))
theorem filt_true {α : Type} (xs : List α) : (xs.filter fun _ => true) = xs := List.filter_eq_self.mpr fun _ _ => rfl
theorem br_end {k : Nat} {ts : List (Fo k)} {p4 : Addr} (hl4 : Dp K H (.ref p4) (.list ((ts.filter fun _ => true).map fun t => brD k (brO t)))) {R : VK} (q : ∀ v H2, Ex H H2 → Dp K H2 v (foD (k + 1) (upF ts)) → R v H2) : qTupleOf K [.ref p4] H fun x H1 => MkT [.str "node", x] H1 R := by
  rw [filt_true] at hl4
  refine i_qtupleL hl4 (fun p5 H5 e5 hh => ?_)
  obtain ⟨vs, h1, h2⟩ := hh
  refine i_mkT (Nat.le_of_ble_eq_true rfl) (fun p6 H6 e6 h6 => q _ _ (e5.trans e6) ?_)
  rw [foD_up]
  exact .tup (Evl.st_of h6) (.cons (.str _) (.cons (.tup (Evl.st_of (e6 _ _ h1)) (dpMonoA e6 h2)) .nil))
theorem lvl_body {k : Nat} {ts : List (Fo k)} {D : Ends} {b : Addr} {lv : V} {c3 c4 c5 : Option V} (hk : k ≤ 1) (hb : Bag b H) (hd : Dp K (hid b H) lv (.list (ts.map (foD k)))) (hl : ∀ t ∈ ts, Low k t) (h4 : 4 ≤ ts.length) (h20 : ts.length ≤ 20)
    (q : ∀ p H2 (tss : List (List (Fo k))) c3' c4' c5', tss.flatten = ts → (∀ l ∈ tss, 2 ≤ l.length ∧ l.length ≤ 4) → 2 ≤ tss.length → tss.length * 2 ≤ ts.length → Ex (hid b H) (hid b H2) → Bag b H2 → Dp K (hid b H2) (.ref p) (.list ((tss.map upF).map (foD (k + 1)))) → D.nx [some (.ref b), some v2, some (.ref p), c3', c4', c5'] H2) :
    tSeq (tAsg (lotsE K 2) (gName 3)) (tAsg (nodesE K) (gName 2)) D [some (.ref b), some v2, some lv, c3, c4, c5] H := by
  refine i_seq (i_asg ?_)
  refine lots_expr (b := b) rfl rfl hb hd (noLs_map _ (noL_fo k) ts) (by rw [List.length_map]; exact h4) (by rw [List.length_map]; exact h20) (fun p H2 dss f1 f2 f3 f4 e2 b2 h2 => ?_)
  obtain ⟨tss, g1, rfl⟩ := flat_inv f1
  have gss : ∀ l ∈ tss, 2 ≤ l.length ∧ l.length ≤ 4 := fun l h => by
    have := f2 (l.map (foD k)) (List.mem_map.mpr ⟨l, h, rfl⟩)
    rw [List.length_map] at this
    exact this
  have gl : ∀ l ∈ tss, ∀ t ∈ l, Low k t := fun l h t ht => hl t (by rw [← g1]; exact List.mem_flatten.mpr ⟨l, h, ht⟩)
  rw [List.length_map] at f3 f4
  rw [List.length_map] at f4
  rw [List.map_map] at h2
  wtm_at "go"
  refine i_lcLU ?_
  wtm_at "go"
  refine i_lcGLR (enc := PyData.tuple ∘ List.map (foD k)) (xs := tss) (fun _ => true) (fun l => foD (k + 1) (upF l)) (dpMono ex_hid h2) (by omega) (fun l _ => noL_fo _ _) (fun u l H3 R Y e3 hm hu hn hy => ?_) (fun p3 H3 zs hp3 e3 hz1 hz2 => ?_)
  · have hu : Dp K H3 u (.tuple (l.map (foD k))) := hu
    wtm_at "nrm"
    refine ⟨rfl, ?_⟩
    wtm_at "go"
    refine i_lcTU ?_
    wtm_at "go"
    refine i_lcGT (fun _ => true) (fun t => brD k (brO t)) hu (by have := (gss l hm).2; omega) (fun t _ => noL_br k _) (br_turn (by omega) (gl l hm)) (fun p4 H4 hp4 e4 hl4 => ?_)
    wtm_at "go"
    refine br_end hl4 (fun v H5 e5 hv => ?_)
    exact hy rfl _ _ (e4.trans e5) hv
  · rw [filt_true] at hz2
    have e9 : (tss.map upF).map (foD (k + 1)) = tss.map fun l => foD (k + 1) (upF l) := by rw [List.map_map]; rfl
    wtm_at "go"
    refine q p3 H3 tss _ _ _ g1 gss f3 f4 (e2.trans (hid_ex e3)) (b2.mono e3) (.lst (Evl.sq_of (hid_new b2 hp3 hz1)) ?_)
    rw [e9]
    exact dpHidA (b2.mono e3) (noLs_map _ (fun l => noL_fo _ _) _) hz2
theorem lvl_first {es : List En} {b : Addr} {c2 c3 c4 c5 : Option V} (hb : Bag b H) (hd : Dp K (hid b H) v2 (.list (es.map enD))) (h4 : 4 ≤ es.length) (h20 : es.length ≤ 20)
    (q : ∀ p H2 (yss : List (List En)), yss.flatten = es → (∀ l ∈ yss, 2 ≤ l.length ∧ l.length ≤ 4) → 2 ≤ yss.length → yss.length * 2 ≤ es.length → Ex (hid b H) (hid b H2) → Bag b H2 → Dp K (hid b H2) (.ref p) (.list ((yss.map mkLf).map (foD 0))) → Q (.ref p) H2) :
    leafsE K [some (.ref b), some v2, c2, c3, c4, c5] H Q := by
  refine i_lcLU ?_
  refine lots_expr (b := b) rfl rfl hb hd (noLs_map _ noL_en es) (by rw [List.length_map]; exact h4) (by rw [List.length_map]; exact h20) (fun p H2 dss f1 f2 f3 f4 e2 b2 h2 => ?_)
  obtain ⟨tss, g1, rfl⟩ := flat_inv f1
  have gss : ∀ l ∈ tss, 2 ≤ l.length ∧ l.length ≤ 4 := fun l h => by
    have := f2 (l.map enD) (List.mem_map.mpr ⟨l, h, rfl⟩)
    rw [List.length_map] at this
    exact this
  rw [List.length_map] at f3 f4
  rw [List.length_map] at f4
  rw [List.map_map] at h2
  refine i_lcGLR (enc := PyData.tuple ∘ List.map enD) (xs := tss) (fun _ => true) (fun l => foD 0 (mkLf l)) (dpMono ex_hid h2) (by omega) (fun l _ => noL_fo _ _) (fun u l H3 R Y e3 hm hu hn hy => ?_) (fun p3 H3 zs hp3 e3 hz1 hz2 => ?_)
  · have hu : Dp K H3 u (.tuple (l.map enD)) := hu
    wtm_at "nrm"
    refine ⟨rfl, ?_⟩
    wtm_at "go"
    rename_i np nH nhe nhp
    exact hy rfl _ _ nhe (.tup (Evl.st_of nhp) (.cons (.str _) (.cons (dpMono nhe hu) .nil)))
  · rw [filt_true] at hz2
    have e9 : (tss.map mkLf).map (foD 0) = tss.map fun l => foD 0 (mkLf l) := by rw [List.map_map]; rfl
    refine q p3 H3 tss g1 gss f3 f4 (e2.trans (hid_ex e3)) (b2.mono e3) (.lst (Evl.sq_of (hid_new b2 hp3 hz1)) ?_)
    rw [e9]
    exact dpHidA (b2.mono e3) (noLs_map _ (fun l => noL_fo _ _) _) hz2
theorem lvl_end {k : Nat} {ts : List (Fo k)} {b : Addr} {lv : V} {c3 c4 c5 : Option V} (hk : k ≤ 2) (hb : Bag b H) (hd : Dp K (hid b H) lv (.list (ts.map (foD k)))) (hl : ∀ t ∈ ts, Low k t) (h20 : ts.length ≤ 20)
    (q : ∀ v H2, Ex (hid b H) (hid b H2) → Bag b H2 → Dp K (hid b H2) v (foD (k + 1) (upF ts)) → Q v H2) :
    topE K [some (.ref b), some v2, some lv, c3, c4, c5] H Q := by
  wtm_at "go"
  refine i_lcLU ?_
  wtm_at "go"
  refine i_lcGL (fun _ => true) (fun t => brD k (brO t)) (dpMono ex_hid hd) (by omega) (fun t _ => noL_br k _) (br_turn hk hl) (fun p4 H4 hp4 e4 hl4 => ?_)
  wtm_at "go"
  refine br_end hl4 (fun v H5 e5 hv => ?_)
  exact q _ _ (hid_ex (e4.trans e5)) (hb.mono (e4.trans e5)) (dpHid (hb.mono (e4.trans e5)) (noL_fo _ _) hv)
def sp__law_drawn_form (K : PySem.W.Frag) : Sp := A2 fun v1 v2 H Q => ∃ (b : Addr) (es : List En), v1 = .ref b ∧ Bag b H ∧ Dp K (hid b H) v2 (.list (es.map enD)) ∧ (∀ e ∈ es, e.2.ok) ∧ es.length ≤ 14 ∧
  ∀ v H2 (n : Nat) (t : Fo n), n ≤ 2 → Right n t → foSz n t ≤ 4 → (0 < n → 2 ≤ foSz n t) → ents n t = es → Ex (hid b H) (hid b H2) → Bag b H2 → Dp K (hid b H2) v (foD n t) → Q v H2
/-- a level that is built -/
def Lvl (es : List En) (k : Nat) (ts : List (Fo k)) : Prop := (∀ t ∈ ts, Low k t) ∧ ts.flatMap (ents k) = es ∧ 2 ≤ ts.length ∧ (k = 0 ∧ ts.length ≤ 7 ∨ k = 1 ∧ ts.length ≤ 3)
theorem lvl_zero {es : List En} {yss : List (List En)} (h : yss.flatten = es) (hs : ∀ l ∈ yss, 2 ≤ l.length ∧ l.length ≤ 4) (h2 : 2 ≤ yss.length) (h3 : yss.length * 2 ≤ es.length) (h14 : es.length ≤ 14) (hok : ∀ e ∈ es, e.2.ok) : Lvl es 0 (yss.map mkLf) := by
  refine ⟨fun t ht => ?_, ?_, by rw [List.length_map]; exact h2, .inl ⟨rfl, by rw [List.length_map]; omega⟩⟩
  · obtain ⟨l, hl, rfl⟩ := List.mem_map.mp ht
    exact ⟨fun e he => hok e (by rw [← h]; exact List.mem_flatten.mpr ⟨l, hl, he⟩), (hs l hl).1, (hs l hl).2⟩
  · rw [List.flatMap_map]
    show yss.flatMap (fun l => l) = es
    rw [← h]
    simp
theorem lvl_up {es : List En} {ts : List (Fo 0)} {tss : List (List (Fo 0))} (L : Lvl es 0 ts) (h : tss.flatten = ts) (hs : ∀ l ∈ tss, 2 ≤ l.length ∧ l.length ≤ 4) (h2 : 2 ≤ tss.length) (h3 : tss.length * 2 ≤ ts.length) : Lvl es 1 (tss.map upF) := by
  obtain ⟨l1, l2, l3, l4⟩ := L
  have l5 : ts.length ≤ 7 := by omega
  refine ⟨fun t ht => ?_, ?_, by rw [List.length_map]; exact h2, .inr ⟨rfl, by rw [List.length_map]; omega⟩⟩
  · obtain ⟨l, hl, rfl⟩ := List.mem_map.mp ht
    exact ⟨right_up fun t ht => l1 t (by rw [← h]; exact List.mem_flatten.mpr ⟨l, hl, ht⟩), by rw [sz_up]; exact (hs l hl).1, by rw [sz_up]; exact (hs l hl).2⟩
  · rw [List.flatMap_map, ← l2, ← h]
    have e : (fun l : List (Fo 0) => ents 1 (upF l)) = fun l => l.flatMap (ents 0) := funext fun l => ents_up l
    rw [e]
    clear h h3 hs h2 e l1 l2 l3 l4
    induction tss with
    | nil => rfl
    | cons x r ih => rw [List.flatMap_cons, ih, List.flatten_cons, List.flatMap_append]
abbrev s__law_drawn_form : Stmt := top 68
theorem sc__law_drawn_form : FnScope ["_law_bag_here", "_law_entries", "_law_level", "_law_lots", "_law_lot", "_law_one"] ["_law_bag_here", "_law_entries"] (defScope s__law_drawn_form) := ⟨rfl, rfl, rfl, by decide +kernel, rfl, by decide +kernel, by decide +kernel⟩
theorem ok__law_drawn_form {f : Addr} {fd : FuncData} (F : FnP K "_law_drawn_form" s__law_drawn_form f fd) (g : G mg) (c__law_lots_of : Cl P w K mg base 2 "_law_lots_of" (sp__law_lots_of K)) (c__law_draw : Cl P w K mg base 1 "_law_draw" (sp__law_draw K)) (c__law_joint_box : Cl P w K mg base 1 "_law_joint_box" (sp__law_joint_box K)) (c__law_boxes_in : Cl P w K mg base 2 "_law_boxes_in" (sp__law_boxes_in K))  : FnOk P w K mg base CX0 3 f fd ["_law_bag_here", "_law_entries"] (sp__law_drawn_form K) := by
  have nd := sc__law_drawn_form.nd
  refine F.ok sc__law_drawn_form (fun vs H Q E h => h.len) (fun cdv A outer s H vs Q E hr h => ?_)
  obtain ⟨v1, v2, rfl, h⟩ := h
  refine ⟨_, PSs.nox (pss_cons (ps_if (PW.pt (pw_and (pt_cmpR op_lt (pe_callB call_qlen (by rfl) g.f_len boot_len (pa_cons (pv 1) pa_nil)) pe_int (nomark _)) (pw_and1 (PW.pt (pw_or (pt_cmpR op_lt (pe_callB call_qlen (by rfl) g.f_len boot_len (pa_cons (pv 1) pa_nil)) pe_int (nomark _)) (pw_or1 (pt_cmpR op_eq (pc c__law_draw hr (by first | decide | omega) (by rfl) (pa_cons (pv 0) (pa_cons pe_int pa_nil))) pe_int (nomark _)))))))) (pss_one (ps_ret (pe_tup (pa_cons pe_str (pa_cons (pe_callTy call_qtuple (by rfl) g.f_tuple boot_tuple (pa_cons (pv 1) pa_nil)) pa_nil))))) pss_nil) (pss_cons (ps_setLc (i := 2) (own := [("_law_lot", 4)]) (g := gName 4) (by rfl) nd rfl rfl (sw_true rfl rfl rfl (by decide +kernel)) (pi_list (pe_ifExp (pt_cmpR op_gt (pe_callB call_qlen (by rfl) g.f_len boot_len (pa_cons (pv 1) pa_nil)) pe_int (nomark _)) (pc c__law_lots_of hr (by first | decide | omega) (by rfl) (pa_cons (pv 0) (pa_cons (pv 1) pa_nil))) (pe_lst (pa_cons (pe_callTy call_qtuple (by rfl) g.f_tuple boot_tuple (pa_cons (pe_slice sl_list (pv 1) po_none (po_some pe_int)) pa_nil)) (pa_cons (pe_callTy call_qtuple (by rfl) g.f_tuple boot_tuple (pa_cons (pe_slice sl_list (pv 1) (po_some pe_int) po_none) pa_nil)) pa_nil))))) (blkOk_by (N := ["_law_bag_here", "_law_entries", "_law_level", "_law_lots", "_law_lot", "_law_one"]) (sc := defScope s__law_drawn_form) (own := [("_law_lot", 4)]) (by decide +kernel)) (fun _ _ _ _ _ => (pg_name (i := 4) nd rfl (Or.inl rfl))) (fun _ _ _ _ _ => pts_nil) (fun _ _ _ _ _ => (pe_tup (pa_cons pe_str (pa_cons (pv 4) pa_nil))))) (pss_cons (ps_while PassesOwn.never (PW.pt (pw_or (pt_cmpR op_gt (pe_callB call_qlen (by rfl) g.f_len boot_len (pa_cons (pv 2) pa_nil)) pe_int (nomark _)) (pw_or1 (PW.pt (pw_and (pt_cmpR op_gt (pe_callB call_qlen (by rfl) g.f_len boot_len (pa_cons (pv 2) pa_nil)) pe_int (nomark _)) (pw_and1 (pt_cmpR op_eq (pc c__law_draw hr (by first | decide | omega) (by rfl) (pa_cons (pv 0) (pa_cons pe_int pa_nil))) pe_int (nomark _)))))))) (pss_cons (ps_set (i := 3) nd rfl (Or.inl rfl) (pe_ifExp (pt_cmpR op_gt (pe_callB call_qlen (by rfl) g.f_len boot_len (pa_cons (pv 2) pa_nil)) pe_int (nomark _)) (pc c__law_lots_of hr (by first | decide | omega) (by rfl) (pa_cons (pv 0) (pa_cons (pv 2) pa_nil))) (pe_lst (pa_cons (pe_callTy call_qtuple (by rfl) g.f_tuple boot_tuple (pa_cons (pe_slice sl_list (pv 2) po_none (po_some pe_int)) pa_nil)) (pa_cons (pe_callTy call_qtuple (by rfl) g.f_tuple boot_tuple (pa_cons (pe_slice sl_list (pv 2) (po_some pe_int) po_none) pa_nil)) pa_nil))))) (pss_one (ps_setLc (i := 2) (own := [("_law_lot", 4)]) (g := gName 4) (by rfl) nd rfl rfl (sw_true rfl rfl rfl (by decide +kernel)) (pi_list (pv 3)) (blkOk_by (N := ["_law_bag_here", "_law_entries", "_law_level", "_law_lots", "_law_lot", "_law_one"]) (sc := defScope s__law_drawn_form) (own := [("_law_lot", 4)]) (by decide +kernel)) (fun _ _ _ _ _ => (pg_name (i := 4) nd rfl (Or.inl rfl))) (fun _ _ _ _ _ => pts_nil) (fun _ _ _ _ _ => (pe_tup (pa_cons pe_str (pa_cons (pe_callTy (show CallR _ _ (qTupleOf K) from call_qtuple) (by rfl) g.f_tuple boot_tuple (pa_cons (pe_lc (own := [("_law_one", 5)]) (g := gName 5) (by rfl) nd (show PI _ _ _ (iTup K _) from (pi_tup (pv 4))) (blkOk_by (by kernel_rfl)) (fun _ _ _ _ _ => (pg_name (i := 5) nd rfl (Or.inl rfl))) (fun _ _ _ _ _ => pts_nil) (fun _ _ _ _ _ => (pe_tup (pa_cons (pc c__law_joint_box hr (by first | decide | omega) (by rfl) (pa_cons (pc c__law_boxes_in hr (by first | decide | omega) (by rfl) (pa_cons (pv 5) pa_nil)) pa_nil)) (pa_cons (pv 5) pa_nil))))) pa_nil)) pa_nil)))))))) (pss_one (ps_ret (pe_tup (pa_cons pe_str (pa_cons (pe_callTy call_qtuple (by rfl) g.f_tuple boot_tuple (pa_cons (pe_lc (own := [("_law_one", 5)]) (g := gName 5) (by rfl) nd (pi_list (pv 2)) (blkOk_by (N := ["_law_bag_here", "_law_entries", "_law_level", "_law_lots", "_law_lot", "_law_one"]) (sc := defScope s__law_drawn_form) (own := [("_law_one", 5)]) (by decide +kernel)) (fun _ _ _ _ _ => (pg_name (i := 5) nd rfl (Or.inl rfl))) (fun _ _ _ _ _ => pts_nil) (fun _ _ _ _ _ => (pe_tup (pa_cons (pc c__law_joint_box hr (by first | decide | omega) (by rfl) (pa_cons (pc c__law_boxes_in hr (by first | decide | omega) (by rfl) (pa_cons (pv 5) pa_nil)) pa_nil)) (pa_cons (pv 5) pa_nil))))) pa_nil)) pa_nil)))))))), ?_⟩
  obtain ⟨b, es, rfl, hb, hd, hok, hl, q⟩ := h
  have hd1 : Dp K H v2 (.list (es.map enD)) := dpMono ex_hid hd
  -- what follows the first level
  have go : ∀ G p (yss : List (List En)), Ex (hid b H) (hid b G) → Bag b G → 4 ≤ es.length → yss.flatten = es → (∀ l ∈ yss, 2 ≤ l.length ∧ l.length ≤ 4) → 2 ≤ yss.length → yss.length * 2 ≤ es.length → Dp K (hid b G) (.ref p) (.list ((yss.map mkLf).map (foD 0))) →
      (tWhile (tOr (tTest (tOp (rI0 fun i j => V.bl (decide (j < i))) (tCB (qLen K) (tCons (tVar 2) tNil)) (tC (V.int 4)))) (tAnd (tTest (tOp (rI0 fun i j => V.bl (decide (j < i))) (tCB (qLen K) (tCons (tVar 2) tNil)) (tC (V.int 3)))) (tTest (tOp rEq (tCl (sp__law_draw K) (tCons (tVar 0) (tCons (tC (V.int 2)) tNil))) (tC (V.int 0))))))
        (tSeq (tAsg (lotsE K 2) (gName 3)) (tAsg (nodesE K) (gName 2)))) { nx := tRet (topE K) { nx := fun x H' => Q V.non H', rt := Q }, rt := Q } [some (.ref b), some v2, some (.ref p), none, none, none] G := by
    intro G p yss eG bG h4 g1 g2 g3 g4 hG
    refine i_tw (fun μ σ' H' => ∃ (lv : V) (k : Nat) (ts : List (Fo k)) (c3 c4 c5 : Option V), σ' = [some (.ref b), some v2, some lv, c3, c4, c5] ∧ Bag b H' ∧ Ex (hid b H) (hid b H') ∧ Dp K (hid b H') lv (.list (ts.map (foD k))) ∧ Lvl es k ts ∧ ts.length = μ) (yss.map mkLf).length
      ⟨.ref p, 0, yss.map mkLf, _, _, _, rfl, bG, eG, hG, lvl_zero g1 g2 g3 g4 hl hok, rfl⟩ ?_
    rintro μ σ' H' ⟨lv, k, ts, c3, c4, c5, rfl, bH, eH, hlv, L, rfl⟩
    have hlv1 : Dp K H' lv (.list (ts.map (foD k))) := dpMono ex_hid hlv
    obtain ⟨l1, l2, l3, l4⟩ := id L
    -- the body
    have body : ∀ G2, Ex (hid b H') (hid b G2) → Bag b G2 → 4 ≤ ts.length → ∃ N : L2.St → Hp → Prop, (∀ σ2 H2, N σ2 H2 → ∃ m', m' < ts.length ∧ ∃ (lv : V) (k : Nat) (ts : List (Fo k)) (c3 c4 c5 : Option V), σ2 = [some (.ref b), some v2, some lv, c3, c4, c5] ∧ Bag b H2 ∧ Ex (hid b H) (hid b H2) ∧ Dp K (hid b H2) lv (.list (ts.map (foD k))) ∧ Lvl es k ts ∧ ts.length = m') ∧
        (tSeq (tAsg (lotsE K 2) (gName 3)) (tAsg (nodesE K) (gName 2))) { nx := N, ct := N, bk := tRet (topE K) { nx := fun x H' => Q V.non H', rt := Q }, rt := Q } [some (.ref b), some v2, some lv, c3, c4, c5] G2 := by
      intro G2 e2 b2 h4
      have hk0 : k = 0 := by omega
      subst hk0
      refine ⟨fun σ2 H2 => ∃ m', m' < ts.length ∧ ∃ (lv : V) (k : Nat) (ts : List (Fo k)) (c3 c4 c5 : Option V), σ2 = [some (.ref b), some v2, some lv, c3, c4, c5] ∧ Bag b H2 ∧ Ex (hid b H) (hid b H2) ∧ Dp K (hid b H2) lv (.list (ts.map (foD k))) ∧ Lvl es k ts ∧ ts.length = m', fun _ _ h => h, ?_⟩
      refine lvl_body (k := 0) (by omega) b2 (dpMono e2 hlv) l1 h4 (by omega) (fun p3 H3 tss c3' c4' c5' t1 t2 t3 t4 e3 b3 h3 => ?_)
      exact ⟨(tss.map upF).length, by rw [List.length_map]; omega, .ref p3, 1, tss.map upF, _, _, _, rfl, b3, (eH.trans e2).trans e3, h3, lvl_up L t1 t2 t3 t4, rfl⟩
    have fin : ∀ G2, Ex (hid b H') (hid b G2) → Bag b G2 → ts.length ≤ 4 → topE K [some (.ref b), some v2, some lv, c3, c4, c5] G2 Q := by
      intro G2 e2 b2 h4
      refine lvl_end (k := k) (by omega) b2 (dpMono e2 hlv) l1 (by omega) (fun v H2 e3 b3 hv => ?_)
      exact q v H2 (k + 1) (upF ts) (by omega) (right_up l1) (by rw [sz_up]; exact h4) (fun _ => by rw [sz_up]; exact l3) (by rw [ents_up]; exact l2) ((eH.trans e2).trans e3) b3 hv
    wtm_at "gob"
    · rename_i h4
      rw [List.length_map] at h4
      exact body _ (Ex.refl _) bH (by omega)
    · rename_i h4 h3 dn dH dn0 dn1 de db hz
      rw [List.length_map] at h4 h3
      exact body _ de db (by omega)
    · rename_i h4 h3 dn dH dn0 dn1 de db hz
      rw [List.length_map] at h4 h3
      exact fin _ de db (by omega)
    · rename_i h4 h3
      rw [List.length_map] at h4 h3
      exact fin _ (Ex.refl _) bH (by omega)
  have leaf : ∀ G, Ex (hid b H) (hid b G) → Bag b G → es.length ≤ 4 → qTupleOf K [v2] G fun x H1 => MkT [.str "leaf", x] H1 Q := by
    intro G eG bG h4
    refine i_qtupleL (dpMono ex_hid (dpMono eG hd)) (fun p5 H5 e5 hh => ?_)
    obtain ⟨vs, h1, h2⟩ := hh
    refine i_mkT (Nat.le_of_ble_eq_true rfl) (fun p6 H6 e6 h6 => ?_)
    have b6 := bG.mono (e5.trans e6)
    exact q _ H6 0 (mkLf es) (by omega) hok h4 (fun h => absurd h (Nat.lt_irrefl 0)) rfl (eG.trans (hid_ex (e5.trans e6))) b6 (dpHid b6 (noL_fo 0 _) (.tup (Evl.st_of h6) (.cons (.str _) (.cons (.tup (Evl.st_of (e6 _ _ h1)) (dpMonoA e6 h2)) .nil))))
  wtm_at "gob0"
  · rename_i h5 h4
    rw [List.length_map] at h5 h4
    exact leaf _ (Ex.refl _) hb (by omega)
  · rename_i h5 h4 dn dH dn0 dn1 de db hz
    rw [List.length_map] at h5 h4
    exact leaf _ de db (by omega)
  · rename_i h5 h4 dn dH dn0 dn1 de db hz
    rw [List.length_map] at h5 h4
    refine lvl_first db (dpMono de hd) (by omega) (by omega) (fun p H2 yss g1 g2 g3 g4 e2 b2 h2 => ?_)
    wtm_at "gob"
    exact go H2 p yss (de.trans e2) b2 (by omega) g1 g2 g3 g4 h2
  · rename_i h5
    rw [List.length_map] at h5
    refine lvl_first hb hd (by omega) (by omega) (fun p H2 yss g1 g2 g3 g4 e2 b2 h2 => ?_)
    wtm_at "gob"
    exact go H2 p yss e2 b2 (by omega) g1 g2 g3 g4 h2
theorem use__law_drawn_form {b : Addr} {es : List En} (hb : Bag b H) (hd : Dp K (hid b H) v2 (.list (es.map enD))) (hok : ∀ e ∈ es, e.2.ok) (hl : es.length ≤ 14)
    (q : ∀ v H2 (n : Nat) (t : Fo n), n ≤ 2 → Right n t → foSz n t ≤ 4 → (0 < n → 2 ≤ foSz n t) → ents n t = es → Ex (hid b H) (hid b H2) → Bag b H2 → Dp K (hid b H2) v (foD n t) → Q v H2) : sp__law_drawn_form K [.ref b, v2] H Q E := ⟨_, _, rfl, b, es, rfl, hb, hd, hok, hl, q⟩
end
end Wb

/-! enumerate of a tuple; sorted of tuples whose first items are different ints, or different tuples of ints -/
namespace Wb
open PySem PySem.Spec PyProof.Rows L2
/-! ### enumerate(tuple) -/
theorem meets_enum1 {v : Value} {o : Obj} {H : Heap → Prop} (B : Begins v o H) :
    Meets (Builtin.«enumerate.__new__» ⟨[.type "enumerate", v], []⟩) (fun _ R s => H s.heap ∧
      R (.ok (.ret (.ref (s.heap.push o).objs.size))) { s with heap := (s.heap.push o).push { cls := .type "enumerate", data := .fields #[.none, .bool false, .ref s.heap.objs.size, rawInt 0, .none, .none] } }) :=
  .of_wp fun prog w A R s h => by
    obtain ⟨hp, g, d, tk, os⟩ := s; obtain ⟨h1, h⟩ := h
    have hsub := sub_enumerate
    have q1 : ∀ {A' : Around} {E : Value → Shared → Prop} {Q : Value → Shared → Prop}, Q (.ref hp.objs.size) ⟨hp.push o, g, d, tk, os⟩ → wpAny (model prog w) A' (pyIter v) Q E ⟨hp, g, d, tk, os⟩ :=
      fun q => B.iter prog w _ _ ⟨hp, g, d, tk, os⟩ _ h1 q
    wp_walk using q1
    refine wpAny_stack_any fun st => wpAny_pure ?_
    split
    · rename_i c _ _ _ _ _
      cases (c == Value.type "enumerate")
      · wp_walk using q1
        exact ⟨_, rfl, h⟩
      · wp_walk using q1
        exact ⟨_, rfl, h⟩
    · wp_walk using q1
      exact ⟨_, rfl, h⟩
theorem call_enum_tup {prog : Program} {w : World} {A : Around} {E : Value → Shared → Prop} {s : Shared} {l : Addr} {items : Array Value} {Q : Value → Shared → Prop} (hL : s.heap.IsTuple l items)
    (h : ∀ h', IsEnum h' (s.heap.objs.size + 1) s.heap.objs.size 0 .none → h'.IsTupleIter s.heap.objs.size l 0 → h'.objs.size = s.heap.objs.size + 2 →
      (∀ b o, s.heap.get? b = some o → h'.get? b = some o) → Q (.ref (s.heap.objs.size + 1)) { s with heap := h' }) :
    wpAny (model prog w) A (call (.type "enumerate") [.ref l]) Q E s := by
  refine callType_new F.called_enumerate (by decide) (F.typeCall_enumerate_1 _) (F.newCall_enumerate_1 _) (fun obj => F.args_object_init_2 obj _) F.entry_enumerate_new
    (meets_enum1 (begins_tuple l items)) ⟨hL, ?_⟩
  have hz : (s.heap.push { cls := .type "tuple_iterator", data := .fields #[.ref l, .int 0 0] }).objs.size = s.heap.objs.size + 1 := Heap.size_push ..
  show _ ∧ _
  rw [hz]
  have he : IsEnum ((s.heap.push { cls := .type "tuple_iterator", data := .fields #[.ref l, .int 0 0] }).push
      { cls := .type "enumerate", data := .fields #[.none, .bool false, .ref s.heap.objs.size, rawInt 0, .none, .none] }) (s.heap.objs.size + 1) s.heap.objs.size 0 .none := by
    have := Heap.get?_push_size (s.heap.push { cls := .type "tuple_iterator", data := .fields #[.ref l, .int 0 0] })
      (o := { cls := .type "enumerate", data := .fields #[.none, .bool false, .ref s.heap.objs.size, rawInt 0, .none, .none] }) rfl
    rw [hz] at this; exact this
  refine ⟨⟨_, he, rfl⟩, h _ he ⟨_, Heap.get?_push_of_some _ (Heap.get?_push_size _ rfl), rfl, rfl⟩ (by rw [Heap.size_push, hz]) fun b o x => Heap.get?_push_of_some _ (Heap.get?_push_of_some _ x)⟩
theorem pyNext_enum_endT {prog : Program} {w : World} {A : Around} {E : Value → Shared → Prop} {s : Shared} {e it a : Addr} {i : Nat} {items : List Value} {k : Int} {old : Value} {Q : Option Value → Shared → Prop} (hh : A.handled = none)
    (he : IsEnum s.heap e it k old) (hit : s.heap.IsTupleIter it a i) (ht : s.heap.IsTuple a items.toArray) (hx : items.length ≤ i) (hQ : ∀ h', Heap.ExtBut it s.heap h' → Q none { s with heap := h' }) : wpAny (model prog w) A (pyNext (.ref e)) Q E s := by
  have hT : s.TypeIs (.ref e) "enumerate" := ⟨_, he, rfl⟩
  unfold pyNext
  refine wpAny_bind (wpAny_attempt (wpAny_callSpecial?_slot (name := Str.ofString "__next__") hT F.slot_enumerate_next
    (wpAny_call_entry F.slot_enumerate_next hT F.entry_enumerate_next ?_ (F.args_enumerate_next_1 _))))
  show wpAny _ _ (field (.ref e) 2 >>= _) _ _ _
  refine wpAny_bind (wpAny_field he rfl (x := .ref it) rfl ?_)
  refine wpAny_bind (wpAny_nextOf_tuple_end hh hit ht (by simp; omega) fun h' x he' hx' => ?_)
  obtain ⟨o, ho, hc⟩ := hx'
  refine wpAny_bind (wpAny_isInstance (T := "StopIteration") (b := true) ⟨o, ho, hc⟩ isSubtype_stop ?_)
  exact wpAny_pure (hQ _ he')
/-- the tuple at a, each item in a new pair -/
def Itet (K : PySem.W.Frag) (a : Addr) : It :=
  ⟨fun i H => ∃ (xs : List V) (x : V), SqT K H a xs ∧ xs[i]? = some x, fun i H v H' => ∃ T x, v = .ref T ∧ H T = none ∧ H' = upd H T (.tup [.int (i : Nat), x]) ∧ ∀ xs, SqT K H a xs → xs[i]? = some x, fun i H => ∃ xs : List V, SqT K H a xs ∧ xs.length ≤ i⟩
theorem turn_enumT {P : Program} {w : World} {K : PySem.W.Frag} {elts : List Expr} {kk : Nat} {tpos : Pos} (a e it : Addr) :
    Turn P w K (.Tuple elts kk tpos) (Itet K a) [e, it] e (fun i h => (∃ old, IsEnum h e it ((i : Nat) : Int) old) ∧ h.IsTupleIter it a i ∧ e ≠ it) where
  mem := by simp
  obj := fun i h st b hb => by
    obtain ⟨⟨old, he⟩, ⟨o, ho, hc, hd⟩, _⟩ := st
    have e' : b = e ∨ b = it := by simpa using hb
    rcases e' with z | z
    · rw [z]; exact ⟨_, he, fun v q => nomatch q⟩
    · rw [z]; exact ⟨o, ho, fun v q => by rw [hd] at q; cases q⟩
  keep := fun i h h' st k => let ⟨⟨old, he⟩, hi, hne⟩ := st; ⟨⟨old, k e (by simp) _ he⟩, hi.at fun o q => k it (by simp) o q, hne⟩
  item := by
    intro X hP hw hK hc i pins s σ H E I hf st hg
    subst hP hw hK
    obtain ⟨⟨old, he⟩, hit, hne⟩ := st
    obtain ⟨xs, x, hq, hx⟩ := hg
    obtain ⟨its, rv, p, hz⟩ := I.tuple hq
    obtain ⟨u, hu, ru⟩ := rv.get hx
    have pt : s.heap.IsTuple a its.toArray := p
    have hel : e < s.heap.objs.size := Heap.lt_size he
    have hil : it < s.heap.objs.size := by obtain ⟨_, q, _⟩ := hit; exact Heap.lt_size q
    have hai : a ≠ it := by
      obtain ⟨o, ho, hco, _⟩ := pt
      obtain ⟨o2, ho2, hc2, _⟩ := hit
      intro z
      rw [z, ho2] at ho
      cases ho
      have hh := hc2.symm.trans hco
      exact absurd hh (by simp)
    have hea : e ∉ [it, a] := by
      obtain ⟨o, ho, hco, _⟩ := pt
      intro z
      have z' : e = it ∨ e = a := by simpa using z
      rcases z' with z | z
      · exact hne z
      · have he' : s.heap.get? e = some _ := he
        rw [z, ho] at he'
        cases he'
        have hh : Value.type "enumerate" = Value.type "tuple" := hco
        exact absurd hh (by simp)
    have hlt : i < its.toArray.size := by
      have := (List.getElem?_eq_some_iff.mp hu).1
      rw [List.size_toArray]
      exact this
    refine wpAny_pyNext_enum_itemD (PySem.Draws.tuple (show X.A.in1.handled = none from I.ok.hd hc) it a hai its.toArray) he ⟨hit, pt⟩ hlt hne hea fun x' h' tk hP ho hit' hT hsz hk => ?_
    have ex : x' = u := by
      have h1 : its[i]? = some x' := by simpa using hP
      rw [hu] at h1
      cases h1
      rfl
    subst ex
    refine ⟨_, rfl, wpAny_letOwnedTupleGo_enum (s := { s with heap := h', toks := tk + 1 }) ho fun h'' he' sb => ?_⟩
    have hT2 : h''.get? s.heap.objs.size = some { cls := .type "tuple", data := .seq #[.int i tk, x'] } := (sb.2 _ (Nat.ne_of_gt hel)).trans hT
    have new : ObjOk X.prog X.w (upd H s.heap.objs.size (.tup [.int (i : Nat), x])) h'' s.heap.objs.size (.tup [.int (i : Nat), x]) :=
      ⟨by show 2 ≤ sizeLine; decide, [.int i tk, x'], .cons ⟨_, rfl⟩ (.cons ru .nil), ⟨_, hT2, rfl, _, rfl⟩⟩
    have I1 : Inv X pins σ (upd H s.heap.objs.size (.tup [.int (i : Nat), x])) { s with heap := h'', toks := tk + 1 } :=
      I.turnedNew (ch := [e, it]) (fun b ob hb q => (sb.2 b (fun z => hb (by simp [z]))).trans (hk b ob (fun z => hb (by simp [z])) (fun z => hb (by simp [z])) q)) hf (Nat.le_refl _) new
    refine ⟨.ref s.heap.objs.size, _, I1, rfl, ⟨_, x, rfl, I.hok.fresh (Nat.le_refl _), rfl, fun ys hy => by rw [I.tuple_inj hy hq]; exact hx⟩, ⟨⟨x', ?_⟩, hit'.1.at fun o q => (sb.2 it (Ne.symm hne)).trans q, hne⟩, fun b hb => ?_⟩
    · have e1 : ((i + 1 : Nat) : Int) = (i : Int) + 1 := by omega
      rw [e1]; exact he'
    · have hb' : b < s.heap.objs.size := by
        have e' : b = e ∨ b = it := by simpa using hb
        rcases e' with z | z
        · rw [z]; exact hel
        · rw [z]; exact hil
      rw [upd_ne (Nat.ne_of_lt hb')]
      exact (hf b hb).1
  done := by
    intro X hP hw hK hc i pins s σ H E I hf st hg
    subst hP hw hK
    obtain ⟨⟨old, he⟩, hit, hne⟩ := st
    obtain ⟨xs, hq, hx⟩ := hg
    obtain ⟨its, rv, p, hz⟩ := I.tuple hq
    obtain ⟨f0, f1, f2, f3, f4, f5⟩ := hf it (by simp)
    have hl := rv.length
    have pt : s.heap.IsTuple a its.toArray := p
    have hile : its.length ≤ i := by omega
    refine pyNext_enum_endT (I.ok.hd hc) he hit pt hile fun h' eb => ⟨rfl, I.turned (t' := s.toks) (fun b o hb q => eb b o hb q) f0 f1 f3 f4 f5⟩
  self := fun A i s Q E st h => let ⟨⟨_, he⟩, _⟩ := st; wpAny_pyIter_enum he h
def iEnumT (K : PySem.W.Frag) (ta : TA) : TI := fun σ H R => ta σ H fun vs H1 => ∃ a xs, vs = [.ref a] ∧ SqT K H1 a xs ∧ R (Itet K a) H1
theorem pi_enumT {X : Cx} {e : Expr} {ta : TA} {p pos tpos : Pos} {elts : List Expr} {kk : Nat} (hg : Gl X "enumerate") (hm : X.mg "enumerate" = none) (ha : PA X [e] ta) (hs : starEach [e] X.env = [(false, eval e X.env)] := by rfl) :
    PI X (.Tuple elts kk tpos) (.Call (.Name "enumerate" p) [e] [] pos) (iEnumT X.K ta) := by
  refine ⟨fun pins s σ H R I h => ?_⟩
  refine Call_ (ld_blt I hg hm boot_enumerate (PyProof.Rows.callWith_type1 (thn (ha.run pos pins s σ H _ I h) fun us s1 ⟨vs, H1, I1, r1, q1⟩ => ?_) hs rfl))
  obtain ⟨a, xs, ex, hq, q⟩ := q1
  subst ex
  cases r1 with
  | cons r rr =>
    cases rr
    cases r
    obtain ⟨its, rv, p', hz⟩ := I1.tuple hq
    refine call_enum_tup (show s1.heap.IsTuple a its.toArray from p') fun h' he hit hsz hk => wpAny_pyIter_enum he ?_
    have I2 : Inv X pins σ H1 { s1 with heap := h' } := I1.kept (t' := s1.toks) hk
    refine ⟨s1.heap.objs.size + 1, [s1.heap.objs.size + 1, s1.heap.objs.size], _, _, H1, rfl, I2, turn_enumT a (s1.heap.objs.size + 1) s1.heap.objs.size, ⟨⟨.none, he⟩, hit, Nat.succ_ne_self _⟩, fun b hb => ?_, q⟩
    have e' : b = s1.heap.objs.size + 1 ∨ b = s1.heap.objs.size := by simpa using hb
    have hle : s1.heap.objs.size ≤ b := by
      rcases e' with z | z
      · rw [z]; exact Nat.le_add_right _ _
      · rw [z]; exact Nat.le_refl _
    exact I1.fpOk hle (I1.hok.fresh hle)
/-! ### sorted of tuples by their first items -/
def HeadAt (h : Heap) (v f : Value) : Prop := ∃ a o xs n, v = .ref a ∧ h.get? a = some o ∧ o.cls = .type "tuple" ∧ o.data = .seq (List.toArray (f :: xs)) n
theorem HeadAt.keeps {h h' : Heap} {a : Addr} {v f : Value} (x : HeadAt h v f) (ha : ∀ o, h.get? a = some o → o.cls ≠ .type "tuple") (k : ∀ b o, b ≠ a → h.get? b = some o → h'.get? b = some o) : HeadAt h' v f := by
  obtain ⟨b, o, xs, n, rfl, ho, hc, hd⟩ := x
  exact ⟨b, o, xs, n, rfl, k b o (fun z => ha o (z ▸ ho) hc) ho, hc, hd⟩
theorem katTups_of {h : Heap} {f : Value → Value} : ∀ {vs : List Value}, (∀ v ∈ vs, HeadAt h v (f v)) → PySem.W.KatTups h vs (vs.map f)
  | [], _ => trivial
  | v :: vs, H => by
    obtain ⟨a, o, xs, n, e, ho, hc, hd⟩ := H v List.mem_cons_self
    exact ⟨⟨a, o, _, n, e, ho, hc, hd, by simp⟩, katTups_of fun u hu => H u (List.mem_cons_of_mem _ hu)⟩
section
variable {prog : Program} {w : World} {A : Around} {s : Shared}
theorem kat_same {b fin : Bool} {Q : Bool → Shared → Prop} : ∀ (l : List Value) (i : Nat), Q fin s → PySem.W.KatLex prog w A b fin Q (l.zip l) i s
  | [], i, h => PySem.W.kat_nil h
  | v :: l, i, h => PySem.W.kat_cons (SeqAt.EqAt.same v prog w _ _ (PySem.W.kat_yes (kat_same l (i + 1) h)))
theorem heads_cmp {vs : List Value} {f : Value → Value} {lt : Value → Value → Bool} {b : Bool} (hp : ∀ v ∈ vs, HeadAt s.heap v (f v)) (hr : ∀ v, lt v v = false)
    (hne : ∀ v ∈ vs, ∀ u ∈ vs, v ≠ u → SeqAt.EqAt A s (f v) (f u) false)
    (hlt : ∀ v ∈ vs, ∀ u ∈ vs, v ≠ u → ∀ (Q : Bool → Shared → Prop), Q (lt v u) s → wpAny (model prog w) A (oneLt' (b && (0 : Nat) == 0) (f v) (f u)) Q (fun _ _ => False) s) :
    SrtO.Cmp prog w A s (tuples' b) (fun p => p.1 ∈ vs) (SrtO.lt2 lt) := by
  intro p q hm hm'
  obtain ⟨x, ox, xs, n, ex, hx, hcx, hdx⟩ := hp _ hm
  obtain ⟨y, oy, ys, k, ey, hy, hcy, hdy⟩ := hp _ hm'
  by_cases e : p.1 = q.1
  · have hr' : SrtO.lt2 lt p q = false := by
      show lt p.1 q.1 = false
      rw [e]
      exact hr _
    rw [hr', ← e, ex]
    refine PySem.W.kat_lt hx hdx hx hdx (kat_same _ _ ⟨rfl, ?_⟩)
    exact decide_eq_false (Nat.lt_irrefl _)
  · have h1 := hne _ hm _ hm' e
    have h2 := hlt _ hm _ hm' e
    rw [ex, ey] at h1 h2
    show wpAny (model prog w) A (keyLt' (tuples' b) p.1 q.1) (fun r s' => s' = s ∧ r = lt p.1 q.1) (fun _ _ => False) s
    rw [ex, ey] at *
    exact PySem.W.kat_lt hx hdx hy hdy (PySem.W.kat_cons (h1 prog w _ _ (PySem.W.kat_no (h2 _ ⟨rfl, rfl⟩))))
theorem sorted_heads {E : Value → Shared → Prop} {l : Addr} {vs : List Value} {f : Value → Value} {kv : Value → List Int} {T : Value} {Q : Value → Shared → Prop} (hl : s.heap.IsList l vs.toArray) (hz : vs.length ≤ sizeLine) (hTT : (T == T) = true)
    (hX : ∀ h' : Heap, (∀ b o, s.heap.get? b = some o → h'.get? b = some o) → ∀ v ∈ vs, HeadAt h' v (f v) ∧ PySem.W.Looks (model prog w) h' (typeOf (f v)) T)
    (hC : ∀ h' : Heap, (∀ b o, s.heap.get? b = some o → h'.get? b = some o) → ∀ v ∈ vs, ∀ u ∈ vs, v ≠ u → SeqAt.EqAt A.in1.in1 { s with heap := h' } (f v) (f u) false ∧
      ∀ (Q : Bool → Shared → Prop), Q (HT.lexLt (kv v) (kv u)) { s with heap := h' } → wpAny (model prog w) A.in1.in1 (oneLt' ((T != Value.type "tuple") && (0 : Nat) == 0) (f v) (f u)) Q (fun _ _ => False) { s with heap := h' })
    (h : ∀ (h' : Heap) (d : Addr) (out : List Value), SrtO.Srtd (fun v u => HT.lexLt (kv v) (kv u)) out → out.Perm vs → (∀ b o, s.heap.get? b = some o → h'.get? b = some o) → s.heap.objs.size ≤ d → (∃ n, h'.get? d = some (seqObj "list" out.toArray n)) → Q (.ref d) { s with heap := h' }) :
    wpAny (model prog w) A (call (.builtin "sorted") [.ref l]) Q E s := by
  refine SrtO.sorted_ord (NtL.swo_lexL kv) hl hz (fun h2 h₁ a ha kk => ?_) fun out hs hb => h _ _ out hs hb.perm (fun b o e => PyProof.Rows.sortedAll_old e) (Nat.le_succ _) (PyProof.Rows.sortedAll_at s.heap vs out.toArray)
  intro h' keep
  have kp : ∀ b o, s.heap.get? b = some o → h'.get? b = some o := fun b o e => keep b o (kk b o e).1 (kk b o e).2
  refine ⟨tuples' (T != Value.type "tuple"), fun Q E hq => ?_, ?_⟩
  · refine PySem.W.kat_kind (T := T) (katTups_of fun v hv => (hX h' kp v hv).1) (by rw [List.length_map]; omega) (fun x hm => ?_) hTT hq
    obtain ⟨v, hv, rfl⟩ := List.mem_map.mp hm
    exact (hX h' kp v hv).2
  · exact heads_cmp (s := { s with heap := h' }) (fun v hv => (hX h' kp v hv).1) (fun v => (NtL.swo_lexL kv).refl v) (fun v hv u hu e => (hC h' kp v hv u hu e).1) (fun v hv u hu e => (hC h' kp v hv u hu e).2)
end
/-! the words -/
def valOf : V → Value
  | .ref a => .ref a
  | _ => .none
theorem nodup_inj {α β : Type} {f : α → β} : ∀ {l : List α}, (l.map f).Nodup → ∀ a ∈ l, ∀ b ∈ l, f a = f b → a = b
  | [], _, a, ha, _, _, _ => by cases ha
  | x :: l, h, a, ha, b, hb, e => by
    rw [List.map_cons] at h
    obtain ⟨h1, h2⟩ := List.nodup_cons.mp h
    rcases List.mem_cons.mp ha with ea | ha
    · rcases List.mem_cons.mp hb with eb | hb
      · rw [ea, eb]
      · rw [ea] at e
        exact absurd (List.mem_map.mpr ⟨b, hb, e.symm⟩) h1
    · rcases List.mem_cons.mp hb with eb | hb
      · rw [eb] at e
        exact absurd (List.mem_map.mpr ⟨a, ha, e⟩) h1
      · exact nodup_inj h2 a ha b hb e
/-- the head of a tuple's value -/
def headV (h : Heap) (v : Value) : Value :=
  match v with
  | .ref a => match h.get? a with
    | some o => match o.data with
      | .seq xs _ => xs.toList.headD .none
      | _ => .none
    | none => .none
  | _ => .none
theorem headV_of {h : Heap} {v f : Value} (x : HeadAt h v f) : headV h v = f := by
  obtain ⟨a, o, xs, n, rfl, ho, hc, hd⟩ := x
  unfold headV
  simp only [ho, hd, List.headD_cons]
/-- keys by the head: an int, or a tuple of ints -/
def HedI (K : PySem.W.Frag) (H : Hp) (x : V) (ns : List Int) : Prop := ∃ i, x = .int i ∧ ns = [i]
def HedT (K : PySem.W.Frag) (H : Hp) (x : V) (ns : List Int) : Prop := ∃ u, x = .ref u ∧ SqT K H u (ns.map V.int)
def rSortH (K : PySem.W.Frag) (hed : PySem.W.Frag → Hp → V → List Int → Prop) : List V → Hp → VK → Prop := fun vs H Q => ∃ (a : Addr) (ps : List (V × List Int)), vs = [V.ref a] ∧ SqL K H a (ps.map (·.1)) ∧ (∀ p ∈ ps, ∃ t x ys, p.1 = .ref t ∧ SqT K H t (x :: ys) ∧ hed K H x p.2) ∧ (ps.map (·.2)).Nodup ∧
  ∀ (qs : List (V × List Int)) d, qs.Perm ps → qs.Pairwise (fun p q => HT.lexLt q.2 p.2 = false) → H d = none → Q (.ref d) (upd H d (.lst (qs.map (·.1))))
/-- what the words lean on: KF says of a head's value in a heap which key it has -/
structure KindOk (X : Cx) (T : Value) (hed : PySem.W.Frag → Hp → V → List Int → Prop) (KF : Heap → Value → List Int → Prop) (kh : Heap → Value → List Int) : Prop where
  tt : (T == T) = true
  key : ∀ h f ns, KF h f ns → kh h f = ns
  ext : ∀ h h' f ns, KF h f ns → (∀ b o, h.get? b = some o → h'.get? b = some o) → KF h' f ns
  look : ∀ h f ns, KF h f ns → PySem.W.Looks (model X.prog X.w) h (typeOf f) T
  eq : ∀ (s : Shared) f g ns ms, KF s.heap f ns → KF s.heap g ms → ns ≠ ms → SeqAt.EqAt X.A.in1.in1 s f g false
  lt : ∀ (s : Shared) f g ns ms, KF s.heap f ns → KF s.heap g ms → ∀ (Q : Bool → Shared → Prop), Q (HT.lexLt ns ms) s → wpAny (model X.prog X.w) X.A.in1.in1 (oneLt' ((T != Value.type "tuple") && (0 : Nat) == 0) f g) Q (fun _ _ => False) s
  of : ∀ pins σ H s x f ns, Inv X pins σ H s → hed X.K H x ns → RelV x f → KF s.heap f ns
theorem HeadAt.ext {h h' : Heap} {v f : Value} (x : HeadAt h v f) (k : ∀ b o, h.get? b = some o → h'.get? b = some o) : HeadAt h' v f := by
  obtain ⟨b, o, xs, n, rfl, ho, hc, hd⟩ := x
  exact ⟨b, o, xs, n, rfl, k b o ho, hc, hd⟩
theorem pair_map {α β : Type} {f : α → β} : ∀ {l : List (α × β)}, (∀ p ∈ l, f p.1 = p.2) → l = (l.map (·.1)).map fun x => (x, f x)
  | [], _ => rfl
  | p :: l, h => by
    rw [List.map_cons, List.map_cons, ← pair_map fun q hq => h q (List.mem_cons_of_mem _ hq), h p List.mem_cons_self]
theorem cr_sortH {X : Cx} {T : Value} {hed : PySem.W.Frag → Hp → V → List Int → Prop} {KF : Heap → Value → List Int → Prop} {kh : Heap → Value → List Int} (kk : KindOk X T hed KF kh) : CallR X (.builtin "sorted") (rSortH X.K hed) := by
  intro pins s σ H vs us Q I r h
  obtain ⟨a, ps, rfl, hs, hx, hnd, q⟩ := h
  obtain ⟨its, rv, hl, hz⟩ := I.list hs
  obtain ⟨u, rfl, ru⟩ := vals1 r
  obtain rfl : u = Value.ref a := ru
  obtain ⟨e1, e2⟩ := refs_back rv fun x m => by
    obtain ⟨p, hp, rfl⟩ := List.mem_map.mp m
    obtain ⟨t, _, _, e, _⟩ := hx p hp
    exact ⟨t, e⟩
  have F : ∀ p ∈ ps, ∃ t f, p.1 = .ref t ∧ HeadAt s.heap (.ref t) f ∧ KF s.heap f p.2 := fun p hp => by
    obtain ⟨t, x, ys, e, hq, hh⟩ := hx p hp
    obtain ⟨ts, r2, pt, _⟩ := I.tuple hq
    cases r2 with
    | cons r0 rr =>
      obtain ⟨o, ho, hc, n, hd⟩ := id pt
      exact ⟨t, _, e, ⟨t, o, _, n, rfl, ho, hc, hd⟩, kk.of pins σ H s x _ p.2 I hh r0⟩
  let kv : Value → List Int := fun v => kh s.heap (headV s.heap v)
  have ek : ps = (ps.map (·.1)).map fun x => (x, kv (valOf x)) := pair_map fun p hp => by
    obtain ⟨t, f, e, h1, h2⟩ := F p hp
    rw [e]
    show kh s.heap (headV s.heap (.ref t)) = p.2
    rw [headV_of h1]
    exact kk.key _ _ _ h2
  have ei : ps = its.map fun v => (backV v, kv v) := by
    rw [ek, e1, List.map_map]
    refine List.map_congr_left fun v hv => ?_
    obtain ⟨t, rfl⟩ := e2 v hv
    rfl
  have G : ∀ v ∈ its, ∃ f, HeadAt s.heap v f ∧ KF s.heap f (kv v) := fun v hv => by
    have hp : (backV v, kv v) ∈ ps := by
      rw [ei]
      exact List.mem_map.mpr ⟨v, hv, rfl⟩
    obtain ⟨t, f, e, h1, h2⟩ := F _ hp
    obtain ⟨t', rfl⟩ := e2 v hv
    cases e
    exact ⟨f, h1, h2⟩
  have G2 : ∀ v ∈ its, HeadAt s.heap v (headV s.heap v) ∧ KF s.heap (headV s.heap v) (kv v) := fun v hv => by
    obtain ⟨f, h1, h2⟩ := G v hv
    rw [headV_of h1]
    exact ⟨h1, h2⟩
  have hnd2 : (its.map kv).Nodup := by
    rw [ei, List.map_map] at hnd
    exact hnd
  refine sorted_heads (f := headV s.heap) (kv := kv) (T := T) hl.isList (by rw [← rv.length]; exact hz) kk.tt (fun h' kp v hv => ?_) (fun h' kp v hv u hu hne => ?_) (fun h' d out h1 h2 kp hd hn => ?_)
  · exact ⟨(G2 v hv).1.ext kp, kk.look _ _ _ (kk.ext _ _ _ _ (G2 v hv).2 kp)⟩
  · have h1 := kk.ext _ h' _ _ (G2 v hv).2 kp
    have h2 := kk.ext _ h' _ _ (G2 u hu).2 kp
    exact ⟨kk.eq { s with heap := h' } _ _ _ _ h1 h2 fun e => hne (nodup_inj hnd2 v hv u hu e), kk.lt { s with heap := h' } _ _ _ _ h1 h2⟩
  · have h3 : ∀ u ∈ out, ∃ a, u = Value.ref a := fun u hu => e2 u (h2.mem_iff.mp hu)
    obtain ⟨n, hn⟩ := hn
    have hb : (out.map backV).length = its.length := by rw [List.length_map, h2.length_eq]
    have hqs : (out.map fun v => (backV v, kv v)).Perm ps := by
      rw [ei]
      exact h2.map _
    have hpw : (out.map fun v => (backV v, kv v)).Pairwise fun p q => HT.lexLt q.2 p.2 = false := List.pairwise_map.mpr h1
    have hq := q _ d hqs hpw (I.hok.fresh hd)
    rw [List.map_map] at hq
    refine ⟨.ref d, upd H d (.lst (out.map backV)), I.laid (t' := s.toks) kp hd ⟨?_, out, n, vals_back h3, hn⟩, rfl, hq⟩
    rw [hb, ← rv.length]
    exact hz
/-! the two kinds -/
def KFI (_ : Heap) (f : Value) (ns : List Int) : Prop := ∃ i t, f = .int i t ∧ ns = [i]
def khI (_ : Heap) (f : Value) : List Int :=
  match f with
  | .int i _ => [i]
  | _ => []
theorem kindI {X : Cx} : KindOk X (.type "int") HedI KFI khI where
  tt := by decide +kernel
  key := fun h f ns ⟨i, t, e1, e2⟩ => by
    subst e1 e2
    rfl
  ext := fun h h' f ns k _ => k
  look := fun h f ns ⟨i, t, e1, e2⟩ => by
    subst e1
    exact PySem.W.Looks.now
  eq := fun s f g ns ms ⟨i, t, e1, e2⟩ ⟨j, u, e3, e4⟩ hne => by
    subst e1 e2 e3 e4
    have e : (i == j) = false := by
      refine beq_eq_false_iff_ne.mpr fun z => hne ?_
      rw [z]
    rw [← e]
    exact SeqAt.EqAt.int_int i t j u
  lt := fun s f g ns ms ⟨i, t, e1, e2⟩ ⟨j, u, e3, e4⟩ Q hq => by
    subst e1 e2 e3 e4
    refine TS.oneLt_ints _ ?_
    rw [HT.lexLt_cons, HT.lexLt_nil_nil] at hq
    by_cases e : i = j
    · rw [if_pos e] at hq
      rw [decide_eq_false (by omega)]
      exact hq
    · rw [if_neg e] at hq
      exact hq
  of := fun pins σ H s x f ns I ⟨i, e1, e2⟩ r => by
    subst e1 e2
    obtain ⟨t, rfl⟩ := r
    exact ⟨i, t, rfl, rfl⟩
theorem cr_sortHI {X : Cx} : CallR X (.builtin "sorted") (rSortH X.K HedI) := cr_sortH kindI
theorem intsAre_get : ∀ {vs : List Value} {ns : List Int}, IntsAre vs ns → vs.length = ns.length ∧ ∀ j (h : j < vs.length), ∃ n t, vs[j] = .int n t ∧ ns[j]? = some n
  | _, _, .nil => ⟨rfl, fun j h => absurd h (Nat.not_lt_zero j)⟩
  | _, _, .cons n t r => by
    obtain ⟨h1, h2⟩ := intsAre_get r
    refine ⟨by rw [List.length_cons, List.length_cons, h1], fun j h => ?_⟩
    cases j with
    | zero => exact ⟨n, t, rfl, rfl⟩
    | succ j => exact h2 j (by simpa using h)
theorem eqAt_ints_ne {A : Around} {s : Shared} {l b : Addr} {its its2 : Array Value} {ns ms : List Int} (hl : s.heap.IsTuple l its) (hb : s.heap.IsTuple b its2) (hi : IntsAre its.toList ns) (hj : IntsAre its2.toList ms) (hu : A.units < cLine) (hne : ns ≠ ms) :
    SeqAt.EqAt A s (.ref l) (.ref b) false := by
  obtain ⟨l1, g1⟩ := intsAre_get hi
  obtain ⟨l2, g2⟩ := intsAre_get hj
  have inj : ∀ {vs : List Value} {ns ms : List Int}, IntsAre vs ns → IntsAre vs ms → ns = ms := by
    intro vs
    induction vs with
    | nil => intro ns ms h k; cases h; cases k; rfl
    | cons v vs ih =>
      intro ns ms h k
      cases h with
      | cons n t h => cases k with
        | cons _ _ k => rw [ih h k]
  refine SeqAt.EqAt.of_refs (fun e => ?_) ?_
  · subst e
    obtain ⟨o, ho, _, n, hd⟩ := hl
    obtain ⟨o2, ho2, _, n2, hd2⟩ := hb
    rw [ho] at ho2
    cases ho2
    rw [hd] at hd2
    cases hd2
    exact hne (inj hi hj)
  · have R := SeqAt.RcAt.tuples (e := fun j => decide (ns[j]? = ms[j]?)) hl hb hu fun j h1 h2 => by
      obtain ⟨n, t, e1, e2⟩ := g1 j (by simpa using h1)
      obtain ⟨m, u, e3, e4⟩ := g2 j (by simpa using h2)
      have e1' : its[j] = .int n t := by simpa using e1
      have e3' : its2[j] = .int m u := by simpa using e3
      rw [e1', e3', e2, e4]
      have e5 : decide (some n = some m) = (n == m) := by
        by_cases z : n = m
        · subst z; simp
        · simp [z]
      rw [e5]
      exact SeqAt.EqAt.int_int n t m u
    have ef : ((List.range (min its.size its2.size)).all (fun j => decide (ns[j]? = ms[j]?)) && its.size == its2.size) = false := by
      cases hc : ((List.range (min its.size its2.size)).all (fun j => decide (ns[j]? = ms[j]?)) && its.size == its2.size) with
      | false => rfl
      | true =>
        exfalso
        obtain ⟨c1, c2⟩ := Bool.and_eq_true_iff.mp hc
        have c2 : its.size = its2.size := by simpa using c2
        have z1 : ns.length = its.size := by rw [← l1]; simp
        have z2 : ms.length = its2.size := by rw [← l2]; simp
        refine hne (List.ext_getElem? fun j => ?_)
        by_cases hjl : j < its.size
        · have := List.all_eq_true.mp c1 j (List.mem_range.mpr (by omega))
          exact of_decide_eq_true this
        · rw [List.getElem?_eq_none (by omega), List.getElem?_eq_none (by omega)]
    rw [ef] at R
    exact R
def KFT (h : Heap) (f : Value) (ns : List Int) : Prop := ∃ u its, f = .ref u ∧ h.IsTuple u its ∧ IntsAre its.toList ns
def intOf : Value → Int
  | .int i _ => i
  | _ => 0
def khT (h : Heap) (f : Value) : List Int :=
  match f with
  | .ref a => match h.get? a with
    | some o => match o.data with
      | .seq xs _ => xs.toList.map intOf
      | _ => []
    | none => []
  | _ => []
theorem intsAre_map : ∀ {vs : List Value} {ns : List Int}, IntsAre vs ns → vs.map intOf = ns
  | _, _, .nil => rfl
  | _, _, .cons n t r => by rw [List.map_cons, intsAre_map r]; rfl
theorem kindT {X : Cx} (hu : X.A.in1.in1.units < cLine) : KindOk X (.type "tuple") HedT KFT khT where
  tt := by decide +kernel
  key := fun h f ns ⟨u, its, e1, ht, hi⟩ => by
    subst e1
    obtain ⟨o, ho, _, n, hd⟩ := ht
    unfold khT
    simp only [ho, hd]
    exact intsAre_map hi
  ext := fun h h' f ns ⟨u, its, e1, ht, hi⟩ k => ⟨u, its, e1, ht.at fun o e => k u o e, hi⟩
  look := fun h f ns ⟨u, its, e1, ht, hi⟩ => by
    subst e1
    obtain ⟨o, ho, hc, n, hd⟩ := ht
    have := (show PySem.W.Looks (model X.prog X.w) h (typeOf (.ref u)) o.cls from (PySem.W.Looks.ld ho).andThen .now)
    rw [hc] at this
    exact this
  eq := fun s f g ns ms ⟨u, its, e1, ht, hi⟩ ⟨u2, its2, e2, ht2, hi2⟩ hne => by
    subst e1 e2
    exact eqAt_ints_ne ht ht2 hi hi2 hu hne
  lt := fun s f g ns ms ⟨u, its, e1, ht, hi⟩ ⟨u2, its2, e2, ht2, hi2⟩ Q hq => by
    subst e1 e2
    have e : ((Value.type "tuple" != Value.type "tuple") && (0 : Nat) == 0) = false := by decide +kernel
    rw [e]
    refine PySem.W.kat_one _ _ (HT.lt_tupInts ht ht2 hi hi2 hu ?_)
    exact hq
  of := fun pins σ H s x f ns I ⟨u, e1, hq⟩ r => by
    subst e1
    cases r
    obtain ⟨its, r1, p1, _⟩ := I.tuple hq
    exact ⟨u, its.toArray, rfl, p1, by simpa using L2.intsAre_of r1⟩
theorem cr_sortHT {X : Cx} (hu : X.A.in1.in1.units < cLine) : CallR X (.builtin "sorted") (rSortH X.K HedT) := cr_sortH (kindT hu)
end Wb

/-! sorted(xs, key=lambda at: (mid[at][part], mid[at][1 - part], at)) -/
namespace LmK
open PySem PySem.Spec PyProof.Rows L2 LamX
open Wb (dpTup dpInt dpLst)
section
variable {P : Program} {w : World} {A : Around} {env : Env} {h₁ : Heap}
/-- an expression whose value is told; the heap stays -/
def EvT (P : Program) (w : World) (A : Around) (env : Env) (e : Expr) (h₁ : Heap) (R : Value → Prop) : Prop :=
  ∀ s : Shared, s.heap = h₁ → wpAny (model P w) A (eval e env) (fun v s' => (∃ tk, s' = { s with toks := tk }) ∧ R v) (fun _ _ => False) s
def IsI (n : Int) (v : Value) : Prop := ∃ t, v = .int n t
theorem ev_loc {x : Str} {pos : Pos} {m : Str → Option Value} {v : Value} (hk : env.scope.kind = .function) (hl : env.kindOf x = some .local) (hn : h₁.Ns env.locals m) (hv : m x = some v) (hd : (x == ("__debug__" : Str)) = false) : EvT P w A env (.Name x pos) h₁ (fun u => u = v) := fun s e =>
  wpAny_Name (wpAny_loadName_local hk hl (by rw [e]; exact hn) hv ⟨⟨s.toks, rfl⟩, rfl⟩) hd
theorem ev_fre {x : Str} {pos : Pos} {c : Addr} {v : Value} (hk : env.scope.kind = .function) (hl : env.kindOf x = some .free) (hc : env.cells.lookup x = some c) (hv : h₁.IsCell c (some v)) (hd : (x == ("__debug__" : Str)) = false) (hcd : (x == ("__classdict__" : Str)) = false) : EvT P w A env (.Name x pos) h₁ (fun u => u = v) := fun s e =>
  wpAny_Name (wpAny_loadName_free hk hl hc (by rw [e]; exact hv) ⟨⟨s.toks, rfl⟩, rfl⟩ hcd) hd
theorem ev_int {i : Int} {j : Nat} {pos : Pos} : EvT P w A env (.Constant (.int i) j pos) h₁ (IsI i) := fun s e => wpAny_Constant_int ⟨⟨_, rfl⟩, _, rfl⟩
theorem ev_sub {a b : Expr} {i j : Int} {pos : Pos} (ha : EvT P w A env a h₁ (IsI i)) (hb : EvT P w A env b h₁ (IsI j)) : EvT P w A env (.BinOp a .Sub b pos) h₁ (IsI (i - j)) := fun s e => by
  refine wpAny_BinOp (wpAny_mono (ha s e) (fun v s1 h => ?_) fun _ _ x => x)
  obtain ⟨⟨tk, rfl⟩, t1, rfl⟩ := h
  refine wpAny_mono (hb _ e) (fun v s2 h => ?_) fun _ _ x => x
  obtain ⟨⟨tk2, rfl⟩, t2, rfl⟩ := h
  exact PyProof.Rows.sub_int ⟨⟨_, rfl⟩, _, rfl⟩
theorem ev_ixL {a b : Expr} {l : Addr} {its : Array Value} {i : Int} {u : Value} {pos : Pos} (ha : EvT P w A env a h₁ (fun v => v = .ref l)) (hb : EvT P w A env b h₁ (IsI i)) (hl : h₁.IsList l its) (h0 : 0 ≤ i) (hf : i < 2 ^ 63) (hx : its[i.toNat]? = some u) (hs : PlainIx b) : EvT P w A env (.Subscript a b pos) h₁ (fun v => v = u) := fun s e => by
  refine Subscript_ (wpAny_mono (ha s e) (fun v s1 h => ?_) fun _ _ x => x)
  obtain ⟨⟨tk, rfl⟩, rfl⟩ := h
  refine wpAny_mono (hb _ e) (fun v s2 h => ?_) fun _ _ x => x
  obtain ⟨⟨tk2, rfl⟩, t2, rfl⟩ := h
  exact item_listR (by show s.heap.IsList l its; rw [e]; exact hl) h0 hf hx ⟨⟨_, rfl⟩, rfl⟩ (hs _ _)
theorem ev_ixT {a b : Expr} {l : Addr} {its : Array Value} {i : Int} {u : Value} {pos : Pos} (ha : EvT P w A env a h₁ (fun v => v = .ref l)) (hb : EvT P w A env b h₁ (IsI i)) (hl : IsTup h₁ l its) (h0 : 0 ≤ i) (hf : i < 2 ^ 63) (hx : its[i.toNat]? = some u) (hs : PlainIx b) : EvT P w A env (.Subscript a b pos) h₁ (fun v => v = u) := fun s e => by
  refine Subscript_ (wpAny_mono (ha s e) (fun v s1 h => ?_) fun _ _ x => x)
  obtain ⟨⟨tk, rfl⟩, rfl⟩ := h
  refine wpAny_mono (hb _ e) (fun v s2 h => ?_) fun _ _ x => x
  obtain ⟨⟨tk2, rfl⟩, t2, rfl⟩ := h
  have hl' : IsTup s.heap l its := by rw [e]; exact hl
  have hz : i.toNat < its.size := (Array.getElem?_eq_some_iff.mp hx).1
  exact subscriptTail_builtinR (x := u) hl'.typeIs slot_tuple_getitem.lookup (getItem_tuple (j := i.toNat) (Q := fun r s' => r = u ∧ ((∃ tk', s' = { s with toks := tk' }) ∧ r = u)) hl' (by omega) hf (seqIndex_of h0 (by omega)) hx ⟨rfl, ⟨_, rfl⟩, rfl⟩) (hs _ _)
theorem EvT.mono {e : Expr} {R R' : Value → Prop} (h : EvT P w A env e h₁ R) (k : ∀ v, R v → R' v) : EvT P w A env e h₁ R' := fun s q => wpAny_mono (h s q) (fun v s' x => ⟨x.1, k v x.2⟩) fun _ _ x => x
theorem ev_tup3 {a b c : Expr} {i j k : Int} {x1} {pos : Pos} (ha : EvT P w A env a h₁ (IsI i)) (hb : EvT P w A env b h₁ (IsI j)) (hc : EvT P w A env c h₁ (IsI k)) (s : Shared) (e : s.heap = h₁)
    (hs : backTo pos (starEach [a, b, c] env) = [(false, eval a env), (false, eval b env), (false, eval c env)]) :
    wpAny (model P w) A (eval (.Tuple [a, b, c] x1 pos) env) (PySem.W.KeyPure (.tuple [.int i, .int j, .int k]) s) (fun _ _ => False) s := by
  refine wpAny_Tuple_spliced ?_
  rw [hs]
  have one : ∀ {e0 : Expr} {n : Int} {rest : List (Bool × Sem Value)} {Q : List Value → Shared → Prop} {s0 : Shared}, EvT P w A env e0 h₁ (IsI n) → s0.heap = h₁ →
      (∀ t tk, wpAny (model P w) A (spliced rest) (fun vs s' => Q (.int n t :: vs) s') (fun _ _ => False) { s0 with toks := tk }) →
      wpAny (model P w) A (spliced ((false, eval e0 env) :: rest)) Q (fun _ _ => False) s0 := fun {e0 n rest Q s0} he e1 q => by
    refine Calls.spliced_cons (wpAny_mono (he s0 e1) (fun v s' h => ?_) fun _ _ x => x)
    obtain ⟨⟨tk, rfl⟩, t, rfl⟩ := h
    exact q t tk
  refine one ha e fun t1 k1 => one hb e fun t2 k2 => one hc e fun t3 k3 => Calls.spliced_nil ?_
  refine ⟨Nat.le_of_ble_eq_true rfl, s.heap.push { cls := .type "tuple", data := .seq [Value.int i t1, .int j t2, .int k t3].toArray }, k3, rfl, fun b o q => Heap.get?_push_of_some _ q, ?_⟩
  exact .tuple (as := []) (Heap.get?_push_size _ rfl) rfl rfl (.cons (as := []) (bs := []) (.int i t1) (.cons (as := []) (bs := []) (.int j t2) (.cons (as := []) (bs := []) (.int k t3) .nil)))
end
/-- the lambda's names: one parameter, two captured names -/
structure LamP (sc scope : Scope) (at_ mid part : Str) : Prop where
  kind : scope.kind = .function
  co : scope.isCoroutine = false
  gen : scope.isGenerator = false
  noc : ∀ y ∈ scope.names, y.2 ≠ .cell
  loc : scope.names.lookup at_ = some .local
  f1 : (mid, NameKind.free) ∈ scope.names
  f2 : (part, NameKind.free) ∈ scope.names
  l1 : scope.names.lookup mid = some .free
  l2 : scope.names.lookup part = some .free
  free : ∀ y ∈ scope.names, y.2 = .free → sc.names.lookup y.1 = some .cell
section
variable {X : Cx} {pins : List (Addr × Obj)} {σ : L2.St} {H : Hp} {s : Shared}
theorem LamP.has {scope : Scope} {a m p : Str} (L : LamP X.env.scope scope a m p) (ok : X.Ok) : ∀ y ∈ scope.names, y.2 = .free → ∃ c, X.env.cells.lookup y.1 = some c := fun y hy e => ok.has _ (.inl (L.free y hy e))
/-- a captured name: its cell, seen from the lambda -/
theorem capt {scope : Scope} {a m p x : Str} {i : Nat} {v : V} (L : LamP X.env.scope scope a m p) (I : Inv X pins σ H s) (hx : (x, NameKind.free) ∈ scope.names) (hN : X.N[i]? = some x) (hv : σ[i]? = some (some v)) :
    ∃ c u, (cloFrom X.env.cells scope.names []).lookup x = some c ∧ s.heap.IsCell c (some u) ∧ RelV v u := by
  obtain ⟨mm, hn, hl⟩ := I.loc
  have kc : X.env.scope.names.lookup x = some .cell := L.free _ hx rfl
  obtain ⟨u, r, q⟩ := hl i x v hN hv (.inr (.inl kc))
  obtain ⟨c2, h2⟩ := mem_lookup (cloFrom_has (cells := X.env.cells) (acc := []) hx)
  have c1 : X.env.cells.lookup x = some c2 := by
    rcases cloFrom_mem (PySem.mem_of_lookup h2) with hm | ⟨h1, h3⟩
    · cases hm
    · obtain ⟨c1, hc⟩ := L.has I.ok _ h1 rfl
      have hc : X.env.cells.lookup x = some c1 := hc
      have e2 : c2 = c1 := by rw [h3, hc] <;> rfl
      rw [e2]
      exact hc
  rcases q with ⟨k', _⟩ | ⟨_, c3, e', z⟩
  · have k' : X.env.scope.names.lookup x = some .local := k'
    rw [kc] at k'
    cases k'
  · rw [c1] at e'
    cases e'
    exact ⟨c2, u, h2, z, r⟩
/-- the lambda is called -/
theorem lam_call {scope : Scope} {at_ mid part : Str} {im ip : Nat} {f c' l : Addr} {pm ctv : Value} {params : Arguments} {n pt : Int} {its : Array Value} {t : Addr} {jts : Array Value} {i j : Int} {tn : Tok} {p1 p2 p3 p4 p5 p6 p7 p8 p9 p10 p11 p12 p13 tpos : Pos} {x0 : Nat} {x1} {A : Around}
    (L : LamP X.env.scope scope at_ mid part) (I : Inv X pins σ H s) (hA : A.depth < recursionLimit) (hN1 : X.N[im]? = some mid) (hN2 : X.N[ip]? = some part) (h1 : σ[im]? = some (some (.ref l))) (h2 : σ[ip]? = some (some (.int pt)))
    (of1 : s.heap.get? f = some (PySem.W.kla_obj "<lambda>" (X.env.qual ++ "<lambda>") params (.Tuple [.Subscript (.Subscript (.Name mid p1) (.Name at_ p2) p3) (.Name part p4) p5, .Subscript (.Subscript (.Name mid p6) (.Name at_ p7) p8) (.BinOp (.Constant (.int 1) x0 p9) .Sub (.Name part p10) p11) p12, .Name at_ p13] x1 tpos) scope (cloFrom X.env.cells scope.names []) pm c' ctv))
    (hc : H c' = some (CodeO c' (X.env.qual ++ "<lambda>"))) (hbind : bindArgs (PySem.W.kla_fn "<lambda>" (X.env.qual ++ "<lambda>") params (.Tuple [.Subscript (.Subscript (.Name mid p1) (.Name at_ p2) p3) (.Name part p4) p5, .Subscript (.Subscript (.Name mid p6) (.Name at_ p7) p8) (.BinOp (.Constant (.int 1) x0 p9) .Sub (.Name part p10) p11) p12, .Name at_ p13] x1 tpos) scope (cloFrom X.env.cells scope.names []) pm (.ref c') ctv) ⟨[.int n tn], []⟩ = pure [(at_, .int n tn)])
    (hl : s.heap.IsList l its) (hn : 0 ≤ n ∧ n < 2 ^ 63) (hpt : pt = 0 ∨ pt = 1) (hit : its[n.toNat]? = some (.ref t)) (ht : IsTup s.heap t jts) (hj : ∃ ta tb, jts[pt.toNat]? = some (.int i ta) ∧ jts[(1 - pt).toNat]? = some (.int j tb))
    (g1 : (at_ == ("__debug__" : Str)) = false) (g2 : (mid == ("__debug__" : Str)) = false) (g3 : (part == ("__debug__" : Str)) = false) (g4 : (mid == ("__classdict__" : Str)) = false) (g5 : (part == ("__classdict__" : Str)) = false) :
    wpAny (model X.prog X.w) A (call (.ref f) [.int n tn]) (PySem.W.KeyPure (.tuple [.int i, .int j, .int n]) s) (fun _ _ => False) s := by
  obtain ⟨⟨oc, vs, tq, hoc, hdc, hvc⟩, _, _⟩ := I.hok c' _ hc
  obtain ⟨cm, um, em, zm, rm⟩ := capt L I L.f1 hN1 h1
  obtain ⟨cp, up, ep, zp, rp⟩ := capt L I L.f2 hN2 h2
  obtain rfl : um = Value.ref l := rm
  obtain ⟨tp, rfl⟩ := rp
  refine wpAny_call ?_
  refine PySem.W.kla_callFunE hA of1 rfl L.co L.gen rfl ⟨c', oc, vs, tq, rfl, hoc, hdc, hvc⟩ ?_
  rw [hbind]
  refine wpAny_pure (wpAny_newFunctionEnv (fun y hy => L.noc y hy) (fun y hy => by rcases List.mem_singleton.mp hy with rfl; exact L.loc) (fun h₁ hns hsb => ⟨I.nolimit.fresh _ hsb, ?_⟩) L.kind)
  show codeAny _ _ (.expr _ (lamEnv X scope s.heap.objs.size f c')) _ _
  have kp : ∀ b o, s.heap.get? b = some o → h₁.get? b = some o := fun b o e => hsb.extBut b o (Nat.ne_of_lt (Heap.lt_size e)) (Heap.get?_push_of_some _ e)
  have kcell : ∀ {c : Addr} {v : Option Value}, s.heap.IsCell c v → h₁.IsCell c v := fun {c v} ⟨o, ho, hd⟩ => ⟨o, kp _ _ ho, hd⟩
  have em1 : EvT X.prog X.w (A.deeper (lamEnv X scope s.heap.objs.size f c')) (lamEnv X scope s.heap.objs.size f c') (.Name mid p1) h₁ (fun u => u = .ref l) := ev_fre (env := lamEnv X scope s.heap.objs.size f c') L.kind L.l1 em (kcell zm) g2 g4
  have em2 : EvT X.prog X.w (A.deeper (lamEnv X scope s.heap.objs.size f c')) (lamEnv X scope s.heap.objs.size f c') (.Name mid p6) h₁ (fun u => u = .ref l) := ev_fre (env := lamEnv X scope s.heap.objs.size f c') L.kind L.l1 em (kcell zm) g2 g4
  have ep1 : EvT X.prog X.w (A.deeper (lamEnv X scope s.heap.objs.size f c')) (lamEnv X scope s.heap.objs.size f c') (.Name part p4) h₁ (IsI pt) := (ev_fre (env := lamEnv X scope s.heap.objs.size f c') (v := .int pt tp) L.kind L.l2 ep (kcell zp) g3 g5).mono fun v e => ⟨tp, e⟩
  have ep2 : EvT X.prog X.w (A.deeper (lamEnv X scope s.heap.objs.size f c')) (lamEnv X scope s.heap.objs.size f c') (.Name part p10) h₁ (IsI pt) := (ev_fre (env := lamEnv X scope s.heap.objs.size f c') (v := .int pt tp) L.kind L.l2 ep (kcell zp) g3 g5).mono fun v e => ⟨tp, e⟩
  have ea : ∀ p, EvT X.prog X.w (A.deeper (lamEnv X scope s.heap.objs.size f c')) (lamEnv X scope s.heap.objs.size f c') (.Name at_ p) h₁ (IsI n) := fun p => (ev_loc (env := lamEnv X scope s.heap.objs.size f c') (v := .int n tn) L.kind L.loc hns (by simp) g1).mono fun v e => ⟨tn, e⟩
  have hl1 : h₁.IsList l its := let ⟨o, e1, r⟩ := hl; ⟨o, kp _ _ e1, r⟩
  have ht1 : IsTup h₁ t jts := ht.keeps kp
  obtain ⟨ta, tb, hj1, hj2⟩ := hj
  have hb := ev_tup3 (x1 := x1) (pos := tpos) ((ev_ixT (pos := p5) (ev_ixL (pos := p3) em1 (ea p2) hl1 hn.1 hn.2 hit (fun _ _ => rfl)) ep1 ht1 (by omega) (by omega) hj1 (fun _ _ => rfl)).mono fun v e => ⟨ta, e⟩)
    ((ev_ixT (pos := p12) (ev_ixL (pos := p8) em2 (ea p7) hl1 hn.1 hn.2 hit (fun _ _ => rfl)) (ev_sub (pos := p11) (ev_int (j := x0) (pos := p9)) ep2) ht1 (by omega) (by omega) hj2 (fun _ _ => rfl)).mono fun v e => ⟨tb, e⟩) (ea p13) { s with heap := h₁, toks := s.toks + [(at_, Value.int n tn)].length } rfl rfl
  refine PySem.W.kla_codeExpr (wpAny_mono hb (fun v s' hq => ?_) fun _ _ hq => hq.elim)
  obtain ⟨h', tk', rfl, hk, hr⟩ := hq
  exact ⟨h', tk', rfl, fun b o e => hk b o (kp b o e), hr⟩
end
/-! ### all but tables stays -/
theorem rdN {H H' : Hp} {a : Addr} {u : HO} (e : ExtN H H') (h : Rd H a u) (n : ∀ ps, u ≠ .tbl ps) : Rd H' a u := by
  rcases h with h | ⟨o, h⟩
  · exact .inl (e _ _ h n)
  · exact .inr ⟨o, e _ _ h fun ps z => by cases z⟩
theorem sqlN {K : PySem.W.Frag} {H H' : Hp} {a : Addr} {xs : List V} (e : ExtN H H') (h : SqL K H a xs) : SqL K H' a xs := h.imp (fun h => rdN e h fun ps z => by cases z) id
theorem sqtN {K : PySem.W.Frag} {H H' : Hp} {a : Addr} {xs : List V} (e : ExtN H H') (h : SqT K H a xs) : SqT K H' a xs := h.imp (fun h => rdN e h fun ps z => by cases z) id
mutual
theorem dpN {K : PySem.W.Frag} {H H' : Hp} (e : ExtN H H') : ∀ {v : V} {d : PyData}, Dp K H v d → Dp K H' v d
  | _, _, .non => .non
  | _, _, .bl b => .bl b
  | _, _, .int i => .int i
  | _, _, .str x => .str x
  | _, _, .lst h a => .lst (sqlN e h) (dpNA e a)
  | _, _, .tup h a => .tup (sqtN e h) (dpNA e a)
theorem dpNA {K : PySem.W.Frag} {H H' : Hp} (e : ExtN H H') : ∀ {vs : List V} {ds : List PyData}, DpAll K H vs ds → DpAll K H' vs ds
  | _, _, .nil => .nil
  | _, _, .cons h t => .cons (dpN e h) (dpNA e t)
end
theorem exN {H H' : Hp} (e : Evl.Ex H H') : ExtN H H' := fun a o h _ => e a o h
theorem tabsE {T : List (Addr × Str)} {H H' : Hp} (t : Tabs T H) (e : Evl.Ex H H') : Tabs T H' := t.ext e
/-! ### the sort -/
def pD (p : Int × Int) : PyData := .tuple [.int p.1, .int p.2]
def SortMQ (T : List (Addr × Str)) (K : PySem.W.Frag) (im ip : Nat) (σ : L2.St) (Q : VK) (v : V) (H1 : Hp) : Prop := Tabs T H1 ∧ ∃ (a m : Addr) (ns : List Int) (pt : Int) (ms : List (Int × Int)), v = .ref a ∧ SqL K H1 a (ns.map V.int) ∧ σ[im]? = some (some (.ref m)) ∧ σ[ip]? = some (some (.int pt)) ∧ (pt = 0 ∨ pt = 1) ∧
  Dp K H1 (.ref m) (.list (ms.map pD)) ∧ (∀ n ∈ ns, 0 ≤ n ∧ n < (ms.length : Int)) ∧ ns.length ≤ 1000 ∧ ms.length ≤ 1000 ∧
  ∀ (p : Addr) (ns' : List Int) (H2 : Hp), ns'.Perm ns → H2 p = some (.lst (ns'.map V.int)) → ExtN H1 H2 → Tabs T H2 → Q (.ref p) H2
def tSortM (T : List (Addr × Str)) (K : PySem.W.Frag) (im ip : Nat) (te : TE) : TE := fun σ H Q => te σ H (SortMQ T K im ip σ Q)
def oneV (R : V → Hp → Prop) (us : List V) (H : Hp) : Prop := match us with
  | [v] => R v H
  | _ => False
theorem oneV_inv {R : V → Hp → Prop} {us : List V} {H : Hp} (h : oneV R us H) : ∃ v, us = [v] ∧ R v H := by
  match us, h with
  | [v], h => exact ⟨v, rfl, h⟩
theorem dp_at {K : PySem.W.Frag} {H : Hp} : ∀ {us : List V} {ms : List (Int × Int)} {n : Nat}, DpAll K H us (ms.map pD) → n < ms.length → ∃ u, us[n]? = some u ∧ Dp K H u (pD (ms.getD n (0, 0)))
  | _, p :: r, 0, .cons h t, _ => ⟨_, rfl, h⟩
  | _, p :: r, n + 1, .cons h t, hn => by
    obtain ⟨u, e, d⟩ := dp_at (n := n) t (by simpa using hn)
    exact ⟨u, by simpa using e, by simpa using d⟩
theorem each_ints : ∀ {vs : List Value} {ns : List Int}, Vals (ns.map V.int) vs → PySem.W.EachIs (fun v n => IsI n v) vs ns
  | _, [], .nil => .nil
  | _, n :: r, .cons h t => .cons h (each_ints t)
theorem vals_each : ∀ {vs : List Value} {ns : List Int}, PySem.W.EachIs (fun v n => IsI n v) vs ns → Vals (ns.map V.int) vs
  | _, _, .nil => .nil
  | _, _, .cons h t => .cons h (vals_each t)
section
variable {X : Cx}
theorem pe_sortMid {T : List (Addr × Str)} {x at_ mid part : Str} {c P : Addr} {k im ip : Nat} {params : Arguments} {scope : Scope} {e : Expr} {te : TE} {pp lpos kpos pos p1 p2 p3 p4 p5 p6 p7 p8 p9 p10 p11 p12 p13 tpos : Pos} {x0 : Nat} {x1}
    (he : PE X e te) (hg : Gl X x) (hm : X.mg x = none) (hv : bootBuiltins x = some (.builtin "sorted")) (TB : TabB X.base X.mg c P) (hcode : X.env.code = .ref c) (hmT : (P, X.env.qual ++ "<lambda>") ∈ T) (hu : ∀ p ∈ T, p.1 = P → p.2 = X.env.qual ++ "<lambda>")
    (hr : Room (k + 2) X.A) (L : LamP X.env.scope scope at_ mid part) (hN1 : X.N[im]? = some mid) (hN2 : X.N[ip]? = some part) (hdef : defaultsOf params X.env = ([], []))
    (hbind : ∀ (q : Str) (cl : List (Str × Addr)) (pm cv ctv : Value) (n : Int) (tn : Tok) (b : Expr), bindArgs (PySem.W.kla_fn "<lambda>" q params b scope cl pm cv ctv) ⟨[.int n tn], []⟩ = pure [(at_, .int n tn)])
    (hn : x ≠ "__name__" := by decide) (hdb : (x == ("__debug__" : Str)) = false := by decide)
    (g1 : (at_ == ("__debug__" : Str)) = false := by decide) (g2 : (mid == ("__debug__" : Str)) = false := by decide) (g3 : (part == ("__debug__" : Str)) = false := by decide) (g4 : (mid == ("__classdict__" : Str)) = false := by decide) (g5 : (part == ("__classdict__" : Str)) = false := by decide)
    (hsa : starEach [e] X.env = (false, eval e X.env) :: starEach [] X.env := by rfl)
    (he' : backTo pos (starEach [e] X.env) = (false, eval e X.env) :: backTo pos (starEach [] X.env) := by rfl) (hpl : (backTo pos (starEach [e] X.env)).any (·.1) = false := by rfl) :
    PE X (.Call (.Name x pp) [e] [⟨some "key", .Lambda params (.Tuple [.Subscript (.Subscript (.Name mid p1) (.Name at_ p2) p3) (.Name part p4) p5, .Subscript (.Subscript (.Name mid p6) (.Name at_ p7) p8) (.BinOp (.Constant (.int 1) x0 p9) .Sub (.Name part p10) p11) p12, .Name at_ p13] x1 tpos) scope lpos, kpos⟩] pos) (tSortM T X.K im ip te) := by
  refine ⟨fun pins s σ H Q I h => ?_⟩
  refine wpAny_Call_Name_kw (ld_blt I hg hm hv ?_ hn hdb)
  refine PyProof.Rows.callWith_kw (thn ((pa_cons he pa_nil hsa).run pos pins s σ H (oneV (SortMQ T X.K im ip σ Q)) I h) fun us s1 ⟨vs, H1, I1, r1, q1⟩ => ?_) he' hpl rfl rfl
  obtain ⟨v, rfl, hT, a, m, ns, pt, ms, rfl, hs, h1, h2, hpt, hm', hns, hl1, hl2, q⟩ := oneV_inv q1
  obtain rfl := Vals.ref1 r1
  refine wpAny_evalAll_cons (wpAny_bind (lam_make2 I1 TB hcode hmT hu hT hdef (L.has I1.ok) fun f c' pm ctv H2 s2 I2 eN T2 hf hfn hfr hco => wpAny_bind (wpAny_standAt (wpAny_pure (wpAny_evalAll_nil ?_)))))
  obtain ⟨its, rv, hl, hz⟩ := I2.list (sqlN eN hs)
  obtain ⟨l, us, el, hsl, hal⟩ := dpLst (dpN eN hm')
  cases el
  have hei := each_ints rv
  show wpAny _ _ (call (.builtin "sorted") [.ref a] [(Str.ofString "key", .ref f)]) _ _ s2
  refine PySem.W.sorted_key_data (b := false) (f := .ref f) (k := fun n : Int => .tuple [.int (if pt = 0 then (ms.getD n.toNat (0, 0)).1 else (ms.getD n.toNat (0, 0)).2), .int (if pt = 0 then (ms.getD n.toNat (0, 0)).2 else (ms.getD n.toNat (0, 0)).1), .int n]) hl.isList hei (PySem.W.AllAlike.of fun _ _ => by simp [PySem.W.alike, PySem.W.alikeAll]) (PySem.W.Sortable.tuples fun _ => ⟨_, _, rfl⟩) (by rw [sizeLine_eq]; omega) (fun n _ => ?_) (ksk_s1 _ _) (fun _ => ksk_l1 _ _) (fun _ => ksk_t1 _ _)
    (fun v n hv hn h tk kp => ?_) (fun out c2 h' tk kp hne hD hlen eo => ?_)
  · have hd : (PyData.tuple [.int (if pt = 0 then (ms.getD n.toNat (0, 0)).1 else (ms.getD n.toNat (0, 0)).2), .int (if pt = 0 then (ms.getD n.toNat (0, 0)).2 else (ms.getD n.toNat (0, 0)).1), .int n]).depth = 1 := by simp [PyData.depth, PyData.depthAll]
    have := hr.un
    omega
  · obtain ⟨tn, rfl⟩ := hv
    have I3 : Inv X pins σ H2 { s2 with heap := h, toks := tk } := I2.kept kp
    obtain ⟨b0, b1⟩ := hns n hn
    obtain ⟨its2, rv2, pl2, _⟩ := I3.list hsl
    obtain ⟨u, hu1, hu2⟩ := dp_at (n := n.toNat) hal (by omega)
    obtain ⟨w, ew, rw'⟩ := rv2.get hu1
    obtain ⟨t, ts, rfl, hst, hat⟩ := dpTup hu2
    obtain rfl : w = Value.ref t := rw'
    obtain ⟨jts, rv3, pl3, _⟩ := I3.tuple hst
    cases hat with
    | cons ha1 hat =>
      cases hat with
      | cons ha2 hat =>
        cases hat
        cases dpInt ha1
        cases dpInt ha2
        obtain ⟨w1, w2, rfl, ⟨t1, rfl⟩, ⟨t2, rfl⟩⟩ := vals2 rv3
        refine lam_call L I3 (by have := hr.dp; show X.A.in1.in1.depth < _; have : X.A.in1.in1.depth = X.A.depth := rfl; omega) hN1 hN2 h1 h2 (kp _ _ hf) hco (hbind _ _ _ _ _ _ _ _) pl2.isList ⟨b0, by omega⟩ hpt (by simpa using ew) pl3 ?_ g1 g2 g3 g4 g5
        rcases hpt with rfl | rfl
        · exact ⟨t1, t2, rfl, rfl⟩
        · exact ⟨t2, t1, rfl, rfl⟩
  · have hv2 := vals_each eo
    have hpm : ((ns.mergeSort (PySem.W.dataLe false fun n : Int => .tuple [.int (if pt = 0 then (ms.getD n.toNat (0, 0)).1 else (ms.getD n.toNat (0, 0)).2), .int (if pt = 0 then (ms.getD n.toNat (0, 0)).2 else (ms.getD n.toNat (0, 0)).1), .int n]))).Perm ns := List.mergeSort_perm _ _
    generalize ns.mergeSort _ = ns' at hv2 hpm
    have fr : H2 (s2.heap.objs.size + 1) = none := I2.hok.fresh (Nat.le_succ _)
    have hlz : (ns'.map V.int).length ≤ sizeLine := by
      rw [List.length_map, hpm.length_eq, sizeLine_eq]
      omega
    refine ⟨.ref _, upd H2 (s2.heap.objs.size + 1) (.lst (ns'.map V.int)), I2.laid (t' := tk) kp (Nat.le_succ _) ⟨hlz, _, c2, hv2, hD⟩, rfl, q _ ns' _ hpm upd_same ?_ (T2.ext fun b o e => by rw [upd_ne (ne_of_none e fr)]; exact e)⟩
    exact eN.trans fun b o e _ => by
      rw [upd_ne (ne_of_none e fr)]
      exact e
end
end LmK

/-! right forms by their rows -/
namespace Wb
open PySem PySem.Spec
/-- what stands in a form's row -/
def Ro : Nat → Type
  | 0 => En
  | n + 1 => Fo n
def roD : (n : Nat) → Ro n → PyData
  | 0, e => enD e
  | n + 1, t => brD n (brO (k := n) t)
def roE : (n : Nat) → Ro n → List En
  | 0, e => [e]
  | n + 1, t => ents n t
def roB : (n : Nat) → Ro n → Bx
  | 0, e => (show En from e).2
  | n + 1, t => joint ((ents n t).map (·.2))
def wdO : Nat → Str
  | 0 => "leaf"
  | _ + 1 => "node"
def mkR : (n : Nat) → List (Ro n) → Fo n
  | 0, xs => mkLf xs
  | n + 1, ts => upF (k := n) ts
def LowR : (n : Nat) → Ro n → Prop
  | 0, e => (show En from e).2.ok
  | n + 1, t => Low n t
theorem foD_R : ∀ (n : Nat) (xs : List (Ro n)), foD n (mkR n xs) = .tuple [.str (wdO n), .tuple (xs.map (roD n))]
  | 0, _ => rfl
  | n + 1, ts => foD_up ts
theorem ents_R : ∀ (n : Nat) (xs : List (Ro n)), ents n (mkR n xs) = xs.flatMap (roE n)
  | 0, xs => by
    have : ∀ l : List En, l = l.flatMap fun e => [e] := fun l => by simp
    exact this xs
  | n + 1, ts => ents_up ts
theorem sz_R : ∀ (n : Nat) (xs : List (Ro n)), foSz n (mkR n xs) = xs.length
  | 0, _ => rfl
  | n + 1, ts => sz_up ts
theorem right_R : ∀ (n : Nat) (xs : List (Ro n)), (∀ x ∈ xs, LowR n x) → Right n (mkR n xs)
  | 0, _, h => h
  | n + 1, ts, h => right_up h
theorem right_inv : ∀ (n : Nat) (t : Fo n), Right n t → ∃ xs : List (Ro n), t = mkR n xs ∧ ∀ x ∈ xs, LowR n x
  | 0, t, h => ⟨foL t, rfl, h⟩
  | n + 1, t, h => by
    have hb : ∀ p ∈ foB t, p = brO p.2 := fun p hp => by
      have := (h p hp).1
      show p = (joint ((ents n p.2).map (·.2)), p.2)
      rw [← this]
    refine ⟨(foB t).map (·.2), ?_, fun x hx => ?_⟩
    · show t = mkNd (((foB t).map (·.2)).map brO)
      rw [List.map_map]
      have : (foB t).map (brO ∘ (·.2)) = foB t := by
        conv => rhs; rw [← List.map_id (foB t)]
        exact List.map_congr_left fun p hp => (hb p hp).symm
      rw [this]
      rfl
    · obtain ⟨p, hp, rfl⟩ := List.mem_map.mp hx
      obtain ⟨_, h2, h3, h4⟩ := h p hp
      exact ⟨h4, h2, h3⟩
theorem noL_ro : ∀ (n : Nat) (x : Ro n), noL (roD n x) = true
  | 0, e => noL_en e
  | n + 1, t => noL_br n _
theorem low_ents {n : Nat} {t : Fo n} (h : Low n t) : ents n t ≠ [] := ents_ne n t h.2.1 h.1
theorem roE_ne : ∀ (n : Nat) (x : Ro n), LowR n x → roE n x ≠ []
  | 0, _, _ => fun e => by cases e
  | n + 1, t, h => low_ents (n := n) h
theorem roB_E : ∀ (n : Nat) (x : Ro n), roB n x = joint ((roE n x).map (·.2))
  | 0, e => rfl
  | n + 1, t => rfl
theorem mn_app : ∀ {ns ms : List Int}, ns ≠ [] → ms ≠ [] → mnI (ns ++ ms) = min (mnI ns) (mnI ms) := fun {ns ms} h1 h2 => by
  obtain ⟨a1, a2⟩ := mn_mem h1
  obtain ⟨b1, b2⟩ := mn_mem h2
  obtain ⟨c1, c2⟩ := mn_mem (ns := ns ++ ms) (by simp [h1])
  have d1 := c2 _ (List.mem_append_left _ a1)
  have d2 := c2 _ (List.mem_append_right _ b1)
  rcases List.mem_append.mp c1 with z | z
  · have := a2 _ z
    omega
  · have := b2 _ z
    omega
theorem mx_app : ∀ {ns ms : List Int}, ns ≠ [] → ms ≠ [] → mxI (ns ++ ms) = max (mxI ns) (mxI ms) := fun {ns ms} h1 h2 => by
  obtain ⟨a1, a2⟩ := mx_mem h1
  obtain ⟨b1, b2⟩ := mx_mem h2
  obtain ⟨c1, c2⟩ := mx_mem (ns := ns ++ ms) (by simp [h1])
  have d1 := c2 _ (List.mem_append_left _ a1)
  have d2 := c2 _ (List.mem_append_right _ b1)
  rcases List.mem_append.mp c1 with z | z
  · have := a2 _ z
    omega
  · have := b2 _ z
    omega
theorem mn_cons {x : Int} {ns : List Int} (h : ns ≠ []) : mnI (x :: ns) = min x (mnI ns) := mn_app (ns := [x]) (List.cons_ne_nil _ _) h
theorem mx_cons {x : Int} {ns : List Int} (h : ns ≠ []) : mxI (x :: ns) = max x (mxI ns) := mx_app (ns := [x]) (List.cons_ne_nil _ _) h
theorem joint_app {as bs : List Bx} (ha : as ≠ []) (hb : bs ≠ []) : joint (as ++ bs) = joint [joint as, joint bs] := by
  have n1 : ∀ f : Bx → Int, as.map f ≠ [] := fun f e => ha (List.map_eq_nil_iff.mp e)
  have n2 : ∀ f : Bx → Int, bs.map f ≠ [] := fun f e => hb (List.map_eq_nil_iff.mp e)
  unfold joint
  simp only [List.map_append]
  rw [mn_app (n1 _) (n2 _), mn_app (n1 _) (n2 _), mx_app (n1 _) (n2 _), mx_app (n1 _) (n2 _)]
  rfl
theorem joint_cons {b : Bx} {bs : List Bx} (hb : bs ≠ []) : joint (b :: bs) = joint [b, joint bs] := joint_app (as := [b]) (List.cons_ne_nil _ _) hb
/-- the joint of the rows' boxes is that of the entries' boxes -/
theorem joint_R (n : Nat) : ∀ (xs : List (Ro n)), xs ≠ [] → (∀ x ∈ xs, LowR n x) → joint (xs.map (roB n)) = joint ((xs.flatMap (roE n)).map (·.2))
  | [], h, _ => absurd rfl h
  | [x], _, h => by
    have e1 : (roE n x).map (·.2) ≠ [] := fun e => roE_ne n x (h x List.mem_cons_self) (List.map_eq_nil_iff.mp e)
    show joint [roB n x] = joint (([x].flatMap (roE n)).map (·.2))
    have : [x].flatMap (roE n) = roE n x := by simp
    rw [this, roB_E]
    rfl
  | x :: y :: r, _, h => by
    have ih := joint_R n (y :: r) (List.cons_ne_nil _ _) fun z hz => h z (List.mem_cons_of_mem _ hz)
    have e1 : (roE n x).map (·.2) ≠ [] := fun e => roE_ne n x (h x List.mem_cons_self) (List.map_eq_nil_iff.mp e)
    have e2 : ((y :: r).flatMap (roE n)).map (·.2) ≠ [] := fun e => by
      have := List.map_eq_nil_iff.mp e
      rw [List.flatMap_cons] at this
      exact roE_ne n y (h y (List.mem_cons_of_mem _ List.mem_cons_self)) (List.append_eq_nil_iff.mp this).1
    have e3 : (x :: y :: r).flatMap (roE n) = roE n x ++ (y :: r).flatMap (roE n) := List.flatMap_cons
    rw [List.map_cons, joint_cons (by simp), ih, e3, List.map_append, joint_app e1 e2, roB_E]
theorem pow2 : ∀ (n : Nat) (t : Fo n), Low n t → 2 ^ (n + 1) ≤ (ents n t).length
  | 0, t, h => h.2.1
  | n + 1, t, h => by
    obtain ⟨xs, rfl, hx⟩ := right_inv (n + 1) t h.1
    have h2 := h.2.1
    rw [sz_R] at h2
    rw [ents_R]
    have : ∀ xs : List (Fo n), (∀ x ∈ xs, Low n x) → xs.length * 2 ^ (n + 1) ≤ (xs.flatMap (ents n)).length := by
      intro xs
      induction xs with
      | nil => intro _; simp
      | cons x r ih =>
        intro hx
        have h1 := pow2 n x (hx x List.mem_cons_self)
        have h3 := ih fun z hz => hx z (List.mem_cons_of_mem _ hz)
        rw [List.flatMap_cons, List.length_append, List.length_cons, Nat.add_mul]
        omega
    have h4 := this xs hx
    have h5 : 2 * 2 ^ (n + 1) ≤ xs.length * 2 ^ (n + 1) := Nat.mul_le_mul_right _ h2
    have h6 : 2 ^ (n + 1 + 1) = 2 * 2 ^ (n + 1) := by rw [Nat.pow_succ, Nat.mul_comm]
    exact Nat.le_trans (by rw [h6]; exact h5) h4
theorem low_le2 {n : Nat} {t : Fo n} (h : Low n t) (hl : (ents n t).length ≤ 15) : n ≤ 2 := by
  have := pow2 n t h
  by_cases z : n ≤ 2
  · exact z
  · have : 2 ^ 4 ≤ 2 ^ (n + 1) := Nat.pow_le_pow_right (by decide) (by omega)
    omega
/-- the forms that hold a row, one or two -/
def Fits (n : Nat) (xs : List (Ro n)) (fs : List (Fo n)) : Prop := (fs = [mkR n xs] ∧ xs.length ≤ 4) ∨ ∃ ys zs : List (Ro n), fs = [mkR n ys, mkR n zs] ∧ (ys ++ zs).Perm xs ∧ 2 ≤ ys.length ∧ ys.length ≤ 4 ∧ 2 ≤ zs.length ∧ zs.length ≤ 4
theorem Fits.ents {n : Nat} {xs : List (Ro n)} {fs : List (Fo n)} (h : Fits n xs fs) : (fs.flatMap (ents n)).Perm (xs.flatMap (roE n)) := by
  rcases h with ⟨rfl, _⟩ | ⟨ys, zs, rfl, hp, _⟩
  · simp only [List.flatMap_cons, List.flatMap_nil, List.append_nil, ents_R]
    exact List.Perm.refl _
  · simp only [List.flatMap_cons, List.flatMap_nil, List.append_nil, ents_R]
    rw [← List.flatMap_append]
    exact List.Perm.flatMap_right _ hp
theorem Fits.low {n : Nat} {xs : List (Ro n)} {fs : List (Fo n)} (h : Fits n xs fs) (hx : ∀ x ∈ xs, LowR n x) (h2 : 2 ≤ xs.length) : ∀ f ∈ fs, Low n f := by
  rcases h with ⟨rfl, h4⟩ | ⟨ys, zs, rfl, hp, a1, a2, a3, a4⟩
  · intro f hf
    rcases List.mem_singleton.mp hf with rfl
    exact ⟨right_R n xs hx, by rw [sz_R]; exact h2, by rw [sz_R]; exact h4⟩
  · intro f hf
    simp only [List.mem_cons, List.not_mem_nil, or_false] at hf
    rcases hf with rfl | rfl
    · exact ⟨right_R n ys fun x m => hx x (hp.mem_iff.mp (List.mem_append_left _ m)), by rw [sz_R]; exact a1, by rw [sz_R]; exact a2⟩
    · exact ⟨right_R n zs fun x m => hx x (hp.mem_iff.mp (List.mem_append_right _ m)), by rw [sz_R]; exact a3, by rw [sz_R]; exact a4⟩
theorem Fits.len {n : Nat} {xs : List (Ro n)} {fs : List (Fo n)} (h : Fits n xs fs) : fs.length = 1 ∨ fs.length = 2 := by
  rcases h with ⟨rfl, _⟩ | ⟨ys, zs, rfl, _⟩
  · exact .inl rfl
  · exact .inr rfl
end Wb

/-! the search as plain data -/
namespace Wb
open PySem PySem.Spec
/-- its items: a box, and a number or a form -/
def fitems : Fs → List (Bx × (Int ⊕ Fs))
  | ⟨0, t⟩ => (foL t).map fun e => (e.2, .inl e.1)
  | ⟨k + 1, t⟩ => (foB t).map fun p => (p.1, .inr ⟨k, p.2⟩)
structure Ws where
  found : List Int
  left : List (List Nat × String)
  looked : Nat
  waits : List (List Nat × Fs)
def stepI (w : Bx) (pl : List Nat) (i : Nat) (it : Bx × (Int ⊕ Fs)) (S : Ws) : Ws :=
  match apart it.1 w with
  | some x => ⟨S.found, S.left ++ [(pl ++ [i], x)], S.looked + 1, S.waits⟩
  | none => match it.2 with
    | .inl n => ⟨S.found ++ [n], S.left, S.looked + 1, S.waits⟩
    | .inr s => ⟨S.found, S.left, S.looked + 1, S.waits ++ [(pl ++ [i], s)]⟩
/-- the first i items done -/
def stepT (w : Bx) (pl : List Nat) (its : List (Bx × (Int ⊕ Fs))) (S : Ws) : Nat → Ws
  | 0 => S
  | i + 1 => match its[i]? with
    | some it => stepI w pl i it (stepT w pl its S i)
    | none => stepT w pl its S i
theorem stepT_at {w : Bx} {pl : List Nat} {its : List (Bx × (Int ⊕ Fs))} {S : Ws} {i : Nat} {it : Bx × (Int ⊕ Fs)} (h : its[i]? = some it) : stepT w pl its S (i + 1) = stepI w pl i it (stepT w pl its S i) := by
  show (match its[i]? with | some it => _ | none => _) = _
  rw [h]
def stepF (w : Bx) (pl : List Nat) (s : Fs) (S : Ws) : Ws := stepT w pl (fitems s) S (fitems s).length
def stp (w : Bx) (S : Ws) : Ws :=
  match S.waits.reverse with
  | [] => S
  | (pl, s) :: r => stepF w pl s ⟨S.found, S.left, S.looked, r.reverse⟩
def runN (w : Bx) (S : Ws) : Nat → Ws
  | 0 => S
  | n + 1 => stp w (runN w S n)
theorem stp_last {w : Bx} {F : List Int} {L : List (List Nat × String)} {c : Nat} {r : List (List Nat × Fs)} {pl : List Nat} {s : Fs} : stp w ⟨F, L, c, r ++ [(pl, s)]⟩ = stepF w pl s ⟨F, L, c, r⟩ := by
  unfold stp
  simp
theorem stp_end {w : Bx} {S : Ws} (h : S.waits = []) : stp w S = S := by
  unfold stp
  rw [h]
  rfl
theorem run_end {w : Bx} {S : Ws} {n : Nat} (h : (runN w S n).waits = []) : ∀ k, runN w S (n + k) = runN w S n
  | 0 => rfl
  | k + 1 => by
    show stp w (runN w S (n + k)) = _
    rw [run_end h k]
    exact stp_end h
theorem run_uniq {w : Bx} {S : Ws} {n m : Nat} (hn : (runN w S n).waits = []) (hm : (runN w S m).waits = []) : runN w S n = runN w S m := by
  rcases Nat.le_total n m with h | h
  · obtain ⟨k, rfl⟩ := Nat.exists_eq_add_of_le h
    exact (run_end hn k).symm
  · obtain ⟨k, rfl⟩ := Nat.exists_eq_add_of_le h
    exact run_end hm k
def start0 (s : Fs) : Ws := ⟨[], [], 0, [([], s)]⟩
/-- the walk of a form has come to its end with S -/
def Ended (w : Bx) (s : Fs) (S : Ws) : Prop := S.waits = [] ∧ ∃ n, S = runN w (start0 s) n
theorem ended_uniq {w : Bx} {s : Fs} {S T : Ws} (h : Ended w s S) (k : Ended w s T) : S = T := by
  obtain ⟨h1, n, rfl⟩ := h
  obtain ⟨k1, m, rfl⟩ := k
  exact run_uniq h1 k1
/-! sizes: what the loop needs -/
theorem stepI_waits {w : Bx} {pl : List Nat} {i : Nat} {it : Bx × (Int ⊕ Fs)} {S : Ws} : ∀ q ∈ (stepI w pl i it S).waits, q ∈ S.waits ∨ (q.1 = pl ++ [i] ∧ it.2 = .inr q.2) := by
  intro q hq
  unfold stepI at hq
  split at hq
  · exact .inl hq
  · split at hq
    · exact .inl hq
    · rename_i s hs
      rcases List.mem_append.mp hq with h | h
      · exact .inl h
      · rcases List.mem_singleton.mp h with rfl
        exact .inr ⟨rfl, hs⟩
end Wb

/-! the walk's sizes -/
namespace Wb
open PySem PySem.Spec
theorem stepI_looked {w : Bx} {pl : List Nat} {i : Nat} {it : Bx × (Int ⊕ Fs)} {S : Ws} : (stepI w pl i it S).looked = S.looked + 1 := by
  unfold stepI
  split
  · rfl
  · split <;> rfl
def wsN (S : Ws) : Nat := S.found.length + S.left.length + S.waits.length
theorem stepI_len {w : Bx} {pl : List Nat} {i : Nat} {it : Bx × (Int ⊕ Fs)} {S : Ws} : wsN (stepI w pl i it S) = wsN S + 1 := by
  unfold stepI wsN
  split
  · simp; omega
  · split <;> (simp; omega)
theorem stepT_n {w : Bx} {pl : List Nat} {its : List (Bx × (Int ⊕ Fs))} {S : Ws} : ∀ {i : Nat}, i ≤ its.length → (stepT w pl its S i).looked = S.looked + i ∧ wsN (stepT w pl its S i) = wsN S + i
  | 0, _ => ⟨rfl, rfl⟩
  | i + 1, h => by
    obtain ⟨h1, h2⟩ := stepT_n (w := w) (pl := pl) (its := its) (S := S) (i := i) (by omega)
    have e := stepT_at (w := w) (pl := pl) (S := S) (List.getElem?_eq_getElem (show i < its.length by omega))
    rw [e, stepI_looked, stepI_len, h1, h2]
    omega
def sumW (f : Fs → Nat) : List (List Nat × Fs) → Nat
  | [] => 0
  | q :: r => f q.2 + sumW f r
theorem sumW_app {f : Fs → Nat} : ∀ (xs ys : List (List Nat × Fs)), sumW f (xs ++ ys) = sumW f xs + sumW f ys
  | [], ys => by simp [sumW]
  | q :: r, ys => by
    rw [List.cons_append, sumW, sumW, sumW_app r ys]
    omega
def cst (f : Fs → Nat) (it : Bx × (Int ⊕ Fs)) : Nat :=
  match it.2 with
  | .inl _ => 0
  | .inr s => f s
theorem stepI_sum {f : Fs → Nat} {w : Bx} {pl : List Nat} {i : Nat} {it : Bx × (Int ⊕ Fs)} {S : Ws} : sumW f (stepI w pl i it S).waits ≤ sumW f S.waits + cst f it := by
  unfold stepI cst
  split
  · show sumW f S.waits ≤ _
    omega
  · split
    · exact Nat.le_add_right _ _
    · rename_i s hs
      show sumW f (S.waits ++ [_]) ≤ _
      first
        | (rw [sumW_app, hs]; exact Nat.le_refl _)
        | (rw [sumW_app]; exact Nat.le_refl _)
def cstL (f : Fs → Nat) : List (Bx × (Int ⊕ Fs)) → Nat
  | [] => 0
  | it :: r => cst f it + cstL f r
theorem cstL_app {f : Fs → Nat} : ∀ (xs ys : List (Bx × (Int ⊕ Fs))), cstL f (xs ++ ys) = cstL f xs + cstL f ys
  | [], ys => by simp [cstL]
  | q :: r, ys => by
    rw [List.cons_append, cstL, cstL, cstL_app r ys]
    omega
theorem stepT_sum {f : Fs → Nat} {w : Bx} {pl : List Nat} {its : List (Bx × (Int ⊕ Fs))} {S : Ws} : ∀ {i : Nat}, i ≤ its.length → sumW f (stepT w pl its S i).waits ≤ sumW f S.waits + cstL f (its.take i)
  | 0, _ => Nat.le_add_right _ _
  | i + 1, h => by
    have h1 := stepT_sum (f := f) (w := w) (pl := pl) (its := its) (S := S) (i := i) (by omega)
    have hg := List.getElem?_eq_getElem (show i < its.length by omega)
    have e := stepT_at (w := w) (pl := pl) (S := S) hg
    rw [e]
    have h2 := stepI_sum (f := f) (w := w) (pl := pl) (i := i) (it := its[i]) (S := stepT w pl its S i)
    have ht : its.take (i + 1) = its.take i ++ [its[i]] := by rw [List.take_add_one, hg]; rfl
    rw [ht, cstL_app]
    show _ ≤ _ + (_ + (cst f its[i] + 0))
    omega
theorem stepT_waits {w : Bx} {pl : List Nat} {its : List (Bx × (Int ⊕ Fs))} {S : Ws} : ∀ {i : Nat}, i ≤ its.length → ∀ q ∈ (stepT w pl its S i).waits, q ∈ S.waits ∨ ∃ b, (b, .inr q.2) ∈ its
  | 0, _, q, hq => .inl hq
  | i + 1, h, q, hq => by
    have hg := List.getElem?_eq_getElem (show i < its.length by omega)
    rw [stepT_at (w := w) (pl := pl) (S := S) hg] at hq
    rcases stepI_waits q hq with h1 | ⟨_, h2⟩
    · exact stepT_waits (i := i) (by omega) q h1
    · refine .inr ⟨its[i].1, ?_⟩
      rw [← h2]
      exact List.getElem_mem _
/-- all items of a form and within -/
def itN : (n : Nat) → Fo n → Nat
  | 0, t => (foL t).length
  | n + 1, t => ((foB t).map fun p => 1 + itN n p.2).sum
def fsI (s : Fs) : Nat := itN s.1 s.2
theorem itN_le : ∀ (n : Nat) (t : Fo n), Sm n t → 3 * itN n t + 4 ≤ 4 ^ (n + 2)
  | 0, t, h => by
    have h' : (foL t).length ≤ 4 := h
    show 3 * (foL t).length + 4 ≤ 16
    omega
  | n + 1, t, h => by
    have hb : ∀ (l : List (Bx × Fo n)), (∀ p ∈ l, Sm n p.2) → 3 * (l.map fun p => 1 + itN n p.2).sum + l.length ≤ l.length * 4 ^ (n + 2) := by
      intro l
      induction l with
      | nil => intro _; exact Nat.zero_le _
      | cons p r ih =>
        intro hl
        have h1 := itN_le n p.2 (hl p List.mem_cons_self)
        have h2 := ih fun q hq => hl q (List.mem_cons_of_mem _ hq)
        rw [List.map_cons, List.sum_cons, List.length_cons]
        have e9 : (r.length + 1) * 4 ^ (n + 2) = r.length * 4 ^ (n + 2) + 4 ^ (n + 2) := by rw [Nat.add_mul, Nat.one_mul]
        rw [e9]
        omega
    have h1 := hb (foB t) h.2
    show 3 * ((foB t).map fun p => 1 + itN n p.2).sum + 4 ≤ 4 ^ (n + 2 + 1)
    have h4 := h.1
    have h16 : 16 ≤ 4 ^ (n + 2) := by
      have := Nat.pow_le_pow_right (show 0 < 4 by decide) (show 2 ≤ n + 2 by omega)
      exact this
    have hm : (foB t).length * 4 ^ (n + 2) + (4 - (foB t).length) * 4 ^ (n + 2) = 4 * 4 ^ (n + 2) := by
      rw [← Nat.add_mul]
      congr 1
      omega
    have h5 : (4 - (foB t).length) * 16 ≤ (4 - (foB t).length) * 4 ^ (n + 2) := Nat.mul_le_mul_left _ h16
    rw [Nat.pow_succ 4 (n + 2), Nat.mul_comm]
    by_cases h0 : (foB t).length = 4
    · rw [h0] at h1 hm
      omega
    · omega
theorem itN_bd {s : Fs} (h : Sm s.1 s.2) (h3 : s.1 ≤ 3) : fsI s ≤ 340 := by
  have := itN_le s.1 s.2 h
  have hm : s.1 = 0 ∨ s.1 = 1 ∨ s.1 = 2 ∨ s.1 = 3 := by omega
  have : 4 ^ (s.1 + 2) ≤ 1024 := by rcases hm with e | e | e | e <;> rw [e] <;> decide
  show itN s.1 s.2 ≤ 340
  omega
theorem fitems_len (s : Fs) : (fitems s).length = foSz s.1 s.2 := by
  obtain ⟨k, t⟩ := s
  cases k with
  | zero => exact List.length_map _
  | succ k => exact List.length_map _
theorem cst_I : ∀ (s : Fs), cstL fsI (fitems s) + (fitems s).length ≤ fsI s
  | ⟨0, t⟩ => by
    show cstL fsI ((foL t).map _) + ((foL t).map _).length ≤ (foL t).length
    induction (foL t) with
    | nil => exact Nat.le_refl _
    | cons e r ih =>
      rw [List.map_cons, List.length_cons, List.length_cons]
      show 0 + _ + _ ≤ _
      omega
  | ⟨k + 1, t⟩ => by
    show cstL fsI ((foB t).map _) + ((foB t).map _).length ≤ ((foB t).map fun p => 1 + itN k p.2).sum
    induction (foB t) with
    | nil => exact Nat.le_refl _
    | cons p r ih =>
      rw [List.map_cons, List.map_cons, List.length_cons, List.sum_cons]
      show itN k p.2 + _ + _ ≤ _
      omega
theorem cst_N : ∀ (s : Fs), cstL fsN (fitems s) + 1 ≤ fsN s
  | ⟨0, t⟩ => by
    have : ∀ l : List En, cstL fsN (l.map fun e => (e.2, (.inl e.1 : Int ⊕ Fs))) = 0 := by
      intro l
      induction l with
      | nil => rfl
      | cons e r ih =>
        rw [List.map_cons]
        show 0 + _ = 0
        omega
    show cstL fsN ((foL t).map _) + 1 ≤ 0 + 1
    rw [this]
    exact Nat.le_refl _
  | ⟨k + 1, t⟩ => by
    show cstL fsN ((foB t).map fun p => (p.1, .inr ⟨k, p.2⟩)) + 1 ≤ ((foB t).flatMap fun p => foD k p.2 :: subs k p.2).length + 1
    induction (foB t) with
    | nil => exact Nat.le_refl _
    | cons p r ih =>
      rw [List.map_cons, List.flatMap_cons, List.length_append, List.length_cons]
      show (subs k p.2).length + 1 + _ + 1 ≤ _
      omega
/-- what holds ahead of each pop -/
structure WOk (S : Ws) : Prop where
  sm : ∀ q ∈ S.waits, Sm q.2.1 q.2.2 ∧ q.2.1 ≤ 3 ∧ Bok q.2.1 q.2.2
  tot : S.looked + sumW fsI S.waits ≤ 340
  len : wsN S ≤ S.looked + 1
theorem wok_start {s : Fs} (h : Sm s.1 s.2) (h3 : s.1 ≤ 3) (hb : Bok s.1 s.2) : WOk (start0 s) :=
  ⟨fun q hq => by rcases List.mem_singleton.mp hq with rfl; exact ⟨h, h3, hb⟩, by show 0 + (fsI s + 0) ≤ 340; have := itN_bd h h3; omega, Nat.le_refl _⟩
theorem wok_step {w : Bx} {F : List Int} {L : List (List Nat × String)} {c : Nat} {r : List (List Nat × Fs)} {pl : List Nat} {s : Fs} (h : WOk ⟨F, L, c, r ++ [(pl, s)]⟩) :
    WOk (stepF w pl s ⟨F, L, c, r⟩) ∧ sumW fsN (stepF w pl s ⟨F, L, c, r⟩).waits < sumW fsN (r ++ [(pl, s)]) ∧ ∀ i, i ≤ (fitems s).length → (stepT w pl (fitems s) ⟨F, L, c, r⟩ i).looked ≤ 340 ∧ wsN (stepT w pl (fitems s) ⟨F, L, c, r⟩ i) ≤ 341 := by
  obtain ⟨h1, h2, h3⟩ := h
  have hs := h1 (pl, s) (List.mem_append_right _ List.mem_cons_self)
  have e1 : sumW fsI (r ++ [(pl, s)]) = sumW fsI r + fsI s := by rw [sumW_app]; rfl
  have e2 : sumW fsN (r ++ [(pl, s)]) = sumW fsN r + fsN s := by rw [sumW_app]; rfl
  have h2 : c + sumW fsI (r ++ [(pl, s)]) ≤ 340 := h2
  have h3 : F.length + L.length + (r ++ [(pl, s)]).length ≤ c + 1 := h3
  rw [List.length_append, List.length_singleton] at h3
  have i1 := cst_I s
  have i2 := cst_N s
  have t1 := stepT_sum (f := fsI) (w := w) (pl := pl) (its := fitems s) (S := ⟨F, L, c, r⟩) (Nat.le_refl _)
  have t2 := stepT_sum (f := fsN) (w := w) (pl := pl) (its := fitems s) (S := ⟨F, L, c, r⟩) (Nat.le_refl _)
  rw [List.take_length] at t1 t2
  have t1 : _ ≤ sumW fsI r + _ := t1
  have t2 : _ ≤ sumW fsN r + _ := t2
  have t3 := fun i (hi : i ≤ (fitems s).length) => stepT_n (w := w) (pl := pl) (its := fitems s) (S := ⟨F, L, c, r⟩) hi
  have hw : wsN ⟨F, L, c, r⟩ = F.length + L.length + r.length := rfl
  refine ⟨⟨fun q hq => ?_, ?_, ?_⟩, ?_, fun i hi => ?_⟩
  · rcases stepT_waits (Nat.le_refl _) q hq with h | ⟨b, h⟩
    · exact h1 q (List.mem_append_left _ h)
    · obtain ⟨k, t⟩ := s
      cases k with
      | zero =>
        obtain ⟨e, _, he⟩ := List.mem_map.mp h
        cases he
      | succ k =>
        obtain ⟨p, hp, he⟩ := List.mem_map.mp h
        obtain ⟨q1, q2⟩ := q
        have e9 : (⟨k, p.2⟩ : Fs) = q2 := by
          have := congrArg Prod.snd he
          exact Sum.inr.inj this
        subst e9
        obtain ⟨g1, g2, g3⟩ := hs
        have g2 : k + 1 ≤ 3 := g2
        exact ⟨g1.2 p hp, by show k ≤ 3; omega, (g3 p hp).2⟩
  · have := (t3 _ (Nat.le_refl _)).1
    show (stepT w pl (fitems s) ⟨F, L, c, r⟩ (fitems s).length).looked + sumW fsI (stepT w pl (fitems s) ⟨F, L, c, r⟩ (fitems s).length).waits ≤ 340
    rw [this]
    show c + _ + _ ≤ 340
    omega
  · have := t3 _ (Nat.le_refl _)
    show wsN (stepT w pl (fitems s) ⟨F, L, c, r⟩ (fitems s).length) ≤ (stepT w pl (fitems s) ⟨F, L, c, r⟩ (fitems s).length).looked + 1
    rw [this.1, this.2, hw]
    show _ ≤ c + _ + 1
    omega
  · show sumW fsN (stepT w pl (fitems s) ⟨F, L, c, r⟩ (fitems s).length).waits < _
    omega
  · have := t3 i hi
    rw [this.1, this.2, hw]
    have : c + i ≤ 340 := by omega
    exact ⟨this, by omega⟩
end Wb

/-! the walk of two forms as plain data -/
namespace Wb
open PySem PySem.Spec
abbrev Itm : Type := Bx × (Int ⊕ Fs)
abbrev PF : Type := Fs × Fs
def kidOf (g : Itm) : Fs :=
  match g.2 with
  | .inl _ => ⟨0, mkLf []⟩
  | .inr t => t
def numOf (g : Itm) : Int :=
  match g.2 with
  | .inl n => n
  | .inr _ => 0
def isNum (g : Itm) : Bool :=
  match g.2 with
  | .inl _ => true
  | .inr _ => false
def hitsP (it : Itm) (t : Fs) : List Itm := (fitems t).filter fun g => meetB it.1 g.1
def nextI (t : Fs) (it : Itm) : List PF :=
  match it.2 with
  | .inl _ => []
  | .inr s => if t.1 = 0 then (if hitsP it t = [] then [] else [(s, t)]) else (hitsP it t).map fun g => (s, kidOf g)
def anyP (s : Fs) (b : Bx) : Bool := (fitems s).any fun c => meetB c.1 b
def nextE (s t : Fs) : List PF := if s.1 = 0 ∧ t.1 ≠ 0 then ((fitems t).filter fun g => anyP s g.1).map fun g => (s, kidOf g) else []
def nextP (p : PF) : List PF := (fitems p.1).flatMap (nextI p.2) ++ nextE p.1 p.2
def foundI (t : Fs) (it : Itm) : List (Int × Int) :=
  match it.2 with
  | .inl n => ((hitsP it t).filter isNum).map fun g => (n, numOf g)
  | .inr _ => []
def foundP (p : PF) : List (Int × Int) := (fitems p.1).flatMap (foundI p.2)
def hP (p : PF) : Nat := p.1.1 + p.2.1
theorem item_leaf {s : Fs} {it : Itm} (h : s.1 = 0) (hi : it ∈ fitems s) : ∃ n, it.2 = .inl n := by
  obtain ⟨k, t⟩ := s
  have h : k = 0 := h
  subst h
  obtain ⟨e, _, rfl⟩ := List.mem_map.mp hi
  exact ⟨e.1, rfl⟩
theorem item_node {s : Fs} {it : Itm} (h : s.1 ≠ 0) (hi : it ∈ fitems s) : ∃ t : Fs, it.2 = .inr t ∧ t.1 + 1 = s.1 := by
  obtain ⟨k, t⟩ := s
  cases k with
  | zero => exact absurd rfl h
  | succ k =>
    obtain ⟨p, _, rfl⟩ := List.mem_map.mp hi
    exact ⟨⟨k, p.2⟩, rfl, rfl⟩
theorem kid_lt {s : Fs} {it : Itm} (h : s.1 ≠ 0) (hi : it ∈ fitems s) : (kidOf it).1 + 1 = s.1 := by
  obtain ⟨t, h1, h2⟩ := item_node h hi
  unfold kidOf
  rw [h1]
  exact h2
theorem nextI_mem {s t : Fs} {it : Itm} {q : PF} (hi : it ∈ fitems s) (h : q ∈ nextI t it) : ∃ s', it.2 = .inr s' ∧ q.1 = s' ∧ s'.1 + 1 = s.1 ∧ (q.2 = t ∨ t.1 ≠ 0 ∧ ∃ g ∈ fitems t, q.2 = kidOf g) := by
  by_cases hs : s.1 = 0
  · obtain ⟨n, e⟩ := item_leaf hs hi
    unfold nextI at h
    rw [e] at h
    cases h
  · obtain ⟨s', e, e2⟩ := item_node hs hi
    refine ⟨s', e, ?_⟩
    unfold nextI at h
    rw [e] at h
    dsimp only at h
    by_cases ht : t.1 = 0
    · rw [if_pos ht] at h
      by_cases hh : hitsP it t = []
      · rw [if_pos hh] at h
        cases h
      · rw [if_neg hh] at h
        rcases List.mem_singleton.mp h with rfl
        exact ⟨rfl, e2, .inl rfl⟩
    · rw [if_neg ht] at h
      obtain ⟨g, hg, rfl⟩ := List.mem_map.mp h
      exact ⟨rfl, e2, .inr ⟨ht, g, (List.mem_filter.mp hg).1, rfl⟩⟩
theorem nextE_mem {s t : Fs} {q : PF} (h : q ∈ nextE s t) : t.1 ≠ 0 ∧ q.1 = s ∧ ∃ g ∈ fitems t, q.2 = kidOf g := by
  unfold nextE at h
  by_cases hc : s.1 = 0 ∧ t.1 ≠ 0
  · rw [if_pos hc] at h
    obtain ⟨g, hg, rfl⟩ := List.mem_map.mp h
    exact ⟨hc.2, rfl, g, (List.mem_filter.mp hg).1, rfl⟩
  · rw [if_neg hc] at h
    cases h
theorem nextP_lt {p q : PF} (h : q ∈ nextP p) : hP q < hP p := by
  unfold hP
  rcases List.mem_append.mp h with h | h
  · obtain ⟨it, hi, h⟩ := List.mem_flatMap.mp h
    obtain ⟨s', e1, e2, e3, e4⟩ := nextI_mem hi h
    rw [e2]
    rcases e4 with e4 | ⟨h0, g, hg, e4⟩
    · rw [e4]
      omega
    · rw [e4]
      have := kid_lt h0 hg
      omega
  · obtain ⟨h0, e1, g, hg, e2⟩ := nextE_mem h
    rw [e1, e2]
    have := kid_lt h0 hg
    omega
/-- all pairs that are come to -/
def allN : Nat → PF → List PF
  | 0, p => [p]
  | n + 1, p => p :: (nextP p).flatMap (allN n)
theorem flatMap_ext {α β : Type} {f g : α → List β} : ∀ {xs : List α}, (∀ x ∈ xs, f x = g x) → xs.flatMap f = xs.flatMap g
  | [], _ => rfl
  | x :: xs, h => by
    rw [List.flatMap_cons, List.flatMap_cons, h x List.mem_cons_self, flatMap_ext fun y hy => h y (List.mem_cons_of_mem _ hy)]
theorem next_nil {p : PF} (h : hP p = 0) : nextP p = [] := by
  cases e : nextP p with
  | nil => rfl
  | cons q r =>
    have := nextP_lt (p := p) (q := q) (by rw [e]; exact List.mem_cons_self)
    omega
theorem allN_eq : ∀ (n m : Nat) (p : PF), hP p ≤ n → hP p ≤ m → allN n p = allN m p
  | 0, 0, p, _, _ => rfl
  | 0, m + 1, p, h, _ => by
    show [p] = p :: (nextP p).flatMap (allN m)
    rw [next_nil (by omega)]
    rfl
  | n + 1, 0, p, _, h => by
    show p :: (nextP p).flatMap (allN n) = [p]
    rw [next_nil (by omega)]
    rfl
  | n + 1, m + 1, p, h1, h2 => by
    show p :: (nextP p).flatMap (allN n) = p :: (nextP p).flatMap (allN m)
    rw [flatMap_ext fun q hq => allN_eq n m q (by have := nextP_lt hq; omega) (by have := nextP_lt hq; omega)]
def allP (p : PF) : List PF := allN (hP p) p
theorem allP_eq (p : PF) : allP p = p :: (nextP p).flatMap allP := by
  have h : allP p = allN (hP p + 1) p := allN_eq _ _ p (Nat.le_refl _) (Nat.le_succ _)
  rw [h]
  show p :: (nextP p).flatMap (allN (hP p)) = _
  rw [flatMap_ext fun q hq => allN_eq (hP p) (hP q) q (Nat.le_of_lt (nextP_lt hq)) (Nat.le_refl _)]
  rfl
/-! sizes -/
def SmP (p : PF) : Prop := Sm p.1.1 p.1.2 ∧ Sm p.2.1 p.2.2
theorem items_len {s : Fs} (h : Sm s.1 s.2) : (fitems s).length ≤ 4 := by
  obtain ⟨k, t⟩ := s
  cases k with
  | zero =>
    have h : (foL t).length ≤ 4 := h
    show ((foL t).map _).length ≤ 4
    rw [List.length_map]
    exact h
  | succ k =>
    have h : (foB t).length ≤ 4 := h.1
    show ((foB t).map _).length ≤ 4
    rw [List.length_map]
    exact h
theorem kid_sm {s : Fs} {g : Itm} (h : Sm s.1 s.2) (h0 : s.1 ≠ 0) (hg : g ∈ fitems s) : Sm (kidOf g).1 (kidOf g).2 := by
  obtain ⟨k, t⟩ := s
  cases k with
  | zero => exact absurd rfl h0
  | succ k =>
    obtain ⟨p, hp, rfl⟩ := List.mem_map.mp hg
    exact h.2 p hp
theorem kid_inr {g : Itm} {s : Fs} (h : g.2 = .inr s) : kidOf g = s := by
  unfold kidOf
  rw [h]
theorem next_sm {p q : PF} (h : SmP p) (hq : q ∈ nextP p) : SmP q := by
  rcases List.mem_append.mp hq with hq | hq
  · obtain ⟨it, hi, hq⟩ := List.mem_flatMap.mp hq
    obtain ⟨s', e1, e2, e3, e4⟩ := nextI_mem hi hq
    have k1 := kid_sm h.1 (by omega) hi
    rw [kid_inr e1] at k1
    refine ⟨by rw [e2]; exact k1, ?_⟩
    rcases e4 with e4 | ⟨h0, g, hg, e4⟩
    · rw [e4]
      exact h.2
    · rw [e4]
      exact kid_sm h.2 h0 hg
  · obtain ⟨h0, e1, g, hg, e2⟩ := nextE_mem hq
    exact ⟨by rw [e1]; exact h.1, by rw [e2]; exact kid_sm h.2 h0 hg⟩
theorem hits_len {it : Itm} {t : Fs} (h : Sm t.1 t.2) : (hitsP it t).length ≤ 4 := Nat.le_trans (List.length_filter_le _ _) (items_len h)
theorem nextI_len {it : Itm} {t : Fs} (h : Sm t.1 t.2) : (nextI t it).length ≤ 4 := by
  unfold nextI
  split
  · exact Nat.zero_le _
  · split
    · split
      · exact Nat.zero_le _
      · exact Nat.le_of_ble_eq_true rfl
    · rw [List.length_map]
      exact hits_len h
theorem next_len {p : PF} (h : SmP p) : (nextP p).length ≤ 16 := by
  unfold nextP nextE
  have h1 := flat_len (nextI p.2) 4 (fitems p.1) fun it _ => nextI_len h.2
  have h2 := items_len h.1
  have h3 := items_len h.2
  rw [List.length_append]
  by_cases hc : p.1.1 = 0 ∧ p.2.1 ≠ 0
  · rw [if_pos hc, List.length_map]
    have h4 : (fitems p.1).flatMap (nextI p.2) = [] := by
      refine List.flatMap_eq_nil_iff.mpr fun it hi => ?_
      obtain ⟨n, e⟩ := item_leaf hc.1 hi
      unfold nextI
      rw [e]
    rw [h4]
    exact Nat.le_trans (Nat.le_of_eq (Nat.zero_add _)) (Nat.le_trans (List.length_filter_le _ _) (by omega))
  · rw [if_neg hc]
    show _ + 0 ≤ 16
    omega
theorem allN_len : ∀ (n : Nat) (p : PF), SmP p → (allN n p).length ≤ 17 ^ n
  | 0, p, _ => Nat.le_refl _
  | n + 1, p, h => by
    show (p :: (nextP p).flatMap (allN n)).length ≤ 17 ^ (n + 1)
    have h1 := flat_len (allN n) (17 ^ n) (nextP p) fun q hq => allN_len n q (next_sm h hq)
    have h2 := next_len h
    have h3 : (nextP p).length * 17 ^ n ≤ 16 * 17 ^ n := Nat.mul_le_mul_right _ h2
    have h4 : 1 ≤ 17 ^ n := Nat.pow_pos (by decide)
    rw [List.length_cons, Nat.pow_succ]
    omega
theorem allP_len {p : PF} (h : SmP p) (h4 : hP p ≤ 4) : (allP p).length ≤ 83521 := by
  have h1 := allN_len 4 p h
  rw [allN_eq 4 (hP p) p h4 (Nat.le_refl _)] at h1
  exact h1
theorem flat_geP : ∀ (xs : List PF), xs.length ≤ (xs.flatMap allP).length
  | [] => Nat.le_refl _
  | x :: xs => by
    have := flat_geP xs
    rw [List.flatMap_cons, List.length_append, List.length_cons, allP_eq, List.length_cons]
    omega
/-! what is found -/
def due2 (es gs : List En) : List (Int × Int) := es.flatMap fun e => (gs.filter fun g => meetB e.2 g.2).map fun g => (e.1, g.1)
def dueP (p : PF) : List (Int × Int) := due2 (fsE p.1) (fsE p.2)
def itE (it : Itm) : List En :=
  match it.2 with
  | .inl n => [(n, it.1)]
  | .inr s => fsE s
theorem fsE_it (s : Fs) : fsE s = (fitems s).flatMap itE := by
  obtain ⟨k, t⟩ := s
  cases k with
  | zero =>
    show foL t = ((foL t).map _).flatMap itE
    rw [List.flatMap_map]
    have : ∀ l : List En, l = l.flatMap fun e => itE (e.2, .inl e.1) := fun l => by
      induction l with
      | nil => rfl
      | cons e r ih =>
        rw [List.flatMap_cons, ← ih]
        rfl
    exact this _
  | succ k =>
    show ((foB t).flatMap fun p => ents k p.2) = ((foB t).map _).flatMap itE
    rw [List.flatMap_map]
    rfl
theorem meet_sym (b c : Bx) : meetB b c = meetB c b := by
  unfold meetB
  rw [Bool.eq_iff_iff]
  simp only [Bool.and_eq_true, decide_eq_true_eq]
  constructor <;> (intro h; omega)
theorem meet_held {c b w : Bx} (h : holdsB c b) (hm : meetB b w = true) : meetB c w = true := by
  rw [meet_apart] at hm ⊢
  exact decide_eq_true (apart_held h (of_decide_eq_true hm))
theorem holds_self (b : Bx) : holdsB b b := ⟨Int.le_refl _, Int.le_refl _, Int.le_refl _, Int.le_refl _⟩
theorem item_holds {s : Fs} {it : Itm} (h : Right s.1 s.2) (hi : it ∈ fitems s) : ∀ e ∈ itE it, holdsB it.1 e.2 := by
  obtain ⟨k, t⟩ := s
  cases k with
  | zero =>
    obtain ⟨e, _, rfl⟩ := List.mem_map.mp hi
    intro e' he'
    rcases List.mem_singleton.mp he' with rfl
    exact holds_self _
  | succ k =>
    obtain ⟨p, hp, rfl⟩ := List.mem_map.mp hi
    intro e he
    have := (h p hp).1
    show holdsB p.1 e.2
    rw [this]
    exact joint_holds (List.mem_map.mpr ⟨e, he, rfl⟩)
theorem kid_right {s : Fs} {g : Itm} (h : Right s.1 s.2) (h0 : s.1 ≠ 0) (hg : g ∈ fitems s) : Right (kidOf g).1 (kidOf g).2 := by
  obtain ⟨k, t⟩ := s
  cases k with
  | zero => exact absurd rfl h0
  | succ k =>
    obtain ⟨p, hp, rfl⟩ := List.mem_map.mp hg
    exact (h p hp).2.2.2
def RtP (p : PF) : Prop := Right p.1.1 p.1.2 ∧ Right p.2.1 p.2.2
theorem next_rt {p q : PF} (h : RtP p) (hq : q ∈ nextP p) : RtP q := by
  rcases List.mem_append.mp hq with hq | hq
  · obtain ⟨it, hi, hq⟩ := List.mem_flatMap.mp hq
    obtain ⟨s', e1, e2, e3, e4⟩ := nextI_mem hi hq
    have k1 := kid_right h.1 (by omega) hi
    rw [kid_inr e1] at k1
    refine ⟨by rw [e2]; exact k1, ?_⟩
    rcases e4 with e4 | ⟨h0, g, hg, e4⟩
    · rw [e4]
      exact h.2
    · rw [e4]
      exact kid_right h.2 h0 hg
  · obtain ⟨h0, e1, g, hg, e2⟩ := nextE_mem hq
    exact ⟨by rw [e1]; exact h.1, by rw [e2]; exact kid_right h.2 h0 hg⟩
theorem due_none {es gs : List En} (h : ∀ e ∈ es, ∀ g ∈ gs, meetB e.2 g.2 = false) : due2 es gs = [] := by
  refine List.flatMap_eq_nil_iff.mpr fun e he => ?_
  rw [List.filter_eq_nil_iff.mpr fun g hg z => by rw [h e he g hg] at z; cases z]
  rfl
theorem due_flatL {α : Type} (f : α → List En) (gs : List En) (xs : List α) : due2 (xs.flatMap f) gs = xs.flatMap fun x => due2 (f x) gs := by
  unfold due2
  rw [List.flatMap_assoc]
theorem due_app (es as bs : List En) : (due2 es (as ++ bs)).Perm (due2 es as ++ due2 es bs) := by
  induction es with
  | nil => exact List.Perm.refl _
  | cons e r ih =>
    show (((as ++ bs).filter fun g => meetB e.2 g.2).map (fun g => (e.1, g.1)) ++ due2 r (as ++ bs)).Perm (((as.filter fun g => meetB e.2 g.2).map (fun g => (e.1, g.1)) ++ due2 r as) ++ ((bs.filter fun g => meetB e.2 g.2).map (fun g => (e.1, g.1)) ++ due2 r bs))
    rw [List.filter_append, List.map_append, List.append_assoc, List.append_assoc]
    refine List.Perm.append_left _ ?_
    refine (List.Perm.append_left _ ih).trans ?_
    rw [← List.append_assoc, ← List.append_assoc]
    exact List.Perm.append_right _ List.perm_append_comm
theorem due_nilR (es : List En) : due2 es [] = [] := due_none fun _ _ g hg => by cases hg
theorem due_flatR {α : Type} (f : α → List En) (es : List En) : ∀ xs : List α, (due2 es (xs.flatMap f)).Perm (xs.flatMap fun x => due2 es (f x))
  | [] => by
    show (due2 es []).Perm []
    rw [due_nilR]
  | x :: xs => by
    rw [List.flatMap_cons, List.flatMap_cons]
    exact (due_app es _ _).trans (List.Perm.append_left _ (due_flatR f es xs))
theorem flat_filter {α β : Type} (c : α → Bool) (f : α → List β) : ∀ xs : List α, (∀ x ∈ xs, c x = false → f x = []) → xs.flatMap f = (xs.filter c).flatMap f
  | [], _ => rfl
  | x :: xs, h => by
    have ih := flat_filter c f xs fun y hy => h y (List.mem_cons_of_mem _ hy)
    rw [List.flatMap_cons, List.filter_cons, ih]
    cases hc : c x with
    | true => rw [if_pos rfl, List.flatMap_cons]
    | false => rw [h x List.mem_cons_self hc, if_neg (by decide)]; rfl
theorem flat_perm {α β : Type} {f g : α → List β} : ∀ {xs : List α}, (∀ x ∈ xs, (f x).Perm (g x)) → (xs.flatMap f).Perm (xs.flatMap g)
  | [], _ => List.Perm.refl _
  | x :: xs, h => by
    rw [List.flatMap_cons, List.flatMap_cons]
    exact (h x List.mem_cons_self).append (flat_perm fun y hy => h y (List.mem_cons_of_mem _ hy))
theorem flat_two {α β : Type} (f g : α → List β) : ∀ xs : List α, (xs.flatMap fun x => f x ++ g x).Perm (xs.flatMap f ++ xs.flatMap g)
  | [] => List.Perm.refl _
  | x :: xs => by
    rw [List.flatMap_cons, List.flatMap_cons, List.flatMap_cons, List.append_assoc, List.append_assoc]
    refine List.Perm.append_left _ ?_
    refine (List.Perm.append_left _ (flat_two f g xs)).trans ?_
    rw [← List.append_assoc, ← List.append_assoc]
    exact List.Perm.append_right _ List.perm_append_comm
/-- one item against a form -/
theorem due_item {s t : Fs} {it : Itm} (hs : Right s.1 s.2) (ht : Right t.1 t.2) (hi : it ∈ fitems s) : (due2 (itE it) (fsE t)).Perm ((hitsP it t).flatMap fun g => due2 (itE it) (itE g)) := by
  rw [fsE_it t]
  refine (due_flatR itE (itE it) (fitems t)).trans ?_
  rw [flat_filter (fun g => meetB it.1 g.1) (fun g => due2 (itE it) (itE g)) (fitems t) fun g hg hc => ?_]
  · exact List.Perm.refl _
  · refine due_none fun e he g' hg' => ?_
    cases hm : meetB e.2 g'.2 with
    | false => rfl
    | true =>
      have h1 := meet_held (item_holds hs hi e he) hm
      rw [meet_sym] at h1
      have h2 := meet_held (item_holds ht hg g' hg') h1
      rw [meet_sym, hc] at h2
      cases h2
theorem due_split {p : PF} (h : RtP p) : (dueP p).Perm (foundP p ++ (nextP p).flatMap dueP) := by
  obtain ⟨s, t⟩ := p
  obtain ⟨hs, ht⟩ := h
  have hs : Right s.1 s.2 := hs
  have ht : Right t.1 t.2 := ht
  have e0 : dueP (s, t) = (fitems s).flatMap fun it => due2 (itE it) (fsE t) := by
    show due2 (fsE s) (fsE t) = _
    rw [fsE_it s, due_flatL]
  by_cases h1 : s.1 = 0
  · by_cases h2 : t.1 = 0
    · -- two leaves
      have hn : nextP (s, t) = [] := next_nil (by show s.1 + t.1 = 0; omega)
      rw [hn, e0]
      show List.Perm _ ((fitems s).flatMap (foundI t) ++ [])
      rw [List.append_nil]
      refine flat_perm fun it hi => (due_item hs ht hi).trans ?_
      obtain ⟨n, hn⟩ := item_leaf h1 hi
      have ef : foundI t it = ((hitsP it t).filter isNum).map fun g => (n, numOf g) := by
        unfold foundI
        rw [hn]
      have e1 : itE it = [(n, it.1)] := by
        unfold itE
        rw [hn]
      have key : ∀ l : List Itm, (∀ g ∈ l, meetB it.1 g.1 = true ∧ ∃ m, g.2 = .inl m) → (l.flatMap fun g => due2 (itE it) (itE g)) = (l.filter isNum).map fun g => (n, numOf g) := by
        intro l
        induction l with
        | nil => intro _; rfl
        | cons g r ih =>
          intro hl
          obtain ⟨hm, m, hgm⟩ := hl g List.mem_cons_self
          have a1 : isNum g = true := by
            unfold isNum
            rw [hgm]
          have a2 : numOf g = m := by
            unfold numOf
            rw [hgm]
          have a3 : itE g = [(m, g.1)] := by
            unfold itE
            rw [hgm]
          rw [List.flatMap_cons, ih fun y hy => hl y (List.mem_cons_of_mem _ hy), List.filter_cons, if_pos a1, List.map_cons, a2, e1, a3]
          unfold due2
          simp [hm]
      rw [ef, key (hitsP it t) fun g hg => ⟨(List.mem_filter.mp hg).2, item_leaf h2 (List.mem_filter.mp hg).1⟩]
    · -- a leaf and a node
      have hf : foundP (s, t) = [] := by
        refine List.flatMap_eq_nil_iff.mpr fun it hi => ?_
        obtain ⟨n, hn⟩ := item_leaf h1 hi
        unfold foundI
        rw [hn]
        show List.map _ _ = []
        rw [List.filter_eq_nil_iff.mpr fun g hg z => ?_]
        · rfl
        · obtain ⟨t', e, _⟩ := item_node h2 (List.mem_filter.mp hg).1
          unfold isNum at z
          rw [e] at z
          cases z
      have hI : (fitems s).flatMap (nextI t) = [] := by
        refine List.flatMap_eq_nil_iff.mpr fun it hi => ?_
        obtain ⟨n, hn⟩ := item_leaf h1 hi
        unfold nextI
        rw [hn]
      rw [hf]
      show (dueP (s, t)).Perm (((fitems s).flatMap (nextI t) ++ nextE s t).flatMap dueP)
      rw [hI]
      unfold nextE
      rw [if_pos ⟨h1, h2⟩]
      show (due2 (fsE s) (fsE t)).Perm (List.flatMap dueP ([] ++ _))
      rw [List.nil_append, List.flatMap_map]
      conv => lhs; rw [fsE_it t]
      refine (due_flatR itE (fsE s) (fitems t)).trans ?_
      rw [flat_filter (fun g => anyP s g.1) (fun g => due2 (fsE s) (itE g)) (fitems t) fun g hg hc => ?_]
      · refine List.Perm.of_eq (flatMap_ext fun g hg => ?_)
        obtain ⟨t', e, _⟩ := item_node h2 (List.mem_filter.mp hg).1
        show due2 (fsE s) (itE g) = due2 (fsE s) (fsE (kidOf g))
        rw [kid_inr e]
        unfold itE
        rw [e]
      · refine due_none fun e he g' hg' => ?_
        cases hm : meetB e.2 g'.2 with
        | false => rfl
        | true =>
          rw [meet_sym] at hm
          have h3 := meet_held (item_holds ht hg g' hg') hm
          rw [fsE_it s] at he
          obtain ⟨it, hi, he⟩ := List.mem_flatMap.mp he
          rw [meet_sym] at h3
          have h4 := meet_held (item_holds hs hi e he) h3
          have : anyP s g.1 = true := List.any_eq_true.mpr ⟨it, hi, h4⟩
          rw [hc] at this
          cases this
  · have hf : foundP (s, t) = [] := by
      refine List.flatMap_eq_nil_iff.mpr fun it hi => ?_
      obtain ⟨s', hn, _⟩ := item_node h1 hi
      unfold foundI
      rw [hn]
    have hE : nextE s t = [] := if_neg fun z => h1 z.1
    rw [hf, e0]
    show List.Perm _ (((fitems s).flatMap (nextI t) ++ nextE s t).flatMap dueP)
    rw [hE, List.append_nil, List.flatMap_assoc]
    refine flat_perm fun it hi => ?_
    obtain ⟨s', hn, _⟩ := item_node h1 hi
    have e1 : itE it = fsE s' := by
      unfold itE
      rw [hn]
    have e2 : nextI t it = if t.1 = 0 then (if hitsP it t = [] then [] else [(s', t)]) else (hitsP it t).map fun g => (s', kidOf g) := by
      unfold nextI
      rw [hn]
    rw [e2]
    by_cases h2 : t.1 = 0
    · rw [if_pos h2]
      by_cases h3 : hitsP it t = []
      · rw [if_pos h3]
        have := due_item hs ht hi
        rw [h3] at this
        exact this
      · rw [if_neg h3, List.flatMap_cons, List.flatMap_nil, List.append_nil, e1]
        exact List.Perm.refl _
    · rw [if_neg h2, List.flatMap_map]
      refine (due_item hs ht hi).trans ?_
      refine List.Perm.of_eq (flatMap_ext fun g hg => ?_)
      obtain ⟨t', e, _⟩ := item_node h2 (List.mem_filter.mp hg).1
      show due2 (itE it) (itE g) = due2 (fsE s') (fsE (kidOf g))
      rw [e1, kid_inr e]
      congr 1
      unfold itE
      rw [e]
theorem due_all : ∀ (n : Nat) (p : PF), hP p ≤ n → RtP p → ((allP p).flatMap foundP).Perm (dueP p)
  | n, p, hn, h => by
    rw [allP_eq, List.flatMap_cons]
    refine List.Perm.trans ?_ (due_split h).symm
    refine List.Perm.append_left _ ?_
    rw [List.flatMap_assoc]
    refine flat_perm fun q hq => ?_
    have hl := nextP_lt hq
    match n, hn with
    | 0, hn => exact absurd hl (by omega)
    | n + 1, hn => exact due_all n q (by omega) (next_rt h hq)
theorem all_due {p : PF} (h : RtP p) : ((allP p).flatMap foundP).Perm (dueP p) := due_all (hP p) p (Nat.le_refl _) h
/-- how many boxes are compared -/
def lookP (p : PF) : Int := ((fitems p.1).length : Int) * ((fitems p.2).length : Int)
def sumL : List PF → Int
  | [] => 0
  | p :: r => lookP p + sumL r
theorem sumL_app : ∀ (xs ys : List PF), sumL (xs ++ ys) = sumL xs + sumL ys
  | [], ys => by simp [sumL]
  | x :: xs, ys => by
    rw [List.cons_append, sumL, sumL, sumL_app xs ys]
    omega
def totP (p : PF) : Int := sumL (allP p)
/-- one pair is done -/
theorem sum_step (r : List PF) (p : PF) : sumL ((r ++ [p]).flatMap allP) = lookP p + sumL ((r ++ nextP p).flatMap allP) := by
  rw [List.flatMap_append, List.flatMap_append, sumL_app, sumL_app, List.flatMap_cons, List.flatMap_nil, List.append_nil, allP_eq]
  show _ + (lookP p + _) = _
  omega
theorem found_step (r : List PF) (p : PF) : (((r ++ [p]).flatMap allP).flatMap foundP).Perm (foundP p ++ ((r ++ nextP p).flatMap allP).flatMap foundP) := by
  rw [List.flatMap_append, List.flatMap_append, List.flatMap_append, List.flatMap_append, List.flatMap_cons, List.flatMap_nil, List.append_nil, allP_eq, List.flatMap_cons, ← List.append_assoc, ← List.append_assoc]
  exact List.Perm.append_right _ List.perm_append_comm
theorem len_step (r : List PF) (p : PF) : ((r ++ [p]).flatMap allP).length = ((r ++ nextP p).flatMap allP).length + 1 := by
  rw [List.flatMap_append, List.flatMap_append, List.length_append, List.length_append, List.flatMap_cons, List.flatMap_nil, List.append_nil, allP_eq, List.length_cons]
  omega
theorem due2_len (es gs : List En) : (due2 es gs).length ≤ es.length * gs.length := by
  unfold due2
  refine flat_len _ gs.length es fun e _ => ?_
  rw [List.length_map]
  exact List.length_filter_le _ _
theorem due2_one (e : En) (l : List En) : due2 [e] l = (l.filter fun g => meetB e.2 g.2).map fun g => (e.1, g.1) := by
  unfold due2
  rw [List.flatMap_cons, List.flatMap_nil, List.append_nil]
/-- the other way round -/
theorem due2_turn : ∀ (es gs : List En), ((due2 gs es).map fun p => (p.2, p.1)).Perm (due2 es gs)
  | [], gs => by
    rw [due_nilR]
    exact List.Perm.refl _
  | e :: es, gs => by
    have h1 := due_app gs [e] es
    have ih := due2_turn es gs
    refine (h1.map _).trans ?_
    rw [List.map_append]
    have e2 : due2 (e :: es) gs = due2 [e] gs ++ due2 es gs := by
      have : e :: es = [e] ++ es := rfl
      rw [this]
      unfold due2
      rw [List.flatMap_append]
    rw [e2]
    refine List.Perm.append ?_ ih
    have : ∀ l : List En, (due2 l [e]).map (fun p => (p.2, p.1)) = due2 [e] l := by
      intro l
      induction l with
      | nil => rfl
      | cons g r ih =>
        have a1 : due2 (g :: r) [e] = due2 [g] [e] ++ due2 r [e] := by
          have : g :: r = [g] ++ r := rfl
          rw [this]
          unfold due2
          rw [List.flatMap_append]
        have a2 : due2 [e] (g :: r) = due2 [e] [g] ++ due2 [e] r := by
          have : g :: r = [g] ++ r := rfl
          rw [due2_one, due2_one, due2_one, this, List.filter_append, List.map_append]
        rw [a1, a2, List.map_append, ih]
        congr 1
        unfold due2
        have : meetB g.2 e.2 = meetB e.2 g.2 := meet_sym _ _
        cases hm : meetB e.2 g.2 with
        | true => simp [this, hm]
        | false => simp [this, hm]
    rw [this]
theorem due2_perm {es es' gs gs' : List En} (h : es.Perm es') (k : gs.Perm gs') : (due2 es gs).Perm (due2 es' gs') := by
  refine (List.Perm.flatMap_right _ h).trans ?_
  exact flat_perm fun e _ => (k.filter _).map _
end Wb

/-! objects: a class held by a local name; a def as FnR; equal values with dicts; data beside an object that changes -/
namespace Wb
open PySem PySem.Spec PyProof.Rows L2
open Evl (Ex Ex.refl Ex.trans Ex.new)
section
variable {X : Cx} {CX : CXT} {k i : Nat} {f C : Addr} {fd : FuncData} {ps : List Str} {sp : Sp} {E : XK} {x : Str} {p pos : Pos} {e : Expr} {es : List Expr} {t : TA}
def tMakeV (i : Nat) (C : Addr) (sp : Sp) (E : XK) (t : TA) : TE := fun σ H Q => σ[i]? = some (some (.ref C)) ∧ tMake C sp [] E t σ H Q
theorem pe_makeV (M : Mk X.K C f) (F : FnOk X.prog X.w X.K X.mg X.base CX k f fd ps sp) (hr : Room (k + 1) X.A) (he : PE X (.Name x p) (tVar i)) (hb : Binds X.K fd ps []) (hx : Passes CX X E)
    (ha : PA X (e :: es) t) (hst : starEach (e :: es) X.env = (false, eval e X.env) :: starEach es X.env := by rfl) (hpl : (backTo pos (starEach es X.env)).any (·.1) = false := by rfl) :
    PE X (.Call (.Name x p) (e :: es) [] pos) (tMakeV i C sp E t) := by
  refine ⟨fun pins s σ H Q I h => ?_⟩
  obtain ⟨h0, h⟩ := h
  refine wpAny_Call_Name_kw (thn (he.run pins s σ H (fun v H1 => v = .ref C ∧ tMake C sp [] E t σ H1 Q) I ⟨.ref C, h0, rfl, h⟩) fun u s0 ⟨v, H0, I0, r0, ev, h1⟩ => ?_)
  subst ev
  obtain rfl : u = Value.ref C := r0
  refine PySem.W.callWith_K (h₀ := X.base) I0.ok.mod.kin M.kp (thn (ha.run pos pins s0 σ H0 _ I0 h1) fun us s1 ⟨vs, H1, I1, r, q⟩ => ⟨I1.kIn, ?_⟩) hst hpl
  exact run_make M F hr hb .nil hx I1 r q
theorem fnR_of {P : Program} {w : World} {K : PySem.W.Frag} {mg : Str → Option Value} {base : Heap} (F : FnOk P w K mg base CX k f fd ps sp) (b : Binds K fd ps []) : FnR P w K mg base CX k f sp := by
  intro A outer s H us vs Q E hr e0 r hs
  have hkin : K.In s.heap := fun a o h => (e0.bs a o (e0.mod.kin a o h)).1
  have hl : (us ++ []).length = ps.length := by
    rw [List.append_nil, ← F.len _ _ _ _ hs]
    exact r.length.symm
  have := F.run A outer s H ⟨us, []⟩ us vs Q E hr e0 (by have := b s us hkin hl; rw [List.append_nil] at this; exact this) r hs
  exact this
end
/-! data beside an object that changes -/
section
variable {K : PySem.W.Frag} {H : Hp} {D : Addr} {o o' : HO}
theorem sqt_updO {a : Addr} {zs : List V} (hD : H D = some o) (h1 : ∀ z, HO.tup z ≠ o) (h2 : ∀ q z, HO.frz q z ≠ o) (h : SqT K H a zs) : SqT K (upd H D o') a zs := by
  rcases h with (h | ⟨q, h⟩) | h
  · exact .inl (.inl (by rw [upd_ne (ne_of h hD (h1 _))]; exact h))
  · exact .inl (.inr ⟨q, by rw [upd_ne (ne_of h hD (h2 _ _))]; exact h⟩)
  · exact .inr h
mutual
theorem dpUpdO (hD : H D = some o) (h1 : ∀ z, HO.tup z ≠ o) (h2 : ∀ q z, HO.frz q z ≠ o) : ∀ {d : PyData} {v : V}, noL d = true → Dp K H v d → Dp K (upd H D o') v d
  | .none, _, _, h => by cases h; exact .non
  | .bool _, _, _, h => by cases h; exact .bl _
  | .int _, _, _, h => by cases h; exact .int _
  | .str _, _, _, h => by cases h; exact .str _
  | .list ds, _, n, h => by cases n
  | .tuple ds, _, n, h => by
    cases h with
    | tup hs ha => exact .tup (sqt_updO hD h1 h2 hs) (dpUpdAO hD h1 h2 n ha)
  | .dict _, _, _, h => by cases h
theorem dpUpdAO (hD : H D = some o) (h1 : ∀ z, HO.tup z ≠ o) (h2 : ∀ q z, HO.frz q z ≠ o) : ∀ {ds : List PyData} {vs : List V}, noLs ds = true → DpAll K H vs ds → DpAll K (upd H D o') vs ds
  | [], _, _, h => by cases h; exact .nil
  | d :: ds, _, n, h => by
    cases h with
    | cons h3 h4 =>
      have n2 := Bool.and_eq_true_iff.mp (show (noL d && noLs ds) = true from n)
      exact .cons (dpUpdO hD h1 h2 n2.1 h3) (dpUpdAO hD h1 h2 n2.2 h4)
end
end
/-! equal values with empty dicts -/
def DDic0 : Eqv := fun x y H => ∃ a b, x = .ref a ∧ y = .ref b ∧ H a = some (.dK []) ∧ H b = some (.dK [])
theorem mon_dic0 : Mon DDic0 := fun x y H H' e ⟨a, b, h1, h2, h3, h4⟩ => ⟨a, b, h1, h2, e _ _ h3, e _ _ h4⟩
theorem rcG_dic0 {X : Cx} : RcG X 0 DDic0 := by
  intro A pins s σ H x y u v sb I rx ry d
  obtain ⟨a, b, rfl, rfl, ea, eb⟩ := d
  obtain rfl : u = Value.ref a := rx
  obtain rfl : v = Value.ref b := ry
  obtain ⟨_, ya, va, ra, da⟩ := (show ObjOk X.prog X.w H s.heap a (.dK []) from I.hok a _ ea)
  obtain ⟨_, yb, vb, rb, db⟩ := (show ObjOk X.prog X.w H s.heap b (.dK []) from I.hok b _ eb)
  have hl : va.length = vb.length := ra.length.symm.trans rb.length
  have h0 : va.length = 0 := ra.length.symm
  refine PySem.W.keq_eq (knd := mixKind X.prog X.w) (r := true) ya yb da db sb.room.units0 (fun _ => hits_all (ks := []) rb ra fun p hp => (by cases hp)) ?_
  refine ⟨by simp [hl], H, I, fun _ _ h => h⟩
theorem eqG_dic0 {X : Cx} : EqG X 0 DDic0 := rcG_dic0.eqG fun _ _ _ d => let ⟨a, b, hx, hy, _⟩ := d; ⟨a, b, hx, hy⟩
/-! isinstance(x, Kept): a slotted instance, or data -/
def rIsiK0 (K : PySem.W.Frag) (CK : Addr) : List V → Hp → VK → Prop := fun xs H Q => ∃ v, xs = [v, .ref CK] ∧ ((∃ a dx vs, v = .ref a ∧ SlAt H a CK dx vs ∧ Q (.bl true) H) ∨ (∃ ds, Dp K H v (.tuple ds) ∧ Q (.bl false) H))
theorem call_isiKept {X : Cx} {CK : Addr} (ic : PySem.W.isClsIn X.K CK = true) (pg : PySem.W.plainGet X.K CK "__class__" = true) (hI : SlX.SIsi X.K CK) (k1 : PySem.W.kitOne X.K (.ref CK) (.ref CK) = some true) (k2 : PySem.W.kitOne X.K (.type "tuple") (.ref CK) = some false) : CallR X (.builtin "isinstance") (rIsiK0 X.K CK) := by
  intro pins s σ H xs us Q I r h
  obtain ⟨v, rfl, h⟩ := h
  obtain ⟨u1, u2, rfl, r1, r2⟩ := vals2 r
  obtain rfl : u2 = Value.ref CK := r2
  rcases h with ⟨a, dx, vs, rfl, hs, q⟩ | ⟨ds, hd, q⟩
  · obtain rfl : u1 = Value.ref a := r1
    obtain ⟨us, od, _, _, J⟩ := slAt_get I hs
    exact PySem.W.kia_one (OwX.kitx_slt ic pg hI.ca hI.cn hI.ct hI.cm) I.kIn J k1 (fun z => nomatch z) fun tk => ⟨.bl true, H, I.tok _, rfl, q⟩
  · obtain ⟨P, Z, p, hx⟩ := kit_of I r1 (dpTy hd)
    exact PySem.W.kia_one Z I.kIn p k2 hx fun tk => ⟨.bl false, H, I.tok tk, rfl, q⟩
def tNo : TE := fun _ _ _ => False
theorem pe_no {X : Cx} {e : Expr} : PE X e tNo := ⟨fun _ _ _ _ _ _ h => h.elim⟩
end Wb

/-! sorted of a list of pairs of ints, told as data -/
namespace Wb
open PySem PySem.Spec PyProof.Rows L2
open Evl (Ex Ex.refl Ex.trans Ex.new)
open LmK (pD)
/-- what was sorted by both ints -/
def LexS (ms : List (Int × Int)) : Prop := ms.Pairwise fun x y => SrtO.lexB y x = false
def rSortPD (K : PySem.W.Frag) : List V → Hp → VK → Prop := fun vs H Q => ∃ (v : V) (ms : List (Int × Int)), vs = [v] ∧ Dp K H v (.list (ms.map pD)) ∧
  ∀ (p : Addr) (ms' : List (Int × Int)), ms'.Perm ms → LexS ms' → H p = none → ∀ H2, Ex H H2 → Dp K H2 (.ref p) (.list (ms'.map pD)) → Q (.ref p) H2
theorem pair_uniq {h : Heap} {v : Value} {p q : Int × Int} (a : Srt.IsPair h v p.1 p.2) (b : Srt.IsPair h v q.1 q.2) : p = q := by
  obtain ⟨t, o, t1, t2, n, rfl, h1, _, h2⟩ := a
  obtain ⟨t', o', t1', t2', n', e, h1', _, h2'⟩ := b
  cases e
  rw [h1] at h1'
  cases h1'
  rw [h2] at h2'
  have e := congrArg (fun d => match d with | Data.seq xs _ => xs.toList | _ => []) h2'
  have e : [Value.int p.1 t1, Value.int p.2 t2] = [Value.int q.1 t1', Value.int q.2 t2'] := e
  simp only [List.cons.injEq, Value.int.injEq] at e
  exact Prod.ext e.1.1 e.2.1.1
theorem pair_of {X : Cx} {pins : List (Addr × Obj)} {σ : L2.St} {H : Hp} {s : Shared} (I : Inv X pins σ H s) {v : V} {u : Value} {p : Int × Int} (h : Dp X.K H v (pD p)) (r : RelV v u) : Srt.IsPair s.heap u p.1 p.2 := by
  obtain ⟨t, us, rfl, hs, ha⟩ := Wb.dpTup h
  obtain rfl : u = Value.ref t := r
  cases ha with
  | cons h1 ha =>
    cases ha with
    | cons h2 ha =>
      cases ha
      cases Wb.dpInt h1
      cases Wb.dpInt h2
      obtain ⟨its, rv, ⟨o, e, hc, n, hd⟩, _⟩ := I.tuple hs
      obtain ⟨w1, w2, rfl, ⟨t1, rfl⟩, ⟨t2, rfl⟩⟩ := vals2 rv
      exact ⟨t, o, t1, t2, n, rfl, e, hc, hd⟩
theorem dp_refs {K : PySem.W.Frag} {H : Hp} : ∀ {us : List V} {ms : List (Int × Int)}, DpAll K H us (ms.map pD) → ∀ x ∈ us, ∃ t, x = V.ref t
  | _, [], .nil, x, h => by cases h
  | _, m :: ms, .cons h t, x, hx => by
    rcases List.mem_cons.mp hx with rfl | hx
    · obtain ⟨a, _, rfl, _⟩ := Wb.dpTup h
      exact ⟨a, rfl⟩
    · exact dp_refs t x hx
theorem keys_of {X : Cx} {pins : List (Addr × Obj)} {σ : L2.St} {H : Hp} {s : Shared} (I : Inv X pins σ H s) {k : Value → Int × Int} (hk : ∀ u p, Srt.IsPair s.heap u p.1 p.2 → k u = p) : ∀ {us : List V} {its : List Value} {ms : List (Int × Int)}, Vals us its → DpAll X.K H us (ms.map pD) → its.map k = ms ∧ ∀ u ∈ its, Dp X.K H (backV u) (pD (k u)) ∧ Srt.IsPair s.heap u (k u).1 (k u).2
  | _, _, [], .nil, .nil => ⟨rfl, fun u h => by cases h⟩
  | _, _, m :: ms, .cons r rs, .cons h t => by
    obtain ⟨e1, e2⟩ := keys_of I hk rs t
    have hp := pair_of I h r
    have ek := hk _ _ hp
    refine ⟨by rw [List.map_cons, e1, ek], fun u hu => ?_⟩
    rcases List.mem_cons.mp hu with rfl | hu
    · obtain ⟨a, _, rfl, _⟩ := Wb.dpTup h
      obtain rfl : u = Value.ref a := r
      rw [ek]
      exact ⟨h, hp⟩
    · exact e2 u hu
theorem dp_back {K : PySem.W.Frag} {H : Hp} {k : Value → Int × Int} : ∀ {out : List Value}, (∀ u ∈ out, Dp K H (backV u) (pD (k u))) → DpAll K H (out.map backV) ((out.map k).map pD)
  | [], _ => .nil
  | u :: r, h => .cons (h u List.mem_cons_self) (dp_back fun x hx => h x (List.mem_cons_of_mem _ hx))
theorem cr_sortPD {X : Cx} : CallR X (.builtin "sorted") (rSortPD X.K) := by
  intro pins s σ H vs us Q I r h
  obtain ⟨v, ms, rfl, hd, q⟩ := h
  obtain ⟨a, xs, rfl, hs, ha⟩ := Wb.dpLst hd
  obtain ⟨its, rv, hl, hz⟩ := I.list hs
  obtain ⟨u, rfl, ru⟩ := vals1 r
  obtain rfl : u = Value.ref a := ru
  obtain ⟨e1, e2⟩ := refs_back rv (dp_refs ha)
  obtain ⟨k, hk⟩ : ∃ k : Value → Int × Int, ∀ u p, Srt.IsPair s.heap u p.1 p.2 → k u = p :=
    ⟨fun u => Classical.epsilon fun p : Int × Int => Srt.IsPair s.heap u p.1 p.2, fun u p h => pair_uniq (Classical.epsilon_spec (p := fun p : Int × Int => Srt.IsPair s.heap u p.1 p.2) ⟨p, h⟩) h⟩
  obtain ⟨k1, k2⟩ := keys_of I hk rv ha
  refine SrtO.sorted_pairsO (k := k) hl.isList (by rw [← rv.length]; exact hz) (fun v hv => (k2 v hv).2) fun h' d out h1 h2 kp hd' hn => ?_
  have h3 : ∀ u ∈ out, ∃ a, u = Value.ref a := fun u hu => e2 u (h2.perm.mem_iff.mp hu)
  obtain ⟨n, hn⟩ := hn
  have hlen : (out.map backV).length ≤ sizeLine := by
    rw [List.length_map, h2.perm.length_eq, ← rv.length]
    exact hz
  have fr : H d = none := I.hok.fresh hd'
  refine ⟨.ref d, upd H d (.lst (out.map backV)), I.laid (t' := s.toks) kp hd' ⟨hlen, out, n, vals_back h3, hn⟩, rfl, q d (out.map k) ?_ ?_ fr _ (Wb.ex_upd fr) (.lst (Evl.sq_of upd_same) (Wb.dpMonoA (Wb.ex_upd fr) (dp_back fun u hu => (k2 u (h2.perm.mem_iff.mp hu)).1)))⟩
  · have := h2.perm.map k
    rw [k1] at this
    exact this
  · exact List.pairwise_map.mpr h1
theorem i_sortPD {K : PySem.W.Frag} {H : Hp} {Q : VK} {v : V} {ms : List (Int × Int)} (h : Dp K H v (.list (ms.map pD))) (q : ∀ p (ms' : List (Int × Int)) H2, ms'.Perm ms → LexS ms' → H p = none → Ex H H2 → Dp K H2 (.ref p) (.list (ms'.map pD)) → Q (.ref p) H2) : rSortPD K [v] H Q := ⟨v, ms, rfl, h, fun p ms' h1 h2 h3 H2 h4 h5 => q p ms' H2 h1 h2 h3 h4 h5⟩
theorem lexS_uniq : ∀ {xs ys : List (Int × Int)}, LexS xs → LexS ys → xs.Perm ys → xs = ys
  | [], ys, _, _, h => List.Perm.nil_eq h
  | x :: xs, [], _, _, h => absurd (List.Perm.eq_nil h) (List.cons_ne_nil _ _)
  | x :: xs, y :: ys, h1, h2, h => by
    obtain ⟨a1, a2⟩ := List.pairwise_cons.mp h1
    obtain ⟨b1, b2⟩ := List.pairwise_cons.mp h2
    have hx : x ∈ y :: ys := h.mem_iff.mp List.mem_cons_self
    have hy : y ∈ x :: xs := h.mem_iff.mpr List.mem_cons_self
    have e : x = y := by
      rcases List.mem_cons.mp hx with e | hx
      · exact e
      · rcases List.mem_cons.mp hy with e | hy
        · exact e.symm
        · have c1 := SrtO.lexB_no.mp (b1 x hx)
          have c2 := SrtO.lexB_no.mp (a1 y hy)
          exact Prod.ext (by omega) (by omega)
    subst e
    rw [lexS_uniq a2 b2 h.cons_inv]
end Wb

namespace Wb
open PySem PySem.Spec PyProof.Rows L2 StX
open Evl (Ex Ex.refl Ex.trans Ex.new)
local macro_rules | `(tactic| wtm_at "dp") => `(tactic| first | with_reducible assumption | with_reducible exact Dp.int _ | with_reducible exact Dp.bl _ | with_reducible exact Dp.str _ | with_reducible exact Dp.non | ((with_reducible refine' dpMono ?dme (by with_reducible assumption)); (case dme => wtm_at "ex")) | ((with_reducible refine' Dp.tup (Evl.st_of ?dph) ?dpa); (case dph => wtm_at "hs"); (case dpa => wtm_at "dpa")) | ((with_reducible refine' Dp.lst (Evl.sq_of ?dph) ?dpa); (case dph => wtm_at "hs"); (case dpa => wtm_at "dpa")))
local macro_rules | `(tactic| wtm_at "dpa") => `(tactic| first | with_reducible exact DpAll.nil | ((with_reducible refine' DpAll.cons ?dp1 ?dp2); (case dp1 => wtm_at "dp"); (case dp2 => wtm_at "dpa")) | with_reducible assumption | ((with_reducible refine' dpMonoA ?dme (by with_reducible assumption)); (case dme => wtm_at "ex")))
local macro_rules | `(tactic| wtm_at "sz") => `(tactic| first | with_reducible assumption | ((with_reducible refine' sz_mul ?sz1 ?sz2); (case sz1 => wtm_at "sz"); (case sz2 => wtm_at "sz")) | ((with_reducible refine' sz_add ?sz1 ?sz2); (case sz1 => wtm_at "sz"); (case sz2 => wtm_at "sz")) | ((with_reducible refine' sz_sub ?sz1 ?sz2); (case sz1 => wtm_at "sz"); (case sz2 => wtm_at "sz")) | ((with_reducible refine' sz_neg ?sz1); (case sz1 => wtm_at "sz")) | ((with_reducible refine' sz_div ?sz1); (case sz1 => wtm_at "sz")) | ((with_reducible refine' sz_fdiv ?sz1); (case sz1 => wtm_at "sz")) | exact sz_lit (by decide) | wtm_at "sz2")
local macro_rules | `(tactic| wtm_at "szb") => `(tactic| first | with_reducible assumption | ((with_reducible refine' sz_mono ?szb1 ?szb2); (case szb1 => wtm_at "sz"); (case szb2 => decide)))
local macro_rules | `(tactic| wtm_at "nz") => `(tactic| first | assumption | decide | omega)
local macro_rules | `(tactic| wtm_at "shaped") => `(tactic| first | rfl | decide)
local macro_rules | `(tactic| wtm_at "sset") => `(tactic| ((dsimp only [L2.wipe, List.set, List.set_cons_zero, List.set_cons_succ]) <;> exact rfl))
local macro_rules | `(tactic| wtm_at "nrm") => `(tactic| dsimp only [L2.start, L2.wipe, List.set, List.append, List.map, List.map_cons, List.map_nil, List.length_cons, List.length_nil, Nat.reduceAdd, Nat.reduceSub, List.reduceReplicate, List.replicate, List.cons_append, List.nil_append, List.set_cons_zero, List.set_cons_succ])
local macro_rules | `(tactic| wtm_at "st") => `(tactic| first
  | ((with_reducible refine' i_var (v := ?u0) ?u1 ?uq); (case u1 => exact rfl))
  | ((with_reducible refine' i_nameN ?u0 ?uq); (case u0 => wtm_at "sset"))
  | (with_reducible refine' i_op ?uq)
  | (with_reducible refine' i_c ?uq)
  | (with_reducible refine' i_I0 ?uq)
  | ((with_reducible refine' i_ixTI (i := ?u0) ?u1 ?u2 ?u3 ?uq); (case u1 => wtm_at "dp"); (case u2 => wtm_at "ex"); (case u3 => exact rfl))
  | ((with_reducible refine' i_ixT (d := ?u0) ?u1 ?u2 ?u3 (fun xu hxu => ?uq)); (case u1 => wtm_at "dp"); (case u2 => wtm_at "ex"); (case u3 => exact rfl))
  | ((with_reducible refine' i_mul ?u0 ?u1 ?u2 ?uq); (case u0 => wtm_at "sz"); (case u1 => wtm_at "sz"); (case u2 => first | decide | omega))
  | (with_reducible refine' i_seq ?uq)
  | (with_reducible refine' i_asg ?uq)
  | (with_reducible refine' i_ret ?uq)
  | (with_reducible refine' i_ifs ?uq)
  | (with_reducible refine' i_drop ?uq)
  | (with_reducible refine' i_next ?uq)
  | (with_reducible refine' i_cons ?uq)
  | (with_reducible refine' i_nil ?uq)
  | (with_reducible refine' i_cl ?uq)
  | (with_reducible refine' i_cb ?uq)
  | (with_reducible refine' i_tup ?uq)
  | (with_reducible refine' i_lst ?uq)
  | ((with_reducible refine' i_mkT ?u0 (fun np nH nhe nhp => ?uq)); (case u0 => exact Nat.le_of_ble_eq_true rfl))
  | (with_reducible refine' i_test ?uq)
  | (with_reducible refine' i_B ?uq)
  | (with_reducible refine' i_k ?uq)
  | (with_reducible refine' i_and ?uq)
  | (with_reducible refine' i_or ?uq)
  | (with_reducible refine' i_not ?uq)
  | (with_reducible refine' i_andV ?uq)
  | (with_reducible refine' i_orV ?uq)
  | (with_reducible refine' i_notV ?uq)
  | (with_reducible refine' i_if ?uq)
  | (with_reducible refine' i_un ?uq)
  | (with_reducible refine' i_U ?uq)
  | (with_reducible refine' i_iteT ?uq)
  | (with_reducible refine' i_iteF ?uq)
  | ((with_reducible refine' i_iteTr ?u0 ?uq); (case u0 => first | with_reducible rfl | decide | (simp only [dIsInt, dIsBool, dIsTup, dIsStr, dIsLst, Bool.not_true, Bool.not_false]; done)))
  | ((with_reducible refine' i_iteFr ?u0 ?uq); (case u0 => first | with_reducible rfl | decide | (simp only [dIsInt, dIsBool, dIsTup, dIsStr, dIsLst, Bool.not_true, Bool.not_false]; done)))
  | (with_reducible refine' i_ite (fun hif => ?uqa) (fun hif => ?uqb))
  | (with_reducible refine' i_iteN (fun hif => ?uqa) (fun hif => ?uqb))
  | (with_reducible refine' i_iteBN (fun hif => ?uqa) (fun hif => ?uqb))
  | (with_reducible refine' i_iteB (fun hif => ?uqa) (fun hif => ?uqb))
  | ((with_reducible refine' i_modN ?u0 ?uq); (case u0 => wtm_at "nz"))
  | ((with_reducible refine' i_fdX ?u0 ?u1 ?u2 ?uq); (case u0 => wtm_at "nz"); (case u1 => wtm_at "sz"); (case u2 => first | decide | omega))
  | ((with_reducible refine' i_pow ?u0 ?uq); (case u0 => exact ⟨by decide, by decide +kernel⟩))
  | (with_reducible refine' i_eqI ?uq)
  | (with_reducible refine' i_neI ?uq)
  | (with_reducible refine' i_gcd ?uq)
  | (with_reducible refine' i_qabs ?uq)
  | (with_reducible refine' i_qint ?uq)
  | (with_reducible refine' i_qintB ?uq)
  | (with_reducible refine' i_qmax2 ?uq)
  | (with_reducible refine' i_qmin2 ?uq)
  | (with_reducible refine' i_isB ?uq)
  | (with_reducible refine' i_notB ?uq)
  | (with_reducible refine' i_chain ?uq)
  | (with_reducible refine' i_qisN ?uq)
  | (with_reducible refine' i_qnotN ?uq)
  | (with_reducible refine' i_yes ?uq)
  | (with_reducible refine' i_par ?uq)
  | (with_reducible refine' i_par3 ?uq)
  | ((with_reducible refine' i_par2 ?u0 ?uq); (case u0 => wtm_at "sset"))
  | ((with_reducible refine' i_par33 ?u0 ?uq); (case u0 => wtm_at "sset"))
  | ((with_reducible refine' i_ixLI (i := ?u0) ?u1 ?u2 ?u3 ?uq); (case u1 => wtm_at "dp"); (case u2 => wtm_at "ex"); (case u3 => exact rfl))
  | ((with_reducible refine' i_ixL (d := ?u0) ?u1 ?u2 ?u3 (fun xu hxu => ?uq)); (case u1 => wtm_at "dp"); (case u2 => wtm_at "ex"); (case u3 => exact rfl))
  | ((with_reducible refine' i_qlenT ?u0 ?uq); (case u0 => wtm_at "dp"))
  | ((with_reducible refine' i_qlenL ?u0 ?uq); (case u0 => wtm_at "dp"))
  | ((with_reducible refine' i_gtup ?u0 ?u1 ?u2 (fun gvs gdp => ?uq)); (case u0 => wtm_at "dp"); (case u1 => wtm_at "ex"); (case u2 => exact rfl))
  | ((with_reducible refine' i_glst ?u0 ?u1 ?u2 (fun gvs gdp => ?uq)); (case u0 => wtm_at "dp"); (case u1 => wtm_at "ex"); (case u2 => exact rfl))
  | ((with_reducible refine' i_gconsI ?u0 (fun gr gh => ?uq)); (case u0 => with_reducible assumption))
  | ((with_reducible refine' i_gconsA ?u0 (fun gv gr gh1 gh2 => ?uq)); (case u0 => with_reducible assumption))
  | ((with_reducible refine' i_gnilA ?u0 ?uq); (case u0 => with_reducible assumption))
  | ((with_reducible refine' i_isiI ?u0 ?uq); (case u0 => wtm_at "dp"))
  | ((with_reducible refine' i_isiB ?u0 ?uq); (case u0 => wtm_at "dp"))
  | ((with_reducible refine' i_isiT ?u0 ?uq); (case u0 => wtm_at "dp"))
  | ((with_reducible refine' i_isiS ?u0 ?uq); (case u0 => wtm_at "dp"))
  | ((with_reducible refine' i_isiL ?u0 ?uq); (case u0 => wtm_at "dp"))
  | ((with_reducible refine' i_eqD ?u0 ?u1 ?u2 ?u3 ?uq); (case u0 => wtm_at "dp"); (case u1 => wtm_at "dp"); (case u2 => wtm_at "shaped"); (case u3 => wtm_at "shaped"))
  | ((with_reducible refine' i_neD ?u0 ?u1 ?u2 ?u3 ?uq); (case u0 => wtm_at "dp"); (case u1 => wtm_at "dp"); (case u2 => wtm_at "shaped"); (case u3 => wtm_at "shaped"))
  | wtm_at "st2"
  | wtm_at "use")
local macro_rules | `(tactic| wtm_at "go") => `(tactic| repeat' (wtm_at "st"))
local macro_rules | `(tactic| wtm_at "go0") => `(tactic| ((try dsimp only [L2.cxOf, L2.Cx.nox, L2.Cx.wish, L2.Cx.tr, L2.Cx.blk]); (try wtm_at "nrm"); wtm_at "go"))
local macro_rules | `(tactic| wtm_at "fin") => `(tactic| ((try dsimp only); first | with_reducible assumption | assumption | ((with_reducible refine' Ret.use ?rur ?rue ?rud); (case rur => with_reducible assumption); (case rue => wtm_at "ex"); (case rud => wtm_at "dp"))))
local macro_rules | `(tactic| wtm_at "exh") => `(tactic| first | with_reducible assumption | with_reducible exact Ex.refl _ | with_reducible exact ex_hid | ((with_reducible refine' Ex.trans ?exe (by with_reducible assumption)); (case exe => wtm_at "exh")) | ((with_reducible refine' Ex.trans ?exe (hid_ex (by with_reducible assumption))); (case exe => wtm_at "exh")))
local macro_rules | `(tactic| wtm_at "ex") => `(tactic| first | with_reducible assumption | with_reducible exact Ex.refl _ | with_reducible exact ex_hid | ((with_reducible refine' Ex.trans ?exe (by with_reducible assumption)); (case exe => wtm_at "ex")) | ((with_reducible refine' Ex.trans ?exe (hid_ex (by with_reducible assumption))); (case exe => wtm_at "ex")) | ((with_reducible refine' Ex.trans ?exe ex_hid); (case exe => wtm_at "exh")))
local macro_rules | `(tactic| wtm_at "bag") => `(tactic| first | with_reducible assumption | ((with_reducible refine' Bag.mono ?bgm (by with_reducible assumption)); (case bgm => wtm_at "bag")))
local macro_rules | `(tactic| wtm_at "hs") => `(tactic| first | with_reducible assumption | ((with_reducible refine' hid_tup ?hb ?hp); (case hp => with_reducible assumption); (case hb => wtm_at "bag")) | ((with_reducible refine' hid_new ?hb ?hn ?hp); (case hp => with_reducible assumption); (case hn => with_reducible assumption); (case hb => wtm_at "bag")) | ((with_reducible refine' ex_at ?exe (by with_reducible assumption)); (case exe => wtm_at "ex")))
local macro_rules | `(tactic| wtm_at "st2") => `(tactic| first
  | ((with_reducible refine' i_mulC ?u0 ?uq); (case u0 => first | exact cmul_l (by decide) | exact cmul_r (by decide)))
  | ((with_reducible refine' i_ixLr (v := ?u0) ?u1 ?u2 ?uq); (case u1 => with_reducible assumption); (case u2 => exact rfl))
  | (with_reducible refine' i_sub ?uq)
  | ((with_reducible refine' i_mkL ?u0 (fun np nH nfr nhe nhp => ?uq)); (case u0 => exact Nat.le_of_ble_eq_true rfl))
  | ((with_reducible refine' i_setL (n := ?u0) ?u1 ?u2 (fun sH sh se => ?uq)); (case u1 => with_reducible assumption); (case u2 => exact rfl))
  | (with_reducible refine' i_sl ?uq)
  | (with_reducible refine' i_nopart ?uq)
  | (with_reducible refine' i_part ?uq)
  | (with_reducible refine' i_part1 ?uq))
local macro_rules | `(tactic| wtm_at "sz2") => `(tactic| ((with_reducible refine' sz_fmod ?sz1 ?sz2); (case sz1 => wtm_at "nz"); (case sz2 => wtm_at "sz")))
local macro_rules | `(tactic| wtm_at "stb") => `(tactic| first
  | ((with_reducible refine' i_mkTB ?u0 ?u1 (fun np nH nhe nhb nhp => ?uq)); (case u0 => exact Nat.le_of_ble_eq_true rfl); (case u1 => wtm_at "bag"))
  | ((with_reducible refine' i_mkLB ?u0 ?u1 (fun np nH nfr nhe nhb nhp => ?uq)); (case u0 => exact Nat.le_of_ble_eq_true rfl); (case u1 => wtm_at "bag"))
  | wtm_at "st")
local macro_rules | `(tactic| wtm_at "gob") => `(tactic| repeat' (wtm_at "stb"))
local macro_rules | `(tactic| wtm_at "gob0") => `(tactic| ((try dsimp only [L2.cxOf, L2.Cx.nox, L2.Cx.wish, L2.Cx.tr, L2.Cx.blk]); (try wtm_at "nrm"); wtm_at "gob"))
local macro_rules | `(tactic| wtm_at "st") => `(tactic| first | ((with_reducible refine' i_ixTS (z := ?u0) ?u1 ?u2 ?u3 ?uq); (case u1 => wtm_at "dp"); (case u2 => wtm_at "ex"); (case u3 => exact rfl)) | fail)
local macro_rules | `(tactic| wtm_at "st2") => `(tactic| first | ((with_reducible refine' i_eqST ?u0 ?uq); (case u0 => with_reducible rfl)) | ((with_reducible refine' i_eqSF ?u0 ?uq); (case u0 => decide +kernel)) | ((with_reducible refine' i_neST ?u0 ?uq); (case u0 => with_reducible rfl)) | ((with_reducible refine' i_neSF ?u0 ?uq); (case u0 => decide +kernel)) | fail)
section
variable {P : Program} {w : World} {K : PySem.W.Frag} {mg : Str → Option Value} {base : Heap} {H H' : Hp} {Q : VK} {E : XK} {v1 v2 v3 v4 v5 : V}
def sp_wider (K : PySem.W.Frag) : Sp := A2 fun v1 v2 H Q => ∃ b : Bx, Dp K H v1 (bxD b) ∧ v2 = .int 0 ∧ Ret K (bxD b) H Q
abbrev s_wider : Stmt := top 20
theorem sc_wider : FnScope ["box", "reach"] ["box", "reach"] (defScope s_wider) := ⟨rfl, rfl, rfl, by decide +kernel, rfl, by decide +kernel, by decide +kernel⟩
theorem ok_wider {f : Addr} {fd : FuncData} (F : FnP K "wider" s_wider f fd) (g : G mg)   : FnOk P w K mg base CX0 1 f fd ["box", "reach"] (sp_wider K) := by
  have nd := sc_wider.nd
  refine F.ok sc_wider (fun vs H Q E h => h.len) (fun cdv A outer s H vs Q E hr h => ?_)
  obtain ⟨v1, v2, rfl, h⟩ := h
  refine ⟨_, PSs.nox (pss_one (ps_ret (pe_tup (pa_cons (pe_op op_sub (pe_ix ix_tup (pv 0) pe_int (fun _ _ => rfl)) (pv 1)) (pa_cons (pe_op op_sub (pe_ix ix_tup (pv 0) pe_int (fun _ _ => rfl)) (pv 1)) (pa_cons (pe_op op_add (pe_ix ix_tup (pv 0) pe_int (fun _ _ => rfl)) (pv 1)) (pa_cons (pe_op op_add (pe_ix ix_tup (pv 0) pe_int (fun _ _ => rfl)) (pv 1)) pa_nil))))))), ?_⟩
  obtain ⟨⟨x0, x1, x2, x3⟩, h1, rfl, q⟩ := h
  have q2 : Ret K (.tuple [.int (x0 - 0), .int (x1 - 0), .int (x2 + 0), .int (x3 + 0)]) H Q := by
    simp only [Int.sub_zero, Int.add_zero]
    exact q
  clear q
  unfold bxD at h1
  dsimp only at h1
  wtm_at "go0"
  all_goals wtm_at "fin"
theorem use_wider {b : Bx} (h : Dp K H v1 (bxD b)) (q : ∀ v H2, Ex H H2 → Dp K H2 v (bxD b) → Q v H2) : sp_wider K [v1, .int 0] H Q E := ⟨_, _, rfl, b, h, rfl, q⟩
def sp_centre_of (K : PySem.W.Frag) : Sp := A1 fun v1 H Q => ∃ b : Bx, Dp K H v1 (bxD b) ∧ Ret K (.tuple [.int (b.1 + b.2.2.1), .int (b.2.1 + b.2.2.2)]) H Q
abbrev s_centre_of : Stmt := top 39
theorem sc_centre_of : FnScope ["box"] ["box"] (defScope s_centre_of) := ⟨rfl, rfl, rfl, by decide +kernel, rfl, by decide +kernel, by decide +kernel⟩
theorem ok_centre_of {f : Addr} {fd : FuncData} (F : FnP K "centre_of" s_centre_of f fd) (g : G mg)   : FnOk P w K mg base CX0 1 f fd ["box"] (sp_centre_of K) := by
  have nd := sc_centre_of.nd
  refine F.ok sc_centre_of (fun vs H Q E h => h.len) (fun cdv A outer s H vs Q E hr h => ?_)
  obtain ⟨v1, rfl, h⟩ := h
  refine ⟨_, PSs.nox (pss_one (ps_ret (pe_tup (pa_cons (pe_op op_add (pe_ix ix_tup (pv 0) pe_int (fun _ _ => rfl)) (pe_ix ix_tup (pv 0) pe_int (fun _ _ => rfl))) (pa_cons (pe_op op_add (pe_ix ix_tup (pv 0) pe_int (fun _ _ => rfl)) (pe_ix ix_tup (pv 0) pe_int (fun _ _ => rfl))) pa_nil))))), ?_⟩
  obtain ⟨⟨x0, x1, x2, x3⟩, h1, q⟩ := h
  unfold bxD at h1
  dsimp only at h1 q
  wtm_at "go0"
  all_goals wtm_at "fin"
theorem use_centre_of {b : Bx} (h : Dp K H v1 (bxD b)) (q : ∀ v H2, Ex H H2 → Dp K H2 v (.tuple [.int (b.1 + b.2.2.1), .int (b.2.1 + b.2.2.2)]) → Q v H2) : sp_centre_of K [v1] H Q E := ⟨_, rfl, b, h, q⟩
def grw (b c : Bx) : Int := (joint [b, c]).2.2.1 - (joint [b, c]).1 + (joint [b, c]).2.2.2 - (joint [b, c]).2.1 - (b.2.2.1 - b.1) - (b.2.2.2 - b.2.1)
def sp_grows_by (K : PySem.W.Frag) : Sp := A2 fun v1 v2 H Q => ∃ b c : Bx, Dp K H v1 (bxD b) ∧ Dp K H v2 (bxD c) ∧ ∀ H2, Ex H H2 → Q (.int (grw b c)) H2
abbrev s_grows_by : Stmt := top 41
theorem sc_grows_by : FnScope ["box", "other", "joint"] ["box", "other"] (defScope s_grows_by) := ⟨rfl, rfl, rfl, by decide +kernel, rfl, by decide +kernel, by decide +kernel⟩
theorem ok_grows_by {f : Addr} {fd : FuncData} (F : FnP K "grows_by" s_grows_by f fd) (g : G mg)  (c_joint_in : Cl P w K mg base 1 "joint_in" (sp_joint_in K)) : FnOk P w K mg base CX0 2 f fd ["box", "other"] (sp_grows_by K) := by
  have nd := sc_grows_by.nd
  refine F.ok sc_grows_by (fun vs H Q E h => h.len) (fun cdv A outer s H vs Q E hr h => ?_)
  obtain ⟨v1, v2, rfl, h⟩ := h
  refine ⟨_, PSs.nox (pss_cons (ps_set (i := 2) nd rfl (Or.inl rfl) (pc c_joint_in hr (by first | decide | omega) (by rfl) (pa_cons (pe_lst (pa_cons (pv 0) (pa_cons (pv 1) pa_nil))) pa_nil))) (pss_one (ps_ret (pe_op op_sub (pe_op op_sub (pe_op op_sub (pe_op op_add (pe_op op_sub (pe_ix ix_tup (pv 2) pe_int (fun _ _ => rfl)) (pe_ix ix_tup (pv 2) pe_int (fun _ _ => rfl))) (pe_ix ix_tup (pv 2) pe_int (fun _ _ => rfl))) (pe_ix ix_tup (pv 2) pe_int (fun _ _ => rfl))) (pe_op op_sub (pe_ix ix_tup (pv 0) pe_int (fun _ _ => rfl)) (pe_ix ix_tup (pv 0) pe_int (fun _ _ => rfl)))) (pe_op op_sub (pe_ix ix_tup (pv 0) pe_int (fun _ _ => rfl)) (pe_ix ix_tup (pv 0) pe_int (fun _ _ => rfl))))))), ?_⟩
  obtain ⟨b, c, h1, h2, q⟩ := h
  unfold grw at q
  wtm_at "go0"
  refine use_joint_in (bs := [b, c]) (.lst (Evl.sq_of (by assumption)) (.cons (by wtm_at "dp") (.cons (by wtm_at "dp") .nil))) (List.cons_ne_nil _ _) (Nat.le_of_ble_eq_true rfl) (fun v H3 e3 h3 => ?_)
  obtain ⟨x0, x1, x2, x3⟩ := b
  obtain ⟨y0, y1, y2, y3⟩ := c
  generalize joint _ = j at h3 q
  obtain ⟨z0, z1, z2, z3⟩ := j
  unfold bxD at h1 h2 h3
  dsimp only at h1 h2 h3 q
  wtm_at "go"
  exact q _ (by wtm_at "ex")
theorem use_grows_by {b c : Bx} (h : Dp K H v1 (bxD b)) (h2 : Dp K H v2 (bxD c)) (q : ∀ H2, Ex H H2 → Q (.int (grw b c)) H2) : sp_grows_by K [v1, v2] H Q E := ⟨_, _, rfl, b, c, h, h2, q⟩
/-- branch_of: a right form's branch -/
def sp_branch_of (K : PySem.W.Frag) : Sp := A1 fun v1 H Q => ∃ (n : Nat) (xs : List (Ro n)), Dp K H v1 (foD n (mkR n xs)) ∧ xs ≠ [] ∧ xs.length ≤ 8 ∧ (∀ x ∈ xs, LowR n x) ∧ Ret K (brD n (brO (mkR n xs))) H Q
abbrev s_branch_of : Stmt := top 37
theorem sc_branch_of : FnScope ["form", "one"] ["form"] (defScope s_branch_of) := ⟨rfl, rfl, rfl, by decide +kernel, rfl, by decide +kernel, by decide +kernel⟩
theorem ok_branch_of {f : Addr} {fd : FuncData} (F : FnP K "branch_of" s_branch_of f fd) (g : G mg)  (c_joint_in : Cl P w K mg base 1 "joint_in" (sp_joint_in K)) : FnOk P w K mg base CX0 2 f fd ["form"] (sp_branch_of K) := by
  have nd := sc_branch_of.nd
  refine F.ok sc_branch_of (fun vs H Q E h => h.len) (fun cdv A outer s H vs Q E hr h => ?_)
  obtain ⟨v1, rfl, h⟩ := h
  refine ⟨_, PSs.nox (pss_one (ps_ret (pe_tup (pa_cons (pc c_joint_in hr (by first | decide | omega) (by rfl) (pa_cons (pe_lc (own := [("one", 1)]) (g := gName 1) (by rfl) nd (pi_tup (pe_ix ix_tup (pv 0) pe_int (fun _ _ => rfl))) (blkOk_by (N := ["form", "one"]) (sc := defScope s_branch_of) (own := [("one", 1)]) (by decide +kernel)) (fun _ _ _ _ _ => (pg_name (i := 1) nd rfl (Or.inl rfl))) (fun _ _ _ _ _ => pts_nil) (fun _ _ _ _ _ => (pe_ifExp (pt_cmpR op_eq (pe_ix (show IxR _ (rIxT K) from ix_tup) (pv 0) pe_int (fun _ _ => rfl)) (pe_glob (v := .str "leaf") (by rfl) g.c_LEAF.choose_spec ⟨_, rfl⟩) (nomark _)) (pe_ix (show IxR _ (rIxT K) from ix_tup) (pv 1) pe_int (fun _ _ => rfl)) (pe_ix (show IxR _ (rIxT K) from ix_tup) (pv 1) pe_int (fun _ _ => rfl))))) pa_nil)) (pa_cons (pv 0) pa_nil))))), ?_⟩
  obtain ⟨n, xs, h1, hne, h8, hx, q⟩ := h
  rw [foD_R] at h1
  have hq : Ret K (.tuple [bxD (joint (xs.map (roB n))), foD n (mkR n xs)]) H Q := by
    rw [joint_R n xs hne hx, ← ents_R]
    exact q
  rw [foD_R] at hq
  clear q
  have nb : xs.map (roB n) ≠ [] := fun e => hne (List.map_eq_nil_iff.mp e)
  have nl : (xs.map (roB n)).length ≤ 1000 := by rw [List.length_map]; omega
  cases n with
  | zero =>
    have h1 : Dp K H v1 (.tuple [.str "leaf", .tuple (xs.map (roD 0))]) := h1
    have hq : Ret K (.tuple [bxD (joint (xs.map (roB 0))), .tuple [.str "leaf", .tuple (xs.map (roD 0))]]) H Q := hq
    wtm_at "go0"
    refine i_lcTU ?_
    wtm_at "go"
    rename_i xu hxu
    refine i_lcGT (enc := roD 0) (xs := xs) (fun _ => true) (fun x => bxD (roB 0 x)) hxu (by omega) (fun _ _ => rfl) (fun u x H2 R Y e2 hm hu hn hy => ?_) (fun p H2 hp e2 hl => ?_)
    · obtain ⟨xn, xb⟩ := x
      have hu : Dp K H2 u (.tuple [.int xn, bxD xb]) := hu
      refine ⟨rfl, ?_⟩
      wtm_at "nrm"
      wtm_at "go"
      refine hy rfl _ _ (Ex.refl _) ?_
      show Dp K H2 _ (bxD xb)
      wtm_at "dp"
    · rw [filt_true] at hl
      wtm_at "go"
      refine use_joint_in (bs := xs.map (roB 0)) (by rw [List.map_map]; exact hl) nb nl (fun v H3 e3 h3 => ?_)
      wtm_at "go"
      rename_i np nH nhe nhp
      exact hq _ _ ((e2.trans e3).trans nhe) (.tup (Evl.st_of nhp) (.cons (dpMono nhe h3) (.cons (dpMono ((e2.trans e3).trans nhe) h1) .nil)))
  | succ n =>
    have h1 : Dp K H v1 (.tuple [.str "node", .tuple (xs.map (roD (n + 1)))]) := h1
    have hq : Ret K (.tuple [bxD (joint (xs.map (roB (n + 1)))), .tuple [.str "node", .tuple (xs.map (roD (n + 1)))]]) H Q := hq
    wtm_at "go0"
    refine i_lcTU ?_
    wtm_at "go"
    rename_i xu hxu
    refine i_lcGT (enc := roD (n + 1)) (xs := xs) (fun _ => true) (fun x => bxD (roB (n + 1) x)) hxu (by omega) (fun _ _ => rfl) (fun u x H2 R Y e2 hm hu hn hy => ?_) (fun p H2 hp e2 hl => ?_)
    · have hu : Dp K H2 u (.tuple [bxD (roB (n + 1) x), foD n x]) := hu
      refine ⟨rfl, ?_⟩
      wtm_at "nrm"
      wtm_at "go"
      refine hy rfl _ _ (Ex.refl _) ?_
      show Dp K H2 _ (bxD (roB (n + 1) x))
      wtm_at "dp"
    · rw [filt_true] at hl
      wtm_at "go"
      refine use_joint_in (bs := xs.map (roB (n + 1))) (by rw [List.map_map]; exact hl) nb nl (fun v H3 e3 h3 => ?_)
      wtm_at "go"
      rename_i np nH nhe nhp
      exact hq _ _ ((e2.trans e3).trans nhe) (.tup (Evl.st_of nhp) (.cons (dpMono nhe h3) (.cons (dpMono ((e2.trans e3).trans nhe) h1) .nil)))
theorem use_branch_of {n : Nat} {xs : List (Ro n)} (h : Dp K H v1 (foD n (mkR n xs))) (hne : xs ≠ []) (h8 : xs.length ≤ 8) (hx : ∀ x ∈ xs, LowR n x) (q : ∀ v H2, Ex H H2 → Dp K H2 v (brD n (brO (mkR n xs))) → Q v H2) : sp_branch_of K [v1] H Q E := ⟨_, rfl, n, xs, h, hne, h8, hx, q⟩
theorem use_branch_low {n : Nat} {t : Fo n} (h : Dp K H v1 (foD n t)) (ht : Low n t) (q : ∀ v H2, Ex H H2 → Dp K H2 v (brD n (brO t)) → Q v H2) : sp_branch_of K [v1] H Q E := by
  obtain ⟨xs, rfl, hx⟩ := right_inv n t ht.1
  have h2 := ht.2
  rw [sz_R] at h2
  exact use_branch_of h (fun e => by rw [e] at h2; simp at h2) (by omega) hx q
/-- is_any_met -/
def sp_is_any_met (K : PySem.W.Frag) : Sp := A2 fun v1 v2 H Q => ∃ (bs : List Bx) (c : Bx), Dp K H v1 (.list (bs.map bxD)) ∧ bs.length ≤ 1000 ∧ Dp K H v2 (bxD c) ∧ ∀ H2, Ex H H2 → Q (.bl (bs.any fun b => meetB b c)) H2
abbrev s_is_any_met : Stmt := top 50
theorem sc_is_any_met : FnScope ["boxes", "goal", "box"] ["boxes", "goal"] (defScope s_is_any_met) := ⟨rfl, rfl, rfl, by decide +kernel, rfl, by decide +kernel, by decide +kernel⟩
theorem ok_is_any_met {f : Addr} {fd : FuncData} (F : FnP K "is_any_met" s_is_any_met f fd) (g : G mg)  (c_do_meet_in : Cl P w K mg base 1 "do_meet_in" (sp_do_meet_in K)) : FnOk P w K mg base CX0 2 f fd ["boxes", "goal"] (sp_is_any_met K) := by
  have nd := sc_is_any_met.nd
  refine F.ok sc_is_any_met (fun vs H Q E h => h.len) (fun cdv A outer s H vs Q E hr h => ?_)
  obtain ⟨v1, v2, rfl, h⟩ := h
  refine ⟨_, PSs.nox (pss_one (ps_ret (pe_callB (cr_any rfl) (by rfl) g.f_any boot_any (pa_cons (pe_lc (own := [("box", 2)]) (g := gName 2) (by rfl) nd (pi_list (pv 0)) (blkOk_by (N := ["boxes", "goal", "box"]) (sc := defScope s_is_any_met) (own := [("box", 2)]) (by decide +kernel)) (fun _ _ _ _ _ => (pg_name (i := 2) nd rfl (Or.inl rfl))) (fun _ _ _ _ _ => pts_nil) (fun _ _ _ _ _ => (pc c_do_meet_in hr (by first | decide | omega) (by rfl) (pa_cons (pv 2) (pa_cons (pv 1) pa_nil))))) pa_nil)))), ?_⟩
  obtain ⟨bs, c, h1, hl, h2, q⟩ := h
  wtm_at "go0"
  refine i_lcLU ?_
  wtm_at "go"
  refine i_lcGL (enc := bxD) (xs := bs) (fun _ => true) (fun b => .bool (meetB b c)) h1 (by omega) (fun _ _ => rfl) (fun u x H2 R Y e2 hm hu hn hy => ?_) (fun p H2 hp e2 hd => ?_)
  · refine ⟨rfl, ?_⟩
    wtm_at "nrm"
    wtm_at "go"
    refine use_do_meet_in hu (dpMono e2 h2) ?_
    wtm_at "go"
    exact hy rfl _ _ (Ex.refl _) (Dp.bl _)
  · rw [filt_true] at hd
    wtm_at "go"
    obtain ⟨a, xs, ea, hs, ha⟩ := dpLst hd
    have ex : ∀ {bs : List Bool} {xs : List V}, DpAll K H2 xs (bs.map PyData.bool) → xs = bs.map V.bl := by
      intro bs
      induction bs with
      | nil => intro xs h; cases h; rfl
      | cons b bs ih =>
        intro xs h
        cases h with
        | cons h1 h2 => rw [dpBl h1, ih h2]; rfl
    have hx := ex (bs := bs.map fun b => meetB b c) (by rw [List.map_map]; exact ha)
    subst hx
    refine ⟨a, _, by rw [ea], hs, ?_⟩
    wtm_at "go"
    rw [List.any_map]
    exact q _ e2
theorem use_is_any_met {bs : List Bx} {c : Bx} (h : Dp K H v1 (.list (bs.map bxD))) (hl : bs.length ≤ 1000) (h2 : Dp K H v2 (bxD c)) (q : ∀ H2, Ex H H2 → Q (.bl (bs.any fun b => meetB b c)) H2) : sp_is_any_met K [v1, v2] H Q E := ⟨_, _, rfl, bs, c, h, hl, h2, q⟩
/-- a form's items as triples -/
def itmD : Bx × (Int ⊕ Fs) → PyData
  | (b, .inl n) => .tuple [bxD b, .int n, .none]
  | (b, .inr s) => .tuple [bxD b, .none, fsD s]
theorem noL_itm : ∀ x, noL (itmD x) = true
  | (b, .inl n) => rfl
  | (b, .inr s) => by
    show (noL (bxD b) && (true && (noL (fsD s) && true))) = true
    rw [noL_fs]
    rfl
/-- a new list, told as it lies -/
def RetR (K : PySem.W.Frag) (ds : List PyData) (H : Hp) (Q : VK) : Prop := ∀ p H2 us, H p = none → Ex H H2 → H2 p = some (.lst us) → DpAll K H2 us ds → Q (.ref p) H2
def sp_items_of (K : PySem.W.Frag) : Sp := A1 fun v1 H Q => ∃ s : Fs, Dp K H v1 (fsD s) ∧ Sm s.1 s.2 ∧ RetR K ((fitems s).map itmD) H Q
abbrev s_items_of : Stmt := top 48
theorem sc_items_of : FnScope ["form", "box", "within", "number"] ["form"] (defScope s_items_of) := ⟨rfl, rfl, rfl, by decide +kernel, rfl, by decide +kernel, by decide +kernel⟩
theorem ok_items_of {f : Addr} {fd : FuncData} (F : FnP K "items_of" s_items_of f fd) (g : G mg)   : FnOk P w K mg base CX0 1 f fd ["form"] (sp_items_of K) := by
  have nd := sc_items_of.nd
  refine F.ok sc_items_of (fun vs H Q E h => h.len) (fun cdv A outer s H vs Q E hr h => ?_)
  obtain ⟨v1, rfl, h⟩ := h
  refine ⟨_, PSs.nox (pss_cons (ps_if (pt_cmpR op_eq (pe_ix ix_tup (pv 0) pe_int (fun _ _ => rfl)) (pe_glob (v := .str "leaf") (by rfl) g.c_LEAF.choose_spec ⟨_, rfl⟩) (nomark _)) (pss_one (ps_ret (pe_lc (own := [("number", 3), ("box", 1)]) (g := _) (by rfl) nd (pi_tup (pe_ix ix_tup (pv 0) pe_int (fun _ _ => rfl))) (blkOk_by (N := ["form", "box", "within", "number"]) (sc := defScope s_items_of) (own := [("number", 3), ("box", 1)]) (by decide +kernel)) (fun _ _ _ _ _ => (show PG _ _ (gTup K 2 _) from (pg_tup (by rfl) (pgs_cons (pg_name (i := 3) nd rfl (Or.inl rfl)) (pgs_cons (pg_name (i := 1) nd rfl (Or.inl rfl)) pgs_nil))))) (fun _ _ _ _ _ => pts_nil) (fun _ _ _ _ _ => (pe_tup (pa_cons (pv 1) (pa_cons (pv 3) (pa_cons pe_non pa_nil)))))))) pss_nil) (pss_one (ps_ret (pe_lc (own := [("box", 1), ("within", 2)]) (g := _) (by rfl) nd (pi_tup (pe_ix ix_tup (pv 0) pe_int (fun _ _ => rfl))) (blkOk_by (N := ["form", "box", "within", "number"]) (sc := defScope s_items_of) (own := [("box", 1), ("within", 2)]) (by decide +kernel)) (fun _ _ _ _ _ => (show PG _ _ (gTup K 2 _) from (pg_tup (by rfl) (pgs_cons (pg_name (i := 1) nd rfl (Or.inl rfl)) (pgs_cons (pg_name (i := 2) nd rfl (Or.inl rfl)) pgs_nil))))) (fun _ _ _ _ _ => pts_nil) (fun _ _ _ _ _ => (pe_tup (pa_cons (pv 1) (pa_cons pe_non (pa_cons (pv 2) pa_nil))))))))), ?_⟩
  obtain ⟨⟨n, t⟩, h1, hs, q⟩ := h
  cases n with
  | zero =>
    have h1 : Dp K H v1 (.tuple [.str "leaf", .tuple ((foL t).map enD)]) := h1
    have q : RetR K (((foL t).map fun e => ((e.2, .inl e.1) : Bx × (Int ⊕ Fs))).map itmD) H Q := q
    rw [List.map_map] at q
    wtm_at "go0"
    refine i_lcTU ?_
    wtm_at "go"
    rename_i xu hxu
    refine i_lcGTR (enc := enD) (xs := foL t) (fun _ => true) (fun e => itmD (e.2, .inl e.1)) hxu (by have : (foL t).length ≤ 4 := hs; omega) (fun _ _ => noL_itm _) (fun u x H2 R Y e2 hm hu hn hy => ?_) (fun p H2 zs hp e2 hl hz => ?_)
    · obtain ⟨xn, xb⟩ := x
      have hu : Dp K H2 u (.tuple [.int xn, bxD xb]) := hu
      wtm_at "nrm"
      wtm_at "go"
      refine ⟨rfl, ?_⟩
      wtm_at "go"
      rename_i np nH nhe nhp
      refine hy rfl _ _ nhe (.tup (Evl.st_of nhp) (.cons (dpMono nhe (by wtm_at "dp")) (.cons (.int _) (.cons .non .nil))))
    · rw [filt_true] at hz
      exact q p H2 zs hp e2 hl hz
  | succ n =>
    have h1 : Dp K H v1 (.tuple [.str "node", .tuple ((foB t).map (brD n))]) := h1
    have q : RetR K (((foB t).map fun p => ((p.1, .inr ⟨n, p.2⟩) : Bx × (Int ⊕ Fs))).map itmD) H Q := q
    rw [List.map_map] at q
    wtm_at "go0"
    refine i_lcTU ?_
    wtm_at "go"
    rename_i xu hxu
    refine i_lcGTR (enc := brD n) (xs := foB t) (fun _ => true) (fun p => itmD (p.1, .inr ⟨n, p.2⟩)) hxu (by have : (foB t).length ≤ 4 := hs.1; omega) (fun _ _ => noL_itm _) (fun u x H2 R Y e2 hm hu hn hy => ?_) (fun p H2 zs hp e2 hl hz => ?_)
    · obtain ⟨xb, xt⟩ := x
      have hu : Dp K H2 u (.tuple [bxD xb, foD n xt]) := hu
      wtm_at "nrm"
      wtm_at "go"
      refine ⟨rfl, ?_⟩
      wtm_at "go"
      rename_i np nH nhe nhp
      refine hy rfl _ _ nhe (.tup (Evl.st_of nhp) (.cons (dpMono nhe (by wtm_at "dp")) (.cons .non (.cons (dpMono nhe (show Dp K H2 _ (foD n xt) by wtm_at "dp")) .nil))))
    · rw [filt_true] at hz
      exact q p H2 zs hp e2 hl hz
theorem use_items_of {s : Fs} (h : Dp K H v1 (fsD s)) (hs : Sm s.1 s.2) (q : ∀ p H2 us, H p = none → Ex H H2 → H2 p = some (.lst us) → DpAll K H2 us ((fitems s).map itmD) → Q (.ref p) H2) : sp_items_of K [v1] H Q E := ⟨_, rfl, s, h, hs, q⟩
end
end Wb

namespace Wb
open PySem PySem.Spec PyProof.Rows L2 StX
open Evl (Ex Ex.refl Ex.trans Ex.new)
open LamX (Tabs TabS TabB ExtN)
open LmK (pe_sortMid tSortM SortMQ dpN dpNA exN tabsE pD LamP sqlN)
local macro_rules | `(tactic| wtm_at "dp") => `(tactic| first | with_reducible assumption | with_reducible exact Dp.int _ | with_reducible exact Dp.bl _ | with_reducible exact Dp.str _ | with_reducible exact Dp.non | ((with_reducible refine' dpMono ?dme (by with_reducible assumption)); (case dme => wtm_at "ex")) | ((with_reducible refine' Dp.tup (Evl.st_of ?dph) ?dpa); (case dph => wtm_at "hs"); (case dpa => wtm_at "dpa")) | ((with_reducible refine' Dp.lst (Evl.sq_of ?dph) ?dpa); (case dph => wtm_at "hs"); (case dpa => wtm_at "dpa")))
local macro_rules | `(tactic| wtm_at "dpa") => `(tactic| first | with_reducible exact DpAll.nil | ((with_reducible refine' DpAll.cons ?dp1 ?dp2); (case dp1 => wtm_at "dp"); (case dp2 => wtm_at "dpa")) | with_reducible assumption | ((with_reducible refine' dpMonoA ?dme (by with_reducible assumption)); (case dme => wtm_at "ex")))
local macro_rules | `(tactic| wtm_at "sz") => `(tactic| first | with_reducible assumption | ((with_reducible refine' sz_mul ?sz1 ?sz2); (case sz1 => wtm_at "sz"); (case sz2 => wtm_at "sz")) | ((with_reducible refine' sz_add ?sz1 ?sz2); (case sz1 => wtm_at "sz"); (case sz2 => wtm_at "sz")) | ((with_reducible refine' sz_sub ?sz1 ?sz2); (case sz1 => wtm_at "sz"); (case sz2 => wtm_at "sz")) | ((with_reducible refine' sz_neg ?sz1); (case sz1 => wtm_at "sz")) | ((with_reducible refine' sz_div ?sz1); (case sz1 => wtm_at "sz")) | ((with_reducible refine' sz_fdiv ?sz1); (case sz1 => wtm_at "sz")) | exact sz_lit (by decide) | wtm_at "sz2")
local macro_rules | `(tactic| wtm_at "szb") => `(tactic| first | with_reducible assumption | ((with_reducible refine' sz_mono ?szb1 ?szb2); (case szb1 => wtm_at "sz"); (case szb2 => decide)))
local macro_rules | `(tactic| wtm_at "nz") => `(tactic| first | assumption | decide | omega)
local macro_rules | `(tactic| wtm_at "shaped") => `(tactic| first | rfl | decide)
local macro_rules | `(tactic| wtm_at "sset") => `(tactic| ((dsimp only [L2.wipe, List.set, List.set_cons_zero, List.set_cons_succ]) <;> exact rfl))
local macro_rules | `(tactic| wtm_at "nrm") => `(tactic| dsimp only [L2.start, L2.wipe, List.set, List.append, List.map, List.map_cons, List.map_nil, List.length_cons, List.length_nil, Nat.reduceAdd, Nat.reduceSub, List.reduceReplicate, List.replicate, List.cons_append, List.nil_append, List.set_cons_zero, List.set_cons_succ])
local macro_rules | `(tactic| wtm_at "st") => `(tactic| first
  | ((with_reducible refine' i_var (v := ?u0) ?u1 ?uq); (case u1 => exact rfl))
  | ((with_reducible refine' i_nameN ?u0 ?uq); (case u0 => wtm_at "sset"))
  | (with_reducible refine' i_op ?uq)
  | (with_reducible refine' i_c ?uq)
  | (with_reducible refine' i_I0 ?uq)
  | ((with_reducible refine' i_ixTI (i := ?u0) ?u1 ?u2 ?u3 ?uq); (case u1 => wtm_at "dp"); (case u2 => wtm_at "ex"); (case u3 => exact rfl))
  | ((with_reducible refine' i_ixT (d := ?u0) ?u1 ?u2 ?u3 (fun xu hxu => ?uq)); (case u1 => wtm_at "dp"); (case u2 => wtm_at "ex"); (case u3 => exact rfl))
  | ((with_reducible refine' i_mul ?u0 ?u1 ?u2 ?uq); (case u0 => wtm_at "sz"); (case u1 => wtm_at "sz"); (case u2 => first | decide | omega))
  | (with_reducible refine' i_seq ?uq)
  | (with_reducible refine' i_asg ?uq)
  | (with_reducible refine' i_ret ?uq)
  | (with_reducible refine' i_ifs ?uq)
  | (with_reducible refine' i_drop ?uq)
  | (with_reducible refine' i_next ?uq)
  | (with_reducible refine' i_cons ?uq)
  | (with_reducible refine' i_nil ?uq)
  | (with_reducible refine' i_cl ?uq)
  | (with_reducible refine' i_cb ?uq)
  | (with_reducible refine' i_tup ?uq)
  | (with_reducible refine' i_lst ?uq)
  | ((with_reducible refine' i_mkT ?u0 (fun np nH nhe nhp => ?uq)); (case u0 => exact Nat.le_of_ble_eq_true rfl))
  | (with_reducible refine' i_test ?uq)
  | (with_reducible refine' i_B ?uq)
  | (with_reducible refine' i_k ?uq)
  | (with_reducible refine' i_and ?uq)
  | (with_reducible refine' i_or ?uq)
  | (with_reducible refine' i_not ?uq)
  | (with_reducible refine' i_andV ?uq)
  | (with_reducible refine' i_orV ?uq)
  | (with_reducible refine' i_notV ?uq)
  | (with_reducible refine' i_if ?uq)
  | (with_reducible refine' i_un ?uq)
  | (with_reducible refine' i_U ?uq)
  | (with_reducible refine' i_iteT ?uq)
  | (with_reducible refine' i_iteF ?uq)
  | ((with_reducible refine' i_iteTr ?u0 ?uq); (case u0 => first | with_reducible rfl | decide | (simp only [dIsInt, dIsBool, dIsTup, dIsStr, dIsLst, Bool.not_true, Bool.not_false]; done)))
  | ((with_reducible refine' i_iteFr ?u0 ?uq); (case u0 => first | with_reducible rfl | decide | (simp only [dIsInt, dIsBool, dIsTup, dIsStr, dIsLst, Bool.not_true, Bool.not_false]; done)))
  | (with_reducible refine' i_ite (fun hif => ?uqa) (fun hif => ?uqb))
  | (with_reducible refine' i_iteN (fun hif => ?uqa) (fun hif => ?uqb))
  | (with_reducible refine' i_iteBN (fun hif => ?uqa) (fun hif => ?uqb))
  | (with_reducible refine' i_iteB (fun hif => ?uqa) (fun hif => ?uqb))
  | ((with_reducible refine' i_modN ?u0 ?uq); (case u0 => wtm_at "nz"))
  | ((with_reducible refine' i_fdX ?u0 ?u1 ?u2 ?uq); (case u0 => wtm_at "nz"); (case u1 => wtm_at "sz"); (case u2 => first | decide | omega))
  | ((with_reducible refine' i_pow ?u0 ?uq); (case u0 => exact ⟨by decide, by decide +kernel⟩))
  | (with_reducible refine' i_eqI ?uq)
  | (with_reducible refine' i_neI ?uq)
  | (with_reducible refine' i_gcd ?uq)
  | (with_reducible refine' i_qabs ?uq)
  | (with_reducible refine' i_qint ?uq)
  | (with_reducible refine' i_qintB ?uq)
  | (with_reducible refine' i_qmax2 ?uq)
  | (with_reducible refine' i_qmin2 ?uq)
  | (with_reducible refine' i_isB ?uq)
  | (with_reducible refine' i_notB ?uq)
  | (with_reducible refine' i_chain ?uq)
  | (with_reducible refine' i_qisN ?uq)
  | (with_reducible refine' i_qnotN ?uq)
  | (with_reducible refine' i_yes ?uq)
  | (with_reducible refine' i_par ?uq)
  | (with_reducible refine' i_par3 ?uq)
  | ((with_reducible refine' i_par2 ?u0 ?uq); (case u0 => wtm_at "sset"))
  | ((with_reducible refine' i_par33 ?u0 ?uq); (case u0 => wtm_at "sset"))
  | ((with_reducible refine' i_ixLI (i := ?u0) ?u1 ?u2 ?u3 ?uq); (case u1 => wtm_at "dp"); (case u2 => wtm_at "ex"); (case u3 => exact rfl))
  | ((with_reducible refine' i_ixL (d := ?u0) ?u1 ?u2 ?u3 (fun xu hxu => ?uq)); (case u1 => wtm_at "dp"); (case u2 => wtm_at "ex"); (case u3 => exact rfl))
  | ((with_reducible refine' i_qlenT ?u0 ?uq); (case u0 => wtm_at "dp"))
  | ((with_reducible refine' i_qlenL ?u0 ?uq); (case u0 => wtm_at "dp"))
  | ((with_reducible refine' i_gtup ?u0 ?u1 ?u2 (fun gvs gdp => ?uq)); (case u0 => wtm_at "dp"); (case u1 => wtm_at "ex"); (case u2 => exact rfl))
  | ((with_reducible refine' i_glst ?u0 ?u1 ?u2 (fun gvs gdp => ?uq)); (case u0 => wtm_at "dp"); (case u1 => wtm_at "ex"); (case u2 => exact rfl))
  | ((with_reducible refine' i_gconsI ?u0 (fun gr gh => ?uq)); (case u0 => with_reducible assumption))
  | ((with_reducible refine' i_gconsA ?u0 (fun gv gr gh1 gh2 => ?uq)); (case u0 => with_reducible assumption))
  | ((with_reducible refine' i_gnilA ?u0 ?uq); (case u0 => with_reducible assumption))
  | ((with_reducible refine' i_isiI ?u0 ?uq); (case u0 => wtm_at "dp"))
  | ((with_reducible refine' i_isiB ?u0 ?uq); (case u0 => wtm_at "dp"))
  | ((with_reducible refine' i_isiT ?u0 ?uq); (case u0 => wtm_at "dp"))
  | ((with_reducible refine' i_isiS ?u0 ?uq); (case u0 => wtm_at "dp"))
  | ((with_reducible refine' i_isiL ?u0 ?uq); (case u0 => wtm_at "dp"))
  | ((with_reducible refine' i_eqD ?u0 ?u1 ?u2 ?u3 ?uq); (case u0 => wtm_at "dp"); (case u1 => wtm_at "dp"); (case u2 => wtm_at "shaped"); (case u3 => wtm_at "shaped"))
  | ((with_reducible refine' i_neD ?u0 ?u1 ?u2 ?u3 ?uq); (case u0 => wtm_at "dp"); (case u1 => wtm_at "dp"); (case u2 => wtm_at "shaped"); (case u3 => wtm_at "shaped"))
  | wtm_at "st2"
  | wtm_at "use")
local macro_rules | `(tactic| wtm_at "go") => `(tactic| repeat' (wtm_at "st"))
local macro_rules | `(tactic| wtm_at "go0") => `(tactic| ((try dsimp only [L2.cxOf, L2.Cx.nox, L2.Cx.wish, L2.Cx.tr, L2.Cx.blk]); (try wtm_at "nrm"); wtm_at "go"))
local macro_rules | `(tactic| wtm_at "fin") => `(tactic| ((try dsimp only); first | with_reducible assumption | assumption | ((with_reducible refine' Ret.use ?rur ?rue ?rud); (case rur => with_reducible assumption); (case rue => wtm_at "ex"); (case rud => wtm_at "dp"))))
local macro_rules | `(tactic| wtm_at "exh") => `(tactic| first | with_reducible assumption | with_reducible exact Ex.refl _ | with_reducible exact ex_hid | ((with_reducible refine' Ex.trans ?exe (by with_reducible assumption)); (case exe => wtm_at "exh")) | ((with_reducible refine' Ex.trans ?exe (hid_ex (by with_reducible assumption))); (case exe => wtm_at "exh")))
local macro_rules | `(tactic| wtm_at "ex") => `(tactic| first | with_reducible assumption | with_reducible exact Ex.refl _ | with_reducible exact ex_hid | ((with_reducible refine' Ex.trans ?exe (by with_reducible assumption)); (case exe => wtm_at "ex")) | ((with_reducible refine' Ex.trans ?exe (hid_ex (by with_reducible assumption))); (case exe => wtm_at "ex")) | ((with_reducible refine' Ex.trans ?exe ex_hid); (case exe => wtm_at "exh")))
local macro_rules | `(tactic| wtm_at "bag") => `(tactic| first | with_reducible assumption | ((with_reducible refine' Bag.mono ?bgm (by with_reducible assumption)); (case bgm => wtm_at "bag")))
local macro_rules | `(tactic| wtm_at "hs") => `(tactic| first | with_reducible assumption | ((with_reducible refine' hid_tup ?hb ?hp); (case hp => with_reducible assumption); (case hb => wtm_at "bag")) | ((with_reducible refine' hid_new ?hb ?hn ?hp); (case hp => with_reducible assumption); (case hn => with_reducible assumption); (case hb => wtm_at "bag")) | ((with_reducible refine' ex_at ?exe (by with_reducible assumption)); (case exe => wtm_at "ex")))
local macro_rules | `(tactic| wtm_at "st2") => `(tactic| first
  | ((with_reducible refine' i_mulC ?u0 ?uq); (case u0 => first | exact cmul_l (by decide) | exact cmul_r (by decide)))
  | ((with_reducible refine' i_ixLr (v := ?u0) ?u1 ?u2 ?uq); (case u1 => with_reducible assumption); (case u2 => exact rfl))
  | (with_reducible refine' i_sub ?uq)
  | ((with_reducible refine' i_mkL ?u0 (fun np nH nfr nhe nhp => ?uq)); (case u0 => exact Nat.le_of_ble_eq_true rfl))
  | ((with_reducible refine' i_setL (n := ?u0) ?u1 ?u2 (fun sH sh se => ?uq)); (case u1 => with_reducible assumption); (case u2 => exact rfl))
  | (with_reducible refine' i_sl ?uq)
  | (with_reducible refine' i_nopart ?uq)
  | (with_reducible refine' i_part ?uq)
  | (with_reducible refine' i_part1 ?uq))
local macro_rules | `(tactic| wtm_at "sz2") => `(tactic| ((with_reducible refine' sz_fmod ?sz1 ?sz2); (case sz1 => wtm_at "nz"); (case sz2 => wtm_at "sz")))
local macro_rules | `(tactic| wtm_at "stb") => `(tactic| first
  | ((with_reducible refine' i_mkTB ?u0 ?u1 (fun np nH nhe nhb nhp => ?uq)); (case u0 => exact Nat.le_of_ble_eq_true rfl); (case u1 => wtm_at "bag"))
  | ((with_reducible refine' i_mkLB ?u0 ?u1 (fun np nH nfr nhe nhb nhp => ?uq)); (case u0 => exact Nat.le_of_ble_eq_true rfl); (case u1 => wtm_at "bag"))
  | wtm_at "st")
local macro_rules | `(tactic| wtm_at "gob") => `(tactic| repeat' (wtm_at "stb"))
local macro_rules | `(tactic| wtm_at "gob0") => `(tactic| ((try dsimp only [L2.cxOf, L2.Cx.nox, L2.Cx.wish, L2.Cx.tr, L2.Cx.blk]); (try wtm_at "nrm"); wtm_at "gob"))
local macro_rules | `(tactic| wtm_at "st") => `(tactic| first | ((with_reducible refine' i_ixTS (z := ?u0) ?u1 ?u2 ?u3 ?uq); (case u1 => wtm_at "dp"); (case u2 => wtm_at "ex"); (case u3 => exact rfl)) | fail)
local macro_rules | `(tactic| wtm_at "st2") => `(tactic| first | ((with_reducible refine' i_eqST ?u0 ?uq); (case u0 => with_reducible rfl)) | ((with_reducible refine' i_eqSF ?u0 ?uq); (case u0 => decide +kernel)) | ((with_reducible refine' i_neST ?u0 ?uq); (case u0 => with_reducible rfl)) | ((with_reducible refine' i_neSF ?u0 ?uq); (case u0 => decide +kernel)) | fail)
section
variable {P : Program} {w : World} {K : PySem.W.Frag} {mg : Str → Option Value} {base : Heap} {H H' : Hp} {Q : VK} {E : XK} {v1 v2 v3 v4 v5 : V}
/-- the lambda's qualified name -/
def hlq : Str := ("halves" : Str) ++ ".<locals>." ++ "<lambda>"
theorem okC_of {CX : CXT} {N ps : List Str} {k : Nat} {sp : Sp} {x qual : Str} {params : Arguments} {body : List Stmt} {scope : Scope} {dvs : List V} {kws : List (Str × V)} {f : Addr} {fd : FuncData} {c : Addr} (F : FunD K x qual params body scope dvs kws f fd) (hc : fd.code = .ref c) (S : FnScope N ps scope) (len : ∀ vs H Q E, sp vs H Q E → vs.length = ps.length)
    (hbody : ∀ (A : Around) (outer : List Env) (s : Shared) (H : Hp) (vs : List V) (Q : VK) (E : XK), Room k (A.deeper (envOfC qual scope s.heap.objs.size f (.ref c))) → sp vs H Q E →
      ∃ t, PSs (cxOf CX P w K mg base N qual scope f (.ref c) A outer s H E) body t ∧ t { nx := fun _ H' => Q .non H', rt := Q } (start N vs) H) : FnOk P w K mg base CX (k + 1) f fd ps sp := by
  obtain ⟨oc, od, dV, kV, doc, pm, an, cdv, ct, osl, rfl, lk, hcd, _, _⟩ := F.ex
  have e : cdv = .ref c := hc
  subst e
  exact fn_of lk hcd S len fun A outer s H vs Q E hr hsp => hbody A outer s H vs Q E hr hsp
theorem lt_one {P0 : Addr} {q : Str} : ∀ p ∈ [(P0, q)], p.1 = P0 → p.2 = q := fun p hp _ => by
  rcases List.mem_singleton.mp hp with rfl
  rfl
theorem lamP_by {sc scope : Scope} {a m p : Str} (h : (decide (scope.kind = .function) && (!scope.isCoroutine && (!scope.isGenerator && (scope.names.all (fun y => !decide (y.2 = NameKind.cell)) && (decide (scope.names.lookup a = some .local) && (decide ((m, NameKind.free) ∈ scope.names) && (decide ((p, NameKind.free) ∈ scope.names) && (decide (scope.names.lookup m = some .free) && (decide (scope.names.lookup p = some .free) && scope.names.all fun y => !decide (y.2 = NameKind.free) || decide (sc.names.lookup y.1 = some .cell)))))))))) = true) : LamP sc scope a m p := by
  simp only [Bool.and_eq_true, Bool.or_eq_true, Bool.not_eq_true', decide_eq_true_eq, decide_eq_false_iff_not, List.all_eq_true] at h
  obtain ⟨h1, h2, h3, h4, h5, h6, h7, h8, h9, h10⟩ := h
  exact ⟨h1, h2, h3, h4, h5, h6, h7, h8, h9, fun y hy e => (h10 y hy).resolve_left (fun z => z e)⟩
def sp_halves (K : PySem.W.Frag) (T : List (Addr × Str)) : Sp := A2 fun v1 v2 H Q => ∃ (n : Nat) (xs : List (Ro n)), v1 = .str (wdO n) ∧ Dp K H v2 (.list (xs.map (roD n))) ∧ 2 ≤ xs.length ∧ xs.length ≤ 8 ∧ Tabs T H ∧
  ∀ v H2 (ys zs : List (Ro n)), (ys ++ zs).Perm xs → ys.length = xs.length / 2 → zs.length = xs.length - xs.length / 2 → ExtN H H2 → Tabs T H2 → Dp K H2 v (.list [foD n (mkR n ys), foD n (mkR n zs)]) → Q v H2
theorem i_sortM {T : List (Addr × Str)} {im ip : Nat} {te : TE} {σ : L2.St} (q : te σ H (SortMQ T K im ip σ Q)) : tSortM T K im ip te σ H Q := q
theorem i_lstRg {te : L2.St → Hp → (Int → Int → Hp → Prop) → Prop} {σ : L2.St} (q : te σ H fun a b H1 => RgOk a b ∧ ∀ q, H1 q = none → Q (.ref q) (upd H1 q (.lst (rgV a b)))) : tLstRg te σ H Q := q
theorem i_rg1 {ta : TE} {σ : L2.St} {R : Int → Int → Hp → Prop} (q : ta σ H fun x H1 => ∃ n, x = .int n ∧ R 0 n H1) : tRg1 ta σ H R := q
theorem rg_ints (k : Nat) : rgV 0 (k : Int) = ((List.range k).map fun i : Nat => (i : Int)).map V.int := by
  unfold rgV
  rw [List.map_map]
  have e : ((k : Int) - 0).toNat = k := by omega
  rw [e]
  refine List.map_congr_left fun i _ => ?_
  show V.int (0 + (i : Int)) = V.int (i : Int)
  rw [Int.zero_add]
/-- twice the middle -/
def midR (n : Nat) (x : Ro n) : Int × Int := ((roB n x).1 + (roB n x).2.2.1, (roB n x).2.1 + (roB n x).2.2.2)
theorem noL_two {a b : PyData} (h1 : noL a = true) (h2 : noL b = true) : noL (.tuple [a, b]) = true := by
  show (noL a && (noL b && true)) = true
  rw [h1, h2]
  rfl
theorem use_box_at_ro {n : Nat} {x : Ro n} {ds : List PyData} (h1 : Dp K H v1 (.tuple [.str (wdO n), .tuple ds])) (h2 : Dp K H v2 (roD n x)) (q : ∀ v, Dp K H v (bxD (roB n x)) → Q v H) : sp_box_at K [v1, v2] H Q E := by
  cases n with
  | zero =>
    have w0 : (("leaf" : Str) == ("leaf" : Str)) = true := by decide +kernel
    exact ⟨_, _, rfl, ("leaf" : Str), _, _, _, h1, h2, fun _ => q, fun e => by rw [w0] at e; cases e⟩
  | succ n =>
    have w1 : ¬ (("node" : Str) = ("leaf" : Str)) := by decide +kernel
    exact ⟨_, _, rfl, ("node" : Str), _, _, _, h1, h2, fun e => absurd e w1, fun _ => q⟩
theorem lc_pr {ms : List (Int × Int)} {v : V} {j : Nat} {vs : List Nat} {σ : L2.St} (h : Dp K H v (.list (ms.map pD))) (hl : ms.length ≤ 8) (f : Int × Int → Int) (k : Int) (hk : ∀ b : Int × Int, atI [PyData.int b.1, .int b.2] k = some (.int (f b)))
    (hσ : ∀ u, ((wipe σ vs).set j (some u))[j]? = some (some u)) (hw : ∀ u, wipe ((wipe σ vs).set j (some u)) vs = wipe σ vs)
    (q : ∀ p H2, H p = none → Ex H H2 → Dp K H2 (.ref p) (.list ((ms.map f).map PyData.int)) → Q (.ref p) H2) : tLc (iList K (tC v)) (gName j) tYes (tOp (rIxT K) (tVar j) (tC (.int k))) vs σ H Q := by
  refine i_lcGL (enc := pD) (fun _ => true) (fun b => .int (f b)) h (by omega) (fun _ _ => rfl) (fun u x H2 R Y e2 hm hu hn hy => ?_) (fun p H2 hp e2 hd => q p H2 hp e2 ?_)
  · refine ⟨hw u, ?_⟩
    refine i_yes ?_
    refine (if_pos rfl).mpr ?_
    refine ⟨u, hσ u, ?_⟩
    refine i_ixTI (i := f x) hu (Ex.refl _) (hk x) ?_
    exact hy rfl _ _ (Ex.refl _) (Dp.int _)
  · rw [List.map_map]
    have e : (ms.filter fun _ => true) = ms := List.filter_eq_self.mpr fun _ _ => rfl
    rw [e] at hd
    exact hd
abbrev hvT (K : PySem.W.Frag) : TS := tSeq (tAsg (tOp (rI CDivX fun i j => V.int (i.fdiv j)) (tCB (qLen K) (tCons (tVar 5) tNil)) (tC (V.int 2))) (gName 6))
  (tRet (tLc (iTup K (tTup (tCons (tSl (rSlL K) (tVar 5) tNoPart (tPart (tVar 6))) (tCons (tSl (rSlL K) (tVar 5) (tPart (tVar 6)) tNoPart) tNil)))) (gName 11) tYes
    (tTup (tCons (tVar 0) (tCons (tCB (qTupleOf K) (tCons (tLc (iList K (tVar 11)) (gName 13) tYes (tOp (rIxL K) (tVar 1) (tVar 13)) [13]) tNil)) tNil))) [11]))
theorem range_get {α : Type} (d : α) : ∀ xs : List α, (List.range xs.length).map (fun i => xs.getD i d) = xs := fun xs => by
  apply List.ext_getElem
  · simp
  · intro i h1 h2
    simp [List.getD_eq_getElem?_getD, h2]
theorem i_ixLD {v : V} {ds : List PyData} {i : Nat} {d : PyData} (h : Dp K H v (.list ds)) (hi : ds[i]? = some d) (q : ∀ u, Dp K H u d → Q u H) : rIxL K v (.int (i : Int)) H Q := by
  obtain ⟨a, us, rfl, hs, ha⟩ := dpLst h
  obtain ⟨u, hu, hd⟩ := dpGet ha hi
  exact ⟨a, us, (i : Int), u, rfl, rfl, hs, atI_nat hu, q u hd⟩
theorem halves_tail {n : Nat} {xs : List (Ro n)} {is : List Nat} {D : Ends} {pr : Addr} {c2 c3 c4 c6 c7 c8 c9 c10 c11 c12 c13 : Option V} (h2 : Dp K H v2 (.list (xs.map (roD n)))) (l2 : 2 ≤ xs.length) (l8 : xs.length ≤ 8) (his : is.Perm (List.range xs.length)) (hr : H pr = some (.lst ((is.map fun i : Nat => (i : Int)).map V.int)))
    (q : ∀ v H2 (ys zs : List (Ro n)), (ys ++ zs).Perm xs → ys.length = xs.length / 2 → zs.length = xs.length - xs.length / 2 → Ex H H2 → Dp K H2 v (.list [foD n (mkR n ys), foD n (mkR n zs)]) → D.rt v H2) : hvT K D [some (.str (wdO n)), some v2, c2, c3, c4, some (.ref pr), c6, c7, c8, c9, c10, c11, c12, c13] H := by
  obtain ⟨x0, hx0⟩ : ∃ x0, x0 ∈ xs := by
    cases xs with
    | nil => simp at l2
    | cons x r => exact ⟨x, List.mem_cons_self⟩
  have lis : is.length = xs.length := by rw [his.length_eq, List.length_range]
  have hin : ∀ i ∈ is, i < xs.length := fun i hi => List.mem_range.mp (his.mem_iff.mp hi)
  have hpm : (is.map fun i => xs.getD i x0).Perm xs := by
    have := his.map fun i => xs.getD i x0
    rw [range_get] at this
    exact this
  have hrD : Dp K H (.ref pr) (.list ((is.map fun i : Nat => (i : Int)).map PyData.int)) := .lst (Evl.sq_of hr) dpIntsOf
  have h6 : (is.length : Int).fdiv 2 = ((xs.length / 2 : Nat) : Int) := by
    rw [lis, Int.fdiv_eq_ediv_of_nonneg _ (by omega)]
    omega
  wtm_at "go"
  rw [List.length_map, List.length_map, h6]
  refine i_lcTU ?_
  wtm_at "go"
  refine i_slL (Evl.sq_of hr) (fun q1 G1 hq1 f1 k1 => ?_)
  rw [cut_to] at k1
  wtm_at "go"
  refine i_slL (Evl.sq_of (f1 _ _ hr)) (fun q2 G2 hq2 f2 k2 => ?_)
  rw [cut_from] at k2
  wtm_at "go"
  rename_i np G3 f3 hnp
  rw [← List.map_take, ← List.map_take] at k1
  rw [← List.map_drop, ← List.map_drop] at k2
  have k1D : Dp K G3 (.ref q1) (.list (((is.take (xs.length / 2)).map fun i : Nat => (i : Int)).map PyData.int)) := .lst (Evl.sq_of (f3 _ _ (f2 _ _ k1))) dpIntsOf
  have k2D : Dp K G3 (.ref q2) (.list (((is.drop (xs.length / 2)).map fun i : Nat => (i : Int)).map PyData.int)) := .lst (Evl.sq_of (f3 _ _ k2)) dpIntsOf
  have f03 : Ex H G3 := (f1.trans f2).trans f3
  refine i_lcGT (enc := fun js : List Nat => .list ((js.map fun i : Nat => (i : Int)).map PyData.int)) (xs := [is.take (xs.length / 2), is.drop (xs.length / 2)]) (fun _ => true) (fun js => foD n (mkR n (js.map fun i => xs.getD i x0))) (.tup (Evl.st_of hnp) (.cons k1D (.cons k2D .nil))) (Nat.le_of_ble_eq_true rfl) (fun _ _ => noL_fo n _) (fun u js H2 R Y e2 hm hu hn hy => ?_) (fun p H2 hp e2 hd => ?_)
  · have hjs : ∀ i ∈ js, i < xs.length := fun i hi => by
      simp only [List.mem_cons, List.not_mem_nil, or_false] at hm
      rcases hm with rfl | rfl
      · exact hin i (List.mem_of_mem_take hi)
      · exact hin i (List.mem_of_mem_drop hi)
    have hjl : js.length ≤ 8 := by
      simp only [List.mem_cons, List.not_mem_nil, or_false] at hm
      rcases hm with rfl | rfl
      · rw [List.length_take]; omega
      · rw [List.length_drop]; omega
    refine ⟨rfl, ?_⟩
    wtm_at "nrm"
    wtm_at "go"
    refine i_lcLU ?_
    wtm_at "go"
    have hu : Dp K H2 u (.list ((js.map fun i : Nat => (i : Int)).map PyData.int)) := hu
    rw [List.map_map] at hu
    refine i_lcGL (enc := fun i : Nat => .int (i : Int)) (xs := js) (fun _ => true) (fun i => roD n (xs.getD i x0)) hu (by omega) (fun _ _ => noL_ro n _) (fun u2 i H3 R3 Y3 e3 hm3 hu3 hn3 hy3 => ?_) (fun p3 H3 hp3 e3 hd3 => ?_)
    · cases dpInt hu3
      refine ⟨rfl, ?_⟩
      wtm_at "nrm"
      wtm_at "go"
      have hi := hjs i hm3
      refine i_ixLD (d := roD n (xs.getD i x0)) (dpMono ((f03.trans e2).trans e3) h2) ?_ (fun w hw => ?_)
      · rw [List.getElem?_map, List.getD_eq_getElem?_getD, List.getElem?_eq_getElem hi]
        rfl
      · exact hy3 rfl _ _ (Ex.refl _) hw
    rw [filt_true] at hd3
    wtm_at "go"
    refine i_qtupleL hd3 (fun p4 H4 e4 hh => ?_)
    obtain ⟨ws, g1, g2⟩ := hh
    wtm_at "go"
    rename_i np5 H5 e5 hnp5
    refine hy rfl _ _ ((e3.trans e4).trans e5) ?_
    show Dp K H5 (.ref np5) (foD n (mkR n (js.map fun i => xs.getD i x0)))
    rw [foD_R, List.map_map]
    exact .tup (Evl.st_of hnp5) (.cons (.str _) (.cons (.tup (Evl.st_of (e5 _ _ g1)) (dpMonoA e5 g2)) .nil))
  rw [filt_true] at hd
  refine q _ _ ((is.take (xs.length / 2)).map fun i => xs.getD i x0) ((is.drop (xs.length / 2)).map fun i => xs.getD i x0) ?_ ?_ ?_ (f03.trans e2) hd
  · rw [← List.map_append, List.take_append_drop]
    exact hpm
  · rw [List.length_map, List.length_take]
    omega
  · rw [List.length_map, List.length_drop]
    omega
abbrev s_halves : Stmt := top 40
theorem sc_halves : FnScope ["word", "items", "boxes", "wide", "high", "row", "half", "middles", "part", "item", "box", "some", "one", "at"] ["word", "items"] (defScope s_halves) := ⟨rfl, rfl, rfl, by decide +kernel, rfl, by decide +kernel, by decide +kernel⟩
def lamScope : Scope := { kind := .function, names := [(Str.ofString "at", .local), (Str.ofString "middles", .free), (Str.ofString "part", .free)], isGenerator := false, isCoroutine := false, more := [] }
theorem lamP : LamP (defScope s_halves) lamScope "at" "middles" "part" := lamP_by (by decide +kernel)
theorem ok_halves {f : Addr} {fd : FuncData} (F : FnP K "halves" s_halves f fd) {CC PT : Addr} (hcc : fd.code = .ref CC) (TB : TabB base mg CC PT) (g : G mg)  (c_box_at : Cl P w K mg base 1 "box_at" (sp_box_at K)) (c_centre_of : Cl P w K mg base 1 "centre_of" (sp_centre_of K)) : FnOk P w K mg base CX0 5 f fd ["word", "items"] (sp_halves K [(PT, hlq)]) := by
  have nd := sc_halves.nd
  refine okC_of F hcc sc_halves (fun vs H Q E h => h.len) (fun A outer s H vs Q E hr h => ?_)
  obtain ⟨v1, v2, rfl, h⟩ := h
  refine ⟨_, PSs.nox (pss_cons (ps_setLc (i := 2) (own := [("item", 9)]) (g := gName 9) (by rfl) nd rfl rfl (sw_true rfl rfl rfl (by decide +kernel)) (pi_list (pv 1)) (blkOk_by (N := ["word", "items", "boxes", "wide", "high", "row", "half", "middles", "part", "item", "box", "some", "one", "at"]) (sc := defScope s_halves) (own := [("item", 9)]) (by decide +kernel)) (fun _ _ _ _ _ => (pg_name (i := 9) nd rfl (Or.inl rfl))) (fun _ _ _ _ _ => pts_nil) (fun _ _ _ _ _ => (pe_tup (pa_cons (pc c_box_at hr (by first | decide | omega) (by rfl) (pa_cons (pe_tup (pa_cons (pv 0) (pa_cons (pe_tup pa_nil) pa_nil))) (pa_cons (pv 9) pa_nil))) (pa_cons (pv 9) pa_nil))))) (pss_cons (ps_set (i := 7) nd rfl (Or.inr rfl) (pe_lc (own := [("box", 10), ("item", 9)]) (g := _) (by rfl) nd (pi_list (pv 2)) (blkOk_by (N := ["word", "items", "boxes", "wide", "high", "row", "half", "middles", "part", "item", "box", "some", "one", "at"]) (sc := defScope s_halves) (own := [("box", 10), ("item", 9)]) (by decide +kernel)) (fun _ _ _ _ _ => (show PG _ _ (gTup K 2 _) from (pg_tup (by rfl) (pgs_cons (pg_name (i := 10) nd rfl (Or.inl rfl)) (pgs_cons (pg_name (i := 9) nd rfl (Or.inl rfl)) pgs_nil))))) (fun _ _ _ _ _ => pts_nil) (fun _ _ _ _ _ => (pc c_centre_of hr (by first | decide | omega) (by rfl) (pa_cons (pv 10) pa_nil))))) (pss_cons (ps_set (i := 3) nd rfl (Or.inl rfl) (pe_op op_sub (pe_callB (cr_max rfl) (by rfl) g.f_max boot_max (pa_cons (pe_lc (own := [("one", 12)]) (g := gName 12) (by rfl) nd (pi_list (pv 7)) (blkOk_by (N := ["word", "items", "boxes", "wide", "high", "row", "half", "middles", "part", "item", "box", "some", "one", "at"]) (sc := defScope s_halves) (own := [("one", 12)]) (by decide +kernel)) (fun _ _ _ _ _ => (pg_name (i := 12) nd rfl (Or.inl rfl))) (fun _ _ _ _ _ => pts_nil) (fun _ _ _ _ _ => (pe_ix (show IxR _ (rIxT K) from ix_tup) (pv 12) pe_int (fun _ _ => rfl)))) pa_nil)) (pe_callB (cr_min rfl) (by rfl) g.f_min boot_min (pa_cons (pe_lc (own := [("one", 12)]) (g := gName 12) (by rfl) nd (pi_list (pv 7)) (blkOk_by (N := ["word", "items", "boxes", "wide", "high", "row", "half", "middles", "part", "item", "box", "some", "one", "at"]) (sc := defScope s_halves) (own := [("one", 12)]) (by decide +kernel)) (fun _ _ _ _ _ => (pg_name (i := 12) nd rfl (Or.inl rfl))) (fun _ _ _ _ _ => pts_nil) (fun _ _ _ _ _ => (pe_ix (show IxR _ (rIxT K) from ix_tup) (pv 12) pe_int (fun _ _ => rfl)))) pa_nil)))) (pss_cons (ps_set (i := 4) nd rfl (Or.inl rfl) (pe_op op_sub (pe_callB (cr_max rfl) (by rfl) g.f_max boot_max (pa_cons (pe_lc (own := [("one", 12)]) (g := gName 12) (by rfl) nd (pi_list (pv 7)) (blkOk_by (N := ["word", "items", "boxes", "wide", "high", "row", "half", "middles", "part", "item", "box", "some", "one", "at"]) (sc := defScope s_halves) (own := [("one", 12)]) (by decide +kernel)) (fun _ _ _ _ _ => (pg_name (i := 12) nd rfl (Or.inl rfl))) (fun _ _ _ _ _ => pts_nil) (fun _ _ _ _ _ => (pe_ix (show IxR _ (rIxT K) from ix_tup) (pv 12) pe_int (fun _ _ => rfl)))) pa_nil)) (pe_callB (cr_min rfl) (by rfl) g.f_min boot_min (pa_cons (pe_lc (own := [("one", 12)]) (g := gName 12) (by rfl) nd (pi_list (pv 7)) (blkOk_by (N := ["word", "items", "boxes", "wide", "high", "row", "half", "middles", "part", "item", "box", "some", "one", "at"]) (sc := defScope s_halves) (own := [("one", 12)]) (by decide +kernel)) (fun _ _ _ _ _ => (pg_name (i := 12) nd rfl (Or.inl rfl))) (fun _ _ _ _ _ => pts_nil) (fun _ _ _ _ _ => (pe_ix (show IxR _ (rIxT K) from ix_tup) (pv 12) pe_int (fun _ _ => rfl)))) pa_nil)))) (pss_cons (ps_set (i := 8) nd rfl (Or.inr rfl) (pe_ifExp (pt_cmpR op_ge (pv 3) (pv 4) (nomark _)) pe_int pe_int)) (pss_cons (ps_set (i := 5) nd rfl (Or.inl rfl) (pe_sortMid (k := 2) (T := [(PT, hlq)]) (im := 7) (ip := 8) (pe_listRg rfl (by rfl) g.f_list (prg_1 (by rfl) g.f_range (pe_callB call_qlen (by rfl) g.f_len boot_len (pa_cons (pv 2) pa_nil)))) (by rfl) g.f_sorted boot_sorted TB rfl (.head _) lt_one (hr.mono (by decide)) lamP rfl rfl rfl (fun _ _ _ _ _ _ _ _ => rfl))) (pss_cons (ps_set (i := 6) nd rfl (Or.inl rfl) (pe_op op_fdivX (pe_callB call_qlen (by rfl) g.f_len boot_len (pa_cons (pv 5) pa_nil)) pe_int)) (pss_one (ps_ret (pe_lc (own := [("some", 11)]) (g := gName 11) (by rfl) nd (pi_tup (pe_tup (pa_cons (pe_slice sl_list (pv 5) po_none (po_some (pv 6))) (pa_cons (pe_slice sl_list (pv 5) (po_some (pv 6)) po_none) pa_nil)))) (blkOk_by (N := ["word", "items", "boxes", "wide", "high", "row", "half", "middles", "part", "item", "box", "some", "one", "at"]) (sc := defScope s_halves) (own := [("some", 11)]) (by decide +kernel)) (fun _ _ _ _ _ => (pg_name (i := 11) nd rfl (Or.inl rfl))) (fun _ _ _ _ _ => pts_nil) (fun _ _ _ _ _ => (pe_tup (pa_cons (pv 0) (pa_cons (pe_callTy (show CallR _ _ (qTupleOf K) from call_qtuple) (by rfl) g.f_tuple boot_tuple (pa_cons (pe_lc (own := [("at", 13)]) (g := gName 13) (by rfl) nd (show PI _ _ _ (iList K _) from (pi_list (pv 11))) (blkOk_by (by kernel_rfl)) (fun _ _ _ _ _ => (pg_name (i := 13) nd rfl (Or.inl rfl))) (fun _ _ _ _ _ => pts_nil) (fun _ _ _ _ _ => (pe_ix (show IxR _ (rIxL K) from ix_list) (pv 1) (pv 13) (fun _ _ => rfl)))) pa_nil)) pa_nil)))))))))))))), ?_⟩
  obtain ⟨n, xs, rfl, h2, l2, l8, hT, q⟩ := h
  wtm_at "go0"
  refine i_lcLU ?_
  wtm_at "go"
  refine i_lcGL (enc := roD n) (xs := xs) (fun _ => true) (fun x => .tuple [bxD (roB n x), roD n x]) h2 (by omega) (fun x _ => noL_two (noL_bx _) (noL_ro n x)) (fun u x H2 R Y e2 hm hu hn hy => ?_) (fun p1 H2 hp1 e2 hd1 => ?_)
  · refine ⟨rfl, ?_⟩
    wtm_at "nrm"
    wtm_at "go"
    rename_i np nH nhe nhp np2 nH2 nhe2 nhp2
    refine use_box_at_ro (Dp.tup (Evl.st_of (nhe2 _ _ nhp)) .nil |> fun z => Dp.tup (Evl.st_of nhp2) (.cons (.str _) (.cons z .nil))) (dpMono (nhe.trans nhe2) hu) (fun v hv => ?_)
    wtm_at "go"
    rename_i np3 nH3 nhe3 nhp3
    exact hy rfl _ _ ((nhe.trans nhe2).trans nhe3) (.tup (Evl.st_of nhp3) (.cons (dpMono nhe3 hv) (.cons (dpMono ((nhe.trans nhe2).trans nhe3) hu) .nil)))
  rw [filt_true] at hd1
  wtm_at "go"
  refine i_lcLU ?_
  wtm_at "go"
  refine i_lcGL (enc := fun x => .tuple [bxD (roB n x), roD n x]) (xs := xs) (fun _ => true) (fun x => pD (midR n x)) hd1 (by omega) (fun x _ => rfl) (fun u x H3 R Y e3 hm hu hn hy => ?_) (fun p2 H3 hp2 e3 hd2 => ?_)
  · have hu : Dp K H3 u (.tuple [bxD (roB n x), roD n x]) := hu
    wtm_at "nrm"
    wtm_at "go"
    refine ⟨rfl, ?_⟩
    wtm_at "go"
    refine use_centre_of (by wtm_at "dp") (fun v H4 e4 hv => ?_)
    wtm_at "go"
    exact hy rfl _ _ e4 hv
  rw [filt_true] at hd2
  have hd2 : Dp K H3 (.ref p2) (.list ((xs.map (midR n)).map pD)) := by
    rw [List.map_map]
    exact hd2
  generalize hms : xs.map (midR n) = ms at hd2
  have lms : ms.length = xs.length := by rw [← hms, List.length_map]
  have nms : ∀ f : Int × Int → Int, ms.map f ≠ [] := fun f e => by
    have := List.map_eq_nil_iff.mp e
    rw [this] at lms
    simp at lms
    omega
  have lms8 : ms.length ≤ 8 := by omega
  wtm_at "go"
  refine i_lcLU ?_
  wtm_at "go"
  refine lc_pr (ms := ms) (by wtm_at "dp") lms8 (·.1) 0 (fun _ => rfl) (fun _ => rfl) (fun _ => rfl) (fun p3 H4 hp3 e4 hd3 => ?_)
  wtm_at "go"
  refine i_max hd3 (nms _) ?_
  wtm_at "go"
  refine i_lcLU ?_
  wtm_at "go"
  refine lc_pr (ms := ms) (by wtm_at "dp") lms8 (·.1) 0 (fun _ => rfl) (fun _ => rfl) (fun _ => rfl) (fun p4 H5 hp4 e5 hd4 => ?_)
  wtm_at "go"
  refine i_min hd4 (nms _) ?_
  wtm_at "go"
  refine i_lcLU ?_
  wtm_at "go"
  refine lc_pr (ms := ms) (by wtm_at "dp") lms8 (·.2) 1 (fun _ => rfl) (fun _ => rfl) (fun _ => rfl) (fun p5 H6 hp5 e6 hd5 => ?_)
  wtm_at "go"
  refine i_max hd5 (nms _) ?_
  wtm_at "go"
  refine i_lcLU ?_
  wtm_at "go"
  refine lc_pr (ms := ms) (by wtm_at "dp") lms8 (·.2) 1 (fun _ => rfl) (fun _ => rfl) (fun _ => rfl) (fun p6 H7 hp6 e7 hd6 => ?_)
  wtm_at "go"
  refine i_min hd6 (nms _) ?_
  wtm_at "go"
  all_goals refine i_sortM (i_lstRg (i_rg1 ?_))
  all_goals wtm_at "go"
  all_goals rw [List.length_map]
  all_goals refine ⟨RgOk.of_le (Int.le_refl 0) (by omega) (by omega) (by omega), fun pr hpr => ?_⟩
  all_goals rw [rg_ints]
  all_goals have e07 : Ex H H7 := (((((e2.trans e3).trans e4).trans e5).trans e6).trans e7)
  all_goals have e08 : Ex H (upd H7 pr (.lst (((List.range xs.length).map fun i : Nat => (i : Int)).map V.int))) := e07.trans (Ex.new hpr)
  all_goals refine ⟨hT.ext e08, pr, p2, (List.range xs.length).map fun i : Nat => (i : Int), _, ms, rfl, Evl.sq_of upd_same, rfl, rfl, (by first | exact .inl rfl | exact .inr rfl), dpMono ((((e4.trans e5).trans e6).trans e7).trans (Ex.new hpr)) hd2, fun m hm => ?_, by rw [List.length_map, List.length_range]; omega, by omega, fun p9 ns' H9 hperm hp9 e9 hT9 => ?_⟩
  any_goals (obtain ⟨i, hi, rfl⟩ := List.mem_map.mp hm; have := List.mem_range.mp hi; exact ⟨by omega, by omega⟩)
  all_goals obtain ⟨is, his, rfl⟩ := perm_map_inv hperm
  all_goals refine i_nameN (by wtm_at "sset") ?_
  all_goals refine halves_tail (dpN ((exN e08).trans e9) h2) l2 l8 his hp9 ?_
  all_goals exact fun v G ys zs g1 g2 g3 g4 g5 => q v G ys zs g1 g2 g3 (((exN e08).trans e9).trans (exN g4)) (hT9.ext g4) g5
theorem use_halves {T : List (Addr × Str)} {n : Nat} {xs : List (Ro n)} (h2 : Dp K H v2 (.list (xs.map (roD n)))) (l2 : 2 ≤ xs.length) (l8 : xs.length ≤ 8) (hT : Tabs T H)
    (q : ∀ v H2 (ys zs : List (Ro n)), (ys ++ zs).Perm xs → ys.length = xs.length / 2 → zs.length = xs.length - xs.length / 2 → ExtN H H2 → Tabs T H2 → Dp K H2 v (.list [foD n (mkR n ys), foD n (mkR n zs)]) → Q v H2) : sp_halves K T [.str (wdO n), v2] H Q E := ⟨_, _, rfl, n, xs, rfl, h2, l2, l8, hT, q⟩
end
end Wb

namespace Wb
open PySem PySem.Spec PyProof.Rows L2 StX
open Evl (Ex Ex.refl Ex.trans Ex.new)
open LamX (Tabs TabS TabB ExtN)
open LmK (dpN dpNA exN tabsE sqlN sqtN)
local macro_rules | `(tactic| wtm_at "dp") => `(tactic| first | with_reducible assumption | with_reducible exact Dp.int _ | with_reducible exact Dp.bl _ | with_reducible exact Dp.str _ | with_reducible exact Dp.non | ((with_reducible refine' dpMono ?dme (by with_reducible assumption)); (case dme => wtm_at "ex")) | ((with_reducible refine' Dp.tup (Evl.st_of ?dph) ?dpa); (case dph => wtm_at "hs"); (case dpa => wtm_at "dpa")) | ((with_reducible refine' Dp.lst (Evl.sq_of ?dph) ?dpa); (case dph => wtm_at "hs"); (case dpa => wtm_at "dpa")))
local macro_rules | `(tactic| wtm_at "dpa") => `(tactic| first | with_reducible exact DpAll.nil | ((with_reducible refine' DpAll.cons ?dp1 ?dp2); (case dp1 => wtm_at "dp"); (case dp2 => wtm_at "dpa")) | with_reducible assumption | ((with_reducible refine' dpMonoA ?dme (by with_reducible assumption)); (case dme => wtm_at "ex")))
local macro_rules | `(tactic| wtm_at "sz") => `(tactic| first | with_reducible assumption | ((with_reducible refine' sz_mul ?sz1 ?sz2); (case sz1 => wtm_at "sz"); (case sz2 => wtm_at "sz")) | ((with_reducible refine' sz_add ?sz1 ?sz2); (case sz1 => wtm_at "sz"); (case sz2 => wtm_at "sz")) | ((with_reducible refine' sz_sub ?sz1 ?sz2); (case sz1 => wtm_at "sz"); (case sz2 => wtm_at "sz")) | ((with_reducible refine' sz_neg ?sz1); (case sz1 => wtm_at "sz")) | ((with_reducible refine' sz_div ?sz1); (case sz1 => wtm_at "sz")) | ((with_reducible refine' sz_fdiv ?sz1); (case sz1 => wtm_at "sz")) | exact sz_lit (by decide) | wtm_at "sz2")
local macro_rules | `(tactic| wtm_at "szb") => `(tactic| first | with_reducible assumption | ((with_reducible refine' sz_mono ?szb1 ?szb2); (case szb1 => wtm_at "sz"); (case szb2 => decide)))
local macro_rules | `(tactic| wtm_at "nz") => `(tactic| first | assumption | decide | omega)
local macro_rules | `(tactic| wtm_at "shaped") => `(tactic| first | rfl | decide)
local macro_rules | `(tactic| wtm_at "sset") => `(tactic| ((dsimp only [L2.wipe, List.set, List.set_cons_zero, List.set_cons_succ]) <;> exact rfl))
local macro_rules | `(tactic| wtm_at "nrm") => `(tactic| dsimp only [L2.start, L2.wipe, List.set, List.append, List.map, List.map_cons, List.map_nil, List.length_cons, List.length_nil, Nat.reduceAdd, Nat.reduceSub, List.reduceReplicate, List.replicate, List.cons_append, List.nil_append, List.set_cons_zero, List.set_cons_succ])
local macro_rules | `(tactic| wtm_at "st") => `(tactic| first
  | ((with_reducible refine' i_var (v := ?u0) ?u1 ?uq); (case u1 => exact rfl))
  | ((with_reducible refine' i_nameN ?u0 ?uq); (case u0 => wtm_at "sset"))
  | (with_reducible refine' i_op ?uq)
  | (with_reducible refine' i_c ?uq)
  | (with_reducible refine' i_I0 ?uq)
  | ((with_reducible refine' i_ixTI (i := ?u0) ?u1 ?u2 ?u3 ?uq); (case u1 => wtm_at "dp"); (case u2 => wtm_at "ex"); (case u3 => exact rfl))
  | ((with_reducible refine' i_ixT (d := ?u0) ?u1 ?u2 ?u3 (fun xu hxu => ?uq)); (case u1 => wtm_at "dp"); (case u2 => wtm_at "ex"); (case u3 => exact rfl))
  | ((with_reducible refine' i_mul ?u0 ?u1 ?u2 ?uq); (case u0 => wtm_at "sz"); (case u1 => wtm_at "sz"); (case u2 => first | decide | omega))
  | (with_reducible refine' i_seq ?uq)
  | (with_reducible refine' i_asg ?uq)
  | (with_reducible refine' i_ret ?uq)
  | (with_reducible refine' i_ifs ?uq)
  | (with_reducible refine' i_drop ?uq)
  | (with_reducible refine' i_next ?uq)
  | (with_reducible refine' i_cons ?uq)
  | (with_reducible refine' i_nil ?uq)
  | (with_reducible refine' i_cl ?uq)
  | (with_reducible refine' i_cb ?uq)
  | (with_reducible refine' i_tup ?uq)
  | (with_reducible refine' i_lst ?uq)
  | ((with_reducible refine' i_mkT ?u0 (fun np nH nhe nhp => ?uq)); (case u0 => exact Nat.le_of_ble_eq_true rfl))
  | (with_reducible refine' i_test ?uq)
  | (with_reducible refine' i_B ?uq)
  | (with_reducible refine' i_k ?uq)
  | (with_reducible refine' i_and ?uq)
  | (with_reducible refine' i_or ?uq)
  | (with_reducible refine' i_not ?uq)
  | (with_reducible refine' i_andV ?uq)
  | (with_reducible refine' i_orV ?uq)
  | (with_reducible refine' i_notV ?uq)
  | (with_reducible refine' i_if ?uq)
  | (with_reducible refine' i_un ?uq)
  | (with_reducible refine' i_U ?uq)
  | (with_reducible refine' i_iteT ?uq)
  | (with_reducible refine' i_iteF ?uq)
  | ((with_reducible refine' i_iteTr ?u0 ?uq); (case u0 => first | with_reducible rfl | decide | (simp only [dIsInt, dIsBool, dIsTup, dIsStr, dIsLst, Bool.not_true, Bool.not_false]; done)))
  | ((with_reducible refine' i_iteFr ?u0 ?uq); (case u0 => first | with_reducible rfl | decide | (simp only [dIsInt, dIsBool, dIsTup, dIsStr, dIsLst, Bool.not_true, Bool.not_false]; done)))
  | (with_reducible refine' i_ite (fun hif => ?uqa) (fun hif => ?uqb))
  | (with_reducible refine' i_iteN (fun hif => ?uqa) (fun hif => ?uqb))
  | (with_reducible refine' i_iteBN (fun hif => ?uqa) (fun hif => ?uqb))
  | (with_reducible refine' i_iteB (fun hif => ?uqa) (fun hif => ?uqb))
  | ((with_reducible refine' i_modN ?u0 ?uq); (case u0 => wtm_at "nz"))
  | ((with_reducible refine' i_fdX ?u0 ?u1 ?u2 ?uq); (case u0 => wtm_at "nz"); (case u1 => wtm_at "sz"); (case u2 => first | decide | omega))
  | ((with_reducible refine' i_pow ?u0 ?uq); (case u0 => exact ⟨by decide, by decide +kernel⟩))
  | (with_reducible refine' i_eqI ?uq)
  | (with_reducible refine' i_neI ?uq)
  | (with_reducible refine' i_gcd ?uq)
  | (with_reducible refine' i_qabs ?uq)
  | (with_reducible refine' i_qint ?uq)
  | (with_reducible refine' i_qintB ?uq)
  | (with_reducible refine' i_qmax2 ?uq)
  | (with_reducible refine' i_qmin2 ?uq)
  | (with_reducible refine' i_isB ?uq)
  | (with_reducible refine' i_notB ?uq)
  | (with_reducible refine' i_chain ?uq)
  | (with_reducible refine' i_qisN ?uq)
  | (with_reducible refine' i_qnotN ?uq)
  | (with_reducible refine' i_yes ?uq)
  | (with_reducible refine' i_par ?uq)
  | (with_reducible refine' i_par3 ?uq)
  | ((with_reducible refine' i_par2 ?u0 ?uq); (case u0 => wtm_at "sset"))
  | ((with_reducible refine' i_par33 ?u0 ?uq); (case u0 => wtm_at "sset"))
  | ((with_reducible refine' i_ixLI (i := ?u0) ?u1 ?u2 ?u3 ?uq); (case u1 => wtm_at "dp"); (case u2 => wtm_at "ex"); (case u3 => exact rfl))
  | ((with_reducible refine' i_ixL (d := ?u0) ?u1 ?u2 ?u3 (fun xu hxu => ?uq)); (case u1 => wtm_at "dp"); (case u2 => wtm_at "ex"); (case u3 => exact rfl))
  | ((with_reducible refine' i_qlenT ?u0 ?uq); (case u0 => wtm_at "dp"))
  | ((with_reducible refine' i_qlenL ?u0 ?uq); (case u0 => wtm_at "dp"))
  | ((with_reducible refine' i_gtup ?u0 ?u1 ?u2 (fun gvs gdp => ?uq)); (case u0 => wtm_at "dp"); (case u1 => wtm_at "ex"); (case u2 => exact rfl))
  | ((with_reducible refine' i_glst ?u0 ?u1 ?u2 (fun gvs gdp => ?uq)); (case u0 => wtm_at "dp"); (case u1 => wtm_at "ex"); (case u2 => exact rfl))
  | ((with_reducible refine' i_gconsI ?u0 (fun gr gh => ?uq)); (case u0 => with_reducible assumption))
  | ((with_reducible refine' i_gconsA ?u0 (fun gv gr gh1 gh2 => ?uq)); (case u0 => with_reducible assumption))
  | ((with_reducible refine' i_gnilA ?u0 ?uq); (case u0 => with_reducible assumption))
  | ((with_reducible refine' i_isiI ?u0 ?uq); (case u0 => wtm_at "dp"))
  | ((with_reducible refine' i_isiB ?u0 ?uq); (case u0 => wtm_at "dp"))
  | ((with_reducible refine' i_isiT ?u0 ?uq); (case u0 => wtm_at "dp"))
  | ((with_reducible refine' i_isiS ?u0 ?uq); (case u0 => wtm_at "dp"))
  | ((with_reducible refine' i_isiL ?u0 ?uq); (case u0 => wtm_at "dp"))
  | ((with_reducible refine' i_eqD ?u0 ?u1 ?u2 ?u3 ?uq); (case u0 => wtm_at "dp"); (case u1 => wtm_at "dp"); (case u2 => wtm_at "shaped"); (case u3 => wtm_at "shaped"))
  | ((with_reducible refine' i_neD ?u0 ?u1 ?u2 ?u3 ?uq); (case u0 => wtm_at "dp"); (case u1 => wtm_at "dp"); (case u2 => wtm_at "shaped"); (case u3 => wtm_at "shaped"))
  | wtm_at "st2"
  | wtm_at "use")
local macro_rules | `(tactic| wtm_at "go") => `(tactic| repeat' (wtm_at "st"))
local macro_rules | `(tactic| wtm_at "go0") => `(tactic| ((try dsimp only [L2.cxOf, L2.Cx.nox, L2.Cx.wish, L2.Cx.tr, L2.Cx.blk]); (try wtm_at "nrm"); wtm_at "go"))
local macro_rules | `(tactic| wtm_at "fin") => `(tactic| ((try dsimp only); first | with_reducible assumption | assumption | ((with_reducible refine' Ret.use ?rur ?rue ?rud); (case rur => with_reducible assumption); (case rue => wtm_at "ex"); (case rud => wtm_at "dp"))))
local macro_rules | `(tactic| wtm_at "exh") => `(tactic| first | with_reducible assumption | with_reducible exact Ex.refl _ | with_reducible exact ex_hid | ((with_reducible refine' Ex.trans ?exe (by with_reducible assumption)); (case exe => wtm_at "exh")) | ((with_reducible refine' Ex.trans ?exe (hid_ex (by with_reducible assumption))); (case exe => wtm_at "exh")))
local macro_rules | `(tactic| wtm_at "ex") => `(tactic| first | with_reducible assumption | with_reducible exact Ex.refl _ | with_reducible exact ex_hid | ((with_reducible refine' Ex.trans ?exe (by with_reducible assumption)); (case exe => wtm_at "ex")) | ((with_reducible refine' Ex.trans ?exe (hid_ex (by with_reducible assumption))); (case exe => wtm_at "ex")) | ((with_reducible refine' Ex.trans ?exe ex_hid); (case exe => wtm_at "exh")))
local macro_rules | `(tactic| wtm_at "bag") => `(tactic| first | with_reducible assumption | ((with_reducible refine' Bag.mono ?bgm (by with_reducible assumption)); (case bgm => wtm_at "bag")))
local macro_rules | `(tactic| wtm_at "hs") => `(tactic| first | with_reducible assumption | ((with_reducible refine' hid_tup ?hb ?hp); (case hp => with_reducible assumption); (case hb => wtm_at "bag")) | ((with_reducible refine' hid_new ?hb ?hn ?hp); (case hp => with_reducible assumption); (case hn => with_reducible assumption); (case hb => wtm_at "bag")) | ((with_reducible refine' ex_at ?exe (by with_reducible assumption)); (case exe => wtm_at "ex")))
local macro_rules | `(tactic| wtm_at "st2") => `(tactic| first
  | ((with_reducible refine' i_mulC ?u0 ?uq); (case u0 => first | exact cmul_l (by decide) | exact cmul_r (by decide)))
  | ((with_reducible refine' i_ixLr (v := ?u0) ?u1 ?u2 ?uq); (case u1 => with_reducible assumption); (case u2 => exact rfl))
  | (with_reducible refine' i_sub ?uq)
  | ((with_reducible refine' i_mkL ?u0 (fun np nH nfr nhe nhp => ?uq)); (case u0 => exact Nat.le_of_ble_eq_true rfl))
  | ((with_reducible refine' i_setL (n := ?u0) ?u1 ?u2 (fun sH sh se => ?uq)); (case u1 => with_reducible assumption); (case u2 => exact rfl))
  | (with_reducible refine' i_sl ?uq)
  | (with_reducible refine' i_nopart ?uq)
  | (with_reducible refine' i_part ?uq)
  | (with_reducible refine' i_part1 ?uq))
local macro_rules | `(tactic| wtm_at "sz2") => `(tactic| ((with_reducible refine' sz_fmod ?sz1 ?sz2); (case sz1 => wtm_at "nz"); (case sz2 => wtm_at "sz")))
local macro_rules | `(tactic| wtm_at "stb") => `(tactic| first
  | ((with_reducible refine' i_mkTB ?u0 ?u1 (fun np nH nhe nhb nhp => ?uq)); (case u0 => exact Nat.le_of_ble_eq_true rfl); (case u1 => wtm_at "bag"))
  | ((with_reducible refine' i_mkLB ?u0 ?u1 (fun np nH nfr nhe nhb nhp => ?uq)); (case u0 => exact Nat.le_of_ble_eq_true rfl); (case u1 => wtm_at "bag"))
  | wtm_at "st")
local macro_rules | `(tactic| wtm_at "gob") => `(tactic| repeat' (wtm_at "stb"))
local macro_rules | `(tactic| wtm_at "gob0") => `(tactic| ((try dsimp only [L2.cxOf, L2.Cx.nox, L2.Cx.wish, L2.Cx.tr, L2.Cx.blk]); (try wtm_at "nrm"); wtm_at "gob"))
local macro_rules | `(tactic| wtm_at "st") => `(tactic| first | ((with_reducible refine' i_ixTS (z := ?u0) ?u1 ?u2 ?u3 ?uq); (case u1 => wtm_at "dp"); (case u2 => wtm_at "ex"); (case u3 => exact rfl)) | fail)
local macro_rules | `(tactic| wtm_at "st2") => `(tactic| first | ((with_reducible refine' i_eqST ?u0 ?uq); (case u0 => with_reducible rfl)) | ((with_reducible refine' i_eqSF ?u0 ?uq); (case u0 => decide +kernel)) | ((with_reducible refine' i_neST ?u0 ?uq); (case u0 => with_reducible rfl)) | ((with_reducible refine' i_neSF ?u0 ?uq); (case u0 => decide +kernel)) | fail)
section
variable {P : Program} {w : World} {K : PySem.W.Frag} {mg : Str → Option Value} {base : Heap} {H H' : Hp} {Q : VK} {E : XK} {v1 v2 v3 v4 v5 : V}
def sp_fitting (K : PySem.W.Frag) (T : List (Addr × Str)) : Sp := A2 fun v1 v2 H Q => ∃ (n : Nat) (xs : List (Ro n)), v1 = .str (wdO n) ∧ Dp K H v2 (.list (xs.map (roD n))) ∧ xs.length ≤ 8 ∧ Tabs T H ∧
  ∀ v H2 (fs : List (Fo n)), Fits n xs fs → ExtN H H2 → Tabs T H2 → Dp K H2 v (.list (fs.map (foD n))) → Q v H2
abbrev s_fitting : Stmt := top 43
theorem sc_fitting : FnScope ["word", "items"] ["word", "items"] (defScope s_fitting) := ⟨rfl, rfl, rfl, by decide +kernel, rfl, by decide +kernel, by decide +kernel⟩
theorem ok_fitting {f : Addr} {fd : FuncData} (F : FnP K "fitting" s_fitting f fd) (g : G mg) {T : List (Addr × Str)} (c_halves : Cl P w K mg base 5 "halves" (sp_halves K T)) : FnOk P w K mg base CX0 6 f fd ["word", "items"] (sp_fitting K T) := by
  have nd := sc_fitting.nd
  refine F.ok sc_fitting (fun vs H Q E h => h.len) (fun cdv A outer s H vs Q E hr h => ?_)
  obtain ⟨v1, v2, rfl, h⟩ := h
  refine ⟨_, PSs.nox (pss_one (ps_ret (pe_ifExp (pt_cmpR op_le (pe_callB call_qlen (by rfl) g.f_len boot_len (pa_cons (pv 1) pa_nil)) (pe_glob (v := .int 4) (by rfl) g.c_MOST.choose_spec ⟨_, rfl⟩) (nomark _)) (pe_lst (pa_cons (pe_tup (pa_cons (pv 0) (pa_cons (pe_callTy call_qtuple (by rfl) g.f_tuple boot_tuple (pa_cons (pv 1) pa_nil)) pa_nil))) pa_nil)) (pc c_halves hr (by first | decide | omega) (by rfl) (pa_cons (pv 0) (pa_cons (pv 1) pa_nil)))))), ?_⟩
  obtain ⟨n, xs, rfl, h2, h8, hT, q⟩ := h
  wtm_at "go0"
  · rename_i hif
    rw [List.length_map] at hif
    refine i_qtupleL h2 (fun p3 H3 e3 hh => ?_)
    obtain ⟨ws, g1, g2⟩ := hh
    wtm_at "go"
    rename_i p4 H4 e4 h4 p5 H5 n5 e5 h5
    refine q _ _ [mkR n xs] (.inl ⟨rfl, by omega⟩) (exN ((e3.trans e4).trans e5)) (hT.ext ((e3.trans e4).trans e5)) (.lst (Evl.sq_of h5) (.cons ?_ .nil))
    rw [foD_R]
    exact .tup (Evl.st_of (e5 _ _ h4)) (.cons (.str _) (.cons (.tup (Evl.st_of (e5 _ _ (e4 _ _ g1))) (dpMonoA (e4.trans e5) g2)) .nil))
  · rename_i hif
    rw [List.length_map] at hif
    exact use_halves h2 (by omega) h8 hT (fun v H2 ys zs p1 p2 p3 e t d => q v H2 [mkR n ys, mkR n zs] (.inr ⟨ys, zs, rfl, p1, by omega, by omega, by omega, by omega⟩) e t d)
theorem use_fitting {T : List (Addr × Str)} {n : Nat} {xs : List (Ro n)} (h2 : Dp K H v2 (.list (xs.map (roD n)))) (h8 : xs.length ≤ 8) (hT : Tabs T H)
    (q : ∀ v H2 (fs : List (Fo n)), Fits n xs fs → ExtN H H2 → Tabs T H2 → Dp K H2 v (.list (fs.map (foD n))) → Q v H2) : sp_fitting K T [.str (wdO n), v2] H Q E := ⟨_, _, rfl, n, xs, rfl, h2, h8, hT, q⟩
def sp_put_into (K : PySem.W.Frag) (T : List (Addr × Str)) (n : Nat) : Sp := A2 fun v1 v2 H Q => ∃ m, m < n ∧ ∃ (xs : List (Ro m)) (e : En), Dp K H v1 (foD m (mkR m xs)) ∧ Dp K H v2 (enD e) ∧ e.2.ok ∧ xs.length ≤ 4 ∧ (0 < m → xs ≠ []) ∧ (∀ x ∈ xs, LowR m x) ∧ Tabs T H ∧
  ∀ v H2 (ys : List (Ro m)) (fs : List (Fo m)), (∀ y ∈ ys, LowR m y) → xs.length ≤ ys.length → 1 ≤ ys.length → ys.length ≤ 5 → (ys.flatMap (roE m)).Perm (xs.flatMap (roE m) ++ [e]) → Fits m ys fs → ExtN H H2 → Tabs T H2 → Dp K H2 v (.list (fs.map (foD m))) → Q v H2
theorem use_put_into {T : List (Addr × Str)} {n m : Nat} {xs : List (Ro m)} {e : En} (hm : m < n) (h1 : Dp K H v1 (foD m (mkR m xs))) (h2 : Dp K H v2 (enD e)) (ho : e.2.ok) (h4 : xs.length ≤ 4) (hne : 0 < m → xs ≠ []) (hx : ∀ x ∈ xs, LowR m x) (hT : Tabs T H)
    (q : ∀ v H2 (ys : List (Ro m)) (fs : List (Fo m)), (∀ y ∈ ys, LowR m y) → xs.length ≤ ys.length → 1 ≤ ys.length → ys.length ≤ 5 → (ys.flatMap (roE m)).Perm (xs.flatMap (roE m) ++ [e]) → Fits m ys fs → ExtN H H2 → Tabs T H2 → Dp K H2 v (.list (fs.map (foD m))) → Q v H2) :
    sp_put_into K T n [v1, v2] H Q E := ⟨_, _, rfl, m, hm, xs, e, h1, h2, ho, h4, hne, hx, hT, q⟩
/-- the first place of a member -/
theorem first_at : ∀ {ns : List Int} {m : Int}, m ∈ ns → ∃ j : Nat, ns[j]? = some m ∧ ∀ (k : Nat) (z : Int), k < j → ns[k]? = some z → z ≠ m
  | [], _, h => by cases h
  | n :: ns, m, h => by
    by_cases e : n = m
    · exact ⟨0, by rw [e]; rfl, fun k z hk => absurd hk (Nat.not_lt_zero k)⟩
    · obtain ⟨j, h1, h2⟩ := first_at (ns := ns) ((List.mem_cons.mp h).resolve_left fun z => e z.symm)
      refine ⟨j + 1, h1, fun k z hk hz => ?_⟩
      cases k with
      | zero =>
        have : n = z := Option.some.inj hz
        rw [← this]
        exact e
      | succ k => exact h2 k z (by omega) hz
theorem i_indexI {ns : List Int} {m : Int} {v : V} (h : Dp K H v (.list (ns.map PyData.int))) (hm : m ∈ ns) (q : ∀ j : Nat, j < ns.length → Q (.int (j : Int)) H) : rIndex K v [.int m] H Q := by
  obtain ⟨a, us, rfl, hs, ha⟩ := dpLst h
  rw [dpInts ha] at hs
  obtain ⟨j, h1, h2⟩ := first_at hm
  have hj : j < ns.length := (List.getElem?_eq_some_iff.mp h1).1
  refine ⟨a, ns.map V.int, .int m, j, .int m, rfl, rfl, hs, rfl, ?_, by rw [List.getElem?_map, h1]; rfl, by show (m == m) = true; exact beq_self_eq_true m, fun k z' hk hz => ?_, q j hj⟩
  · rw [List.all_map]
    exact List.all_eq_true.mpr fun _ _ => rfl
  · rw [List.getElem?_map] at hz
    obtain ⟨z, hz1, rfl⟩ := Option.map_eq_some_iff.mp hz
    show (z == m) = false
    exact beq_eq_false_iff_ne.mpr (h2 k z hk hz1)
theorem i_slTo {v : V} {ds : List PyData} {k : Nat} (h : Dp K H v (.tuple ds)) (q : ∀ p H2, Ex H H2 → Dp K H2 (.ref p) (.tuple (ds.take k)) → Q (.ref p) H2) : rSlA K v none (some (k : Int)) H Q := by
  obtain ⟨a, us, rfl, hs, ha⟩ := dpTup h
  refine ⟨a, us, rfl, hs, fun z => ?_, fun _ p hp => ?_⟩
  · have z2 := z.2
    rw [HT.sIx_nat] at z2
    have hk : ds.length ≤ k := by rw [← dpLen ha]; omega
    refine q a H (Ex.refl _) ?_
    rw [List.take_of_length_le hk]
    exact .tup hs ha
  · rw [cut_to]
    exact q p _ (ex_upd hp) (.tup (.inl (.inl upd_same)) (dpTakeN (dpMonoA (ex_upd hp) ha)))
theorem i_slFrom {v : V} {ds : List PyData} {k : Nat} (h : Dp K H v (.tuple ds)) (q : ∀ p H2, Ex H H2 → Dp K H2 (.ref p) (.tuple (ds.drop k)) → Q (.ref p) H2) : rSlA K v (some (k : Int)) none H Q := by
  obtain ⟨a, us, rfl, hs, ha⟩ := dpTup h
  refine ⟨a, us, rfl, hs, fun z => ?_, fun _ p hp => ?_⟩
  · have z1 := z.1
    rw [HT.sIx_nat] at z1
    have hl := dpLen ha
    have hk : k = 0 ∨ ds = [] := by
      by_cases h0 : k = 0
      · exact .inl h0
      · exact .inr (List.eq_nil_of_length_eq_zero (by omega))
    refine q a H (Ex.refl _) ?_
    have e : ds.drop k = ds := by
      rcases hk with rfl | rfl
      · rfl
      · exact List.drop_nil
    rw [e]
    exact .tup hs ha
  · rw [cut_from]
    exact q p _ (ex_upd hp) (.tup (.inl (.inl upd_same)) (dpDropN (dpMonoA (ex_upd hp) ha)))
/-- a star of a tuple, of a list -/
theorem starT {y : V} {ds : List PyData} {P : List V → Prop} (h : Dp K H y (.tuple ds)) (q : ∀ us, DpAll K H us ds → P us) : ∃ a xs, y = V.ref a ∧ (SqT K H a xs ∨ SqL K H a xs) ∧ P xs := by
  obtain ⟨a, us, rfl, hs, ha⟩ := dpTup h
  exact ⟨a, us, rfl, .inl hs, q us ha⟩
theorem starL {y : V} {ds : List PyData} {P : List V → Prop} (h : Dp K H y (.list ds)) (q : ∀ us, DpAll K H us ds → P us) : ∃ a xs, y = V.ref a ∧ (SqT K H a xs ∨ SqL K H a xs) ∧ P xs := by
  obtain ⟨a, us, rfl, hs, ha⟩ := dpLst h
  exact ⟨a, us, rfl, .inr hs, q us ha⟩
/-- a leaf's row with an entry more -/
def put0 (xs : List (Ro 0)) (e : En) : List (Ro 0) := List.append xs (List.cons e List.nil)
theorem put0_len (xs : List (Ro 0)) (e : En) : (put0 xs e).length = xs.length + 1 := List.length_append
theorem put0_mem {xs : List (Ro 0)} {e : En} {y : Ro 0} (h : y ∈ put0 xs e) : y ∈ xs ∨ y = e := by
  rcases List.mem_append.mp h with h | h
  · exact .inl h
  · exact .inr (List.mem_singleton.mp h)
theorem put0_ents (xs : List (Ro 0)) (e : En) : (put0 xs e).flatMap (roE 0) = xs.flatMap (roE 0) ++ [e] := List.flatMap_append
theorem put0_dp {xs : List (Ro 0)} {e : En} {us : List V} {v : V} (h : DpAll K H us (xs.map (roD 0))) (k : Dp K H v (enD e)) : DpAll K H (us ++ [v]) ((put0 xs e).map (roD 0)) := by
  have : (put0 xs e).map (roD 0) = xs.map (roD 0) ++ [enD e] := List.map_append
  rw [this]
  exact dpAllApp h (.cons k .nil)
/-- a row with one form replaced by others -/
def mid3 {m : Nat} (j : Nat) (xs fs : List (Fo m)) : List (Fo m) := xs.take j ++ fs ++ xs.drop (j + 1)
theorem mid3_len {m : Nat} {j : Nat} {xs fs : List (Fo m)} (h : j < xs.length) : (mid3 j xs fs).length = xs.length - 1 + fs.length := by
  unfold mid3
  rw [List.length_append, List.length_append, List.length_take, List.length_drop]
  omega
theorem mid3_b {m : Nat} {j : Nat} {xs fs : List (Fo m)} (h : j < xs.length) (hf : fs.length = 1 ∨ fs.length = 2) (h4 : xs.length ≤ 4) : xs.length ≤ (mid3 j xs fs).length ∧ 1 ≤ (mid3 j xs fs).length ∧ (mid3 j xs fs).length ≤ 5 ∧ (mid3 j xs fs).length ≤ 8 := by
  have := mid3_len (fs := fs) h
  omega
theorem mid3_map {m : Nat} {β : Type} (f : Fo m → β) {j : Nat} {xs fs : List (Fo m)} : (mid3 j xs fs).map f = (xs.map f).take j ++ (fs.map f ++ (xs.map f).drop (j + 1)) := by
  unfold mid3
  rw [List.map_append, List.map_append, List.append_assoc, List.map_take, List.map_drop]
theorem mid3_mem {m : Nat} {j : Nat} {xs fs : List (Fo m)} {y : Fo m} (h : y ∈ mid3 j xs fs) : y ∈ xs ∨ y ∈ fs := by
  rcases List.mem_append.mp h with h | h
  · rcases List.mem_append.mp h with h | h
    · exact .inl (List.mem_of_mem_take h)
    · exact .inr h
  · exact .inl (List.mem_of_mem_drop h)
theorem mid3_dp {m : Nat} {j : Nat} {xs fs : List (Fo m)} {us1 us2 us3 : List V} (h1 : DpAll K H us1 ((xs.map fun t => brD m (brO t)).take j)) (h2 : DpAll K H us2 (fs.map fun t => brD m (brO t))) (h3 : DpAll K H us3 ((xs.map fun t => brD m (brO t)).drop (j + 1))) :
    DpAll K H (us1 ++ (us2 ++ (us3 ++ []))) ((mid3 j xs fs).map fun t => brD m (brO t)) := by
  rw [mid3_map, List.append_nil]
  exact dpAllApp h1 (dpAllApp h2 h3)
theorem put_perm {m : Nat} {xs ys : List (Ro m)} {fs : List (Fo m)} {ts : List (Fo m)} {j : Nat} {x : Fo m} {e : En} (hj : ts[j]? = some x) (hx : x = mkR m xs) (hp : (ys.flatMap (roE m)).Perm (xs.flatMap (roE m) ++ [e])) (hf : Fits m ys fs) :
    ((mid3 j ts fs).flatMap (ents m)).Perm (ts.flatMap (ents m) ++ [e]) := by
  unfold mid3
  have h1 : ts = ts.take j ++ x :: ts.drop (j + 1) := by
    have hl : j < ts.length := (List.getElem?_eq_some_iff.mp hj).1
    have hg : ts[j] = x := (List.getElem?_eq_some_iff.mp hj).2
    rw [← hg, List.getElem_cons_drop, List.take_append_drop]
  have h2 : (fs.flatMap (ents m)).Perm (ents m x ++ [e]) := by
    rw [hx, ents_R]
    exact hf.ents.trans hp
  have h3 : ts.flatMap (ents m) = (ts.take j).flatMap (ents m) ++ (ents m x ++ (ts.drop (j + 1)).flatMap (ents m)) := by
    conv => lhs; rw [h1]
    rw [List.flatMap_append, List.flatMap_cons]
  rw [h3, List.flatMap_append, List.flatMap_append, List.append_assoc, List.append_assoc, List.append_assoc]
  refine List.Perm.append_left _ ?_
  refine (h2.append_right _).trans ?_
  rw [List.append_assoc]
  exact List.Perm.append_left _ List.perm_append_comm
theorem tyL {v : V} {ds : List PyData} {R : Prop} (h : Dp K H v (.list ds)) (q : R) : tyV K "list" v H ∧ R := by
  obtain ⟨a, us, rfl, hs, _⟩ := dpLst h
  exact ⟨.inl ⟨rfl, us, hs⟩, q⟩
theorem i_ixTN {v : V} {ds : List PyData} {j : Nat} {d : PyData} (h : Dp K H v (.tuple ds)) (hj : ds[j]? = some d) (q : ∀ u, Dp K H u d → Q u H) : rIxT K v (.int (j : Int)) H Q := by
  obtain ⟨a, us, rfl, hs, ha⟩ := dpTup h
  obtain ⟨u, hu, hd⟩ := dpGet ha hj
  exact ⟨a, us, (j : Int), u, rfl, rfl, hs, atI_nat hu, q u hd⟩
abbrev s_put_into : Stmt := top 42
theorem sc_put_into : FnScope ["form", "entry", "costs", "at", "grown", "box", "within", "one"] ["form", "entry"] (defScope s_put_into) := ⟨rfl, rfl, rfl, by decide +kernel, rfl, by decide +kernel, by decide +kernel⟩
theorem ok_put_into {f : Addr} {fd : FuncData} (F : FnP K "put_into" s_put_into f fd) (g : G mg) {T : List (Addr × Str)} {n : Nat} (c_fitting : Cl P w K mg base 6 "fitting" (sp_fitting K T)) (c_grows_by : Cl P w K mg base 2 "grows_by" (sp_grows_by K)) (c_branch_of : Cl P w K mg base 2 "branch_of" (sp_branch_of K)) (c_put_into : Cl P w K mg base (n + 6) "put_into" (sp_put_into K T n)) : FnOk P w K mg base CX0 (n + 7) f fd ["form", "entry"] (sp_put_into K T (n + 1)) := by
  have nd := sc_put_into.nd
  refine F.ok sc_put_into (fun vs H Q E h => h.len) (fun cdv A outer s H vs Q E hr h => ?_)
  obtain ⟨v1, v2, rfl, h⟩ := h
  refine ⟨_, PSs.nox (pss_cons (ps_if (pt_cmpR op_eq (pe_ix ix_tup (pv 0) pe_int (fun _ _ => rfl)) (pe_glob (v := .str "leaf") (by rfl) g.c_LEAF.choose_spec ⟨_, rfl⟩) (nomark _)) (pss_one (ps_ret (pc c_fitting hr (by first | decide | omega) (by rfl) (pa_cons (pe_glob (v := .str "leaf") (by rfl) g.c_LEAF.choose_spec ⟨_, rfl⟩) (pa_cons (pe_lst (show PA _ _ (tStar K _ _) from pa_star (pe_ix ix_tup (pv 0) pe_int (fun _ _ => rfl)) (pa_cons (pv 1) pa_nil))) pa_nil))))) pss_nil) (pss_cons (ps_setLc (i := 2) (own := [("box", 5), ("within", 6)]) (g := _) (by rfl) nd rfl rfl (sw_true rfl rfl rfl (by decide +kernel)) (pi_tup (pe_ix ix_tup (pv 0) pe_int (fun _ _ => rfl))) (blkOk_by (N := ["form", "entry", "costs", "at", "grown", "box", "within", "one"]) (sc := defScope s_put_into) (own := [("box", 5), ("within", 6)]) (by decide +kernel)) (fun _ _ _ _ _ => (show PG _ _ (gTup K 2 _) from (pg_tup (by rfl) (pgs_cons (pg_name (i := 5) nd rfl (Or.inl rfl)) (pgs_cons (pg_name (i := 6) nd rfl (Or.inl rfl)) pgs_nil))))) (fun _ _ _ _ _ => pts_nil) (fun _ _ _ _ _ => (pc c_grows_by hr (by first | decide | omega) (by rfl) (pa_cons (pv 5) (pa_cons (pe_ix (show IxR _ (rIxT K) from ix_tup) (pv 1) pe_int (fun _ _ => rfl)) pa_nil))))) (pss_cons (ps_set (i := 3) nd rfl (Or.inl rfl) (pe_bm PySem.F.plainAttrs_list PySem.F.slot_list_index PySem.F.type_list_index mt_index (pv 2) (pa_cons (pe_callB (cr_min rfl) (by rfl) g.f_min boot_min (pa_cons (pv 2) pa_nil)) pa_nil))) (pss_cons (ps_setLc (i := 4) (own := [("one", 7)]) (g := gName 7) (by rfl) nd rfl rfl (sw_true rfl rfl rfl (by decide +kernel)) (pi_list (pc c_put_into hr (by first | decide | omega) (by rfl) (pa_cons (pe_ix ix_tup (pe_ix ix_tup (pe_ix ix_tup (pv 0) pe_int (fun _ _ => rfl)) (pv 3) (fun _ _ => rfl)) pe_int (fun _ _ => rfl)) (pa_cons (pv 1) pa_nil)))) (blkOk_by (N := ["form", "entry", "costs", "at", "grown", "box", "within", "one"]) (sc := defScope s_put_into) (own := [("one", 7)]) (by decide +kernel)) (fun _ _ _ _ _ => (pg_name (i := 7) nd rfl (Or.inl rfl))) (fun _ _ _ _ _ => pts_nil) (fun _ _ _ _ _ => (pc c_branch_of hr (by first | decide | omega) (by rfl) (pa_cons (pv 7) pa_nil)))) (pss_one (ps_ret (pc c_fitting hr (by first | decide | omega) (by rfl) (pa_cons (pe_glob (v := .str "node") (by rfl) g.c_NODE.choose_spec ⟨_, rfl⟩) (pa_cons (pe_lst (show PA _ _ (tStar K _ _) from pa_star (pe_slice sl_tupA (pe_ix ix_tup (pv 0) pe_int (fun _ _ => rfl)) po_none (po_some (pv 3))) (show PA _ _ (tStar K _ _) from pa_star (pv 4) (show PA _ _ (tStar K _ _) from pa_star (pe_slice sl_tupA (pe_ix ix_tup (pv 0) pe_int (fun _ _ => rfl)) (po_some (pe_op op_add (pv 3) pe_int)) po_none) pa_nil)))) pa_nil))))))))), ?_⟩
  obtain ⟨m, hm, xs, e, h1, h2, ho, h4, hne, hx, hT, q⟩ := h
  cases m with
  | zero =>
    rw [foD_R] at h1
    have h1 : Dp K H v1 (.tuple [.str "leaf", .tuple (xs.map (roD 0))]) := h1
    wtm_at "go0"
    refine i_tstar ?_
    wtm_at "go"
    rename_i xu hxu
    refine starT hxu (fun us hus => ?_)
    wtm_at "go"
    refine i_mkL (by rw [List.length_append, dpLen hus, List.length_map]; exact Nat.le_trans (Nat.add_le_add_right h4 _) (Nat.le_of_ble_eq_true rfl)) (fun p3 H3 n3 e3 h3 => ?_)
    refine use_fitting (n := 0) (xs := put0 xs e) (.lst (Evl.sq_of h3) ?_) (by rw [put0_len]; exact Nat.le_trans (Nat.add_le_add_right h4 _) (Nat.le_of_ble_eq_true rfl)) (hT.ext e3) (fun v H4 fs hf e4 t4 d4 => ?_)
    · exact put0_dp (dpMonoA e3 hus) (dpMono e3 h2)
    · refine q v H4 (put0 xs e) fs (fun y hy => ?_) ?_ ?_ ?_ ?_ hf ((exN e3).trans e4) t4 d4
      · rcases put0_mem hy with hy | rfl
        · exact hx y hy
        · exact ho
      · rw [put0_len]
        exact Nat.le_add_right _ _
      · rw [put0_len]
        exact Nat.le_add_left _ _
      · rw [put0_len]
        exact Nat.add_le_add_right h4 _
      · exact List.Perm.of_eq (put0_ents xs e)
  | succ m =>
    rw [foD_R] at h1
    have h1 : Dp K H v1 (.tuple [.str "node", .tuple (xs.map (roD (m + 1)))]) := h1
    have hne : xs ≠ [] := hne (Nat.succ_pos m)
    have hx : ∀ x ∈ (xs : List (Fo m)), Low m x := hx
    obtain ⟨en, eb⟩ := e
    have h2' : Dp K H v2 (.tuple [.int en, bxD eb]) := h2
    wtm_at "go0"
    refine i_lcTU ?_
    wtm_at "go"
    rename_i xu hxu
    refine i_lcGT (enc := roD (m + 1)) (xs := xs) (fun _ => true) (fun x => .int (grw (roB (m + 1) x) eb)) hxu (by omega) (fun _ _ => rfl) (fun u x H2 R Y e2 hmx hu hn hy => ?_) (fun p3 H3 hp3 e3 hd3 => ?_)
    · have hu : Dp K H2 u (.tuple [bxD (roB (m + 1) x), foD m x]) := hu
      wtm_at "nrm"
      wtm_at "go"
      refine ⟨rfl, ?_⟩
      wtm_at "go"
      refine use_grows_by (by wtm_at "dp") (by wtm_at "dp") (fun H4 e4 => ?_)
      exact hy rfl _ _ e4 (Dp.int _)
    rw [filt_true] at hd3
    generalize hns : xs.map (fun x => grw (roB (m + 1) x) eb) = ns
    have hd3 : Dp K H3 (.ref p3) (.list (ns.map PyData.int)) := by
      rw [← hns, List.map_map]
      exact hd3
    have nl : ns.length = xs.length := by rw [← hns, List.length_map]
    have nn : ns ≠ [] := fun e => by
      rw [e] at nl
      exact hne (List.eq_nil_of_length_eq_zero nl.symm)
    wtm_at "go"
    refine i_bmA ?_
    wtm_at "go"
    refine tyL hd3 ?_
    wtm_at "go"
    refine i_min hd3 nn ?_
    wtm_at "go"
    refine i_indexI hd3 (mn_mem nn).1 (fun j hj => ?_)
    have hjx : j < xs.length := by omega
    obtain ⟨x, hxj⟩ : ∃ x, xs[j]? = some x := ⟨xs[j], List.getElem?_eq_getElem hjx⟩
    have hlow : Low m x := hx x (List.mem_of_getElem? hxj)
    obtain ⟨zs, ez, hz⟩ := right_inv m x hlow.1
    have hz2 := hlow.2
    rw [ez, sz_R] at hz2
    wtm_at "go"
    refine i_lcLU ?_
    wtm_at "go"
    refine i_ixTN (ds := xs.map (roD (m + 1))) (d := roD (m + 1) x) (by wtm_at "dp") (by rw [List.getElem?_map, hxj]; rfl) (fun w hw => ?_)
    have hw : Dp K H3 w (.tuple [bxD (roB (m + 1) x), foD m x]) := hw
    wtm_at "go"
    rename_i w2 hw2
    rw [ez] at hw2
    refine use_put_into (m := m) (xs := zs) (e := (en, eb)) (by omega) hw2 (dpMono e3 h2) ho hz2.2 (fun _ e => by rw [e] at hz2; simp at hz2) hz (hT.ext e3) (fun v4 H4 ys fs g1 g2 g3 g4 g5 hf e4 t4 d4 => ?_)
    have e04 : ExtN H H4 := (exN e3).trans e4
    have hxu4 := dpN e04 hxu
    have hlf : ∀ f ∈ fs, Low m f := hf.low g1 (by omega)
    have hln := hf.len
    refine i_lcGL (enc := foD m) (xs := fs) (fun _ => true) (fun t => brD m (brO t)) d4 (by omega) (fun t _ => noL_br m _) (fun u t H5 R Y e5 hmx hu hn hy => ?_) (fun p5 H5 hp5 e5 hd5 => ?_)
    · refine ⟨rfl, ?_⟩
      wtm_at "nrm"
      wtm_at "go"
      exact use_branch_low hu (hlf t hmx) (fun v H6 e6 hv => hy rfl _ _ e6 hv)
    rw [filt_true] at hd5
    have h1' : Dp K H5 v1 (.tuple [.str "node", .tuple (xs.map (roD (m + 1)))]) := dpMono e5 (dpN e04 h1)
    wtm_at "go"
    refine i_tstar ?_
    wtm_at "go"
    rename_i xu6 hxu6
    refine i_slTo (ds := xs.map (roD (m + 1))) (k := j) hxu6 (fun p6 H6 e6 hd6 => ?_)
    refine starT hd6 (fun us1 hu1 => ?_)
    refine i_tstar ?_
    wtm_at "go"
    refine starL (dpMono e6 hd5) (fun us2 hu2 => ?_)
    refine i_tstar ?_
    wtm_at "go"
    refine i_slFrom (ds := xs.map (roD (m + 1))) (k := j + 1) (by wtm_at "dp") (fun p7 H7 e7 hd7 => ?_)
    refine starT hd7 (fun us3 hu3 => ?_)
    refine i_nil ?_
    have hall : DpAll K H7 (us1 ++ (us2 ++ (us3 ++ []))) ((mid3 j xs fs).map fun t => brD m (brO t)) := mid3_dp (xs := xs) (dpMonoA e7 hu1) (dpMonoA e7 hu2) hu3
    have hb := mid3_b (xs := xs) (fs := fs) hjx hln h4
    refine i_mkL (Nat.le_trans (Nat.le_of_eq ((dpLen hall).trans (List.length_map _))) (Nat.le_trans hb.2.2.1 (by decide))) (fun p8 H8 n8 e8 h8 => ?_)
    have e58 : Ex H5 H8 := (e6.trans e7).trans e8
    refine use_fitting (n := m + 1) (xs := mid3 j xs fs) (.lst (Evl.sq_of h8) (dpMonoA e8 hall)) hb.2.2.2 (t4.ext (e5.trans e58)) (fun v9 H9 fs9 hf9 e9 t9 d9 => ?_)
    refine q v9 H9 (mid3 j xs fs) fs9 (fun y hy => ?_) hb.1 hb.2.1 hb.2.2.1 (put_perm hxj ez g5 hf) hf9 (((e04.trans (exN e5)).trans (exN e58)).trans e9) t9 d9
    rcases mid3_mem hy with hy | hy
    · exact hx y hy
    · exact hlf y hy
/-- a whole form as the tree's maker makes it -/
def Root (s : Fs) : Prop := Right s.1 s.2 ∧ foSz s.1 s.2 ≤ 4 ∧ (0 < s.1 → 2 ≤ foSz s.1 s.2)
def sp_with_entry (K : PySem.W.Frag) (T : List (Addr × Str)) : Sp := A2 fun v1 v2 H Q => ∃ (s : Fs) (e : En), Dp K H v1 (fsD s) ∧ Dp K H v2 (enD e) ∧ e.2.ok ∧ Root s ∧ s.1 ≤ 3 ∧ Tabs T H ∧
  ∀ v H2 (s2 : Fs), Root s2 → (fsE s2).Perm (fsE s ++ [e]) → ExtN H H2 → Tabs T H2 → Dp K H2 v (fsD s2) → Q v H2
theorem use_with_entry {T : List (Addr × Str)} {s : Fs} {e : En} (h1 : Dp K H v1 (fsD s)) (h2 : Dp K H v2 (enD e)) (ho : e.2.ok) (hr : Root s) (h3 : s.1 ≤ 3) (hT : Tabs T H)
    (q : ∀ v H2 (s2 : Fs), Root s2 → (fsE s2).Perm (fsE s ++ [e]) → ExtN H H2 → Tabs T H2 → Dp K H2 v (fsD s2) → Q v H2) : sp_with_entry K T [v1, v2] H Q E := ⟨_, _, rfl, s, e, h1, h2, ho, hr, h3, hT, q⟩
abbrev s_with_entry : Stmt := top 44
theorem sc_with_entry : FnScope ["form", "entry", "forms", "one"] ["form", "entry"] (defScope s_with_entry) := ⟨rfl, rfl, rfl, by decide +kernel, rfl, by decide +kernel, by decide +kernel⟩
theorem ok_with_entry {f : Addr} {fd : FuncData} (F : FnP K "with_entry" s_with_entry f fd) (g : G mg) {T : List (Addr × Str)} (c_put_into : Cl P w K mg base 10 "put_into" (sp_put_into K T 4)) (c_branch_of : Cl P w K mg base 2 "branch_of" (sp_branch_of K)) : FnOk P w K mg base CX0 11 f fd ["form", "entry"] (sp_with_entry K T) := by
  have nd := sc_with_entry.nd
  refine F.ok sc_with_entry (fun vs H Q E h => h.len) (fun cdv A outer s H vs Q E hr h => ?_)
  obtain ⟨v1, v2, rfl, h⟩ := h
  refine ⟨_, PSs.nox (pss_cons (ps_set (i := 2) nd rfl (Or.inl rfl) (pc c_put_into hr (by first | decide | omega) (by rfl) (pa_cons (pv 0) (pa_cons (pv 1) pa_nil)))) (pss_one (ps_ret (pe_ifExp (pt_cmpR op_eq (pe_callB call_qlen (by rfl) g.f_len boot_len (pa_cons (pv 2) pa_nil)) pe_int (nomark _)) (pe_ix ix_list (pv 2) pe_int (fun _ _ => rfl)) (pe_tup (pa_cons (pe_glob (v := .str "node") (by rfl) g.c_NODE.choose_spec ⟨_, rfl⟩) (pa_cons (pe_callTy call_qtuple (by rfl) g.f_tuple boot_tuple (pa_cons (pe_lc (own := [("one", 3)]) (g := gName 3) (by rfl) nd (pi_list (pv 2)) (blkOk_by (N := ["form", "entry", "forms", "one"]) (sc := defScope s_with_entry) (own := [("one", 3)]) (by decide +kernel)) (fun _ _ _ _ _ => (pg_name (i := 3) nd rfl (Or.inl rfl))) (fun _ _ _ _ _ => pts_nil) (fun _ _ _ _ _ => (pc c_branch_of hr (by first | decide | omega) (by rfl) (pa_cons (pv 3) pa_nil)))) pa_nil)) pa_nil))))))), ?_⟩
  obtain ⟨⟨m, t⟩, e, h1, h2, ho, ⟨r1, r2, r3⟩, h3, hT, q⟩ := h
  have r1 : Right m t := r1
  have r2 : foSz m t ≤ 4 := r2
  have r3 : 0 < m → 2 ≤ foSz m t := r3
  have h3 : m ≤ 3 := h3
  obtain ⟨xs, ex, hx⟩ := right_inv m t r1
  rw [ex, sz_R] at r2 r3
  have h1 : Dp K H v1 (foD m t) := h1
  rw [ex] at h1
  wtm_at "go0"
  refine use_put_into (m := m) (xs := xs) (e := e) (by omega) h1 h2 ho r2 (fun h0 z => by have := r3 h0; rw [z] at this; simp at this) hx hT (fun v4 H4 ys fs g1 g2 g3 g4 g5 hf e4 t4 d4 => ?_)
  have hent : (fs.flatMap (ents m)).Perm (ents m t ++ [e]) := by
    rw [ex, ents_R]
    exact hf.ents.trans g5
  rcases hf with ⟨rfl, f4⟩ | ⟨as, bs, rfl, hp, a1, a2, b1, b2⟩
  · have d4' : Dp K H4 v4 (.list [foD m (mkR m ys)]) := d4
    wtm_at "go"
    · rename_i xu hxu
      refine q _ _ ⟨m, mkR m ys⟩ ⟨right_R m ys g1, by rw [sz_R]; exact f4, fun h0 => by rw [sz_R]; have := r3 h0; omega⟩ (show (ents m (mkR m ys)).Perm (ents m t ++ [e]) from by simpa using hent) e4 t4 hxu
    · rename_i hz
      exact absurd rfl hz
  · have d4' : Dp K H4 v4 (.list [foD m (mkR m as), foD m (mkR m bs)]) := d4
    have la : Low m (mkR m as) := ⟨right_R m as fun x hx => g1 x (hp.mem_iff.mp (List.mem_append_left _ hx)), by rw [sz_R]; exact a1, by rw [sz_R]; exact a2⟩
    have lb : Low m (mkR m bs) := ⟨right_R m bs fun x hx => g1 x (hp.mem_iff.mp (List.mem_append_right _ hx)), by rw [sz_R]; exact b1, by rw [sz_R]; exact b2⟩
    have lf : ∀ f ∈ [mkR m as, mkR m bs], Low m f := fun f hf => by
      simp only [List.mem_cons, List.not_mem_nil, or_false] at hf
      rcases hf with rfl | rfl
      · exact la
      · exact lb
    wtm_at "go"
    · rename_i hz _ _
      simp only [List.length_map, List.length_cons, List.length_nil] at hz
      exact absurd hz (by omega)
    · refine i_lcLU ?_
      wtm_at "go"
      refine i_lcGL (enc := foD m) (xs := [mkR m as, mkR m bs]) (fun _ => true) (fun t => brD m (brO t)) d4 (Nat.le_of_ble_eq_true rfl) (fun t _ => noL_br m _) (fun u t H5 R Y e5 hmx hu hn hy => ?_) (fun p5 H5 hp5 e5 hd5 => ?_)
      · refine ⟨rfl, ?_⟩
        wtm_at "nrm"
        wtm_at "go"
        exact use_branch_low hu (lf t hmx) (fun v H6 e6 hv => hy rfl _ _ e6 hv)
      rw [filt_true] at hd5
      wtm_at "go"
      refine i_qtupleL hd5 (fun p6 H6 e6 hh => ?_)
      obtain ⟨ws, k1, k2⟩ := hh
      wtm_at "go"
      rename_i p7 H7 e7 h7
      refine q _ _ ⟨m + 1, mkR (m + 1) [mkR m as, mkR m bs]⟩ ⟨right_R (m + 1) _ lf, by rw [sz_R]; exact Nat.le_of_ble_eq_true rfl, fun _ => by rw [sz_R]; exact Nat.le_of_ble_eq_true rfl⟩ ?_ (e4.trans (exN ((e5.trans e6).trans e7))) (t4.ext ((e5.trans e6).trans e7)) ?_
      · show (ents (m + 1) (mkR (m + 1) [mkR m as, mkR m bs])).Perm (ents m t ++ [e])
        rw [ents_R]
        exact hent
      · show Dp K H7 _ (foD (m + 1) (mkR (m + 1) [mkR m as, mkR m bs]))
        rw [foD_R]
        exact .tup (Evl.st_of h7) (.cons (.str _) (.cons (.tup (Evl.st_of (e7 _ _ k1)) (dpMonoA e7 k2)) .nil))
end
end Wb

namespace Wb
open PySem PySem.Spec PyProof.Rows L2 StX
open Evl (Ex Ex.refl Ex.trans Ex.new)
open LamX (Tabs TabS TabB ExtN CodeO)
open LmK (dpN dpNA exN tabsE sqlN sqtN rdN)
local macro_rules | `(tactic| wtm_at "dp") => `(tactic| first | with_reducible assumption | with_reducible exact Dp.int _ | with_reducible exact Dp.bl _ | with_reducible exact Dp.str _ | with_reducible exact Dp.non | ((with_reducible refine' dpMono ?dme (by with_reducible assumption)); (case dme => wtm_at "ex")) | ((with_reducible refine' Dp.tup (Evl.st_of ?dph) ?dpa); (case dph => wtm_at "hs"); (case dpa => wtm_at "dpa")) | ((with_reducible refine' Dp.lst (Evl.sq_of ?dph) ?dpa); (case dph => wtm_at "hs"); (case dpa => wtm_at "dpa")))
local macro_rules | `(tactic| wtm_at "dpa") => `(tactic| first | with_reducible exact DpAll.nil | ((with_reducible refine' DpAll.cons ?dp1 ?dp2); (case dp1 => wtm_at "dp"); (case dp2 => wtm_at "dpa")) | with_reducible assumption | ((with_reducible refine' dpMonoA ?dme (by with_reducible assumption)); (case dme => wtm_at "ex")))
local macro_rules | `(tactic| wtm_at "sz") => `(tactic| first | with_reducible assumption | ((with_reducible refine' sz_mul ?sz1 ?sz2); (case sz1 => wtm_at "sz"); (case sz2 => wtm_at "sz")) | ((with_reducible refine' sz_add ?sz1 ?sz2); (case sz1 => wtm_at "sz"); (case sz2 => wtm_at "sz")) | ((with_reducible refine' sz_sub ?sz1 ?sz2); (case sz1 => wtm_at "sz"); (case sz2 => wtm_at "sz")) | ((with_reducible refine' sz_neg ?sz1); (case sz1 => wtm_at "sz")) | ((with_reducible refine' sz_div ?sz1); (case sz1 => wtm_at "sz")) | ((with_reducible refine' sz_fdiv ?sz1); (case sz1 => wtm_at "sz")) | exact sz_lit (by decide) | wtm_at "sz2")
local macro_rules | `(tactic| wtm_at "szb") => `(tactic| first | with_reducible assumption | ((with_reducible refine' sz_mono ?szb1 ?szb2); (case szb1 => wtm_at "sz"); (case szb2 => decide)))
local macro_rules | `(tactic| wtm_at "nz") => `(tactic| first | assumption | decide | omega)
local macro_rules | `(tactic| wtm_at "shaped") => `(tactic| first | rfl | decide)
local macro_rules | `(tactic| wtm_at "sset") => `(tactic| ((dsimp only [L2.wipe, List.set, List.set_cons_zero, List.set_cons_succ]) <;> exact rfl))
local macro_rules | `(tactic| wtm_at "nrm") => `(tactic| dsimp only [L2.start, L2.wipe, List.set, List.append, List.map, List.map_cons, List.map_nil, List.length_cons, List.length_nil, Nat.reduceAdd, Nat.reduceSub, List.reduceReplicate, List.replicate, List.cons_append, List.nil_append, List.set_cons_zero, List.set_cons_succ])
local macro_rules | `(tactic| wtm_at "st") => `(tactic| first
  | ((with_reducible refine' i_var (v := ?u0) ?u1 ?uq); (case u1 => exact rfl))
  | ((with_reducible refine' i_nameN ?u0 ?uq); (case u0 => wtm_at "sset"))
  | (with_reducible refine' i_op ?uq)
  | (with_reducible refine' i_c ?uq)
  | (with_reducible refine' i_I0 ?uq)
  | ((with_reducible refine' i_ixTI (i := ?u0) ?u1 ?u2 ?u3 ?uq); (case u1 => wtm_at "dp"); (case u2 => wtm_at "ex"); (case u3 => exact rfl))
  | ((with_reducible refine' i_ixT (d := ?u0) ?u1 ?u2 ?u3 (fun xu hxu => ?uq)); (case u1 => wtm_at "dp"); (case u2 => wtm_at "ex"); (case u3 => exact rfl))
  | ((with_reducible refine' i_mul ?u0 ?u1 ?u2 ?uq); (case u0 => wtm_at "sz"); (case u1 => wtm_at "sz"); (case u2 => first | decide | omega))
  | (with_reducible refine' i_seq ?uq)
  | (with_reducible refine' i_asg ?uq)
  | (with_reducible refine' i_ret ?uq)
  | (with_reducible refine' i_ifs ?uq)
  | (with_reducible refine' i_drop ?uq)
  | (with_reducible refine' i_next ?uq)
  | (with_reducible refine' i_cons ?uq)
  | (with_reducible refine' i_nil ?uq)
  | (with_reducible refine' i_cl ?uq)
  | (with_reducible refine' i_cb ?uq)
  | (with_reducible refine' i_tup ?uq)
  | (with_reducible refine' i_lst ?uq)
  | ((with_reducible refine' i_mkT ?u0 (fun np nH nhe nhp => ?uq)); (case u0 => exact Nat.le_of_ble_eq_true rfl))
  | (with_reducible refine' i_test ?uq)
  | (with_reducible refine' i_B ?uq)
  | (with_reducible refine' i_k ?uq)
  | (with_reducible refine' i_and ?uq)
  | (with_reducible refine' i_or ?uq)
  | (with_reducible refine' i_not ?uq)
  | (with_reducible refine' i_andV ?uq)
  | (with_reducible refine' i_orV ?uq)
  | (with_reducible refine' i_notV ?uq)
  | (with_reducible refine' i_if ?uq)
  | (with_reducible refine' i_un ?uq)
  | (with_reducible refine' i_U ?uq)
  | (with_reducible refine' i_iteT ?uq)
  | (with_reducible refine' i_iteF ?uq)
  | ((with_reducible refine' i_iteTr ?u0 ?uq); (case u0 => first | with_reducible rfl | decide | (simp only [dIsInt, dIsBool, dIsTup, dIsStr, dIsLst, Bool.not_true, Bool.not_false]; done)))
  | ((with_reducible refine' i_iteFr ?u0 ?uq); (case u0 => first | with_reducible rfl | decide | (simp only [dIsInt, dIsBool, dIsTup, dIsStr, dIsLst, Bool.not_true, Bool.not_false]; done)))
  | (with_reducible refine' i_ite (fun hif => ?uqa) (fun hif => ?uqb))
  | (with_reducible refine' i_iteN (fun hif => ?uqa) (fun hif => ?uqb))
  | (with_reducible refine' i_iteBN (fun hif => ?uqa) (fun hif => ?uqb))
  | (with_reducible refine' i_iteB (fun hif => ?uqa) (fun hif => ?uqb))
  | ((with_reducible refine' i_modN ?u0 ?uq); (case u0 => wtm_at "nz"))
  | ((with_reducible refine' i_fdX ?u0 ?u1 ?u2 ?uq); (case u0 => wtm_at "nz"); (case u1 => wtm_at "sz"); (case u2 => first | decide | omega))
  | ((with_reducible refine' i_pow ?u0 ?uq); (case u0 => exact ⟨by decide, by decide +kernel⟩))
  | (with_reducible refine' i_eqI ?uq)
  | (with_reducible refine' i_neI ?uq)
  | (with_reducible refine' i_gcd ?uq)
  | (with_reducible refine' i_qabs ?uq)
  | (with_reducible refine' i_qint ?uq)
  | (with_reducible refine' i_qintB ?uq)
  | (with_reducible refine' i_qmax2 ?uq)
  | (with_reducible refine' i_qmin2 ?uq)
  | (with_reducible refine' i_isB ?uq)
  | (with_reducible refine' i_notB ?uq)
  | (with_reducible refine' i_chain ?uq)
  | (with_reducible refine' i_qisN ?uq)
  | (with_reducible refine' i_qnotN ?uq)
  | (with_reducible refine' i_yes ?uq)
  | (with_reducible refine' i_par ?uq)
  | (with_reducible refine' i_par3 ?uq)
  | ((with_reducible refine' i_par2 ?u0 ?uq); (case u0 => wtm_at "sset"))
  | ((with_reducible refine' i_par33 ?u0 ?uq); (case u0 => wtm_at "sset"))
  | ((with_reducible refine' i_ixLI (i := ?u0) ?u1 ?u2 ?u3 ?uq); (case u1 => wtm_at "dp"); (case u2 => wtm_at "ex"); (case u3 => exact rfl))
  | ((with_reducible refine' i_ixL (d := ?u0) ?u1 ?u2 ?u3 (fun xu hxu => ?uq)); (case u1 => wtm_at "dp"); (case u2 => wtm_at "ex"); (case u3 => exact rfl))
  | ((with_reducible refine' i_qlenT ?u0 ?uq); (case u0 => wtm_at "dp"))
  | ((with_reducible refine' i_qlenL ?u0 ?uq); (case u0 => wtm_at "dp"))
  | ((with_reducible refine' i_gtup ?u0 ?u1 ?u2 (fun gvs gdp => ?uq)); (case u0 => wtm_at "dp"); (case u1 => wtm_at "ex"); (case u2 => exact rfl))
  | ((with_reducible refine' i_glst ?u0 ?u1 ?u2 (fun gvs gdp => ?uq)); (case u0 => wtm_at "dp"); (case u1 => wtm_at "ex"); (case u2 => exact rfl))
  | ((with_reducible refine' i_gconsI ?u0 (fun gr gh => ?uq)); (case u0 => with_reducible assumption))
  | ((with_reducible refine' i_gconsA ?u0 (fun gv gr gh1 gh2 => ?uq)); (case u0 => with_reducible assumption))
  | ((with_reducible refine' i_gnilA ?u0 ?uq); (case u0 => with_reducible assumption))
  | ((with_reducible refine' i_isiI ?u0 ?uq); (case u0 => wtm_at "dp"))
  | ((with_reducible refine' i_isiB ?u0 ?uq); (case u0 => wtm_at "dp"))
  | ((with_reducible refine' i_isiT ?u0 ?uq); (case u0 => wtm_at "dp"))
  | ((with_reducible refine' i_isiS ?u0 ?uq); (case u0 => wtm_at "dp"))
  | ((with_reducible refine' i_isiL ?u0 ?uq); (case u0 => wtm_at "dp"))
  | ((with_reducible refine' i_eqD ?u0 ?u1 ?u2 ?u3 ?uq); (case u0 => wtm_at "dp"); (case u1 => wtm_at "dp"); (case u2 => wtm_at "shaped"); (case u3 => wtm_at "shaped"))
  | ((with_reducible refine' i_neD ?u0 ?u1 ?u2 ?u3 ?uq); (case u0 => wtm_at "dp"); (case u1 => wtm_at "dp"); (case u2 => wtm_at "shaped"); (case u3 => wtm_at "shaped"))
  | wtm_at "st2"
  | wtm_at "use")
local macro_rules | `(tactic| wtm_at "go") => `(tactic| repeat' (wtm_at "st"))
local macro_rules | `(tactic| wtm_at "go0") => `(tactic| ((try dsimp only [L2.cxOf, L2.Cx.nox, L2.Cx.wish, L2.Cx.tr, L2.Cx.blk]); (try wtm_at "nrm"); wtm_at "go"))
local macro_rules | `(tactic| wtm_at "fin") => `(tactic| ((try dsimp only); first | with_reducible assumption | assumption | ((with_reducible refine' Ret.use ?rur ?rue ?rud); (case rur => with_reducible assumption); (case rue => wtm_at "ex"); (case rud => wtm_at "dp"))))
local macro_rules | `(tactic| wtm_at "exh") => `(tactic| first | with_reducible assumption | with_reducible exact Ex.refl _ | with_reducible exact ex_hid | ((with_reducible refine' Ex.trans ?exe (by with_reducible assumption)); (case exe => wtm_at "exh")) | ((with_reducible refine' Ex.trans ?exe (hid_ex (by with_reducible assumption))); (case exe => wtm_at "exh")))
local macro_rules | `(tactic| wtm_at "ex") => `(tactic| first | with_reducible assumption | with_reducible exact Ex.refl _ | with_reducible exact ex_hid | ((with_reducible refine' Ex.trans ?exe (by with_reducible assumption)); (case exe => wtm_at "ex")) | ((with_reducible refine' Ex.trans ?exe (hid_ex (by with_reducible assumption))); (case exe => wtm_at "ex")) | ((with_reducible refine' Ex.trans ?exe ex_hid); (case exe => wtm_at "exh")))
local macro_rules | `(tactic| wtm_at "bag") => `(tactic| first | with_reducible assumption | ((with_reducible refine' Bag.mono ?bgm (by with_reducible assumption)); (case bgm => wtm_at "bag")))
local macro_rules | `(tactic| wtm_at "hs") => `(tactic| first | with_reducible assumption | ((with_reducible refine' hid_tup ?hb ?hp); (case hp => with_reducible assumption); (case hb => wtm_at "bag")) | ((with_reducible refine' hid_new ?hb ?hn ?hp); (case hp => with_reducible assumption); (case hn => with_reducible assumption); (case hb => wtm_at "bag")) | ((with_reducible refine' ex_at ?exe (by with_reducible assumption)); (case exe => wtm_at "ex")))
local macro_rules | `(tactic| wtm_at "st2") => `(tactic| first
  | ((with_reducible refine' i_mulC ?u0 ?uq); (case u0 => first | exact cmul_l (by decide) | exact cmul_r (by decide)))
  | ((with_reducible refine' i_ixLr (v := ?u0) ?u1 ?u2 ?uq); (case u1 => with_reducible assumption); (case u2 => exact rfl))
  | (with_reducible refine' i_sub ?uq)
  | ((with_reducible refine' i_mkL ?u0 (fun np nH nfr nhe nhp => ?uq)); (case u0 => exact Nat.le_of_ble_eq_true rfl))
  | ((with_reducible refine' i_setL (n := ?u0) ?u1 ?u2 (fun sH sh se => ?uq)); (case u1 => with_reducible assumption); (case u2 => exact rfl))
  | (with_reducible refine' i_sl ?uq)
  | (with_reducible refine' i_nopart ?uq)
  | (with_reducible refine' i_part ?uq)
  | (with_reducible refine' i_part1 ?uq))
local macro_rules | `(tactic| wtm_at "sz2") => `(tactic| ((with_reducible refine' sz_fmod ?sz1 ?sz2); (case sz1 => wtm_at "nz"); (case sz2 => wtm_at "sz")))
local macro_rules | `(tactic| wtm_at "stb") => `(tactic| first
  | ((with_reducible refine' i_mkTB ?u0 ?u1 (fun np nH nhe nhb nhp => ?uq)); (case u0 => exact Nat.le_of_ble_eq_true rfl); (case u1 => wtm_at "bag"))
  | ((with_reducible refine' i_mkLB ?u0 ?u1 (fun np nH nfr nhe nhb nhp => ?uq)); (case u0 => exact Nat.le_of_ble_eq_true rfl); (case u1 => wtm_at "bag"))
  | wtm_at "st")
local macro_rules | `(tactic| wtm_at "gob") => `(tactic| repeat' (wtm_at "stb"))
local macro_rules | `(tactic| wtm_at "gob0") => `(tactic| ((try dsimp only [L2.cxOf, L2.Cx.nox, L2.Cx.wish, L2.Cx.tr, L2.Cx.blk]); (try wtm_at "nrm"); wtm_at "gob"))
local macro_rules | `(tactic| wtm_at "st") => `(tactic| first | ((with_reducible refine' i_ixTS (z := ?u0) ?u1 ?u2 ?u3 ?uq); (case u1 => wtm_at "dp"); (case u2 => wtm_at "ex"); (case u3 => exact rfl)) | fail)
local macro_rules | `(tactic| wtm_at "st2") => `(tactic| first | ((with_reducible refine' i_eqST ?u0 ?uq); (case u0 => with_reducible rfl)) | ((with_reducible refine' i_eqSF ?u0 ?uq); (case u0 => decide +kernel)) | ((with_reducible refine' i_neST ?u0 ?uq); (case u0 => with_reducible rfl)) | ((with_reducible refine' i_neSF ?u0 ?uq); (case u0 => decide +kernel)) | fail)
section
variable {P : Program} {w : World} {K : PySem.W.Frag} {mg : Str → Option Value} {base : Heap} {H H' : Hp} {Q : VK} {E : XK} {v1 v2 v3 v4 v5 : V}
section
variable {α : Type} {enc : α → PyData} {key : α → List Int} {xs : List α} {v : V}
theorem zip_dp : ∀ {us : List V} {xs : List α}, DpAll K H us (xs.map enc) → (us.zip xs).map (·.1) = us ∧ (us.zip xs).map (·.2) = xs ∧ ∀ t ∈ us.zip xs, Dp K H t.1 (enc t.2)
  | _, [], .nil => ⟨rfl, rfl, fun t h => (by cases h)⟩
  | u :: us, x :: xs, .cons h1 h2 => by
    obtain ⟨a, b, c⟩ := zip_dp h2
    refine ⟨by rw [List.zip_cons_cons, List.map_cons, a], by rw [List.zip_cons_cons, List.map_cons, b], fun t ht => ?_⟩
    rw [List.zip_cons_cons] at ht
    rcases List.mem_cons.mp ht with rfl | ht
    · exact h1
    · exact c t ht
theorem dp_zip : ∀ {l : List (V × α)}, (∀ t ∈ l, Dp K H t.1 (enc t.2)) → DpAll K H (l.map (·.1)) ((l.map (·.2)).map enc)
  | [], _ => .nil
  | t :: l, h => .cons (h t List.mem_cons_self) (dp_zip fun t ht => h t (List.mem_cons_of_mem _ ht))
theorem i_sortH {hed : PySem.W.Frag → Hp → V → List Int → Prop} (h : Dp K H v (.list (xs.map enc))) (he : ∀ x ∈ xs, ∀ u, Dp K H u (enc x) → ∃ t y ys, u = .ref t ∧ SqT K H t (y :: ys) ∧ hed K H y (key x)) (hn : (xs.map key).Nodup)
    (q : ∀ p H2 (ys : List α), ys.Perm xs → ys.Pairwise (fun x y => HT.lexLt (key y) (key x) = false) → H p = none → Ex H H2 → Dp K H2 (.ref p) (.list (ys.map enc)) → Q (.ref p) H2) : rSortH K hed [v] H Q := by
  obtain ⟨a, us, rfl, hs, ha⟩ := dpLst h
  obtain ⟨z1, z2, z3⟩ := zip_dp ha
  have hmem : ∀ t ∈ us.zip xs, t.2 ∈ xs := fun t ht => by rw [← z2]; exact List.mem_map.mpr ⟨t, ht, rfl⟩
  refine ⟨a, (us.zip xs).map fun t => (t.1, key t.2), rfl, ?_, fun p hp => ?_, ?_, fun qs d hq hw hd => ?_⟩
  · rw [List.map_map]
    have e : ((fun p : V × List Int => p.1) ∘ fun t : V × α => (t.1, key t.2)) = fun t => t.1 := rfl
    rw [e, z1]
    exact hs
  · obtain ⟨t, ht, rfl⟩ := List.mem_map.mp hp
    exact he t.2 (hmem t ht) t.1 (z3 t ht)
  · rw [List.map_map]
    have e : ((fun p : V × List Int => p.2) ∘ fun t : V × α => (t.1, key t.2)) = key ∘ fun t => t.2 := rfl
    rw [e, ← List.map_map, z2]
    exact hn
  · obtain ⟨l, hl, rfl⟩ := perm_map_inv hq
    rw [List.map_map]
    have e : ((fun p : V × List Int => p.1) ∘ fun t : V × α => (t.1, key t.2)) = fun t => t.1 := rfl
    rw [e]
    refine q d _ (l.map (·.2)) ?_ ?_ hd (ex_upd hd) (.lst (Evl.sq_of upd_same) (dpMonoA (ex_upd hd) (dp_zip fun t ht => z3 t (hl.mem_iff.mp ht))))
    · have := hl.map (·.2)
      rw [z2] at this
      exact this
    · exact List.pairwise_map.mpr (List.pairwise_map.mp hw)
end
def TreeAt (K : PySem.W.Frag) (CT : Addr) (H : Hp) (a : Addr) (s : Fs) : Prop := ∃ (dx : Addr) (fs : List (Str × V)) (fv : V), H a = some (.ins CT dx fs) ∧ fs.lookup ("own_form" : Str) = some fv ∧ Dp K H fv (fsD s)
theorem TreeAt.mono {CT a : Addr} {s : Fs} (h : TreeAt K CT H a s) (e : Ex H H') : TreeAt K CT H' a s := by
  obtain ⟨dx, fs, fv, t1, t2, t3⟩ := h
  exact ⟨dx, fs, fv, e _ _ t1, t2, dpMono e t3⟩
theorem i_fldU {ta : TE} {f : Str} {σ : L2.St} (q : ta σ H fun x H1 => ∃ a C dx fs v, x = V.ref a ∧ H1 a = some (.ins C dx fs) ∧ Cls K C ∧ NoAttr K C f ∧ fs.lookup f = some v ∧ Q v H1) : tFld K ta f σ H Q := q
theorem i_dcUT {tl : TE} {σ : L2.St} {g : TG} {tt : TT} {tk tv : TE} {vs : List Nat} (q : tl σ H fun x H1 => tDc (iTup K (tC x)) g tt tk tv vs σ H1 Q) : tDc (iTup K tl) g tt tk tv vs σ H Q := q
theorem i_methU {C : Addr} {m : Str} {sp : Sp} {dvs : List V} {E : XK} {ta : TE} {t : TA} {σ : L2.St} (q : ta σ H fun x H1 => ∃ a dx fs, x = V.ref a ∧ H1 a = some (.ins C dx fs) ∧ fs.lookup m = none ∧ t σ H1 fun vs H2 => sp (x :: (vs ++ dvs)) H2 Q E) : tMeth C m sp dvs E ta t σ H Q := q
theorem i_sFldU {ta tv : TE} {f : Str} {D : Ends} {σ : L2.St} (q : tv σ H fun y H1 => ta σ H1 fun x H2 => ∃ a C dx fs, x = V.ref a ∧ H2 a = some (.ins C dx fs) ∧ Cls K C ∧ NoAttr K C f ∧ fs.length < 1000 ∧ D.nx σ (upd H2 a (.ins C dx (putF f y fs)))) : sFld K ta tv f D σ H := q
theorem i_mkU {C : Addr} {sp : Sp} {dvs : List V} {E : XK} {ta : TA} {σ : L2.St} (q : ta σ H fun vs H1 => ∀ x dx, H1 x = none → H1 dx = none → dx ≠ x → sp (.ref x :: (vs ++ dvs)) (upd (upd H1 dx (.own x)) x (.ins C dx [])) (fun v H2 => v = .non ∧ Q (.ref x) H2) E) : tMake C sp dvs E ta σ H Q := q
theorem i_forTU {tb : TS} {tl : TE} {g : TG} {D : Ends} {σ : L2.St} (q : tl σ H fun x H1 => tFor (iTup K (tC x)) g tb D σ H1) : tFor (iTup K tl) g tb D σ H := q
theorem i_dcKT {α : Type} {enc : α → PyData} {xs : List α} {v : V} {σ : L2.St} {vs : List Nat} {tk tv : TE} {tt : TT} {g : TG} (kf : α → Key) (h : Dp K H v (.tuple (xs.map enc))) (hl : xs.length ≤ 1000)
    (ht : ∀ (u : V) (x : α) (H2 : Hp) (R : Hp → Prop) (Y : V → V → Hp → Prop), Ex H H2 → x ∈ xs → Dp K H2 u (enc x) → (∀ z H3, Ex H2 H3 → Y (kV (kf x)) z H3) →
      g u (wipe σ vs) H2 fun σ2 H3 => wipe σ2 vs = wipe σ vs ∧ tt σ2 H3 fun b H4 => if b = true then tk σ2 H4 fun y H5 => tv σ2 H5 fun z H6 => Y y z H6 else R H4)
    (q : ∀ D H2 kvs, H D = none → Ex H H2 → H2 D = some (.dK kvs) → (kvs.map (·.1)).Nodup → (∀ k, k ∈ kvs.map (·.1) ↔ k ∈ xs.map kf) → Q (.ref D) H2) : tDc (iTup K (tC v)) g tt tk tv vs σ H Q := by
  obtain ⟨a, us, rfl, hs, ha⟩ := dpTup h
  have el : us.length = xs.length := by rw [dpLen ha, List.length_map]
  refine ⟨a, rfl, ⟨us, hs⟩, fun D hD => ?_⟩
  refine ⟨fun i m H5 => m = us.length - i ∧ i ≤ us.length ∧ Ex H H5 ∧ ∃ kvs, H5 D = some (.dK kvs) ∧ kvs.length ≤ i ∧ (kvs.map (·.1)).Nodup ∧ ∀ k, k ∈ kvs.map (·.1) ↔ k ∈ (xs.take i).map kf, ⟨us.length, by simp, Nat.zero_le _, Ex.new hD, [], upd_same, Nat.zero_le _, by simp, by simp⟩, ?_⟩
  rintro i m H5 ⟨rfl, hi, e5, kvs, hd, hk, hn, hm⟩
  have hs5 := Evl.ex_t e5 hs
  by_cases hlt : i < us.length
  · refine .inr ⟨⟨us, us[i], hs5, by simp [hlt]⟩, fun H6 => Ex H H6 ∧ ∃ kvs, H6 D = some (.dK kvs) ∧ kvs.length ≤ i + 1 ∧ (kvs.map (·.1)).Nodup ∧ ∀ k, k ∈ kvs.map (·.1) ↔ k ∈ (xs.take (i + 1)).map kf, fun H6 p' => ⟨us.length - (i + 1), by omega, rfl, hlt, p'⟩, fun u H6 y => ?_⟩
    obtain ⟨e, y⟩ := y
    subst e
    have hx := y us hs5
    obtain ⟨d, hd1, hu⟩ := dpIdx ha hx
    rw [List.getElem?_map] at hd1
    obtain ⟨z, hz, rfl⟩ := Option.map_eq_some_iff.mp hd1
    have ht1 : xs.take (i + 1) = xs.take i ++ [z] := by rw [List.take_add_one, hz]; rfl
    refine ht u z H6 _ _ e5 (List.mem_of_getElem? hz) (dpMono e5 hu) fun w H7 e7 => ?_
    refine ⟨kvs, kf z, rfl, e7 _ _ hd, Evl.sz_lt (by omega), Evl.Ex.mut (e5.trans e7) hD, putK kvs (kf z) w, upd_same, ?_, putK_nodup hn, fun k => ?_⟩
    · have := length_putK kvs (kf z) w
      omega
    · rw [putK_mem, hm k, ht1, List.map_append, List.mem_append]
      constructor
      · rintro (h | rfl)
        · exact .inl h
        · exact .inr (List.mem_singleton.mpr rfl)
      · rintro (h | h)
        · exact .inl h
        · exact .inr (List.mem_singleton.mp h)
  · have e : i = us.length := by omega
    subst e
    refine .inl ⟨⟨us, hs5, Nat.le_refl _⟩, ?_⟩
    rw [el, List.take_length] at hm
    exact q D H5 kvs hD e5 hd hn hm
def sp_require_entries (K : PySem.W.Frag) : Sp := A1 fun v1 H Q => ∃ es : List En, Dp K H v1 (.tuple (es.map enD)) ∧ (∀ e ∈ es, e.2.ok) ∧ (es.map (·.1)).Nodup ∧ es.length ≤ 100 ∧ Ret K .none H Q
abbrev s_require_entries : Stmt := top 46
theorem sc_require_entries : FnScope ["entries", "number", "box", "one"] ["entries"] (defScope s_require_entries) := ⟨rfl, rfl, rfl, by decide +kernel, rfl, by decide +kernel, by decide +kernel⟩
theorem ok_require_entries {f : Addr} {fd : FuncData} (F : FnP K "require_entries" s_require_entries f fd) (g : G mg)  (c_is_entry : Cl P w K mg base 3 "is_entry" (sp_is_entry K)) : FnOk P w K mg base CX0 4 f fd ["entries"] (sp_require_entries K) := by
  have nd := sc_require_entries.nd
  refine F.ok sc_require_entries (fun vs H Q E h => h.len) (fun cdv A outer s H vs Q E hr h => ?_)
  obtain ⟨v1, rfl, h⟩ := h
  refine ⟨_, PSs.nox (pss_cons (ps_if (PW.pt (pw_or (pt_not (pt_val (pe_callB call_isi (by rfl) g.f_isinstance boot_isinstance (pa_cons (pv 0) (pa_cons (pe_bltn (v := .ty "tuple") (by rfl) g.f_tuple boot_tuple rfl) pa_nil))))) (pw_or1 (pt_not (pt_val (pe_callB (cr_all rfl) (by rfl) g.f_all boot_all (pa_cons (pe_lc (own := [("one", 3)]) (g := gName 3) (by rfl) nd (pi_tup (pv 0)) (blkOk_by (N := ["entries", "number", "box", "one"]) (sc := defScope s_require_entries) (own := [("one", 3)]) (by decide +kernel)) (fun _ _ _ _ _ => (pg_name (i := 3) nd rfl (Or.inl rfl))) (fun _ _ _ _ _ => pts_nil) (fun _ _ _ _ _ => (pc c_is_entry hr (by first | decide | omega) (by rfl) (pa_cons (pv 3) pa_nil)))) pa_nil))))))) (pss_one ps_never) pss_nil) (pss_cons (ps_if (pt_cmpR op_lt (pe_callB call_qlenD (by rfl) g.f_len boot_len (pa_cons (pe_dc (own := [("number", 1), ("box", 2)]) (g := _) (by rfl) nd (pi_tup (pv 0)) (blkOk_by (N := ["entries", "number", "box", "one"]) (sc := defScope s_require_entries) (own := [("number", 1), ("box", 2)]) (by decide +kernel)) (fun _ _ _ _ _ => (show PG _ _ (gTup K 2 _) from (pg_tup (by rfl) (pgs_cons (pg_name (i := 1) nd rfl (Or.inl rfl)) (pgs_cons (pg_name (i := 2) nd rfl (Or.inl rfl)) pgs_nil))))) (fun _ _ _ _ _ => pts_nil) (fun _ _ _ _ _ => (pv 1)) (fun _ _ _ _ _ => pe_bl)) pa_nil)) (pe_callB call_qlen (by rfl) g.f_len boot_len (pa_cons (pv 0) pa_nil)) (nomark _)) (pss_one ps_never) pss_nil) (pss_one (ps_if (pt_cmpR op_gt (pe_callB call_qlen (by rfl) g.f_len boot_len (pa_cons (pv 0) pa_nil)) (pe_glob (v := .int 300) (by rfl) g.c_MAX_ENTRIES.choose_spec ⟨_, rfl⟩) (nomark _)) (pss_one ps_never) pss_nil)))), ?_⟩
  obtain ⟨es, h1, ho, hn, hl, q⟩ := h
  wtm_at "go0"
  · refine i_lcTU ?_
    wtm_at "go"
    refine i_lcGT (enc := enD) (xs := es) (fun _ => true) (fun _ => .bool true) h1 (by omega) (fun _ _ => rfl) (fun u x H2 R Y e2 hm hu hn hy => ?_) (fun p H2 hp e2 hl2 => ?_)
    · have hox := ho x hm
      wtm_at "nrm"
      wtm_at "go"
      refine ⟨rfl, ?_⟩
      wtm_at "go"
      refine ⟨_, rfl, x, hu, hox, ret_bl fun H3 e3 => ?_⟩
      exact hy rfl _ _ e3 (Dp.bl _)
    rw [filt_true] at hl2
    wtm_at "go"
    refine i_allT hl2 ?_
    wtm_at "go"
    refine i_dcUT ?_
    wtm_at "go"
    refine i_dcKT (enc := enD) (xs := es) (fun e => Sum.inl e.1) (dpMono e2 h1) (by omega) (fun u e H5 R Y e5 hm hu hy => ?_) (fun D H5 kvs hD e5 hd5 hn5 hm5 => ?_)
    · unfold enD at hu
      wtm_at "nrm"
      wtm_at "go"
      refine ⟨rfl, ?_⟩
      wtm_at "go"
      exact hy _ _ (Ex.refl _)
    have hkl : kvs.length = es.length := by
      have := keys_nodup (kf := fun e : En => (Sum.inl e.1 : Key)) hn5 hm5 (by
        have e9 : es.map (fun e : En => (Sum.inl e.1 : Key)) = (es.map (·.1)).map Sum.inl := by rw [List.map_map]; rfl
        rw [e9]
        exact List.Pairwise.map _ (fun a b (hab : a ≠ b) z => hab (Sum.inl.inj z)) hn)
      rw [List.length_map] at this
      exact this
    wtm_at "go"
    refine i_qlenD hd5 ?_
    wtm_at "go"
    all_goals first | (rename_i hz; exfalso; rw [List.length_map, hkl] at hz; omega) | (rename_i hz; exfalso; rw [List.length_map] at hz; omega) | exact q.non (e2.trans e5)
theorem use_require_entries {es : List En} (h1 : Dp K H v1 (.tuple (es.map enD))) (ho : ∀ e ∈ es, e.2.ok) (hn : (es.map (·.1)).Nodup) (hl : es.length ≤ 100) (q : ∀ H2, Ex H H2 → Q .non H2) : sp_require_entries K [v1] H Q E := ⟨_, rfl, es, h1, ho, hn, hl, ret_non q⟩
theorem root_le {s : Fs} (h : Root s) (hl : (fsE s).length ≤ 15) : s.1 ≤ 2 := by
  by_cases h0 : s.1 = 0
  · omega
  · exact low_le2 ⟨h.1, h.2.2 (by omega), h.2.1⟩ hl
theorem root_nil : Root ⟨0, mkLf []⟩ := ⟨fun e he => (by cases he), Nat.zero_le _, fun h => absurd h (Nat.lt_irrefl 0)⟩
def sp_form_with (K : PySem.W.Frag) (T : List (Addr × Str)) : Sp := A1 fun v1 H Q => ∃ es : List En, Dp K H v1 (.tuple (es.map enD)) ∧ (∀ e ∈ es, e.2.ok) ∧ es.length ≤ 15 ∧ Tabs T H ∧
  ∀ v H2 (s : Fs), Root s → (fsE s).Perm es → ExtN H H2 → Tabs T H2 → Dp K H2 v (fsD s) → Q v H2
abbrev s_form_with : Stmt := top 45
theorem sc_form_with : FnScope ["entries", "found", "entry"] ["entries"] (defScope s_form_with) := ⟨rfl, rfl, rfl, by decide +kernel, rfl, by decide +kernel, by decide +kernel⟩
theorem ok_form_with {f : Addr} {fd : FuncData} (F : FnP K "form_with" s_form_with f fd) (g : G mg) {T : List (Addr × Str)} (c_with_entry : Cl P w K mg base 11 "with_entry" (sp_with_entry K T)) : FnOk P w K mg base CX0 12 f fd ["entries"] (sp_form_with K T) := by
  have nd := sc_form_with.nd
  refine F.ok sc_form_with (fun vs H Q E h => h.len) (fun cdv A outer s H vs Q E hr h => ?_)
  obtain ⟨v1, rfl, h⟩ := h
  refine ⟨_, PSs.nox (pss_cons (ps_set (i := 1) nd rfl (Or.inl rfl) (pe_tup (pa_cons (pe_glob (v := .str "leaf") (by rfl) g.c_LEAF.choose_spec ⟨_, rfl⟩) (pa_cons (pe_tup pa_nil) pa_nil)))) (pss_cons (ps_for PassesOwn.never rfl (pi_tup (pv 0)) (pg_name (i := 2) nd rfl (Or.inl rfl)) (pss_one (ps_set (i := 1) nd rfl (Or.inl rfl) (pc c_with_entry hr (by first | decide | omega) (by rfl) (pa_cons (pv 1) (pa_cons (pv 2) pa_nil)))))) (pss_one (ps_ret (pv 1))))), ?_⟩
  obtain ⟨es, h1, ho, hl, hT, q⟩ := h
  wtm_at "go0"
  rename_i p1 H1 e1 hp1 p2 H2 e2 hp2
  refine i_forTU ?_
  wtm_at "go"
  have e12 := e1.trans e2
  have h12 := dpMono e12 h1
  obtain ⟨a, us, ea, hs, ha⟩ := dpTup h12
  have hul : us.length = es.length := by rw [dpLen ha, List.length_map]
  refine ⟨a, ea, ⟨us, hs⟩, for_tup (xs := us) (fun i σ' H' => ∃ (fv : V) (c : Option V) (s : Fs), σ' = [some v1, some fv, c] ∧ ExtN H2 H' ∧ Tabs T H' ∧ Dp K H' fv (fsD s) ∧ Root s ∧ (fsE s).Perm (es.take i)) ⟨_, _, ⟨0, mkLf []⟩, rfl, ExtN.refl _, hT.ext e12, ?_, root_nil, List.Perm.refl _⟩ (fun i σ' H' _ p => ?_) (fun i x σ' H' hi p => ?_) (fun σ' H' p => ?_)⟩
  · exact .tup (Evl.st_of hp2) (.cons (.str _) (.cons (.tup (Evl.st_of (e2 _ _ hp1)) .nil) .nil))
  · obtain ⟨_, _, _, _, eN, _⟩ := p
    exact sqtN eN hs
  · obtain ⟨fv, c, s, rfl, eN, tN, hf, hr', hp⟩ := p
    obtain ⟨d, hd, hx⟩ := dpIdx ha hi
    rw [List.getElem?_map] at hd
    obtain ⟨e, he, rfl⟩ := Option.map_eq_some_iff.mp hd
    have him : i < es.length := (List.getElem?_eq_some_iff.mp he).1
    have hsl : (fsE s).length ≤ 15 := by rw [hp.length_eq, List.length_take]; omega
    wtm_at "nrm"
    wtm_at "go"
    refine use_with_entry (s := s) (e := e) hf (dpN eN hx) (ho e (List.mem_of_getElem? he)) hr' (by have := root_le hr' hsl; omega) tN (fun v H5 s2 r2 p5 e5 t5 d5 => ?_)
    wtm_at "go"
    refine ⟨_, _, s2, rfl, eN.trans e5, t5, d5, r2, ?_⟩
    have ht1 : es.take (i + 1) = es.take i ++ [e] := by rw [List.take_add_one, he]; rfl
    rw [ht1]
    exact p5.trans (hp.append_right _)
  · obtain ⟨fv, c, s, rfl, eN, tN, hf, hr', hp⟩ := p
    rw [hul, List.take_length] at hp
    wtm_at "go"
    exact q _ _ s hr' hp ((exN e12).trans eN) tN hf
theorem use_form_with {T : List (Addr × Str)} {es : List En} (h1 : Dp K H v1 (.tuple (es.map enD))) (ho : ∀ e ∈ es, e.2.ok) (hl : es.length ≤ 15) (hT : Tabs T H)
    (q : ∀ v H2 (s : Fs), Root s → (fsE s).Perm es → ExtN H H2 → Tabs T H2 → Dp K H2 v (fsD s) → Q v H2) : sp_form_with K T [v1] H Q E := ⟨_, rfl, es, h1, ho, hl, hT, q⟩
def sp_Kept_init (K : PySem.W.Frag) (CK : Addr) : Sp := A2 fun v1 v2 H Q => ∃ x dx, v1 = .ref x ∧ SlAt H x CK dx [] ∧ Q .non (upd H x (SlO CK dx x [some v2]))
abbrev s_Kept_init : Stmt := inClass (top 52) 1
theorem sc_Kept_init : FnScope ["self", "form"] ["self", "form"] (defScope s_Kept_init) := ⟨rfl, rfl, rfl, by decide +kernel, rfl, by decide +kernel, by decide +kernel⟩
theorem ok_Kept_init {f : Addr} {fd : FuncData} (F : FunD K "__init__" "Kept.__init__" (defArgs s_Kept_init) (defBody s_Kept_init) (defScope s_Kept_init) [] [] f fd) (g : G mg) {CK : Addr} (mK : mg "Kept" = some (.ref CK)) (kS : L2.SCls K CK) {pL : Addr} (kL : L2.Slt K CK "own_list" 0 pL) (kI : SlX.SIsi K CK) (kT : PySem.W.kitOne K (.ref CK) (.ref CK) = some true) (kU : PySem.W.kitOne K (.type "tuple") (.ref CK) = some false)  : FnOk P w K mg base CX0 1 f fd ["self", "form"] (sp_Kept_init K CK) := by
  have nd := sc_Kept_init.nd
  refine F.ok sc_Kept_init (fun vs H Q E h => h.len) (fun cdv A outer s H vs Q E hr h => ?_)
  obtain ⟨v1, v2, rfl, h⟩ := h
  refine ⟨_, PSs.nox (pss_one (ps_slot kS kL (pv 0) (pv 1))), ?_⟩
  obtain ⟨x, dx, rfl, hx, q⟩ := h
  wtm_at "go0"
  refine ⟨_, rfl, _, rfl, x, dx, [], rfl, hx, q⟩
/-- a Kept that holds v -/
def KeptAt (H : Hp) (CK : Addr) (v fv : V) : Prop := ∃ a dx, v = .ref a ∧ SlAt H a CK dx [some fv]
def sp_told_form (K : PySem.W.Frag) (CK : Addr) (T : List (Addr × Str)) : Sp := A2 fun v1 v2 H Q => (∃ fv, KeptAt H CK v2 fv ∧ Q fv H) ∨ (∃ es : List En, Dp K H v2 (.tuple (es.map enD)) ∧ (∀ e ∈ es, e.2.ok) ∧ (es.map (·.1)).Nodup ∧ es.length ≤ 15 ∧ Tabs T H ∧
  ∀ v H2 (s : Fs), Root s → (fsE s).Perm es → ExtN H H2 → Tabs T H2 → Dp K H2 v (fsD s) → Q v H2)
abbrev s_Tree_told_form : Stmt := inClass (top 51) 1
theorem sc_Tree_told_form : FnScope ["self", "entries"] ["self", "entries"] (defScope s_Tree_told_form) := ⟨rfl, rfl, rfl, by decide +kernel, rfl, by decide +kernel, by decide +kernel⟩
theorem ok_Tree_told_form {f : Addr} {fd : FuncData} (F : FunD K "told_form" "Tree.told_form" (defArgs s_Tree_told_form) (defBody s_Tree_told_form) (defScope s_Tree_told_form) [] [] f fd) (g : G mg) {CK : Addr} (mK : mg "Kept" = some (.ref CK)) (kS : L2.SCls K CK) {pL : Addr} (kL : L2.Slt K CK "own_list" 0 pL) (kI : SlX.SIsi K CK) (kT : PySem.W.kitOne K (.ref CK) (.ref CK) = some true) (kU : PySem.W.kitOne K (.type "tuple") (.ref CK) = some false) {T : List (Addr × Str)} (c_require_entries : Cl P w K mg base 4 "require_entries" (sp_require_entries K)) (c_form_with : Cl P w K mg base 12 "form_with" (sp_form_with K T)) : FnOk P w K mg base CX0 13 f fd ["self", "entries"] (sp_told_form K CK T) := by
  have nd := sc_Tree_told_form.nd
  refine F.ok sc_Tree_told_form (fun vs H Q E h => h.len) (fun cdv A outer s H vs Q E hr h => ?_)
  obtain ⟨v1, v2, rfl, h⟩ := h
  refine ⟨_, PSs.nox (pss_cons (ps_if (pt_val (pe_callB (call_isiKept kS.ic kS.pg kI kT kU) (by rfl) g.f_isinstance boot_isinstance (pa_cons (pv 1) (pa_cons (pe_glob (v := .ref CK) (by rfl) mK rfl) pa_nil)))) (pss_one (ps_ret (pe_slot kS kL (pv 1)))) pss_nil) (pss_cons (ps_expr (pc c_require_entries hr (by first | decide | omega) (by rfl) (pa_cons (pv 1) pa_nil))) (pss_one (ps_ret (pc c_form_with hr (by first | decide | omega) (by rfl) (pa_cons (pv 1) pa_nil)))))), ?_⟩
  rcases h with ⟨fv, ⟨a, dx, rfl, hs⟩, q⟩ | ⟨es, h1, ho, hn, hl, hT, q⟩
  · wtm_at "go0"
    refine ⟨_, rfl, .inl ⟨a, dx, _, rfl, hs, ?_⟩⟩
    wtm_at "go"
    exact ⟨_, rfl, a, dx, _, _, rfl, hs, rfl, q⟩
  · wtm_at "go0"
    refine ⟨_, rfl, .inr ⟨_, h1, ?_⟩⟩
    wtm_at "go"
    refine use_require_entries h1 ho hn (by omega) (fun H2 e2 => ?_)
    wtm_at "go"
    exact use_form_with (dpMono e2 h1) ho hl (hT.ext e2) (fun v H3 s r p e t d => q v H3 s r p ((exN e2).trans e) t d)
theorem head_en (x : En) (u : V) (h : Dp K H u (enD x)) : ∃ t y ys, u = .ref t ∧ SqT K H t (y :: ys) ∧ HedI K H y [x.1] := by
  obtain ⟨t, us, rfl, hs, ha⟩ := dpTup h
  cases ha with
  | cons h1 h2 =>
    cases dpInt h1
    exact ⟨t, _, _, rfl, hs, _, rfl, rfl⟩
theorem nodup_one {es : List En} (h : (es.map (·.1)).Nodup) : (es.map fun e => [e.1]).Nodup := by
  have e : (es.map fun e => [e.1]) = (es.map (·.1)).map fun i => [i] := by rw [List.map_map]; rfl
  rw [e]
  exact List.Pairwise.map _ (fun a b (hab : a ≠ b) z => hab (by simpa using z)) h
theorem KeptAt.mono {CK : Addr} {v fv : V} (h : KeptAt H CK v fv) (e : Ex H H') : KeptAt H' CK v fv := by
  obtain ⟨a, dx, h1, h2, h3, h4⟩ := h
  refine ⟨a, dx, h1, e _ _ h2, h3, ?_⟩
  rcases h4 with h4 | ⟨h4, h5⟩
  · exact .inl (e _ _ h4)
  · cases h4
end
end Wb

namespace Wb
open PySem PySem.Spec PyProof.Rows L2 StX
open Evl (Ex Ex.refl Ex.trans Ex.new)
open LamX (Tabs TabS TabB ExtN CodeO)
open LmK (dpN dpNA exN tabsE sqlN sqtN rdN)
local macro_rules | `(tactic| wtm_at "dp") => `(tactic| first | with_reducible assumption | with_reducible exact Dp.int _ | with_reducible exact Dp.bl _ | with_reducible exact Dp.str _ | with_reducible exact Dp.non | ((with_reducible refine' dpMono ?dme (by with_reducible assumption)); (case dme => wtm_at "ex")) | ((with_reducible refine' Dp.tup (Evl.st_of ?dph) ?dpa); (case dph => wtm_at "hs"); (case dpa => wtm_at "dpa")) | ((with_reducible refine' Dp.lst (Evl.sq_of ?dph) ?dpa); (case dph => wtm_at "hs"); (case dpa => wtm_at "dpa")))
local macro_rules | `(tactic| wtm_at "dpa") => `(tactic| first | with_reducible exact DpAll.nil | ((with_reducible refine' DpAll.cons ?dp1 ?dp2); (case dp1 => wtm_at "dp"); (case dp2 => wtm_at "dpa")) | with_reducible assumption | ((with_reducible refine' dpMonoA ?dme (by with_reducible assumption)); (case dme => wtm_at "ex")))
local macro_rules | `(tactic| wtm_at "sz") => `(tactic| first | with_reducible assumption | ((with_reducible refine' sz_mul ?sz1 ?sz2); (case sz1 => wtm_at "sz"); (case sz2 => wtm_at "sz")) | ((with_reducible refine' sz_add ?sz1 ?sz2); (case sz1 => wtm_at "sz"); (case sz2 => wtm_at "sz")) | ((with_reducible refine' sz_sub ?sz1 ?sz2); (case sz1 => wtm_at "sz"); (case sz2 => wtm_at "sz")) | ((with_reducible refine' sz_neg ?sz1); (case sz1 => wtm_at "sz")) | ((with_reducible refine' sz_div ?sz1); (case sz1 => wtm_at "sz")) | ((with_reducible refine' sz_fdiv ?sz1); (case sz1 => wtm_at "sz")) | exact sz_lit (by decide) | wtm_at "sz2")
local macro_rules | `(tactic| wtm_at "szb") => `(tactic| first | with_reducible assumption | ((with_reducible refine' sz_mono ?szb1 ?szb2); (case szb1 => wtm_at "sz"); (case szb2 => decide)))
local macro_rules | `(tactic| wtm_at "nz") => `(tactic| first | assumption | decide | omega)
local macro_rules | `(tactic| wtm_at "shaped") => `(tactic| first | rfl | decide)
local macro_rules | `(tactic| wtm_at "sset") => `(tactic| ((dsimp only [L2.wipe, List.set, List.set_cons_zero, List.set_cons_succ]) <;> exact rfl))
local macro_rules | `(tactic| wtm_at "nrm") => `(tactic| dsimp only [L2.start, L2.wipe, List.set, List.append, List.map, List.map_cons, List.map_nil, List.length_cons, List.length_nil, Nat.reduceAdd, Nat.reduceSub, List.reduceReplicate, List.replicate, List.cons_append, List.nil_append, List.set_cons_zero, List.set_cons_succ])
local macro_rules | `(tactic| wtm_at "st") => `(tactic| first
  | ((with_reducible refine' i_var (v := ?u0) ?u1 ?uq); (case u1 => exact rfl))
  | ((with_reducible refine' i_nameN ?u0 ?uq); (case u0 => wtm_at "sset"))
  | (with_reducible refine' i_op ?uq)
  | (with_reducible refine' i_c ?uq)
  | (with_reducible refine' i_I0 ?uq)
  | ((with_reducible refine' i_ixTI (i := ?u0) ?u1 ?u2 ?u3 ?uq); (case u1 => wtm_at "dp"); (case u2 => wtm_at "ex"); (case u3 => exact rfl))
  | ((with_reducible refine' i_ixT (d := ?u0) ?u1 ?u2 ?u3 (fun xu hxu => ?uq)); (case u1 => wtm_at "dp"); (case u2 => wtm_at "ex"); (case u3 => exact rfl))
  | ((with_reducible refine' i_mul ?u0 ?u1 ?u2 ?uq); (case u0 => wtm_at "sz"); (case u1 => wtm_at "sz"); (case u2 => first | decide | omega))
  | (with_reducible refine' i_seq ?uq)
  | (with_reducible refine' i_asg ?uq)
  | (with_reducible refine' i_ret ?uq)
  | (with_reducible refine' i_ifs ?uq)
  | (with_reducible refine' i_drop ?uq)
  | (with_reducible refine' i_next ?uq)
  | (with_reducible refine' i_cons ?uq)
  | (with_reducible refine' i_nil ?uq)
  | (with_reducible refine' i_cl ?uq)
  | (with_reducible refine' i_cb ?uq)
  | (with_reducible refine' i_tup ?uq)
  | (with_reducible refine' i_lst ?uq)
  | ((with_reducible refine' i_mkT ?u0 (fun np nH nhe nhp => ?uq)); (case u0 => exact Nat.le_of_ble_eq_true rfl))
  | (with_reducible refine' i_test ?uq)
  | (with_reducible refine' i_B ?uq)
  | (with_reducible refine' i_k ?uq)
  | (with_reducible refine' i_and ?uq)
  | (with_reducible refine' i_or ?uq)
  | (with_reducible refine' i_not ?uq)
  | (with_reducible refine' i_andV ?uq)
  | (with_reducible refine' i_orV ?uq)
  | (with_reducible refine' i_notV ?uq)
  | (with_reducible refine' i_if ?uq)
  | (with_reducible refine' i_un ?uq)
  | (with_reducible refine' i_U ?uq)
  | (with_reducible refine' i_iteT ?uq)
  | (with_reducible refine' i_iteF ?uq)
  | ((with_reducible refine' i_iteTr ?u0 ?uq); (case u0 => first | with_reducible rfl | decide | (simp only [dIsInt, dIsBool, dIsTup, dIsStr, dIsLst, Bool.not_true, Bool.not_false]; done)))
  | ((with_reducible refine' i_iteFr ?u0 ?uq); (case u0 => first | with_reducible rfl | decide | (simp only [dIsInt, dIsBool, dIsTup, dIsStr, dIsLst, Bool.not_true, Bool.not_false]; done)))
  | (with_reducible refine' i_ite (fun hif => ?uqa) (fun hif => ?uqb))
  | (with_reducible refine' i_iteN (fun hif => ?uqa) (fun hif => ?uqb))
  | (with_reducible refine' i_iteBN (fun hif => ?uqa) (fun hif => ?uqb))
  | (with_reducible refine' i_iteB (fun hif => ?uqa) (fun hif => ?uqb))
  | ((with_reducible refine' i_modN ?u0 ?uq); (case u0 => wtm_at "nz"))
  | ((with_reducible refine' i_fdX ?u0 ?u1 ?u2 ?uq); (case u0 => wtm_at "nz"); (case u1 => wtm_at "sz"); (case u2 => first | decide | omega))
  | ((with_reducible refine' i_pow ?u0 ?uq); (case u0 => exact ⟨by decide, by decide +kernel⟩))
  | (with_reducible refine' i_eqI ?uq)
  | (with_reducible refine' i_neI ?uq)
  | (with_reducible refine' i_gcd ?uq)
  | (with_reducible refine' i_qabs ?uq)
  | (with_reducible refine' i_qint ?uq)
  | (with_reducible refine' i_qintB ?uq)
  | (with_reducible refine' i_qmax2 ?uq)
  | (with_reducible refine' i_qmin2 ?uq)
  | (with_reducible refine' i_isB ?uq)
  | (with_reducible refine' i_notB ?uq)
  | (with_reducible refine' i_chain ?uq)
  | (with_reducible refine' i_qisN ?uq)
  | (with_reducible refine' i_qnotN ?uq)
  | (with_reducible refine' i_yes ?uq)
  | (with_reducible refine' i_par ?uq)
  | (with_reducible refine' i_par3 ?uq)
  | ((with_reducible refine' i_par2 ?u0 ?uq); (case u0 => wtm_at "sset"))
  | ((with_reducible refine' i_par33 ?u0 ?uq); (case u0 => wtm_at "sset"))
  | ((with_reducible refine' i_ixLI (i := ?u0) ?u1 ?u2 ?u3 ?uq); (case u1 => wtm_at "dp"); (case u2 => wtm_at "ex"); (case u3 => exact rfl))
  | ((with_reducible refine' i_ixL (d := ?u0) ?u1 ?u2 ?u3 (fun xu hxu => ?uq)); (case u1 => wtm_at "dp"); (case u2 => wtm_at "ex"); (case u3 => exact rfl))
  | ((with_reducible refine' i_qlenT ?u0 ?uq); (case u0 => wtm_at "dp"))
  | ((with_reducible refine' i_qlenL ?u0 ?uq); (case u0 => wtm_at "dp"))
  | ((with_reducible refine' i_gtup ?u0 ?u1 ?u2 (fun gvs gdp => ?uq)); (case u0 => wtm_at "dp"); (case u1 => wtm_at "ex"); (case u2 => exact rfl))
  | ((with_reducible refine' i_glst ?u0 ?u1 ?u2 (fun gvs gdp => ?uq)); (case u0 => wtm_at "dp"); (case u1 => wtm_at "ex"); (case u2 => exact rfl))
  | ((with_reducible refine' i_gconsI ?u0 (fun gr gh => ?uq)); (case u0 => with_reducible assumption))
  | ((with_reducible refine' i_gconsA ?u0 (fun gv gr gh1 gh2 => ?uq)); (case u0 => with_reducible assumption))
  | ((with_reducible refine' i_gnilA ?u0 ?uq); (case u0 => with_reducible assumption))
  | ((with_reducible refine' i_isiI ?u0 ?uq); (case u0 => wtm_at "dp"))
  | ((with_reducible refine' i_isiB ?u0 ?uq); (case u0 => wtm_at "dp"))
  | ((with_reducible refine' i_isiT ?u0 ?uq); (case u0 => wtm_at "dp"))
  | ((with_reducible refine' i_isiS ?u0 ?uq); (case u0 => wtm_at "dp"))
  | ((with_reducible refine' i_isiL ?u0 ?uq); (case u0 => wtm_at "dp"))
  | ((with_reducible refine' i_eqD ?u0 ?u1 ?u2 ?u3 ?uq); (case u0 => wtm_at "dp"); (case u1 => wtm_at "dp"); (case u2 => wtm_at "shaped"); (case u3 => wtm_at "shaped"))
  | ((with_reducible refine' i_neD ?u0 ?u1 ?u2 ?u3 ?uq); (case u0 => wtm_at "dp"); (case u1 => wtm_at "dp"); (case u2 => wtm_at "shaped"); (case u3 => wtm_at "shaped"))
  | wtm_at "st2"
  | wtm_at "use")
local macro_rules | `(tactic| wtm_at "go") => `(tactic| repeat' (wtm_at "st"))
local macro_rules | `(tactic| wtm_at "go0") => `(tactic| ((try dsimp only [L2.cxOf, L2.Cx.nox, L2.Cx.wish, L2.Cx.tr, L2.Cx.blk]); (try wtm_at "nrm"); wtm_at "go"))
local macro_rules | `(tactic| wtm_at "fin") => `(tactic| ((try dsimp only); first | with_reducible assumption | assumption | ((with_reducible refine' Ret.use ?rur ?rue ?rud); (case rur => with_reducible assumption); (case rue => wtm_at "ex"); (case rud => wtm_at "dp"))))
local macro_rules | `(tactic| wtm_at "exh") => `(tactic| first | with_reducible assumption | with_reducible exact Ex.refl _ | with_reducible exact ex_hid | ((with_reducible refine' Ex.trans ?exe (by with_reducible assumption)); (case exe => wtm_at "exh")) | ((with_reducible refine' Ex.trans ?exe (hid_ex (by with_reducible assumption))); (case exe => wtm_at "exh")))
local macro_rules | `(tactic| wtm_at "ex") => `(tactic| first | with_reducible assumption | with_reducible exact Ex.refl _ | with_reducible exact ex_hid | ((with_reducible refine' Ex.trans ?exe (by with_reducible assumption)); (case exe => wtm_at "ex")) | ((with_reducible refine' Ex.trans ?exe (hid_ex (by with_reducible assumption))); (case exe => wtm_at "ex")) | ((with_reducible refine' Ex.trans ?exe ex_hid); (case exe => wtm_at "exh")))
local macro_rules | `(tactic| wtm_at "bag") => `(tactic| first | with_reducible assumption | ((with_reducible refine' Bag.mono ?bgm (by with_reducible assumption)); (case bgm => wtm_at "bag")))
local macro_rules | `(tactic| wtm_at "hs") => `(tactic| first | with_reducible assumption | ((with_reducible refine' hid_tup ?hb ?hp); (case hp => with_reducible assumption); (case hb => wtm_at "bag")) | ((with_reducible refine' hid_new ?hb ?hn ?hp); (case hp => with_reducible assumption); (case hn => with_reducible assumption); (case hb => wtm_at "bag")) | ((with_reducible refine' ex_at ?exe (by with_reducible assumption)); (case exe => wtm_at "ex")))
local macro_rules | `(tactic| wtm_at "st2") => `(tactic| first
  | ((with_reducible refine' i_mulC ?u0 ?uq); (case u0 => first | exact cmul_l (by decide) | exact cmul_r (by decide)))
  | ((with_reducible refine' i_ixLr (v := ?u0) ?u1 ?u2 ?uq); (case u1 => with_reducible assumption); (case u2 => exact rfl))
  | (with_reducible refine' i_sub ?uq)
  | ((with_reducible refine' i_mkL ?u0 (fun np nH nfr nhe nhp => ?uq)); (case u0 => exact Nat.le_of_ble_eq_true rfl))
  | ((with_reducible refine' i_setL (n := ?u0) ?u1 ?u2 (fun sH sh se => ?uq)); (case u1 => with_reducible assumption); (case u2 => exact rfl))
  | (with_reducible refine' i_sl ?uq)
  | (with_reducible refine' i_nopart ?uq)
  | (with_reducible refine' i_part ?uq)
  | (with_reducible refine' i_part1 ?uq))
local macro_rules | `(tactic| wtm_at "sz2") => `(tactic| ((with_reducible refine' sz_fmod ?sz1 ?sz2); (case sz1 => wtm_at "nz"); (case sz2 => wtm_at "sz")))
local macro_rules | `(tactic| wtm_at "stb") => `(tactic| first
  | ((with_reducible refine' i_mkTB ?u0 ?u1 (fun np nH nhe nhb nhp => ?uq)); (case u0 => exact Nat.le_of_ble_eq_true rfl); (case u1 => wtm_at "bag"))
  | ((with_reducible refine' i_mkLB ?u0 ?u1 (fun np nH nfr nhe nhb nhp => ?uq)); (case u0 => exact Nat.le_of_ble_eq_true rfl); (case u1 => wtm_at "bag"))
  | wtm_at "st")
local macro_rules | `(tactic| wtm_at "gob") => `(tactic| repeat' (wtm_at "stb"))
local macro_rules | `(tactic| wtm_at "gob0") => `(tactic| ((try dsimp only [L2.cxOf, L2.Cx.nox, L2.Cx.wish, L2.Cx.tr, L2.Cx.blk]); (try wtm_at "nrm"); wtm_at "gob"))
local macro_rules | `(tactic| wtm_at "st") => `(tactic| first | ((with_reducible refine' i_ixTS (z := ?u0) ?u1 ?u2 ?u3 ?uq); (case u1 => wtm_at "dp"); (case u2 => wtm_at "ex"); (case u3 => exact rfl)) | fail)
local macro_rules | `(tactic| wtm_at "st2") => `(tactic| first | ((with_reducible refine' i_eqST ?u0 ?uq); (case u0 => with_reducible rfl)) | ((with_reducible refine' i_eqSF ?u0 ?uq); (case u0 => decide +kernel)) | ((with_reducible refine' i_neST ?u0 ?uq); (case u0 => with_reducible rfl)) | ((with_reducible refine' i_neSF ?u0 ?uq); (case u0 => decide +kernel)) | fail)
section
variable {P : Program} {w : World} {K : PySem.W.Frag} {mg : Str → Option Value} {base : Heap} {H H' : Hp} {Q : VK} {E : XK} {v1 v2 v3 v4 v5 : V}
theorem exN_mut {G : Hp} {x : Addr} {o : HO} (e : ExtN G H) (hx : G x = none) : ExtN G (upd H x o) := fun b u h n => by
  rw [upd_ne (ne_of_none h hx)]
  exact e b u h n
theorem tabs_upd {T : List (Addr × Str)} {x : Addr} {o o' : HO} (t : Tabs T H) (hx : H x = some o) (h1 : ∀ ps, o ≠ .tbl ps) (h2 : ∀ c q, o ≠ CodeO c q) : Tabs T (upd H x o') := fun p hp => by
  obtain ⟨ps, a1, a2, a3⟩ := t p hp
  refine ⟨ps, ?_, a2, fun pos cv hc => ?_⟩
  · rw [upd_ne (ne_of a1 hx fun z => h1 ps z.symm)]
    exact a1
  · obtain ⟨c, e1, e2⟩ := a3 pos cv hc
    refine ⟨c, e1, ?_⟩
    rw [upd_ne (ne_of e2 hx fun z => h2 c _ z.symm)]
    exact e2
theorem ins_code {C dx : Addr} {fs : List (Str × V)} : ∀ c q, HO.ins C dx fs ≠ CodeO c q := fun c q z => by
  unfold CodeO at z
  cases z
/-- the tree of a form, its dict of boxes -/
def TreeB (K : PySem.W.Frag) (CT : Addr) (H : Hp) (x dx : Addr) (s : Fs) : Prop := ∃ (fs : List (Str × V)) (fv : V), H x = some (.ins CT dx fs) ∧ fs.lookup ("own_form" : Str) = some fv ∧ Dp K H fv (fsD s) ∧ (∀ m : Str, m ≠ "own_form" → m ≠ "own_boxes" → fs.lookup m = none)
theorem TreeB.at_ {CT x dx : Addr} {s : Fs} (h : TreeB K CT H x dx s) : TreeAt K CT H x s := by
  obtain ⟨fs, fv, h1, h2, h3, _⟩ := h
  exact ⟨dx, fs, fv, h1, h2, h3⟩
theorem TreeB.monoN {CT x dx : Addr} {s : Fs} (h : TreeB K CT H x dx s) (e : ExtN H H') : TreeB K CT H' x dx s := by
  obtain ⟨fs, fv, h1, h2, h3, h4⟩ := h
  exact ⟨fs, fv, e _ _ h1 (fun ps z => by cases z), h2, dpN e h3, h4⟩
theorem TreeB.mono {CT x dx : Addr} {s : Fs} (h : TreeB K CT H x dx s) (e : Ex H H') : TreeB K CT H' x dx s := h.monoN (exN e)
/-- what a tree is told by: a kept form or entries -/
def TelD (K : PySem.W.Frag) (CK : Addr) (G H : Hp) (v : V) (P : Fs → Prop) : Prop := (∃ fv s, KeptAt H CK v fv ∧ Dp K G fv (fsD s) ∧ Sm s.1 s.2 ∧ s.1 ≤ 3 ∧ ((fsE s).map (·.1)).Nodup ∧ P s) ∨
  (∃ es : List En, Dp K H v (.tuple (es.map enD)) ∧ (∀ e ∈ es, e.2.ok) ∧ (es.map (·.1)).Nodup ∧ es.length ≤ 15 ∧ ∀ s, Root s → (fsE s).Perm es → P s)
theorem use_told_form {CK : Addr} {T : List (Addr × Str)} {G : Hp} {P : Fs → Prop} (eG : Ex G H) (hT : Tabs T H) (hcase : TelD K CK G H v2 P)
    (q : ∀ fv H1 s, ExtN H H1 → Tabs T H1 → (Dp K G fv (fsD s) ∨ Dp K H1 fv (fsD s)) → Sm s.1 s.2 → s.1 ≤ 3 → ((fsE s).map (·.1)).Nodup → P s → Q fv H1) : sp_told_form K CK T [v1, v2] H Q E := by
  refine ⟨_, _, rfl, ?_⟩
  rcases hcase with ⟨fv, s, h1, h2, h3, h4, h5, h6⟩ | ⟨es, h1, h2, h3, h4, h5⟩
  · exact .inl ⟨fv, h1, q fv H s (ExtN.refl _) hT (.inl h2) h3 h4 h5 h6⟩
  · refine .inr ⟨es, h1, h2, h3, h4, hT, fun v H1 s r p e t d => q v H1 s e t (.inr d) (sm_of s.1 s.2 r.2.1 r.1) ?_ ?_ (h5 s r p)⟩
    · have := root_le r (by rw [p.length_eq]; exact h4)
      omega
    · exact (p.map (·.1)).nodup_iff.mpr h3
def sp_Tree_init (K : PySem.W.Frag) (CT CK : Addr) (T : List (Addr × Str)) : Sp := A2 fun v1 v2 H Q => ∃ (x dx : Addr) (G : Hp) (P : Fs → Prop), v1 = .ref x ∧ Ex G H ∧ G x = none ∧ H x = some (.ins CT dx []) ∧ Tabs T H ∧ TelD K CK G H v2 P ∧
  ∀ H2 s, P s → ExtN G H2 → Tabs T H2 → TreeB K CT H2 x dx s → Q .non H2
abbrev s_Tree_init : Stmt := inClass (top 51) 0
theorem sc_Tree_init : FnScope ["self", "entries", "number", "box"] ["self", "entries"] (defScope s_Tree_init) := ⟨rfl, rfl, rfl, by decide +kernel, rfl, by decide +kernel, by decide +kernel⟩
theorem ok_Tree_init {f : Addr} {fd : FuncData} (F : FunD K "__init__" "Tree.__init__" (defArgs s_Tree_init) (defBody s_Tree_init) (defScope s_Tree_init) [.ref (dfT K)] [] f fd) (g : G mg) {CT : Addr} (ct : Cls K CT) (na : NoAttr K CT "own_form") (nb : NoAttr K CT "own_boxes") {T : List (Addr × Str)} {CK fTF : Addr} {fdTF : FuncData} (mTF : Meth K CT "told_form" fTF) (FTF : FnOk P w K mg base CX0 13 fTF fdTF ["self", "entries"] (sp_told_form K CK T)) (bTF : Binds K fdTF ["self", "entries"] []) (c_entries_in : Cl P w K mg base 4 "entries_in" (sp_entries_in K 4)) : FnOk P w K mg base CX0 14 f fd ["self", "entries"] (sp_Tree_init K CT CK T) := by
  have nd := sc_Tree_init.nd
  refine F.ok sc_Tree_init (fun vs H Q E h => h.len) (fun cdv A outer s H vs Q E hr h => ?_)
  obtain ⟨v1, v2, rfl, h⟩ := h
  refine ⟨_, PSs.nox (pss_cons (ps_fld (pv 0) (pe_meth (pv 0) ct mTF FTF (hr.mono (by decide)) bTF .nil pass0 (pa_cons (pv 1) pa_nil)) rfl) (pss_one (ps_fld (pv 0) (pe_dc (own := [("number", 2), ("box", 3)]) (g := _) (by rfl) nd (pi_list (pe_callB cr_sortHI (by rfl) g.f_sorted boot_sorted (pa_cons (pc c_entries_in hr (by first | decide | omega) (by rfl) (pa_cons (pe_fld (pv 0) rfl) pa_nil)) pa_nil))) (blkOk_by (N := ["self", "entries", "number", "box"]) (sc := defScope s_Tree_init) (own := [("number", 2), ("box", 3)]) (by decide +kernel)) (fun _ _ _ _ _ => (show PG _ _ (gTup K 2 _) from (pg_tup (by rfl) (pgs_cons (pg_name (i := 2) nd rfl (Or.inl rfl)) (pgs_cons (pg_name (i := 3) nd rfl (Or.inl rfl)) pgs_nil))))) (fun _ _ _ _ _ => pts_nil) (fun _ _ _ _ _ => (pv 2)) (fun _ _ _ _ _ => (pv 3))) rfl))), ?_⟩
  obtain ⟨x, dx, G, P0, rfl, eG, hGx, hx, hT, hcase, q⟩ := h
  wtm_at "go0"
  refine i_sFldU ?_
  refine i_methU ?_
  wtm_at "go"
  refine ⟨x, dx, [], rfl, hx, rfl, ?_⟩
  wtm_at "go"
  refine use_told_form eG hT hcase (fun fv H1 s e1 t1 hfv hs h3 hnd hP => ?_)
  wtm_at "go"
  have hx1 := e1 _ _ hx (fun ps z => by cases z)
  refine ⟨x, CT, dx, [], rfl, hx1, ct, na, by decide, ?_⟩
  have ep : putF "own_form" fv ([] : List (Str × V)) = [(("own_form" : Str), fv)] := rfl
  rw [ep]
  have eG2 : ExtN G (upd H1 x (.ins CT dx [(("own_form" : Str), fv)])) := exN_mut ((exN eG).trans e1) hGx
  have t2 : Tabs T (upd H1 x (.ins CT dx [(("own_form" : Str), fv)])) := tabs_upd t1 hx1 (fun ps z => by cases z) ins_code
  have hf2 : Dp K (upd H1 x (.ins CT dx [(("own_form" : Str), fv)])) fv (fsD s) := by
    rcases hfv with h | h
    · exact dpN eG2 h
    · exact dpUpdO hx1 (fun z h => by cases h) (fun q z h => by cases h) (noL_fs s) h
  have hx2 : upd H1 x (.ins CT dx [(("own_form" : Str), fv)]) x = some (.ins CT dx [(("own_form" : Str), fv)]) := upd_same
  generalize upd H1 x (.ins CT dx [(("own_form" : Str), fv)]) = H2 at *
  dsimp only
  refine i_sFldU ?_
  refine i_dcU ?_
  wtm_at "go"
  refine i_fldU ?_
  wtm_at "go"
  refine ⟨x, CT, dx, _, fv, rfl, hx2, ct, na, rfl, ?_⟩
  wtm_at "go"
  refine use_entries_in (n := 4) (by omega) (by omega) hf2 hs (fun p3 H3 n3 e3 h3' => ?_)
  wtm_at "go"
  refine i_sortH (enc := enD) (key := fun e => [e.1]) (xs := ents s.1 s.2) h3' (fun e _ u hu => head_en e u hu) (nodup_one hnd) (fun p4 H4 ys hy1 hy2 n4 e4 h4 => ?_)
  wtm_at "go"
  have hyl : ys.length ≤ 256 := by rw [hy1.length_eq]; exact ents_le h3 hs
  refine i_dcK (enc := enD) (xs := ys) (fun e => Sum.inl e.1) h4 (by omega) (fun u e H5 R Y e5 hm hu hy => ?_) (fun D H5 kvs hD e5 hd5 hn5 hm5 => ?_)
  · unfold enD at hu
    wtm_at "nrm"
    wtm_at "go"
    refine ⟨rfl, ?_⟩
    wtm_at "go"
    exact hy _ _ (Ex.refl _)
  wtm_at "go"
  have e25 : Ex H2 H5 := (e3.trans e4).trans e5
  have hx5 := e25 _ _ hx2
  refine ⟨x, CT, dx, _, rfl, hx5, ct, nb, (by show 1 < 1000; decide), ?_⟩
  have ep2 : putF "own_boxes" (.ref D) [(("own_form" : Str), fv)] = [(("own_form" : Str), fv), (("own_boxes" : Str), .ref D)] := rfl
  rw [ep2]
  dsimp only
  refine q _ s hP (exN_mut (eG2.trans (exN e25)) hGx) (tabs_upd (t2.ext e25) hx5 (fun ps z => by cases z) ins_code) ⟨_, fv, upd_same, rfl, dpUpdO hx5 (fun z h => by cases h) (fun q z h => by cases h) (noL_fs s) (dpMono e25 hf2), fun m h1 h2 => ?_⟩
  have a1 : (m == ("own_form" : Str)) = false := beq_eq_false_iff_ne.mpr h1
  have a2 : (m == ("own_boxes" : Str)) = false := beq_eq_false_iff_ne.mpr h2
  simp only [List.lookup, a1, a2]
def sp_Tree_told (K : PySem.W.Frag) (CT : Addr) (T : List (Addr × Str)) : Sp := A2 fun v1 v2 H Q => v1 = .ref CT ∧ ∃ s : Fs, Dp K H v2 (fsD s) ∧ Root s ∧ s.1 ≤ 3 ∧ ((fsE s).map (·.1)).Nodup ∧ Tabs T H ∧ ∀ x dx H2, ExtN H H2 → Tabs T H2 → TreeB K CT H2 x dx s → Q (.ref x) H2
abbrev s_Tree_told : Stmt := inClass (top 51) 2
theorem sc_Tree_told : FnScope ["cls", "form", "flaws", "word"] ["cls", "form"] (defScope s_Tree_told) := ⟨rfl, rfl, rfl, by decide +kernel, rfl, by decide +kernel, by decide +kernel⟩
theorem ok_Tree_told {f : Addr} {fd : FuncData} (F : FunD K "told" "Tree.told" (defArgs s_Tree_told) (defBody s_Tree_told) (defScope s_Tree_told) [] [] f fd) (g : G mg) {T : List (Addr × Str)} {CT CK fT fK : Addr} {fdT fdK : FuncData} (mK : mg "Kept" = some (.ref CK)) (MT : Mk K CT fT) (FT : FnOk P w K mg base CX0 14 fT fdT ["self", "entries"] (sp_Tree_init K CT CK T)) (bT : Binds K fdT ["self", "entries"] []) (MK : Mk K CK fK) (FK : FnOk P w K mg base CX0 1 fK fdK ["self", "form"] (sp_Kept_init K CK)) (bK : Binds K fdK ["self", "form"] []) (c_flaws_of : Cl P w K mg base 11 "flaws_of" (sp_flaws_of K 4)) : FnOk P w K mg base CX0 16 f fd ["cls", "form"] (sp_Tree_told K CT T) := by
  have nd := sc_Tree_told.nd
  refine F.ok sc_Tree_told (fun vs H Q E h => h.len) (fun cdv A outer s H vs Q E hr h => ?_)
  obtain ⟨v1, v2, rfl, h⟩ := h
  refine ⟨_, PSs.nox (pss_cons (ps_set (i := 2) nd rfl (Or.inl rfl) (pc c_flaws_of hr (by first | decide | omega) (by rfl) (pa_cons (pv 1) pa_nil))) (pss_cons (ps_if (pt_cmpR (op_neD hr.units) (pe_lc (own := [("word", 3)]) (g := gName 3) (by rfl) nd (pi_list (pv 2)) (blkOk_by (N := ["cls", "form", "flaws", "word"]) (sc := defScope s_Tree_told) (own := [("word", 3)]) (by decide +kernel)) (fun _ _ _ _ _ => (pg_name (i := 3) nd rfl (Or.inl rfl))) (fun _ _ _ _ _ => (pts_one (pt_cmpR op_ne (pv 3) pe_str (nomark _)))) (fun _ _ _ _ _ => (pv 3))) (pe_lst pa_nil) (nomark _)) (pss_one ps_never) pss_nil) (pss_cons (ps_if (pt_cmpR (op_neD hr.units) (pv 2) (pe_lst pa_nil) (nomark _)) (pss_one ps_never) pss_nil) (pss_one (ps_ret (pe_makeV (i := 0) MT FT (hr.mono (by decide)) (pv 0) bT pass0 (pa_cons (pe_make MK FK (hr.mono (by decide)) (by rfl) mK bK .nil pass0 (pa_cons (pv 1) pa_nil)) pa_nil))))))), ?_⟩
  obtain ⟨rfl, s, h2, ⟨hr', hz4, hz2⟩, h3, hnd, hT, q⟩ := h
  have hs := sm_of s.1 s.2 hz4 hr'
  have hb := bok_of s.1 s.2 hr'
  wtm_at "go0"
  refine ⟨_, rfl, s.1, by omega, by omega, s.2, h2, hs, hb, hr', hz2, hz4, hnd, fun p H1 n1 e1 h1 => ?_⟩
  wtm_at "go"
  refine i_lcLU ?_
  wtm_at "go"
  refine i_lcGL (α := Unit) (enc := fun _ => .none) (xs := []) (fun _ => true) (fun _ => .none) h1 (Nat.zero_le _) (fun _ _ => rfl) (fun u x H2 R Y e2 hm hu hn hy => by cases hm) (fun p2 H2 hp2 e2 hl2 => ?_)
  wtm_at "go"
  have e12 := e1.trans e2
  rename_i p3 H3 n3 e3 hp3 p4 H4 n4 e4 hp4
  have e04 : Ex H H4 := by wtm_at "ex"
  refine ⟨rfl, ?_⟩
  refine i_mkU ?_
  wtm_at "go"
  refine i_mkU ?_
  wtm_at "go"
  intro k kdx nk nkd nek
  refine ⟨_, _, rfl, k, kdx, rfl, SlAt.made nek, rfl, ?_⟩
  have eK : Ex H4 (upd (upd (upd H4 kdx (.own k)) k (.ins CK kdx [])) k (SlO CK kdx k [some v2])) := Evl.Ex.mut (Evl.Ex.mut (Ex.new nkd) nk) nk
  have hK : KeptAt (upd (upd (upd H4 kdx (.own k)) k (.ins CK kdx [])) k (SlO CK kdx k [some v2])) CK (.ref k) v2 := ⟨k, kdx, rfl, SlAt.here (SlAt.made nek)⟩
  generalize upd (upd (upd H4 kdx (.own k)) k (.ins CK kdx [])) k (SlO CK kdx k [some v2]) = HK at *
  wtm_at "go"
  intro x dx nx ndx nex
  have e5 : Ex HK (upd (upd HK dx (.own x)) x (.ins CT dx [])) := Evl.Ex.mut (Ex.new ndx) nx
  have e0K := e04.trans eK
  refine ⟨_, _, rfl, x, dx, HK, fun s' => s' = s, rfl, e5, nx, upd_same, hT.ext (e0K.trans e5), .inl ⟨v2, s, hK.mono e5, dpMono e0K h2, hs, h3, hnd, rfl⟩, fun H6 s' es' e6 t6 hB => ⟨rfl, ?_⟩⟩
  subst es'
  exact q x dx H6 ((exN e0K).trans e6) t6 hB
structure TIs (K : PySem.W.Frag) (CT : Addr) : Prop where
  ct : Cls K CT
  ha : PySem.W.findIn K (.ref CT) "__class__" = some (some (.builtin "object.__class__"))
  hn : PySem.W.specialIn K (.builtin "object.__class__") "__get__" = some (some (.builtin "getset_descriptor.__get__"))
  htk : PySem.W.takesIn K (.builtin "object.__class__") = some true
  hm : PySem.W.mroIn K CT (.type "object") = some true
  kt : PySem.W.kitOne K (.ref CT) (.ref CT) = some true
theorem i_isiTr {CT a dx : Addr} {fs : List (Str × V)} (t : TIs K CT) (h : H a = some (.ins CT dx fs)) (q : Q (.bl true) H) : rIsi K [.ref a, .ref CT] H Q := ⟨.ref a, .ref CT, .ref CT, .ref CT, true, rfl, .own CT, .base (.ins h t.ct t.ha t.hn t.htk t.hm), t.kt, q⟩
def sp_require_tree (K : PySem.W.Frag) (CT : Addr) : Sp := A1 fun v1 H Q => ∃ (a dx : Addr) (fs : List (Str × V)), v1 = .ref a ∧ H a = some (.ins CT dx fs) ∧ Q .non H
abbrev s_require_tree : Stmt := top 54
theorem sc_require_tree : FnScope ["value"] ["value"] (defScope s_require_tree) := ⟨rfl, rfl, rfl, by decide +kernel, rfl, by decide +kernel, by decide +kernel⟩
theorem ok_require_tree {f : Addr} {fd : FuncData} (F : FnP K "require_tree" s_require_tree f fd) (g : G mg) {CT : Addr} (mT : mg "Tree" = some (.ref CT)) (tI : TIs K CT)  : FnOk P w K mg base CX0 1 f fd ["value"] (sp_require_tree K CT) := by
  have nd := sc_require_tree.nd
  refine F.ok sc_require_tree (fun vs H Q E h => h.len) (fun cdv A outer s H vs Q E hr h => ?_)
  obtain ⟨v1, rfl, h⟩ := h
  refine ⟨_, PSs.nox (pss_one (ps_if (pt_not (pt_val (pe_callB call_isi (by rfl) g.f_isinstance boot_isinstance (pa_cons (pv 0) (pa_cons (pe_glob (v := .ref CT) (by rfl) mT rfl) pa_nil))))) (pss_one ps_never) pss_nil)), ?_⟩
  obtain ⟨a, dx, fs, rfl, h1, q⟩ := h
  wtm_at "go0"
  refine i_isiTr tI h1 ?_
  wtm_at "go"
  exact q
theorem use_require_tree {CT a : Addr} {s : Fs} (h : TreeAt K CT H a s) (q : Q .non H) : sp_require_tree K CT [.ref a] H Q E := by
  obtain ⟨dx, fs, fv, h1, _⟩ := h
  exact ⟨_, rfl, a, dx, fs, rfl, h1, q⟩
end
end Wb

namespace Wb
open PySem PySem.Spec PyProof.Rows L2 StX
open Evl (Ex Ex.refl Ex.trans Ex.new)
open LmK (pD)
local macro_rules | `(tactic| wtm_at "dp") => `(tactic| first | with_reducible assumption | with_reducible exact Dp.int _ | with_reducible exact Dp.bl _ | with_reducible exact Dp.str _ | with_reducible exact Dp.non | ((with_reducible refine' dpMono ?dme (by with_reducible assumption)); (case dme => wtm_at "ex")) | ((with_reducible refine' Dp.tup (Evl.st_of ?dph) ?dpa); (case dph => wtm_at "hs"); (case dpa => wtm_at "dpa")) | ((with_reducible refine' Dp.lst (Evl.sq_of ?dph) ?dpa); (case dph => wtm_at "hs"); (case dpa => wtm_at "dpa")))
local macro_rules | `(tactic| wtm_at "dpa") => `(tactic| first | with_reducible exact DpAll.nil | ((with_reducible refine' DpAll.cons ?dp1 ?dp2); (case dp1 => wtm_at "dp"); (case dp2 => wtm_at "dpa")) | with_reducible assumption | ((with_reducible refine' dpMonoA ?dme (by with_reducible assumption)); (case dme => wtm_at "ex")))
local macro_rules | `(tactic| wtm_at "sz") => `(tactic| first | with_reducible assumption | ((with_reducible refine' sz_mul ?sz1 ?sz2); (case sz1 => wtm_at "sz"); (case sz2 => wtm_at "sz")) | ((with_reducible refine' sz_add ?sz1 ?sz2); (case sz1 => wtm_at "sz"); (case sz2 => wtm_at "sz")) | ((with_reducible refine' sz_sub ?sz1 ?sz2); (case sz1 => wtm_at "sz"); (case sz2 => wtm_at "sz")) | ((with_reducible refine' sz_neg ?sz1); (case sz1 => wtm_at "sz")) | ((with_reducible refine' sz_div ?sz1); (case sz1 => wtm_at "sz")) | ((with_reducible refine' sz_fdiv ?sz1); (case sz1 => wtm_at "sz")) | exact sz_lit (by decide) | wtm_at "sz2")
local macro_rules | `(tactic| wtm_at "szb") => `(tactic| first | with_reducible assumption | ((with_reducible refine' sz_mono ?szb1 ?szb2); (case szb1 => wtm_at "sz"); (case szb2 => decide)))
local macro_rules | `(tactic| wtm_at "nz") => `(tactic| first | assumption | decide | omega)
local macro_rules | `(tactic| wtm_at "shaped") => `(tactic| first | rfl | decide)
local macro_rules | `(tactic| wtm_at "sset") => `(tactic| ((dsimp only [L2.wipe, List.set, List.set_cons_zero, List.set_cons_succ]) <;> exact rfl))
local macro_rules | `(tactic| wtm_at "nrm") => `(tactic| dsimp only [L2.start, L2.wipe, List.set, List.append, List.map, List.map_cons, List.map_nil, List.length_cons, List.length_nil, Nat.reduceAdd, Nat.reduceSub, List.reduceReplicate, List.replicate, List.cons_append, List.nil_append, List.set_cons_zero, List.set_cons_succ])
local macro_rules | `(tactic| wtm_at "st") => `(tactic| first
  | ((with_reducible refine' i_var (v := ?u0) ?u1 ?uq); (case u1 => exact rfl))
  | ((with_reducible refine' i_nameN ?u0 ?uq); (case u0 => wtm_at "sset"))
  | (with_reducible refine' i_op ?uq)
  | (with_reducible refine' i_c ?uq)
  | (with_reducible refine' i_I0 ?uq)
  | ((with_reducible refine' i_ixTI (i := ?u0) ?u1 ?u2 ?u3 ?uq); (case u1 => wtm_at "dp"); (case u2 => wtm_at "ex"); (case u3 => exact rfl))
  | ((with_reducible refine' i_ixT (d := ?u0) ?u1 ?u2 ?u3 (fun xu hxu => ?uq)); (case u1 => wtm_at "dp"); (case u2 => wtm_at "ex"); (case u3 => exact rfl))
  | ((with_reducible refine' i_mul ?u0 ?u1 ?u2 ?uq); (case u0 => wtm_at "sz"); (case u1 => wtm_at "sz"); (case u2 => first | decide | omega))
  | (with_reducible refine' i_seq ?uq)
  | (with_reducible refine' i_asg ?uq)
  | (with_reducible refine' i_ret ?uq)
  | (with_reducible refine' i_ifs ?uq)
  | (with_reducible refine' i_drop ?uq)
  | (with_reducible refine' i_next ?uq)
  | (with_reducible refine' i_cons ?uq)
  | (with_reducible refine' i_nil ?uq)
  | (with_reducible refine' i_cl ?uq)
  | (with_reducible refine' i_cb ?uq)
  | (with_reducible refine' i_tup ?uq)
  | (with_reducible refine' i_lst ?uq)
  | ((with_reducible refine' i_mkT ?u0 (fun np nH nhe nhp => ?uq)); (case u0 => exact Nat.le_of_ble_eq_true rfl))
  | (with_reducible refine' i_test ?uq)
  | (with_reducible refine' i_B ?uq)
  | (with_reducible refine' i_k ?uq)
  | (with_reducible refine' i_and ?uq)
  | (with_reducible refine' i_or ?uq)
  | (with_reducible refine' i_not ?uq)
  | (with_reducible refine' i_andV ?uq)
  | (with_reducible refine' i_orV ?uq)
  | (with_reducible refine' i_notV ?uq)
  | (with_reducible refine' i_if ?uq)
  | (with_reducible refine' i_un ?uq)
  | (with_reducible refine' i_U ?uq)
  | (with_reducible refine' i_iteT ?uq)
  | (with_reducible refine' i_iteF ?uq)
  | ((with_reducible refine' i_iteTr ?u0 ?uq); (case u0 => first | with_reducible rfl | decide | (simp only [dIsInt, dIsBool, dIsTup, dIsStr, dIsLst, Bool.not_true, Bool.not_false]; done)))
  | ((with_reducible refine' i_iteFr ?u0 ?uq); (case u0 => first | with_reducible rfl | decide | (simp only [dIsInt, dIsBool, dIsTup, dIsStr, dIsLst, Bool.not_true, Bool.not_false]; done)))
  | (with_reducible refine' i_ite (fun hif => ?uqa) (fun hif => ?uqb))
  | (with_reducible refine' i_iteN (fun hif => ?uqa) (fun hif => ?uqb))
  | (with_reducible refine' i_iteBN (fun hif => ?uqa) (fun hif => ?uqb))
  | (with_reducible refine' i_iteB (fun hif => ?uqa) (fun hif => ?uqb))
  | ((with_reducible refine' i_modN ?u0 ?uq); (case u0 => wtm_at "nz"))
  | ((with_reducible refine' i_fdX ?u0 ?u1 ?u2 ?uq); (case u0 => wtm_at "nz"); (case u1 => wtm_at "sz"); (case u2 => first | decide | omega))
  | ((with_reducible refine' i_pow ?u0 ?uq); (case u0 => exact ⟨by decide, by decide +kernel⟩))
  | (with_reducible refine' i_eqI ?uq)
  | (with_reducible refine' i_neI ?uq)
  | (with_reducible refine' i_gcd ?uq)
  | (with_reducible refine' i_qabs ?uq)
  | (with_reducible refine' i_qint ?uq)
  | (with_reducible refine' i_qintB ?uq)
  | (with_reducible refine' i_qmax2 ?uq)
  | (with_reducible refine' i_qmin2 ?uq)
  | (with_reducible refine' i_isB ?uq)
  | (with_reducible refine' i_notB ?uq)
  | (with_reducible refine' i_chain ?uq)
  | (with_reducible refine' i_qisN ?uq)
  | (with_reducible refine' i_qnotN ?uq)
  | (with_reducible refine' i_yes ?uq)
  | (with_reducible refine' i_par ?uq)
  | (with_reducible refine' i_par3 ?uq)
  | ((with_reducible refine' i_par2 ?u0 ?uq); (case u0 => wtm_at "sset"))
  | ((with_reducible refine' i_par33 ?u0 ?uq); (case u0 => wtm_at "sset"))
  | ((with_reducible refine' i_ixLI (i := ?u0) ?u1 ?u2 ?u3 ?uq); (case u1 => wtm_at "dp"); (case u2 => wtm_at "ex"); (case u3 => exact rfl))
  | ((with_reducible refine' i_ixL (d := ?u0) ?u1 ?u2 ?u3 (fun xu hxu => ?uq)); (case u1 => wtm_at "dp"); (case u2 => wtm_at "ex"); (case u3 => exact rfl))
  | ((with_reducible refine' i_qlenT ?u0 ?uq); (case u0 => wtm_at "dp"))
  | ((with_reducible refine' i_qlenL ?u0 ?uq); (case u0 => wtm_at "dp"))
  | ((with_reducible refine' i_gtup ?u0 ?u1 ?u2 (fun gvs gdp => ?uq)); (case u0 => wtm_at "dp"); (case u1 => wtm_at "ex"); (case u2 => exact rfl))
  | ((with_reducible refine' i_glst ?u0 ?u1 ?u2 (fun gvs gdp => ?uq)); (case u0 => wtm_at "dp"); (case u1 => wtm_at "ex"); (case u2 => exact rfl))
  | ((with_reducible refine' i_gconsI ?u0 (fun gr gh => ?uq)); (case u0 => with_reducible assumption))
  | ((with_reducible refine' i_gconsA ?u0 (fun gv gr gh1 gh2 => ?uq)); (case u0 => with_reducible assumption))
  | ((with_reducible refine' i_gnilA ?u0 ?uq); (case u0 => with_reducible assumption))
  | ((with_reducible refine' i_isiI ?u0 ?uq); (case u0 => wtm_at "dp"))
  | ((with_reducible refine' i_isiB ?u0 ?uq); (case u0 => wtm_at "dp"))
  | ((with_reducible refine' i_isiT ?u0 ?uq); (case u0 => wtm_at "dp"))
  | ((with_reducible refine' i_isiS ?u0 ?uq); (case u0 => wtm_at "dp"))
  | ((with_reducible refine' i_isiL ?u0 ?uq); (case u0 => wtm_at "dp"))
  | ((with_reducible refine' i_eqD ?u0 ?u1 ?u2 ?u3 ?uq); (case u0 => wtm_at "dp"); (case u1 => wtm_at "dp"); (case u2 => wtm_at "shaped"); (case u3 => wtm_at "shaped"))
  | ((with_reducible refine' i_neD ?u0 ?u1 ?u2 ?u3 ?uq); (case u0 => wtm_at "dp"); (case u1 => wtm_at "dp"); (case u2 => wtm_at "shaped"); (case u3 => wtm_at "shaped"))
  | wtm_at "st2"
  | wtm_at "use")
local macro_rules | `(tactic| wtm_at "go") => `(tactic| repeat' (wtm_at "st"))
local macro_rules | `(tactic| wtm_at "go0") => `(tactic| ((try dsimp only [L2.cxOf, L2.Cx.nox, L2.Cx.wish, L2.Cx.tr, L2.Cx.blk]); (try wtm_at "nrm"); wtm_at "go"))
local macro_rules | `(tactic| wtm_at "fin") => `(tactic| ((try dsimp only); first | with_reducible assumption | assumption | ((with_reducible refine' Ret.use ?rur ?rue ?rud); (case rur => with_reducible assumption); (case rue => wtm_at "ex"); (case rud => wtm_at "dp"))))
local macro_rules | `(tactic| wtm_at "exh") => `(tactic| first | with_reducible assumption | with_reducible exact Ex.refl _ | with_reducible exact ex_hid | ((with_reducible refine' Ex.trans ?exe (by with_reducible assumption)); (case exe => wtm_at "exh")) | ((with_reducible refine' Ex.trans ?exe (hid_ex (by with_reducible assumption))); (case exe => wtm_at "exh")))
local macro_rules | `(tactic| wtm_at "ex") => `(tactic| first | with_reducible assumption | with_reducible exact Ex.refl _ | with_reducible exact ex_hid | ((with_reducible refine' Ex.trans ?exe (by with_reducible assumption)); (case exe => wtm_at "ex")) | ((with_reducible refine' Ex.trans ?exe (hid_ex (by with_reducible assumption))); (case exe => wtm_at "ex")) | ((with_reducible refine' Ex.trans ?exe ex_hid); (case exe => wtm_at "exh")))
local macro_rules | `(tactic| wtm_at "bag") => `(tactic| first | with_reducible assumption | ((with_reducible refine' Bag.mono ?bgm (by with_reducible assumption)); (case bgm => wtm_at "bag")))
local macro_rules | `(tactic| wtm_at "hs") => `(tactic| first | with_reducible assumption | ((with_reducible refine' hid_tup ?hb ?hp); (case hp => with_reducible assumption); (case hb => wtm_at "bag")) | ((with_reducible refine' hid_new ?hb ?hn ?hp); (case hp => with_reducible assumption); (case hn => with_reducible assumption); (case hb => wtm_at "bag")) | ((with_reducible refine' ex_at ?exe (by with_reducible assumption)); (case exe => wtm_at "ex")))
local macro_rules | `(tactic| wtm_at "st2") => `(tactic| first
  | ((with_reducible refine' i_mulC ?u0 ?uq); (case u0 => first | exact cmul_l (by decide) | exact cmul_r (by decide)))
  | ((with_reducible refine' i_ixLr (v := ?u0) ?u1 ?u2 ?uq); (case u1 => with_reducible assumption); (case u2 => exact rfl))
  | (with_reducible refine' i_sub ?uq)
  | ((with_reducible refine' i_mkL ?u0 (fun np nH nfr nhe nhp => ?uq)); (case u0 => exact Nat.le_of_ble_eq_true rfl))
  | ((with_reducible refine' i_setL (n := ?u0) ?u1 ?u2 (fun sH sh se => ?uq)); (case u1 => with_reducible assumption); (case u2 => exact rfl))
  | (with_reducible refine' i_sl ?uq)
  | (with_reducible refine' i_nopart ?uq)
  | (with_reducible refine' i_part ?uq)
  | (with_reducible refine' i_part1 ?uq))
local macro_rules | `(tactic| wtm_at "sz2") => `(tactic| ((with_reducible refine' sz_fmod ?sz1 ?sz2); (case sz1 => wtm_at "nz"); (case sz2 => wtm_at "sz")))
local macro_rules | `(tactic| wtm_at "stb") => `(tactic| first
  | ((with_reducible refine' i_mkTB ?u0 ?u1 (fun np nH nhe nhb nhp => ?uq)); (case u0 => exact Nat.le_of_ble_eq_true rfl); (case u1 => wtm_at "bag"))
  | ((with_reducible refine' i_mkLB ?u0 ?u1 (fun np nH nfr nhe nhb nhp => ?uq)); (case u0 => exact Nat.le_of_ble_eq_true rfl); (case u1 => wtm_at "bag"))
  | wtm_at "st")
local macro_rules | `(tactic| wtm_at "gob") => `(tactic| repeat' (wtm_at "stb"))
local macro_rules | `(tactic| wtm_at "gob0") => `(tactic| ((try dsimp only [L2.cxOf, L2.Cx.nox, L2.Cx.wish, L2.Cx.tr, L2.Cx.blk]); (try wtm_at "nrm"); wtm_at "gob"))
local macro_rules | `(tactic| wtm_at "st") => `(tactic| first | ((with_reducible refine' i_ixTS (z := ?u0) ?u1 ?u2 ?u3 ?uq); (case u1 => wtm_at "dp"); (case u2 => wtm_at "ex"); (case u3 => exact rfl)) | fail)
local macro_rules | `(tactic| wtm_at "st2") => `(tactic| first | ((with_reducible refine' i_eqST ?u0 ?uq); (case u0 => with_reducible rfl)) | ((with_reducible refine' i_eqSF ?u0 ?uq); (case u0 => decide +kernel)) | ((with_reducible refine' i_neST ?u0 ?uq); (case u0 => with_reducible rfl)) | ((with_reducible refine' i_neSF ?u0 ?uq); (case u0 => decide +kernel)) | fail)
section
variable {P : Program} {w : World} {K : PySem.W.Frag} {mg : Str → Option Value} {base : Heap} {H H' : Hp} {Q : VK} {E : XK} {v1 v2 v3 v4 v5 : V}
def prD (q : PF) : PyData := .tuple [fsD q.1, fsD q.2]
theorem noL_pr (q : PF) : noL (prD q) = true := by
  show (noL (fsD q.1) && (noL (fsD q.2) && true)) = true
  rw [noL_fs, noL_fs]
  rfl
/-- what the walk of two trees gives back -/
def RetP (K : PySem.W.Frag) (q0 : PF) (H : Hp) (Q : VK) : Prop := ∀ (p fA : Addr) (H2 : Hp) (ms : List (Int × Int)), ms.Perm (dueP q0) → LexS ms → Ex H H2 → H2 p = some (.tup [.ref fA, .int (totP q0)]) → Dp K H2 (.ref fA) (.list (ms.map pD)) → Q (.ref p) H2
def sp_pairs_walk (K : PySem.W.Frag) (CT : Addr) : Sp := A3 fun v1 v2 v3 H Q => ∃ (a c : Addr) (s t : Fs), v1 = .ref a ∧ v2 = .ref c ∧ v3 = .int 0 ∧ Cls K CT ∧ NoAttr K CT "own_form" ∧ TreeAt K CT H a s ∧ TreeAt K CT H c t ∧ Root s ∧ Root t ∧ s.1 ≤ 2 ∧ t.1 ≤ 2 ∧ RetP K (s, t) H Q
def dN (g : Itm) : PyData :=
  match g.2 with
  | .inl n => .int n
  | .inr _ => .none
def dK (g : Itm) : PyData :=
  match g.2 with
  | .inl _ => .none
  | .inr s => fsD s
theorem itmD_eq (g : Itm) : itmD g = .tuple [bxD g.1, dN g, dK g] := by
  obtain ⟨b, n | s⟩ := g <;> rfl
theorem fs_ne {u : V} {s : Fs} (h : Dp K H u (fsD s)) : u ≠ .non := by
  obtain ⟨k, t⟩ := s
  cases k with
  | zero =>
    obtain ⟨a, us, rfl, _⟩ := dpTup (show Dp K H u (.tuple _) from h)
    intro z
    cases z
  | succ k =>
    obtain ⟨a, us, rfl, _⟩ := dpTup (show Dp K H u (.tuple _) from h)
    intro z
    cases z
theorem Lsts.tail {G0 : Hp} {x : Addr × List PyData} {ls : List (Addr × List PyData)} (L : Lsts K G0 (x :: ls) H) : Lsts K G0 ls H :=
  ⟨(List.nodup_cons.mp L.nd).2, fun p hp => L.fr p (List.mem_cons_of_mem _ hp), L.ex, fun p hp => L.no p (List.mem_cons_of_mem _ hp), fun p hp => L.at_ p (List.mem_cons_of_mem _ hp)⟩
/-- what a turn over a list gives, as data -/
theorem walk_lsD {a : Addr} {ds : List PyData} : Walk (Itl K a) ds.length (fun H => Dp K H (.ref a) (.list ds)) (fun i H v H' => H' = H ∧ ∃ d, ds[i]? = some d ∧ Dp K H v d) := by
  refine ⟨fun i H hi q => ?_, fun H q => ?_, fun i H v H' hi q y => ?_⟩
  · obtain ⟨a', us, e, hs, ha⟩ := dpLst q
    cases e
    have : i < us.length := by rw [dpLen ha]; exact hi
    exact ⟨us, us[i], hs, by simp [this]⟩
  · obtain ⟨a', us, e, hs, ha⟩ := dpLst q
    cases e
    exact ⟨us, hs, by rw [dpLen ha]; exact Nat.le_refl _⟩
  · obtain ⟨a', us, e, hs, ha⟩ := dpLst q
    cases e
    obtain ⟨h1, h2⟩ := y
    obtain ⟨d, d1, d2⟩ := dpIdx ha (h2 us hs)
    exact ⟨h1, d, d1, d2⟩
theorem i_forLU {tb : TS} {tl : TE} {g : TG} {D : Ends} {σ : L2.St} (q : tl σ H fun x H1 => tFor (iList K (tC x)) g tb D σ H1) : tFor (iList K tl) g tb D σ H := q
abbrev itB (K : PySem.W.Frag) : TS := tSeq (tAsg (tLc (iList K (tVar 8)) (gName 12) (tB (tCl (sp_do_meet_in K) (tCons (tOp (rIxT K) (tVar 9) (tC (V.int 0))) (tCons (tCl (sp_wider K) (tCons (tOp (rIxT K) (tVar 12) (tC (V.int 0))) (tCons (tVar 2) tNil))) tNil)))) (tVar 12) [12]) (gName 10))
  (tIfS (tTest (tOp qIsN (tOp (rIxT K) (tVar 9) (tC (V.int 2))) (tC V.non)))
    (tDrop (tBM K "list" rExtend (tVar 3) (tCons (tLc (iList K (tVar 10)) (gName 12) (tTest (tOp qIsN (tOp (rIxT K) (tVar 12) (tC (V.int 2))) (tC V.non))) (tTup (tCons (tOp (rIxT K) (tVar 9) (tC (V.int 1))) (tCons (tOp (rIxT K) (tVar 12) (tC (V.int 1))) tNil))) [12]) tNil)))
    (tIfS (tTest (tOp rEq (tOp (rIxT K) (tVar 7) (tC (V.int 0))) (tC (V.str "node"))))
      (tDrop (tBM K "list" rExtend (tVar 5) (tCons (tLc (iList K (tVar 10)) (gName 12) tYes (tTup (tCons (tOp (rIxT K) (tVar 9) (tC (V.int 2))) (tCons (tOp (rIxT K) (tVar 12) (tC (V.int 2))) tNil))) [12]) tNil)))
      (tIfS (tTest (tOp (rNeD K) (tVar 10) (tLst tNil)))
        (tDrop (tBM K "list" rAppend (tVar 5) (tCons (tTup (tCons (tOp (rIxT K) (tVar 9) (tC (V.int 2))) (tCons (tVar 7) tNil))) tNil)))
        tNext)))
def pls (iA gA wA fA : Addr) (s t : Fs) (W : List PF) (F : List (Int × Int)) : List (Addr × List PyData) := [(iA, (fitems s).map itmD), (gA, (fitems t).map itmD), (wA, W.map prD), (fA, F.map pD)]
theorem it_turn {D : Ends} {H0 : Hp} {s t : Fs} {it : Itm} {W : List PF} {F : List (Int × Int)} {iv fv sv : V} {v0 v1 : Option V} {gA iA wA fA : Addr} {lk : Int} {c10 c11 c12 c13 c14 c15 : Option V}
    (L : Lsts K H0 (pls iA gA wA fA s t W F) H) (hi : Dp K H iv (itmD it)) (hsv : Dp K H sv (fsD t)) (ht : Sm t.1 t.2) (hW : W.length ≤ 90000) (hF : F.length ≤ 90000)
    (q : ∀ H2 c10 c11 c12 c13 c14 c15, Lsts K H0 (pls iA gA wA fA s t (W ++ nextI t it) (F ++ foundI t it)) H2 → (∀ {v : V} {c : PyData}, noL c = true → Dp K H v c → Dp K H2 v c) → D.nx [v0, v1, some (.int 0), some (.ref fA), some (.int lk), some (.ref wA), some fv, some sv, some (.ref gA), some iv, c10, c11, c12, c13, c14, c15] H2) :
    itB K D [v0, v1, some (.int 0), some (.ref fA), some (.int lk), some (.ref wA), some fv, some sv, some (.ref gA), some iv, c10, c11, c12, c13, c14, c15] H := by
  obtain ⟨ib, inx⟩ := it
  have hi0 : Dp K H iv (.tuple [bxD ib, dN (ib, inx), dK (ib, inx)]) := (itmD_eq (ib, inx)) ▸ hi
  clear hi
  refine i_seq (i_asg (i_lcLU ?_))
  wtm_at "go"
  refine i_lcGL (enc := itmD) (xs := fitems t) (fun g => meetB ib g.1) itmD (L.ref (i := 1) rfl) (by have := items_len ht; omega) (fun g _ => noL_itm g) (fun u g H2 R Y e2 hm hu hn hy => ?_) (fun p10 H2 n10 e2 h10 => ?_)
  · have hu0 : Dp K H2 u (.tuple [bxD g.1, dN g, dK g]) := by
      rw [← itmD_eq]
      exact hu
    wtm_at "nrm"
    refine ⟨rfl, ?_⟩
    wtm_at "go"
    rename_i xu hxu yu hyu
    refine use_wider hyu (fun v H3 e3 hv => ?_)
    wtm_at "go"
    refine use_do_meet_in (dpMono (e2.trans e3) hxu) hv ?_
    wtm_at "go"
    · rename_i hz
      exact hy hz _ _ e3 (dpMono e3 hu)
    · rename_i hz
      exact hn hz _ e3
  have h10 : Dp K H2 (.ref p10) (.list ((hitsP (ib, inx) t).map itmD)) := h10
  have hl10 : (hitsP (ib, inx) t).length ≤ 4 := hits_len ht
  have L2 := L.up e2
  cases inx with
  | inl n =>
    have hi0 : Dp K H iv (.tuple [bxD ib, .int n, .none]) := hi0
    wtm_at "go"
    · refine i_bmA ?_
      wtm_at "go"
      refine L2.ty (i := 3) rfl ?_
      wtm_at "go"
      refine i_lcLU ?_
      wtm_at "go"
      refine i_lcGLR (enc := itmD) (xs := hitsP (ib, .inl n) t) isNum (fun g => pD (n, numOf g)) h10 (by omega) (fun _ _ => rfl) (fun u g H3 R Y e3 hm hu hn hy => ?_) (fun p11 H3 zs n11 e3 hz1 hz2 => ?_)
      · obtain ⟨gb, m | gs⟩ := g
        · have hu0 : Dp K H3 u (.tuple [bxD gb, .int m, .none]) := hu
          wtm_at "nrm"
          refine ⟨rfl, ?_⟩
          wtm_at "go"
          · rename_i np H4 e4 h4
            exact hy rfl _ _ e4 (.tup (Evl.st_of h4) (.cons (.int _) (.cons (.int _) .nil)))
          · rename_i xu hxu hz
            exact absurd (dpNon hxu) hz
        · have hu0 : Dp K H3 u (.tuple [bxD gb, .none, fsD gs]) := hu
          wtm_at "nrm"
          refine ⟨rfl, ?_⟩
          wtm_at "go"
          · rename_i xu hxu hz _ _ _ _ _ _
            exact absurd hz (fs_ne hxu)
          · exact hn rfl _ (Ex.refl _)
      wtm_at "go"
      refine (L2.up e3).extend (i := 3) rfl hz1 hz2 (noLs_map _ (fun _ => rfl) _) ?_ (fun H4 L4 hk => ?_)
      · rw [List.length_map, List.length_map]
        have := List.length_filter_le isNum (hitsP (ib, .inl n) t)
        omega
      wtm_at "go"
      refine q H4 _ _ _ _ _ _ ?_ fun hn h => hk hn (dpMono (e2.trans e3) h)
      have e9 : foundI t (ib, .inl n) = ((hitsP (ib, .inl n) t).filter isNum).map fun g => (n, numOf g) := rfl
      have e8 : nextI t (ib, .inl n) = [] := rfl
      rw [e9, e8, List.append_nil]
      unfold pls
      rw [List.map_append, List.map_map]
      exact L4
    · rename_i xu hxu hz
      exact absurd (dpNon hxu) hz
  | inr s' =>
    have hi0 : Dp K H iv (.tuple [bxD ib, .none, fsD s']) := hi0
    have e9 : foundI t (ib, .inr s') = [] := rfl
    have e8 : nextI t (ib, .inr s') = if t.1 = 0 then (if hitsP (ib, .inr s') t = [] then [] else [(s', t)]) else (hitsP (ib, .inr s') t).map fun g => (s', kidOf g) := rfl
    rw [e9, e8, List.append_nil] at q
    obtain ⟨k, tt⟩ := t
    cases k with
    | zero =>
      have hsv : Dp K H sv (.tuple [.str "leaf", .tuple ((foL tt).map enD)]) := hsv
      rw [if_pos rfl] at q
      wtm_at "go"
      · rename_i xu hxu hz
        exact absurd hz (fs_ne hxu)
      rename_i xu hxu hz np H3 n3 e3 h3
      have e03 := e2.trans e3
      refine i_neD (dpMono e3 h10) (.lst (Evl.sq_of h3) .nil) (shp_list (k := 2) (by decide) fun d hd => ?_) rfl ?_
      · obtain ⟨g, hg, rfl⟩ := List.mem_map.mp hd
        obtain ⟨m, e⟩ := item_leaf rfl (List.mem_filter.mp hg).1
        obtain ⟨gb, gx⟩ := g
        have e : gx = .inl m := e
        subst e
        exact ⟨rfl, Nat.le_of_ble_eq_true rfl⟩
      rw [eqv_nil]
      wtm_at "go"
      · rename_i hne
        have hne' : ¬ hitsP (ib, .inr s') ⟨0, tt⟩ = [] := fun z => hne (by rw [z]; rfl)
        rw [if_neg hne'] at q
        refine i_bmA ?_
        wtm_at "go"
        refine (L2.up e3).ty (i := 2) rfl ?_
        wtm_at "go"
        rename_i yu hyu np2 H4 e4 h4
        have e04 := e03.trans e4
        refine ((L2.up e3).up e4).append (i := 2) (d := prD (s', ⟨0, tt⟩)) rfl (.tup (Evl.st_of h4) (.cons (dpMono e04 hyu) (.cons (dpMono e04 hsv) .nil))) (noL_pr _) (by rw [List.length_map]; omega) (fun H5 L5 hk => ?_)
        wtm_at "go"
        refine q H5 _ _ _ _ _ _ ?_ fun hn h => hk hn (dpMono e04 h)
        unfold pls
        rw [List.map_append]
        exact L5
      · rename_i hne
        have hne' : hitsP (ib, .inr s') ⟨0, tt⟩ = [] := List.map_eq_nil_iff.mp hne
        rw [if_pos hne', List.append_nil] at q
        exact q H3 _ _ _ _ _ _ (L2.up e3) fun hn h => dpMono e03 h
    | succ k =>
      have hsv : Dp K H sv (.tuple [.str "node", .tuple ((foB tt).map (brD k))]) := hsv
      rw [if_neg (fun z : k + 1 = 0 => by omega)] at q
      wtm_at "go"
      · rename_i xu hxu hz
        exact absurd hz (fs_ne hxu)
      refine i_bmA ?_
      wtm_at "go"
      refine L2.ty (i := 2) rfl ?_
      wtm_at "go"
      refine i_lcLU ?_
      wtm_at "go"
      refine i_lcGLR (enc := itmD) (xs := hitsP (ib, .inr s') ⟨k + 1, tt⟩) (fun _ => true) (fun g => prD (s', kidOf g)) h10 (by omega) (fun _ _ => noL_pr _) (fun u g H3 R Y e3 hm hu hn hy => ?_) (fun p11 H3 zs n11 e3 hz1 hz2 => ?_)
      · obtain ⟨t', e, _⟩ := item_node (s := ⟨k + 1, tt⟩) (by show k + 1 ≠ 0; omega) (List.mem_filter.mp hm).1
        obtain ⟨gb, gx⟩ := g
        have e : gx = .inr t' := e
        subst e
        have hu0 : Dp K H3 u (.tuple [bxD gb, .none, fsD t']) := hu
        wtm_at "nrm"
        refine ⟨rfl, ?_⟩
        wtm_at "go"
        rename_i xu hxu yu hyu np H4 e4 h4
        exact hy rfl _ _ e4 (.tup (Evl.st_of h4) (.cons (dpMono ((e2.trans e3).trans e4) hxu) (.cons (dpMono e4 hyu) .nil)))
      rw [filt_true] at hz2
      wtm_at "go"
      refine (L2.up e3).extend (i := 2) rfl hz1 hz2 (noLs_map _ (fun _ => noL_pr _) _) (by rw [List.length_map, List.length_map]; omega) (fun H4 L4 hk => ?_)
      wtm_at "go"
      refine q H4 _ _ _ _ _ _ ?_ fun hn h => hk hn (dpMono (e2.trans e3) h)
      unfold pls
      rw [List.map_append, List.map_map]
      exact L4
theorem next_h {p q : PF} (h : q ∈ nextP p) : q.1.1 ≤ p.1.1 ∧ q.2.1 ≤ p.2.1 := by
  rcases List.mem_append.mp h with h | h
  · obtain ⟨it, hi, h⟩ := List.mem_flatMap.mp h
    obtain ⟨s', e1, e2, e3, e4⟩ := nextI_mem hi h
    rw [e2]
    refine ⟨by omega, ?_⟩
    rcases e4 with e4 | ⟨h0, g, hg, e4⟩
    · rw [e4]
      exact Nat.le_refl _
    · rw [e4]
      have := kid_lt h0 hg
      omega
  · obtain ⟨h0, e1, g, hg, e2⟩ := nextE_mem h
    rw [e1, e2]
    have := kid_lt h0 hg
    exact ⟨Nat.le_refl _, by omega⟩
/-- what follows the items of a pair -/
abbrev tailB (K : PySem.W.Frag) : TS := tIfS (tAnd (tTest (tOp rEq (tOp (rIxT K) (tVar 6) (tC (V.int 0))) (tC (V.str "leaf")))) (tTest (tOp rEq (tOp (rIxT K) (tVar 7) (tC (V.int 0))) (tC (V.str "node")))))
  (tSeq (tAsg (tLc (iTup K (tOp (rIxT K) (tVar 6) (tC (V.int 1)))) (gTup K 2 (gCons (gName 13) (gCons (gName 14) gNil))) tYes (tVar 14) [13, 14]) (gName 11))
    (tDrop (tBM K "list" rExtend (tVar 5) (tCons (tLc (iTup K (tOp (rIxT K) (tVar 7) (tC (V.int 1)))) (gTup K 2 (gCons (gName 14) (gCons (gName 15) gNil)))
      (tB (tCl (sp_is_any_met K) (tCons (tVar 11) (tCons (tCl (sp_wider K) (tCons (tVar 14) (tCons (tVar 2) tNil))) tNil)))) (tTup (tCons (tVar 6) (tCons (tVar 15) tNil))) [14, 15]) tNil))))
  tNext
theorem tail_turn {D : Ends} {H0 : Hp} {s t : Fs} {W : List PF} {F : List (Int × Int)} {fv sv : V} {v0 v1 : Option V} {wA fA : Addr} {lk : Int} {c8 c9 c10 c11 c12 c13 c14 c15 : Option V}
    (L : Lsts K H0 [(wA, W.map prD), (fA, F.map pD)] H) (hfv : Dp K H fv (fsD s)) (hsv : Dp K H sv (fsD t)) (hs : Sm s.1 s.2) (ht : Sm t.1 t.2) (hW : W.length ≤ 90000)
    (q : ∀ H2 c8 c9 c10 c11 c12 c13 c14 c15, Lsts K H0 [(wA, (W ++ nextE s t).map prD), (fA, F.map pD)] H2 → D.nx [v0, v1, some (.int 0), some (.ref fA), some (.int lk), some (.ref wA), some fv, some sv, c8, c9, c10, c11, c12, c13, c14, c15] H2) :
    tailB K D [v0, v1, some (.int 0), some (.ref fA), some (.int lk), some (.ref wA), some fv, some sv, c8, c9, c10, c11, c12, c13, c14, c15] H := by
  obtain ⟨j, ss⟩ := s
  obtain ⟨k, tt⟩ := t
  cases j with
  | succ j =>
    have hfv : Dp K H fv (.tuple [.str "node", .tuple ((foB ss).map (brD j))]) := hfv
    have e : nextE ⟨j + 1, ss⟩ ⟨k, tt⟩ = [] := if_neg fun z => by have : j + 1 = 0 := z.1; omega
    rw [e, List.append_nil] at q
    wtm_at "go"
    exact q _ _ _ _ _ _ _ _ _ L
  | zero =>
    have hfv0 := hfv
    have hfv : Dp K H fv (.tuple [.str "leaf", .tuple ((foL ss).map enD)]) := hfv
    cases k with
    | zero =>
      have hsv : Dp K H sv (.tuple [.str "leaf", .tuple ((foL tt).map enD)]) := hsv
      have e : nextE ⟨0, ss⟩ ⟨0, tt⟩ = [] := if_neg fun z => z.2 rfl
      rw [e, List.append_nil] at q
      wtm_at "go"
      exact q _ _ _ _ _ _ _ _ _ L
    | succ k =>
      have hsv : Dp K H sv (.tuple [.str "node", .tuple ((foB tt).map (brD k))]) := hsv
      have hs4 : (foL ss).length ≤ 4 := hs
      have ht4 : (foB tt).length ≤ 4 := ht.1
      have e : nextE ⟨0, ss⟩ ⟨k + 1, tt⟩ = ((foB tt).filter fun p => ((foL ss).map (·.2)).any fun b => meetB b p.1).map fun p => ((⟨0, ss⟩, ⟨k, p.2⟩) : PF) := by
        unfold nextE
        rw [if_pos ⟨rfl, by show k + 1 ≠ 0; omega⟩]
        have ei : fitems ⟨k + 1, tt⟩ = (foB tt).map fun p => ((p.1, Sum.inr (⟨k, p.2⟩ : Fs)) : Itm) := rfl
        rw [ei, List.filter_map, List.map_map]
        have ef : ∀ {xs ys : List (Bx × Fo k)}, xs = ys → xs.map ((fun g : Itm => ((⟨0, ss⟩, kidOf g) : PF)) ∘ fun p => ((p.1, Sum.inr (⟨k, p.2⟩ : Fs)) : Itm)) = ys.map fun p => ((⟨0, ss⟩, ⟨k, p.2⟩) : PF) := fun h => by rw [h]; rfl
        refine ef ?_
        refine List.filter_congr fun p _ => ?_
        show anyP ⟨0, ss⟩ p.1 = _
        unfold anyP
        show ((foL ss).map fun e => ((e.2, .inl e.1) : Itm)).any _ = _
        rw [List.any_map, List.any_map]
        rfl
      rw [e] at q
      clear e
      wtm_at "go"
      refine i_lcTU ?_
      wtm_at "go"
      rename_i xu hxu
      refine i_lcGT (enc := enD) (xs := foL ss) (fun _ => true) (fun e => bxD e.2) hxu (by omega) (fun _ _ => rfl) (fun u x H2 R Y e2 hm hu hn hy => ?_) (fun p11 H2 n11 e2 h11 => ?_)
      · unfold enD at hu
        wtm_at "nrm"
        wtm_at "go"
        refine ⟨rfl, ?_⟩
        wtm_at "go"
        exact hy rfl _ _ (Ex.refl _) (by assumption)
      rw [filt_true] at h11
      have h11 : Dp K H2 (.ref p11) (.list (((foL ss).map (·.2)).map bxD)) := by
        rw [List.map_map]
        exact h11
      wtm_at "go"
      refine i_bmA ?_
      wtm_at "go"
      refine (L.up e2).ty (i := 0) rfl ?_
      wtm_at "go"
      refine i_lcTU ?_
      wtm_at "go"
      rename_i yu hyu
      refine i_lcGTR (enc := brD k) (xs := foB tt) (fun p => ((foL ss).map (·.2)).any fun b => meetB b p.1) (fun p => prD (⟨0, ss⟩, ⟨k, p.2⟩)) (dpMono e2 hyu) (by omega) (fun _ _ => noL_pr _) (fun u x H3 R Y e3 hm hu hn hy => ?_) (fun p12 H3 zs n12 e3 hz1 hz2 => ?_)
      · have hu : Dp K H3 u (.tuple [bxD x.1, foD k x.2]) := hu
        wtm_at "nrm"
        wtm_at "go"
        refine ⟨rfl, ?_⟩
        wtm_at "go"
        rename_i gvs gdp gv gr gh1 gh2 gv2 gr2 gh3 gh4
        refine use_wider gh1 (fun v H4 e4 hv => ?_)
        wtm_at "go"
        refine use_is_any_met (bs := (foL ss).map (·.2)) (dpMono (e3.trans e4) h11) (by rw [List.length_map]; omega) hv (fun H5 e5 => ?_)
        wtm_at "go"
        · rename_i hz np H6 e6 h6
          exact hy hz _ _ ((e4.trans e5).trans e6) (.tup (Evl.st_of h6) (.cons (dpMono ((e2.trans e3).trans ((e4.trans e5).trans e6)) hfv0) (.cons (dpMono ((e4.trans e5).trans e6) gh3) .nil)))
        · rename_i hz
          exact hn hz _ (e4.trans e5)
      wtm_at "go"
      refine (L.up (e2.trans e3)).extend (i := 0) rfl hz1 hz2 (noLs_map _ (fun _ => noL_pr _) _) ?_ (fun H4 L4 hk => ?_)
      · rw [List.length_map, List.length_map]
        have := List.length_filter_le (fun p : Bx × Fo k => ((foL ss).map (·.2)).any fun b => meetB b p.1) (foB tt)
        omega
      wtm_at "go"
      refine q H4 _ _ _ _ _ _ _ _ ?_
      rw [List.map_append, List.map_map]
      exact L4
theorem flat_take {α β : Type} (f : α → List β) (xs : List α) (k : Nat) : ((xs.take k).flatMap f).length ≤ (xs.flatMap f).length := by
  have e : xs.flatMap f = (xs.take k).flatMap f ++ (xs.drop k).flatMap f := by rw [← List.flatMap_append, List.take_append_drop]
  rw [e, List.length_append]
  omega
theorem shp_prs {W : List PF} (h : ∀ p ∈ W, p.1.1 ≤ 2 ∧ p.2.1 ≤ 2) : SeqAt.shaped (.list (W.map prD)) = true := shp_list (k := 11) (by decide) fun d hd => by
  obtain ⟨p, hp, rfl⟩ := List.mem_map.mp hd
  obtain ⟨h1, h2⟩ := lay_fo p.1.1 p.1.2
  obtain ⟨h3, h4⟩ := lay_fo p.2.1 p.2.2
  obtain ⟨h5, h6⟩ := h p hp
  exact lay_two (k := 10) ⟨h1, by show PyData.depth (foD p.1.1 p.1.2) ≤ 10; omega⟩ ⟨h3, by show PyData.depth (foD p.2.1 p.2.2) ≤ 10; omega⟩
theorem due_len {p : PF} (h : SmP p) (h1 : p.1.1 ≤ 2) (h2 : p.2.1 ≤ 2) : (dueP p).length ≤ 10000 := by
  have a := Nat.le_trans (ents_len p.1.1 p.1.2 h.1) (pow4 h1)
  have b := Nat.le_trans (ents_len p.2.1 p.2.2 h.2) (pow4 h2)
  exact Nat.le_trans (due2_len _ _) (Nat.mul_le_mul (show (fsE p.1).length ≤ 100 from a) (show (fsE p.2).length ≤ 100 from b))
/-- what holds ahead of each pop -/
structure PInv (p0 : PF) (W : List PF) (F : List (Int × Int)) (lk : Int) : Prop where
  sm : ∀ p ∈ W, SmP p ∧ p.1.1 ≤ 2 ∧ p.2.1 ≤ 2
  fd : (F ++ (W.flatMap allP).flatMap foundP).Perm ((allP p0).flatMap foundP)
  lk : lk + sumL (W.flatMap allP) = totP p0
  len : (W.flatMap allP).length ≤ 83521
theorem pinv_start {p : PF} (h : SmP p) (h1 : p.1.1 ≤ 2) (h2 : p.2.1 ≤ 2) : PInv p [p] [] 0 := by
  have e : [p].flatMap allP = allP p := by rw [List.flatMap_cons, List.flatMap_nil, List.append_nil]
  refine ⟨fun q hq => by rcases List.mem_singleton.mp hq with rfl; exact ⟨h, h1, h2⟩, ?_, ?_, ?_⟩
  · rw [e]
    exact List.Perm.refl _
  · rw [e]
    exact Int.zero_add _
  · rw [e]
    exact allP_len h (by show p.1.1 + p.2.1 ≤ 4; omega)
theorem pinv_step {p0 p : PF} {r : List PF} {F : List (Int × Int)} {lk : Int} (I : PInv p0 (r ++ [p]) F lk) : PInv p0 (r ++ nextP p) (F ++ foundP p) (lk + lookP p) ∧ ((r ++ nextP p).flatMap allP).length < ((r ++ [p]).flatMap allP).length := by
  have hl := len_step r p
  refine ⟨⟨fun q hq => ?_, ?_, ?_, ?_⟩, by omega⟩
  · rcases List.mem_append.mp hq with hq | hq
    · exact I.sm q (List.mem_append_left _ hq)
    · obtain ⟨a, b, c⟩ := I.sm p (List.mem_append_right _ List.mem_cons_self)
      have := next_h hq
      exact ⟨next_sm a hq, by omega, by omega⟩
  · refine List.Perm.trans ?_ I.fd
    rw [List.append_assoc]
    exact List.Perm.append_left _ (found_step r p).symm
  · have := I.lk
    rw [sum_step] at this
    omega
  · have := I.len
    omega
theorem pinv_b {p0 p : PF} {r : List PF} {F : List (Int × Int)} {lk : Int} (h : SmP p0) (hr : RtP p0) (h1 : p0.1.1 ≤ 2) (h2 : p0.2.1 ≤ 2) (I : PInv p0 (r ++ [p]) F lk) :
    r.length + (nextP p).length ≤ 83521 ∧ F.length + (foundP p).length ≤ 10000 := by
  obtain ⟨J, _⟩ := pinv_step I
  have a := flat_geP (r ++ nextP p)
  have b := J.len
  have c := J.fd.length_eq
  have d := (all_due hr).length_eq
  have e := due_len h h1 h2
  rw [List.length_append] at a
  rw [List.length_append, List.length_append] at c
  omega
end
end Wb

namespace Wb
open PySem PySem.Spec PyProof.Rows L2 StX
open Evl (Ex Ex.refl Ex.trans Ex.new)
open LmK (pD)
local macro_rules | `(tactic| wtm_at "dp") => `(tactic| first | with_reducible assumption | with_reducible exact Dp.int _ | with_reducible exact Dp.bl _ | with_reducible exact Dp.str _ | with_reducible exact Dp.non | ((with_reducible refine' dpMono ?dme (by with_reducible assumption)); (case dme => wtm_at "ex")) | ((with_reducible refine' Dp.tup (Evl.st_of ?dph) ?dpa); (case dph => wtm_at "hs"); (case dpa => wtm_at "dpa")) | ((with_reducible refine' Dp.lst (Evl.sq_of ?dph) ?dpa); (case dph => wtm_at "hs"); (case dpa => wtm_at "dpa")))
local macro_rules | `(tactic| wtm_at "dpa") => `(tactic| first | with_reducible exact DpAll.nil | ((with_reducible refine' DpAll.cons ?dp1 ?dp2); (case dp1 => wtm_at "dp"); (case dp2 => wtm_at "dpa")) | with_reducible assumption | ((with_reducible refine' dpMonoA ?dme (by with_reducible assumption)); (case dme => wtm_at "ex")))
local macro_rules | `(tactic| wtm_at "sz") => `(tactic| first | with_reducible assumption | ((with_reducible refine' sz_mul ?sz1 ?sz2); (case sz1 => wtm_at "sz"); (case sz2 => wtm_at "sz")) | ((with_reducible refine' sz_add ?sz1 ?sz2); (case sz1 => wtm_at "sz"); (case sz2 => wtm_at "sz")) | ((with_reducible refine' sz_sub ?sz1 ?sz2); (case sz1 => wtm_at "sz"); (case sz2 => wtm_at "sz")) | ((with_reducible refine' sz_neg ?sz1); (case sz1 => wtm_at "sz")) | ((with_reducible refine' sz_div ?sz1); (case sz1 => wtm_at "sz")) | ((with_reducible refine' sz_fdiv ?sz1); (case sz1 => wtm_at "sz")) | exact sz_lit (by decide) | wtm_at "sz2")
local macro_rules | `(tactic| wtm_at "szb") => `(tactic| first | with_reducible assumption | ((with_reducible refine' sz_mono ?szb1 ?szb2); (case szb1 => wtm_at "sz"); (case szb2 => decide)))
local macro_rules | `(tactic| wtm_at "nz") => `(tactic| first | assumption | decide | omega)
local macro_rules | `(tactic| wtm_at "shaped") => `(tactic| first | rfl | decide)
local macro_rules | `(tactic| wtm_at "sset") => `(tactic| ((dsimp only [L2.wipe, List.set, List.set_cons_zero, List.set_cons_succ]) <;> exact rfl))
local macro_rules | `(tactic| wtm_at "nrm") => `(tactic| dsimp only [L2.start, L2.wipe, List.set, List.append, List.map, List.map_cons, List.map_nil, List.length_cons, List.length_nil, Nat.reduceAdd, Nat.reduceSub, List.reduceReplicate, List.replicate, List.cons_append, List.nil_append, List.set_cons_zero, List.set_cons_succ])
local macro_rules | `(tactic| wtm_at "st") => `(tactic| first
  | ((with_reducible refine' i_var (v := ?u0) ?u1 ?uq); (case u1 => exact rfl))
  | ((with_reducible refine' i_nameN ?u0 ?uq); (case u0 => wtm_at "sset"))
  | (with_reducible refine' i_op ?uq)
  | (with_reducible refine' i_c ?uq)
  | (with_reducible refine' i_I0 ?uq)
  | ((with_reducible refine' i_ixTI (i := ?u0) ?u1 ?u2 ?u3 ?uq); (case u1 => wtm_at "dp"); (case u2 => wtm_at "ex"); (case u3 => exact rfl))
  | ((with_reducible refine' i_ixT (d := ?u0) ?u1 ?u2 ?u3 (fun xu hxu => ?uq)); (case u1 => wtm_at "dp"); (case u2 => wtm_at "ex"); (case u3 => exact rfl))
  | ((with_reducible refine' i_mul ?u0 ?u1 ?u2 ?uq); (case u0 => wtm_at "sz"); (case u1 => wtm_at "sz"); (case u2 => first | decide | omega))
  | (with_reducible refine' i_seq ?uq)
  | (with_reducible refine' i_asg ?uq)
  | (with_reducible refine' i_ret ?uq)
  | (with_reducible refine' i_ifs ?uq)
  | (with_reducible refine' i_drop ?uq)
  | (with_reducible refine' i_next ?uq)
  | (with_reducible refine' i_cons ?uq)
  | (with_reducible refine' i_nil ?uq)
  | (with_reducible refine' i_cl ?uq)
  | (with_reducible refine' i_cb ?uq)
  | (with_reducible refine' i_tup ?uq)
  | (with_reducible refine' i_lst ?uq)
  | ((with_reducible refine' i_mkT ?u0 (fun np nH nhe nhp => ?uq)); (case u0 => exact Nat.le_of_ble_eq_true rfl))
  | (with_reducible refine' i_test ?uq)
  | (with_reducible refine' i_B ?uq)
  | (with_reducible refine' i_k ?uq)
  | (with_reducible refine' i_and ?uq)
  | (with_reducible refine' i_or ?uq)
  | (with_reducible refine' i_not ?uq)
  | (with_reducible refine' i_andV ?uq)
  | (with_reducible refine' i_orV ?uq)
  | (with_reducible refine' i_notV ?uq)
  | (with_reducible refine' i_if ?uq)
  | (with_reducible refine' i_un ?uq)
  | (with_reducible refine' i_U ?uq)
  | (with_reducible refine' i_iteT ?uq)
  | (with_reducible refine' i_iteF ?uq)
  | ((with_reducible refine' i_iteTr ?u0 ?uq); (case u0 => first | with_reducible rfl | decide | (simp only [dIsInt, dIsBool, dIsTup, dIsStr, dIsLst, Bool.not_true, Bool.not_false]; done)))
  | ((with_reducible refine' i_iteFr ?u0 ?uq); (case u0 => first | with_reducible rfl | decide | (simp only [dIsInt, dIsBool, dIsTup, dIsStr, dIsLst, Bool.not_true, Bool.not_false]; done)))
  | (with_reducible refine' i_ite (fun hif => ?uqa) (fun hif => ?uqb))
  | (with_reducible refine' i_iteN (fun hif => ?uqa) (fun hif => ?uqb))
  | (with_reducible refine' i_iteBN (fun hif => ?uqa) (fun hif => ?uqb))
  | (with_reducible refine' i_iteB (fun hif => ?uqa) (fun hif => ?uqb))
  | ((with_reducible refine' i_modN ?u0 ?uq); (case u0 => wtm_at "nz"))
  | ((with_reducible refine' i_fdX ?u0 ?u1 ?u2 ?uq); (case u0 => wtm_at "nz"); (case u1 => wtm_at "sz"); (case u2 => first | decide | omega))
  | ((with_reducible refine' i_pow ?u0 ?uq); (case u0 => exact ⟨by decide, by decide +kernel⟩))
  | (with_reducible refine' i_eqI ?uq)
  | (with_reducible refine' i_neI ?uq)
  | (with_reducible refine' i_gcd ?uq)
  | (with_reducible refine' i_qabs ?uq)
  | (with_reducible refine' i_qint ?uq)
  | (with_reducible refine' i_qintB ?uq)
  | (with_reducible refine' i_qmax2 ?uq)
  | (with_reducible refine' i_qmin2 ?uq)
  | (with_reducible refine' i_isB ?uq)
  | (with_reducible refine' i_notB ?uq)
  | (with_reducible refine' i_chain ?uq)
  | (with_reducible refine' i_qisN ?uq)
  | (with_reducible refine' i_qnotN ?uq)
  | (with_reducible refine' i_yes ?uq)
  | (with_reducible refine' i_par ?uq)
  | (with_reducible refine' i_par3 ?uq)
  | ((with_reducible refine' i_par2 ?u0 ?uq); (case u0 => wtm_at "sset"))
  | ((with_reducible refine' i_par33 ?u0 ?uq); (case u0 => wtm_at "sset"))
  | ((with_reducible refine' i_ixLI (i := ?u0) ?u1 ?u2 ?u3 ?uq); (case u1 => wtm_at "dp"); (case u2 => wtm_at "ex"); (case u3 => exact rfl))
  | ((with_reducible refine' i_ixL (d := ?u0) ?u1 ?u2 ?u3 (fun xu hxu => ?uq)); (case u1 => wtm_at "dp"); (case u2 => wtm_at "ex"); (case u3 => exact rfl))
  | ((with_reducible refine' i_qlenT ?u0 ?uq); (case u0 => wtm_at "dp"))
  | ((with_reducible refine' i_qlenL ?u0 ?uq); (case u0 => wtm_at "dp"))
  | ((with_reducible refine' i_gtup ?u0 ?u1 ?u2 (fun gvs gdp => ?uq)); (case u0 => wtm_at "dp"); (case u1 => wtm_at "ex"); (case u2 => exact rfl))
  | ((with_reducible refine' i_glst ?u0 ?u1 ?u2 (fun gvs gdp => ?uq)); (case u0 => wtm_at "dp"); (case u1 => wtm_at "ex"); (case u2 => exact rfl))
  | ((with_reducible refine' i_gconsI ?u0 (fun gr gh => ?uq)); (case u0 => with_reducible assumption))
  | ((with_reducible refine' i_gconsA ?u0 (fun gv gr gh1 gh2 => ?uq)); (case u0 => with_reducible assumption))
  | ((with_reducible refine' i_gnilA ?u0 ?uq); (case u0 => with_reducible assumption))
  | ((with_reducible refine' i_isiI ?u0 ?uq); (case u0 => wtm_at "dp"))
  | ((with_reducible refine' i_isiB ?u0 ?uq); (case u0 => wtm_at "dp"))
  | ((with_reducible refine' i_isiT ?u0 ?uq); (case u0 => wtm_at "dp"))
  | ((with_reducible refine' i_isiS ?u0 ?uq); (case u0 => wtm_at "dp"))
  | ((with_reducible refine' i_isiL ?u0 ?uq); (case u0 => wtm_at "dp"))
  | ((with_reducible refine' i_eqD ?u0 ?u1 ?u2 ?u3 ?uq); (case u0 => wtm_at "dp"); (case u1 => wtm_at "dp"); (case u2 => wtm_at "shaped"); (case u3 => wtm_at "shaped"))
  | ((with_reducible refine' i_neD ?u0 ?u1 ?u2 ?u3 ?uq); (case u0 => wtm_at "dp"); (case u1 => wtm_at "dp"); (case u2 => wtm_at "shaped"); (case u3 => wtm_at "shaped"))
  | wtm_at "st2"
  | wtm_at "use")
local macro_rules | `(tactic| wtm_at "go") => `(tactic| repeat' (wtm_at "st"))
local macro_rules | `(tactic| wtm_at "go0") => `(tactic| ((try dsimp only [L2.cxOf, L2.Cx.nox, L2.Cx.wish, L2.Cx.tr, L2.Cx.blk]); (try wtm_at "nrm"); wtm_at "go"))
local macro_rules | `(tactic| wtm_at "fin") => `(tactic| ((try dsimp only); first | with_reducible assumption | assumption | ((with_reducible refine' Ret.use ?rur ?rue ?rud); (case rur => with_reducible assumption); (case rue => wtm_at "ex"); (case rud => wtm_at "dp"))))
local macro_rules | `(tactic| wtm_at "exh") => `(tactic| first | with_reducible assumption | with_reducible exact Ex.refl _ | with_reducible exact ex_hid | ((with_reducible refine' Ex.trans ?exe (by with_reducible assumption)); (case exe => wtm_at "exh")) | ((with_reducible refine' Ex.trans ?exe (hid_ex (by with_reducible assumption))); (case exe => wtm_at "exh")))
local macro_rules | `(tactic| wtm_at "ex") => `(tactic| first | with_reducible assumption | with_reducible exact Ex.refl _ | with_reducible exact ex_hid | ((with_reducible refine' Ex.trans ?exe (by with_reducible assumption)); (case exe => wtm_at "ex")) | ((with_reducible refine' Ex.trans ?exe (hid_ex (by with_reducible assumption))); (case exe => wtm_at "ex")) | ((with_reducible refine' Ex.trans ?exe ex_hid); (case exe => wtm_at "exh")))
local macro_rules | `(tactic| wtm_at "bag") => `(tactic| first | with_reducible assumption | ((with_reducible refine' Bag.mono ?bgm (by with_reducible assumption)); (case bgm => wtm_at "bag")))
local macro_rules | `(tactic| wtm_at "hs") => `(tactic| first | with_reducible assumption | ((with_reducible refine' hid_tup ?hb ?hp); (case hp => with_reducible assumption); (case hb => wtm_at "bag")) | ((with_reducible refine' hid_new ?hb ?hn ?hp); (case hp => with_reducible assumption); (case hn => with_reducible assumption); (case hb => wtm_at "bag")) | ((with_reducible refine' ex_at ?exe (by with_reducible assumption)); (case exe => wtm_at "ex")))
local macro_rules | `(tactic| wtm_at "st2") => `(tactic| first
  | ((with_reducible refine' i_mulC ?u0 ?uq); (case u0 => first | exact cmul_l (by decide) | exact cmul_r (by decide)))
  | ((with_reducible refine' i_ixLr (v := ?u0) ?u1 ?u2 ?uq); (case u1 => with_reducible assumption); (case u2 => exact rfl))
  | (with_reducible refine' i_sub ?uq)
  | ((with_reducible refine' i_mkL ?u0 (fun np nH nfr nhe nhp => ?uq)); (case u0 => exact Nat.le_of_ble_eq_true rfl))
  | ((with_reducible refine' i_setL (n := ?u0) ?u1 ?u2 (fun sH sh se => ?uq)); (case u1 => with_reducible assumption); (case u2 => exact rfl))
  | (with_reducible refine' i_sl ?uq)
  | (with_reducible refine' i_nopart ?uq)
  | (with_reducible refine' i_part ?uq)
  | (with_reducible refine' i_part1 ?uq))
local macro_rules | `(tactic| wtm_at "sz2") => `(tactic| ((with_reducible refine' sz_fmod ?sz1 ?sz2); (case sz1 => wtm_at "nz"); (case sz2 => wtm_at "sz")))
local macro_rules | `(tactic| wtm_at "stb") => `(tactic| first
  | ((with_reducible refine' i_mkTB ?u0 ?u1 (fun np nH nhe nhb nhp => ?uq)); (case u0 => exact Nat.le_of_ble_eq_true rfl); (case u1 => wtm_at "bag"))
  | ((with_reducible refine' i_mkLB ?u0 ?u1 (fun np nH nfr nhe nhb nhp => ?uq)); (case u0 => exact Nat.le_of_ble_eq_true rfl); (case u1 => wtm_at "bag"))
  | wtm_at "st")
local macro_rules | `(tactic| wtm_at "gob") => `(tactic| repeat' (wtm_at "stb"))
local macro_rules | `(tactic| wtm_at "gob0") => `(tactic| ((try dsimp only [L2.cxOf, L2.Cx.nox, L2.Cx.wish, L2.Cx.tr, L2.Cx.blk]); (try wtm_at "nrm"); wtm_at "gob"))
local macro_rules | `(tactic| wtm_at "st") => `(tactic| first | ((with_reducible refine' i_ixTS (z := ?u0) ?u1 ?u2 ?u3 ?uq); (case u1 => wtm_at "dp"); (case u2 => wtm_at "ex"); (case u3 => exact rfl)) | fail)
local macro_rules | `(tactic| wtm_at "st2") => `(tactic| first | ((with_reducible refine' i_eqST ?u0 ?uq); (case u0 => with_reducible rfl)) | ((with_reducible refine' i_eqSF ?u0 ?uq); (case u0 => decide +kernel)) | ((with_reducible refine' i_neST ?u0 ?uq); (case u0 => with_reducible rfl)) | ((with_reducible refine' i_neSF ?u0 ?uq); (case u0 => decide +kernel)) | fail)
section
variable {P : Program} {w : World} {K : PySem.W.Frag} {mg : Str → Option Value} {base : Heap} {H H' : Hp} {Q : VK} {E : XK} {v1 v2 v3 v4 v5 : V}
theorem i_augU {i : Nat} {x : V} {te : TE} {ti : TIp} {D : Ends} {σ : L2.St} (h : σ[i]? = some (some x)) (q : te σ H fun y H1 => ti x y H1 fun z H2 => D.nx (σ.set i (some z)) H2) : tAug i te ti D σ H := ⟨x, h, q⟩
theorem sz_nat {n : Nat} (h : n ≤ 1000) : Sz 64 (n : Int) := by
  unfold Sz
  have : (2 : Nat) ^ 64 = 18446744073709551616 := by decide
  omega
theorem form_two (s : Fs) : ∃ (z : Str) (ds : List PyData), fsD s = .tuple [.str z, .tuple ds] ∧ ds.length = (fitems s).length := by
  obtain ⟨k, t⟩ := s
  cases k with
  | zero => exact ⟨"leaf", (foL t).map enD, rfl, by rw [List.length_map]; exact (List.length_map _).symm⟩
  | succ k => exact ⟨"node", (foB t).map (brD k), rfl, by rw [List.length_map]; exact (List.length_map _).symm⟩
abbrev s_pairs_walk : Stmt := top 49
theorem sc_pairs_walk : FnScope ["one", "other", "reach", "found", "looked", "waits", "first", "second", "goals", "item", "hits", "boxes", "goal", "number", "box", "form"] ["one", "other", "reach"] (defScope s_pairs_walk) := ⟨rfl, rfl, rfl, by decide +kernel, rfl, by decide +kernel, by decide +kernel⟩
theorem ok_pairs_walk {f : Addr} {fd : FuncData} (F : FnP K "pairs_walk" s_pairs_walk f fd) (g : G mg) {CT : Addr} (c_items_of : Cl P w K mg base 1 "items_of" (sp_items_of K)) (c_do_meet_in : Cl P w K mg base 1 "do_meet_in" (sp_do_meet_in K)) (c_wider : Cl P w K mg base 1 "wider" (sp_wider K)) (c_is_any_met : Cl P w K mg base 2 "is_any_met" (sp_is_any_met K)) : FnOk P w K mg base CX0 3 f fd ["one", "other", "reach"] (sp_pairs_walk K CT) := by
  have nd := sc_pairs_walk.nd
  refine F.ok sc_pairs_walk (fun vs H Q E h => h.len) (fun cdv A outer s H vs Q E hr h => ?_)
  obtain ⟨v1, v2, v3, rfl, h⟩ := h
  refine ⟨_, PSs.nox (pss_cons (ps_par3 (i := 3) (j := 4) (l := 5) (by rfl) nd rfl rfl rfl (by decide) (by decide) (by decide) rfl rfl rfl (pa_cons (pe_lst pa_nil) (pa_cons pe_int (pa_cons (pe_lst (pa_cons (pe_tup (pa_cons (pe_fld (pv 0) rfl) (pa_cons (pe_fld (pv 1) rfl) pa_nil))) pa_nil)) pa_nil))) (by rfl)) (pss_cons (ps_while PassesOwn.never (pt_cmpR (op_neD hr.units) (pv 5) (pe_lst pa_nil) (nomark _)) (pss_cons (ps_asg (pe_bm0 PySem.F.plainAttrs_list PySem.F.slot_list_pop PySem.F.type_list_pop mt_pop (pv 5) ) (pg_tup (n := 2) (by rfl) (pgs_cons (pg_name (i := 6) nd rfl (Or.inr rfl)) (pgs_cons (pg_name (i := 7) nd rfl (Or.inl rfl)) pgs_nil)))) (pss_cons (ps_set (i := 8) nd rfl (Or.inl rfl) (pc c_items_of hr (by first | decide | omega) (by rfl) (pa_cons (pv 7) pa_nil))) (pss_cons (ps_aug (i := 4) nd rfl (.inl rfl) (pe_op op_mulX (pe_callB call_qlen (by rfl) g.f_len boot_len (pa_cons (pe_ix ix_tup (pv 6) pe_int (fun _ _ => rfl)) pa_nil)) (pe_callB call_qlen (by rfl) g.f_len boot_len (pa_cons (pv 8) pa_nil))) ip_add) (pss_cons (ps_for PassesOwn.never rfl (pi_list (pc c_items_of hr (by first | decide | omega) (by rfl) (pa_cons (pv 6) pa_nil))) (pg_name (i := 9) nd rfl (Or.inr rfl)) (pss_cons (ps_setLc (i := 10) (own := [("goal", 12)]) (g := gName 12) (by rfl) nd rfl rfl (sw_true rfl rfl rfl (by decide +kernel)) (pi_list (pv 8)) (blkOk_by (N := ["one", "other", "reach", "found", "looked", "waits", "first", "second", "goals", "item", "hits", "boxes", "goal", "number", "box", "form"]) (sc := defScope s_pairs_walk) (own := [("goal", 12)]) (by decide +kernel)) (fun _ _ _ _ _ => (pg_name (i := 12) nd rfl (Or.inl rfl))) (fun _ _ _ _ _ => (pts_one (pt_val (pc c_do_meet_in hr (by first | decide | omega) (by rfl) (pa_cons (pe_ix (show IxR _ (rIxT K) from ix_tup) (pv 9) pe_int (fun _ _ => rfl)) (pa_cons (pc c_wider hr (by first | decide | omega) (by rfl) (pa_cons (pe_ix (show IxR _ (rIxT K) from ix_tup) (pv 12) pe_int (fun _ _ => rfl)) (pa_cons (pv 2) pa_nil))) pa_nil)))))) (fun _ _ _ _ _ => (pv 12))) (pss_one (ps_if (pt_cmpR op_qisN (pe_ix ix_tup (pv 9) pe_int (fun _ _ => rfl)) pe_non (nomark _)) (pss_one (ps_expr (pe_bm PySem.F.plainAttrs_list PySem.F.slot_list_extend PySem.F.type_list_extend mt_extend (pv 3) (pa_cons (pe_lc (own := [("goal", 12)]) (g := gName 12) (by rfl) nd (pi_list (pv 10)) (blkOk_by (N := ["one", "other", "reach", "found", "looked", "waits", "first", "second", "goals", "item", "hits", "boxes", "goal", "number", "box", "form"]) (sc := defScope s_pairs_walk) (own := [("goal", 12)]) (by decide +kernel)) (fun _ _ _ _ _ => (pg_name (i := 12) nd rfl (Or.inl rfl))) (fun _ _ _ _ _ => (pts_one (pt_cmpR op_qisN (pe_ix (show IxR _ (rIxT K) from ix_tup) (pv 12) pe_int (fun _ _ => rfl)) pe_non (nomark _)))) (fun _ _ _ _ _ => (pe_tup (pa_cons (pe_ix (show IxR _ (rIxT K) from ix_tup) (pv 9) pe_int (fun _ _ => rfl)) (pa_cons (pe_ix (show IxR _ (rIxT K) from ix_tup) (pv 12) pe_int (fun _ _ => rfl)) pa_nil))))) pa_nil)))) (pss_one (ps_if (pt_cmpR op_eq (pe_ix ix_tup (pv 7) pe_int (fun _ _ => rfl)) (pe_glob (v := .str "node") (by rfl) g.c_NODE.choose_spec ⟨_, rfl⟩) (nomark _)) (pss_one (ps_expr (pe_bm PySem.F.plainAttrs_list PySem.F.slot_list_extend PySem.F.type_list_extend mt_extend (pv 5) (pa_cons (pe_lc (own := [("goal", 12)]) (g := gName 12) (by rfl) nd (pi_list (pv 10)) (blkOk_by (N := ["one", "other", "reach", "found", "looked", "waits", "first", "second", "goals", "item", "hits", "boxes", "goal", "number", "box", "form"]) (sc := defScope s_pairs_walk) (own := [("goal", 12)]) (by decide +kernel)) (fun _ _ _ _ _ => (pg_name (i := 12) nd rfl (Or.inl rfl))) (fun _ _ _ _ _ => pts_nil) (fun _ _ _ _ _ => (pe_tup (pa_cons (pe_ix (show IxR _ (rIxT K) from ix_tup) (pv 9) pe_int (fun _ _ => rfl)) (pa_cons (pe_ix (show IxR _ (rIxT K) from ix_tup) (pv 12) pe_int (fun _ _ => rfl)) pa_nil))))) pa_nil)))) (pss_one (ps_if (pt_cmpR (op_neD hr.units) (pv 10) (pe_lst pa_nil) (nomark _)) (pss_one (ps_expr (pe_bm PySem.F.plainAttrs_list PySem.F.slot_list_append PySem.F.type_list_append mt_append (pv 5) (pa_cons (pe_tup (pa_cons (pe_ix ix_tup (pv 9) pe_int (fun _ _ => rfl)) (pa_cons (pv 7) pa_nil))) pa_nil)))) pss_nil)))))))) (pss_one (ps_if (PW.pt (pw_and (pt_cmpR op_eq (pe_ix ix_tup (pv 6) pe_int (fun _ _ => rfl)) (pe_glob (v := .str "leaf") (by rfl) g.c_LEAF.choose_spec ⟨_, rfl⟩) (nomark _)) (pw_and1 (pt_cmpR op_eq (pe_ix ix_tup (pv 7) pe_int (fun _ _ => rfl)) (pe_glob (v := .str "node") (by rfl) g.c_NODE.choose_spec ⟨_, rfl⟩) (nomark _))))) (pss_cons (ps_set (i := 11) nd rfl (Or.inr rfl) (pe_lc (own := [("number", 13), ("box", 14)]) (g := _) (by rfl) nd (pi_tup (pe_ix ix_tup (pv 6) pe_int (fun _ _ => rfl))) (blkOk_by (N := ["one", "other", "reach", "found", "looked", "waits", "first", "second", "goals", "item", "hits", "boxes", "goal", "number", "box", "form"]) (sc := defScope s_pairs_walk) (own := [("number", 13), ("box", 14)]) (by decide +kernel)) (fun _ _ _ _ _ => (show PG _ _ (gTup K 2 _) from (pg_tup (by rfl) (pgs_cons (pg_name (i := 13) nd rfl (Or.inl rfl)) (pgs_cons (pg_name (i := 14) nd rfl (Or.inl rfl)) pgs_nil))))) (fun _ _ _ _ _ => pts_nil) (fun _ _ _ _ _ => (pv 14)))) (pss_one (ps_expr (pe_bm PySem.F.plainAttrs_list PySem.F.slot_list_extend PySem.F.type_list_extend mt_extend (pv 5) (pa_cons (pe_lc (own := [("box", 14), ("form", 15)]) (g := _) (by rfl) nd (pi_tup (pe_ix ix_tup (pv 7) pe_int (fun _ _ => rfl))) (blkOk_by (N := ["one", "other", "reach", "found", "looked", "waits", "first", "second", "goals", "item", "hits", "boxes", "goal", "number", "box", "form"]) (sc := defScope s_pairs_walk) (own := [("box", 14), ("form", 15)]) (by decide +kernel)) (fun _ _ _ _ _ => (show PG _ _ (gTup K 2 _) from (pg_tup (by rfl) (pgs_cons (pg_name (i := 14) nd rfl (Or.inl rfl)) (pgs_cons (pg_name (i := 15) nd rfl (Or.inl rfl)) pgs_nil))))) (fun _ _ _ _ _ => (pts_one (pt_val (pc c_is_any_met hr (by first | decide | omega) (by rfl) (pa_cons (pv 11) (pa_cons (pc c_wider hr (by first | decide | omega) (by rfl) (pa_cons (pv 14) (pa_cons (pv 2) pa_nil))) pa_nil)))))) (fun _ _ _ _ _ => (pe_tup (pa_cons (pv 6) (pa_cons (pv 15) pa_nil))))) pa_nil))))) pss_nil))))))) (pss_one (ps_ret (pe_tup (pa_cons (pe_callB cr_sortPD (by rfl) g.f_sorted boot_sorted (pa_cons (pv 3) pa_nil)) (pa_cons (pv 4) pa_nil))))))), ?_⟩
  obtain ⟨a, c, s, t, rfl, rfl, rfl, hcl, hna, hTs, hTt, hrs, hrt, hs2, ht2, q⟩ := h
  have hsm : SmP (s, t) := ⟨sm_of s.1 s.2 hrs.2.1 hrs.1, sm_of t.1 t.2 hrt.2.1 hrt.1⟩
  have hrt0 : RtP (s, t) := ⟨hrs.1, hrt.1⟩
  wtm_at "go0"
  rename_i fA H1 fn1 fe1 fp1
  obtain ⟨dx1, fs1, fv1, t11, t12, t13⟩ := hTs
  obtain ⟨dx2, fs2, fv2, t21, t22, t23⟩ := hTt
  refine i_fldU ?_
  wtm_at "go"
  refine ⟨a, CT, dx1, fs1, fv1, rfl, fe1 _ _ t11, hcl, hna, t12, ?_⟩
  wtm_at "go"
  refine i_fldU ?_
  wtm_at "go"
  refine ⟨c, CT, dx2, fs2, fv2, rfl, fe1 _ _ t21, hcl, hna, t22, ?_⟩
  wtm_at "go"
  rename_i pA H2 pe2 pp2 wA H3 wn3 we3 wp3
  have L0 : Lsts K H [(wA, ([(s, t)] : List PF).map prD), (fA, ([] : List (Int × Int)).map pD)] H3 := ((Lsts.nil (K := K) (G0 := H)).add fn1 fe1 fp1 .nil rfl).up pe2 |>.add wn3 we3 wp3 (.cons (.tup (Evl.st_of (we3 _ _ pp2)) (.cons (dpMono ((fe1.trans pe2).trans we3) t13) (.cons (dpMono ((fe1.trans pe2).trans we3) t23) .nil))) .nil) (noLs_map prD noL_pr [(s, t)])
  refine i_tw (fun μ σ' H' => ∃ (W : List PF) (F : List (Int × Int)) (lk : Int) (c6 c7 c8 c9 c10 c11 c12 c13 c14 c15 : Option V), σ' = [some (.ref a), some (.ref c), some (.int 0), some (.ref fA), some (.int lk), some (.ref wA), c6, c7, c8, c9, c10, c11, c12, c13, c14, c15] ∧ Lsts K H [(wA, W.map prD), (fA, F.map pD)] H' ∧ PInv (s, t) W F lk ∧ (W.flatMap allP).length = μ) (([(s, t)] : List PF).flatMap allP).length
    ⟨[(s, t)], [], 0, _, _, _, _, _, _, _, _, _, _, rfl, L0, pinv_start hsm hs2 ht2, rfl⟩ ?_
  rintro μ σ' H' ⟨W, F, lk, c6, c7, c8, c9, c10, c11, c12, c13, c14, c15, rfl, L, I, rfl⟩
  wtm_at "go"
  rename_i np nH nfr nhe nhp
  have L1 := L.up nhe
  refine i_neD (L1.ref (i := 0) rfl) (.lst (Evl.sq_of nhp) .nil) (shp_prs fun p hp => (I.sm p hp).2) rfl ?_
  rw [eqv_nil]
  wtm_at "go"
  · rename_i hne
    have hne' : W ≠ [] := fun z => hne (by rw [z]; rfl)
    obtain ⟨r, p, rfl⟩ : ∃ r p, W = r ++ [p] := ⟨W.dropLast, W.getLast hne', (List.dropLast_concat_getLast hne').symm⟩
    obtain ⟨hpm, hp1, hp2⟩ := I.sm p (List.mem_append_right _ List.mem_cons_self)
    obtain ⟨J, hlt⟩ := pinv_step I
    obtain ⟨b1, b2⟩ := pinv_b hsm hrt0 hs2 ht2 I
    obtain ⟨s', t'⟩ := p
    refine ⟨fun σ2 G2 => ∃ μ', μ' < ((r ++ [(s', t')]).flatMap allP).length ∧ ∃ (W : List PF) (F : List (Int × Int)) (lk : Int) (c6 c7 c8 c9 c10 c11 c12 c13 c14 c15 : Option V), σ2 = [some (.ref a), some (.ref c), some (.int 0), some (.ref fA), some (.int lk), some (.ref wA), c6, c7, c8, c9, c10, c11, c12, c13, c14, c15] ∧ Lsts K H [(wA, W.map prD), (fA, F.map pD)] G2 ∧ PInv (s, t) W F lk ∧ (W.flatMap allP).length = μ', fun _ _ h => h, ?_⟩
    have L1' : Lsts K H [(wA, r.map prD ++ [prD (s', t')]), (fA, F.map pD)] nH := by
      have := L1
      rw [List.map_append] at this
      exact this
    wtm_at "go"
    refine i_bm0 ?_
    wtm_at "go"
    refine L1'.ty (i := 0) rfl ?_
    refine L1'.pop (i := 0) rfl (fun y G hLG hy hk => ?_)
    have LG : Lsts K H [(wA, r.map prD), (fA, F.map pD)] G := hLG
    have hy : Dp K G y (.tuple [fsD s', fsD t']) := hy
    wtm_at "go"
    rename_i gvs gdp fv gr hfv hgr sv gr2 hsv hgr2
    refine use_items_of hsv hpm.2 (fun gA G2 gus gn ge gp gd => ?_)
    have LG2 : Lsts K H [(gA, (fitems t').map itmD), (wA, r.map prD), (fA, F.map pD)] G2 := LG.add gn ge gp gd (noLs_map _ noL_itm _)
    have hfv2 := dpMono ge hfv
    have hsv2 := dpMono ge hsv
    obtain ⟨z1, ds1, ez1, el1⟩ := form_two s'
    have hfz : Dp K G2 fv (.tuple [.str z1, .tuple ds1]) := by
      rw [← ez1]
      exact hfv2
    wtm_at "go"
    refine i_augU rfl ?_
    wtm_at "go"
    have l1 : (fitems s').length ≤ 4 := items_len hpm.1
    have l2 : (fitems t').length ≤ 4 := items_len hpm.2
    refine i_mul (a := 64) (b := 64) (sz_nat (by omega)) (sz_nat (by rw [List.length_map]; omega)) (by decide) ?_
    refine ⟨_, _, rfl, rfl, ?_⟩
    rw [List.length_map, el1]
    wtm_at "nrm"
    refine i_seq ?_
    refine i_forLU ?_
    wtm_at "go"
    refine use_items_of hfv2 hpm.1 (fun iA G3 ius iN ie ip id => ?_)
    have LG3 : Lsts K H (pls iA gA wA fA s' t' r F) G3 := LG2.add iN ie ip id (noLs_map _ noL_itm _)
    have hil : ((fitems s').map itmD).length = (fitems s').length := List.length_map _
    refine ⟨iA, rfl, ⟨ius, Evl.sq_of ip⟩, for_it (walk_lsD (a := iA) (ds := (fitems s').map itmD)) (fun i σ2 G2 => ∃ (c9 c10 c11 c12 c13 c14 c15 : Option V), σ2 = [some (.ref a), some (.ref c), some (.int 0), some (.ref fA), some (.int (lk + ((fitems s').length : Int) * ((fitems t').length : Int))), some (.ref wA), some fv, some sv, some (.ref gA), c9, c10, c11, c12, c13, c14, c15] ∧ Lsts K H (pls iA gA wA fA s' t' (r ++ ((fitems s').take i).flatMap (nextI t')) (F ++ ((fitems s').take i).flatMap (foundI t'))) G2 ∧ Dp K G2 fv (fsD s') ∧ Dp K G2 sv (fsD t'))
      ⟨_, _, _, _, _, _, _, rfl, ?_, dpMono ie hfv2, dpMono ie hsv2⟩ (fun i σ2 G2 _ p => by obtain ⟨_, _, _, _, _, _, _, _, p, _⟩ := p; exact p.ref (i := 0) rfl) (fun i x σ2 G2 G3' hi p yy => ?_) (fun σ2 G2 p => ?_)⟩
    · rw [List.take_zero, List.flatMap_nil, List.flatMap_nil, List.append_nil, List.append_nil]
      exact LG3
    · obtain ⟨c9, c10, c11, c12, c13, c14, c15, rfl, LT, p1, p2⟩ := p
      obtain ⟨rfl, d, hd, hx⟩ := yy
      rw [List.getElem?_map] at hd
      obtain ⟨it, hit, rfl⟩ := Option.map_eq_some_iff.mp hd
      have w1 := flat_take (nextI t') (fitems s') i
      have w2 := flat_take (foundI t') (fitems s') i
      have w3 : ((fitems s').flatMap (nextI t')).length ≤ (nextP (s', t')).length := by
        show _ ≤ ((fitems s').flatMap (nextI t') ++ nextE s' t').length
        rw [List.length_append]
        omega
      have w4 : ((fitems s').flatMap (foundI t')).length = (foundP (s', t')).length := rfl
      have ht1 : (fitems s').take (i + 1) = (fitems s').take i ++ [it] := by rw [List.take_add_one, hit]; rfl
      refine i_name ?_
      wtm_at "nrm"
      refine it_turn LT hx p2 hpm.2 (by rw [List.length_append]; omega) (by rw [List.length_append]; omega) (fun G4 c10 c11 c12 c13 c14 c15 L4 hk4 => ?_)
      refine ⟨_, _, _, _, _, _, _, rfl, ?_, hk4 (noL_fs _) p1, hk4 (noL_fs _) p2⟩
      rw [ht1, List.flatMap_append, List.flatMap_append, ← List.append_assoc, ← List.append_assoc, List.flatMap_cons, List.flatMap_cons, List.flatMap_nil, List.flatMap_nil, List.append_nil, List.append_nil]
      exact L4
    · obtain ⟨c9, c10, c11, c12, c13, c14, c15, rfl, LT, p1, p2⟩ := p
      rw [hil, List.take_length] at LT
      refine tail_turn LT.tail.tail p1 p2 hpm.1 hpm.2 ?_ (fun G5 c8 c9 c10 c11 c12 c13 c14 c15 L5 => ?_)
      · rw [List.length_append]
        have : ((fitems s').flatMap (nextI t')).length ≤ (nextP (s', t')).length := by
          show _ ≤ ((fitems s').flatMap (nextI t') ++ nextE s' t').length
          rw [List.length_append]
          omega
        omega
      refine ⟨_, hlt, r ++ nextP (s', t'), F ++ foundP (s', t'), _, _, _, _, _, _, _, _, _, _, _, rfl, ?_, J, rfl⟩
      rw [List.append_assoc] at L5
      exact L5
  · rename_i hz
    have hz' : W = [] := List.map_eq_nil_iff.mp hz
    subst hz'
    have hF : F.Perm (dueP (s, t)) := by
      have := I.fd
      rw [List.flatMap_nil, List.flatMap_nil, List.append_nil] at this
      exact this.trans (all_due hrt0)
    have hlk : lk = totP (s, t) := by
      have := I.lk
      rw [List.flatMap_nil] at this
      show lk = totP (s, t)
      have e : sumL [] = 0 := rfl
      omega
    subst hlk
    wtm_at "go"
    refine i_sortPD (ms := F) (L1.ref (i := 1) rfl) (fun p7 ms' H7 m1 m2 n7 e7 h7 => ?_)
    wtm_at "go"
    rename_i p9 H9 e9 h9
    exact q p9 p7 H9 ms' (m1.trans hF) m2 (L1.ex.trans (e7.trans e9)) h9 (dpMono e9 h7)
theorem use_pairs_walk {CT a c : Addr} {s t : Fs} (hcl : Cls K CT) (hna : NoAttr K CT "own_form") (hs : TreeAt K CT H a s) (ht : TreeAt K CT H c t) (rs : Root s) (rt : Root t) (s2 : s.1 ≤ 2) (t2 : t.1 ≤ 2) (q : RetP K (s, t) H Q) : sp_pairs_walk K CT [.ref a, .ref c, .int 0] H Q E :=
  ⟨_, _, _, rfl, a, c, s, t, rfl, rfl, rfl, hcl, hna, hs, ht, rs, rt, s2, t2, q⟩
end
end Wb

namespace Wb
open PySem PySem.Spec PyProof.Rows L2 StX
open Evl (Ex Ex.refl Ex.trans Ex.new)
open LmK (pD)
local macro_rules | `(tactic| wtm_at "dp") => `(tactic| first | with_reducible assumption | with_reducible exact Dp.int _ | with_reducible exact Dp.bl _ | with_reducible exact Dp.str _ | with_reducible exact Dp.non | ((with_reducible refine' dpMono ?dme (by with_reducible assumption)); (case dme => wtm_at "ex")) | ((with_reducible refine' Dp.tup (Evl.st_of ?dph) ?dpa); (case dph => wtm_at "hs"); (case dpa => wtm_at "dpa")) | ((with_reducible refine' Dp.lst (Evl.sq_of ?dph) ?dpa); (case dph => wtm_at "hs"); (case dpa => wtm_at "dpa")))
local macro_rules | `(tactic| wtm_at "dpa") => `(tactic| first | with_reducible exact DpAll.nil | ((with_reducible refine' DpAll.cons ?dp1 ?dp2); (case dp1 => wtm_at "dp"); (case dp2 => wtm_at "dpa")) | with_reducible assumption | ((with_reducible refine' dpMonoA ?dme (by with_reducible assumption)); (case dme => wtm_at "ex")))
local macro_rules | `(tactic| wtm_at "sz") => `(tactic| first | with_reducible assumption | ((with_reducible refine' sz_mul ?sz1 ?sz2); (case sz1 => wtm_at "sz"); (case sz2 => wtm_at "sz")) | ((with_reducible refine' sz_add ?sz1 ?sz2); (case sz1 => wtm_at "sz"); (case sz2 => wtm_at "sz")) | ((with_reducible refine' sz_sub ?sz1 ?sz2); (case sz1 => wtm_at "sz"); (case sz2 => wtm_at "sz")) | ((with_reducible refine' sz_neg ?sz1); (case sz1 => wtm_at "sz")) | ((with_reducible refine' sz_div ?sz1); (case sz1 => wtm_at "sz")) | ((with_reducible refine' sz_fdiv ?sz1); (case sz1 => wtm_at "sz")) | exact sz_lit (by decide) | wtm_at "sz2")
local macro_rules | `(tactic| wtm_at "szb") => `(tactic| first | with_reducible assumption | ((with_reducible refine' sz_mono ?szb1 ?szb2); (case szb1 => wtm_at "sz"); (case szb2 => decide)))
local macro_rules | `(tactic| wtm_at "nz") => `(tactic| first | assumption | decide | omega)
local macro_rules | `(tactic| wtm_at "shaped") => `(tactic| first | rfl | decide)
local macro_rules | `(tactic| wtm_at "sset") => `(tactic| ((dsimp only [L2.wipe, List.set, List.set_cons_zero, List.set_cons_succ]) <;> exact rfl))
local macro_rules | `(tactic| wtm_at "nrm") => `(tactic| dsimp only [L2.start, L2.wipe, List.set, List.append, List.map, List.map_cons, List.map_nil, List.length_cons, List.length_nil, Nat.reduceAdd, Nat.reduceSub, List.reduceReplicate, List.replicate, List.cons_append, List.nil_append, List.set_cons_zero, List.set_cons_succ])
local macro_rules | `(tactic| wtm_at "st") => `(tactic| first
  | ((with_reducible refine' i_var (v := ?u0) ?u1 ?uq); (case u1 => exact rfl))
  | ((with_reducible refine' i_nameN ?u0 ?uq); (case u0 => wtm_at "sset"))
  | (with_reducible refine' i_op ?uq)
  | (with_reducible refine' i_c ?uq)
  | (with_reducible refine' i_I0 ?uq)
  | ((with_reducible refine' i_ixTI (i := ?u0) ?u1 ?u2 ?u3 ?uq); (case u1 => wtm_at "dp"); (case u2 => wtm_at "ex"); (case u3 => exact rfl))
  | ((with_reducible refine' i_ixT (d := ?u0) ?u1 ?u2 ?u3 (fun xu hxu => ?uq)); (case u1 => wtm_at "dp"); (case u2 => wtm_at "ex"); (case u3 => exact rfl))
  | ((with_reducible refine' i_mul ?u0 ?u1 ?u2 ?uq); (case u0 => wtm_at "sz"); (case u1 => wtm_at "sz"); (case u2 => first | decide | omega))
  | (with_reducible refine' i_seq ?uq)
  | (with_reducible refine' i_asg ?uq)
  | (with_reducible refine' i_ret ?uq)
  | (with_reducible refine' i_ifs ?uq)
  | (with_reducible refine' i_drop ?uq)
  | (with_reducible refine' i_next ?uq)
  | (with_reducible refine' i_cons ?uq)
  | (with_reducible refine' i_nil ?uq)
  | (with_reducible refine' i_cl ?uq)
  | (with_reducible refine' i_cb ?uq)
  | (with_reducible refine' i_tup ?uq)
  | (with_reducible refine' i_lst ?uq)
  | ((with_reducible refine' i_mkT ?u0 (fun np nH nhe nhp => ?uq)); (case u0 => exact Nat.le_of_ble_eq_true rfl))
  | (with_reducible refine' i_test ?uq)
  | (with_reducible refine' i_B ?uq)
  | (with_reducible refine' i_k ?uq)
  | (with_reducible refine' i_and ?uq)
  | (with_reducible refine' i_or ?uq)
  | (with_reducible refine' i_not ?uq)
  | (with_reducible refine' i_andV ?uq)
  | (with_reducible refine' i_orV ?uq)
  | (with_reducible refine' i_notV ?uq)
  | (with_reducible refine' i_if ?uq)
  | (with_reducible refine' i_un ?uq)
  | (with_reducible refine' i_U ?uq)
  | (with_reducible refine' i_iteT ?uq)
  | (with_reducible refine' i_iteF ?uq)
  | ((with_reducible refine' i_iteTr ?u0 ?uq); (case u0 => first | with_reducible rfl | decide | (simp only [dIsInt, dIsBool, dIsTup, dIsStr, dIsLst, Bool.not_true, Bool.not_false]; done)))
  | ((with_reducible refine' i_iteFr ?u0 ?uq); (case u0 => first | with_reducible rfl | decide | (simp only [dIsInt, dIsBool, dIsTup, dIsStr, dIsLst, Bool.not_true, Bool.not_false]; done)))
  | (with_reducible refine' i_ite (fun hif => ?uqa) (fun hif => ?uqb))
  | (with_reducible refine' i_iteN (fun hif => ?uqa) (fun hif => ?uqb))
  | (with_reducible refine' i_iteBN (fun hif => ?uqa) (fun hif => ?uqb))
  | (with_reducible refine' i_iteB (fun hif => ?uqa) (fun hif => ?uqb))
  | ((with_reducible refine' i_modN ?u0 ?uq); (case u0 => wtm_at "nz"))
  | ((with_reducible refine' i_fdX ?u0 ?u1 ?u2 ?uq); (case u0 => wtm_at "nz"); (case u1 => wtm_at "sz"); (case u2 => first | decide | omega))
  | ((with_reducible refine' i_pow ?u0 ?uq); (case u0 => exact ⟨by decide, by decide +kernel⟩))
  | (with_reducible refine' i_eqI ?uq)
  | (with_reducible refine' i_neI ?uq)
  | (with_reducible refine' i_gcd ?uq)
  | (with_reducible refine' i_qabs ?uq)
  | (with_reducible refine' i_qint ?uq)
  | (with_reducible refine' i_qintB ?uq)
  | (with_reducible refine' i_qmax2 ?uq)
  | (with_reducible refine' i_qmin2 ?uq)
  | (with_reducible refine' i_isB ?uq)
  | (with_reducible refine' i_notB ?uq)
  | (with_reducible refine' i_chain ?uq)
  | (with_reducible refine' i_qisN ?uq)
  | (with_reducible refine' i_qnotN ?uq)
  | (with_reducible refine' i_yes ?uq)
  | (with_reducible refine' i_par ?uq)
  | (with_reducible refine' i_par3 ?uq)
  | ((with_reducible refine' i_par2 ?u0 ?uq); (case u0 => wtm_at "sset"))
  | ((with_reducible refine' i_par33 ?u0 ?uq); (case u0 => wtm_at "sset"))
  | ((with_reducible refine' i_ixLI (i := ?u0) ?u1 ?u2 ?u3 ?uq); (case u1 => wtm_at "dp"); (case u2 => wtm_at "ex"); (case u3 => exact rfl))
  | ((with_reducible refine' i_ixL (d := ?u0) ?u1 ?u2 ?u3 (fun xu hxu => ?uq)); (case u1 => wtm_at "dp"); (case u2 => wtm_at "ex"); (case u3 => exact rfl))
  | ((with_reducible refine' i_qlenT ?u0 ?uq); (case u0 => wtm_at "dp"))
  | ((with_reducible refine' i_qlenL ?u0 ?uq); (case u0 => wtm_at "dp"))
  | ((with_reducible refine' i_gtup ?u0 ?u1 ?u2 (fun gvs gdp => ?uq)); (case u0 => wtm_at "dp"); (case u1 => wtm_at "ex"); (case u2 => exact rfl))
  | ((with_reducible refine' i_glst ?u0 ?u1 ?u2 (fun gvs gdp => ?uq)); (case u0 => wtm_at "dp"); (case u1 => wtm_at "ex"); (case u2 => exact rfl))
  | ((with_reducible refine' i_gconsI ?u0 (fun gr gh => ?uq)); (case u0 => with_reducible assumption))
  | ((with_reducible refine' i_gconsA ?u0 (fun gv gr gh1 gh2 => ?uq)); (case u0 => with_reducible assumption))
  | ((with_reducible refine' i_gnilA ?u0 ?uq); (case u0 => with_reducible assumption))
  | ((with_reducible refine' i_isiI ?u0 ?uq); (case u0 => wtm_at "dp"))
  | ((with_reducible refine' i_isiB ?u0 ?uq); (case u0 => wtm_at "dp"))
  | ((with_reducible refine' i_isiT ?u0 ?uq); (case u0 => wtm_at "dp"))
  | ((with_reducible refine' i_isiS ?u0 ?uq); (case u0 => wtm_at "dp"))
  | ((with_reducible refine' i_isiL ?u0 ?uq); (case u0 => wtm_at "dp"))
  | ((with_reducible refine' i_eqD ?u0 ?u1 ?u2 ?u3 ?uq); (case u0 => wtm_at "dp"); (case u1 => wtm_at "dp"); (case u2 => wtm_at "shaped"); (case u3 => wtm_at "shaped"))
  | ((with_reducible refine' i_neD ?u0 ?u1 ?u2 ?u3 ?uq); (case u0 => wtm_at "dp"); (case u1 => wtm_at "dp"); (case u2 => wtm_at "shaped"); (case u3 => wtm_at "shaped"))
  | wtm_at "st2"
  | wtm_at "use")
local macro_rules | `(tactic| wtm_at "go") => `(tactic| repeat' (wtm_at "st"))
local macro_rules | `(tactic| wtm_at "go0") => `(tactic| ((try dsimp only [L2.cxOf, L2.Cx.nox, L2.Cx.wish, L2.Cx.tr, L2.Cx.blk]); (try wtm_at "nrm"); wtm_at "go"))
local macro_rules | `(tactic| wtm_at "fin") => `(tactic| ((try dsimp only); first | with_reducible assumption | assumption | ((with_reducible refine' Ret.use ?rur ?rue ?rud); (case rur => with_reducible assumption); (case rue => wtm_at "ex"); (case rud => wtm_at "dp"))))
local macro_rules | `(tactic| wtm_at "exh") => `(tactic| first | with_reducible assumption | with_reducible exact Ex.refl _ | with_reducible exact ex_hid | ((with_reducible refine' Ex.trans ?exe (by with_reducible assumption)); (case exe => wtm_at "exh")) | ((with_reducible refine' Ex.trans ?exe (hid_ex (by with_reducible assumption))); (case exe => wtm_at "exh")))
local macro_rules | `(tactic| wtm_at "ex") => `(tactic| first | with_reducible assumption | with_reducible exact Ex.refl _ | with_reducible exact ex_hid | ((with_reducible refine' Ex.trans ?exe (by with_reducible assumption)); (case exe => wtm_at "ex")) | ((with_reducible refine' Ex.trans ?exe (hid_ex (by with_reducible assumption))); (case exe => wtm_at "ex")) | ((with_reducible refine' Ex.trans ?exe ex_hid); (case exe => wtm_at "exh")))
local macro_rules | `(tactic| wtm_at "bag") => `(tactic| first | with_reducible assumption | ((with_reducible refine' Bag.mono ?bgm (by with_reducible assumption)); (case bgm => wtm_at "bag")))
local macro_rules | `(tactic| wtm_at "hs") => `(tactic| first | with_reducible assumption | ((with_reducible refine' hid_tup ?hb ?hp); (case hp => with_reducible assumption); (case hb => wtm_at "bag")) | ((with_reducible refine' hid_new ?hb ?hn ?hp); (case hp => with_reducible assumption); (case hn => with_reducible assumption); (case hb => wtm_at "bag")) | ((with_reducible refine' ex_at ?exe (by with_reducible assumption)); (case exe => wtm_at "ex")))
local macro_rules | `(tactic| wtm_at "st2") => `(tactic| first
  | ((with_reducible refine' i_mulC ?u0 ?uq); (case u0 => first | exact cmul_l (by decide) | exact cmul_r (by decide)))
  | ((with_reducible refine' i_ixLr (v := ?u0) ?u1 ?u2 ?uq); (case u1 => with_reducible assumption); (case u2 => exact rfl))
  | (with_reducible refine' i_sub ?uq)
  | ((with_reducible refine' i_mkL ?u0 (fun np nH nfr nhe nhp => ?uq)); (case u0 => exact Nat.le_of_ble_eq_true rfl))
  | ((with_reducible refine' i_setL (n := ?u0) ?u1 ?u2 (fun sH sh se => ?uq)); (case u1 => with_reducible assumption); (case u2 => exact rfl))
  | (with_reducible refine' i_sl ?uq)
  | (with_reducible refine' i_nopart ?uq)
  | (with_reducible refine' i_part ?uq)
  | (with_reducible refine' i_part1 ?uq))
local macro_rules | `(tactic| wtm_at "sz2") => `(tactic| ((with_reducible refine' sz_fmod ?sz1 ?sz2); (case sz1 => wtm_at "nz"); (case sz2 => wtm_at "sz")))
local macro_rules | `(tactic| wtm_at "stb") => `(tactic| first
  | ((with_reducible refine' i_mkTB ?u0 ?u1 (fun np nH nhe nhb nhp => ?uq)); (case u0 => exact Nat.le_of_ble_eq_true rfl); (case u1 => wtm_at "bag"))
  | ((with_reducible refine' i_mkLB ?u0 ?u1 (fun np nH nfr nhe nhb nhp => ?uq)); (case u0 => exact Nat.le_of_ble_eq_true rfl); (case u1 => wtm_at "bag"))
  | wtm_at "st")
local macro_rules | `(tactic| wtm_at "gob") => `(tactic| repeat' (wtm_at "stb"))
local macro_rules | `(tactic| wtm_at "gob0") => `(tactic| ((try dsimp only [L2.cxOf, L2.Cx.nox, L2.Cx.wish, L2.Cx.tr, L2.Cx.blk]); (try wtm_at "nrm"); wtm_at "gob"))
local macro_rules | `(tactic| wtm_at "st") => `(tactic| first | ((with_reducible refine' i_ixTS (z := ?u0) ?u1 ?u2 ?u3 ?uq); (case u1 => wtm_at "dp"); (case u2 => wtm_at "ex"); (case u3 => exact rfl)) | fail)
local macro_rules | `(tactic| wtm_at "st2") => `(tactic| first | ((with_reducible refine' i_eqST ?u0 ?uq); (case u0 => with_reducible rfl)) | ((with_reducible refine' i_eqSF ?u0 ?uq); (case u0 => decide +kernel)) | ((with_reducible refine' i_neST ?u0 ?uq); (case u0 => with_reducible rfl)) | ((with_reducible refine' i_neSF ?u0 ?uq); (case u0 => decide +kernel)) | fail)
section
variable {P : Program} {w : World} {K : PySem.W.Frag} {mg : Str → Option Value} {base : Heap} {H H' : Hp} {Q : VK} {E : XK} {v1 v2 v3 v4 v5 : V}
def sp_Tree_pairs (K : PySem.W.Frag) (CT : Addr) : Sp := A2 fun v1 v2 H Q => ∃ (a c : Addr) (s t : Fs), v1 = .ref a ∧ v2 = .ref c ∧ TreeAt K CT H a s ∧ TreeAt K CT H c t ∧ Root s ∧ Root t ∧ s.1 ≤ 2 ∧ t.1 ≤ 2 ∧ ∀ ms : List (Int × Int), ms.Perm (dueP (s, t)) → LexS ms → Ret K (.tuple (ms.map pD)) H Q
abbrev s_Tree_pairs : Stmt := inClass (top 51) 12
theorem sc_Tree_pairs : FnScope ["self", "other"] ["self", "other"] (defScope s_Tree_pairs) := ⟨rfl, rfl, rfl, by decide +kernel, rfl, by decide +kernel, by decide +kernel⟩
theorem ok_Tree_pairs {f : Addr} {fd : FuncData} (F : FunD K "pairs" "Tree.pairs" (defArgs s_Tree_pairs) (defBody s_Tree_pairs) (defScope s_Tree_pairs) [] [] f fd) (g : G mg) {CT : Addr} (ct : Cls K CT) (na : NoAttr K CT "own_form") (c_require_tree : Cl P w K mg base 1 "require_tree" (sp_require_tree K CT)) (c_pairs_walk : Cl P w K mg base 3 "pairs_walk" (sp_pairs_walk K CT)) : FnOk P w K mg base CX0 4 f fd ["self", "other"] (sp_Tree_pairs K CT) := by
  have nd := sc_Tree_pairs.nd
  refine F.ok sc_Tree_pairs (fun vs H Q E h => h.len) (fun cdv A outer s H vs Q E hr h => ?_)
  obtain ⟨v1, v2, rfl, h⟩ := h
  refine ⟨_, PSs.nox (pss_cons (ps_expr (pc c_require_tree hr (by first | decide | omega) (by rfl) (pa_cons (pv 1) pa_nil))) (pss_one (ps_ret (pe_callTy call_qtuple (by rfl) g.f_tuple boot_tuple (pa_cons (pe_ix ix_tup (pc c_pairs_walk hr (by first | decide | omega) (by rfl) (pa_cons (pv 0) (pa_cons (pv 1) (pa_cons pe_int pa_nil)))) pe_int (fun _ _ => rfl)) pa_nil))))), ?_⟩
  obtain ⟨a, c, s, t, rfl, rfl, hs, ht, rs, rt, s2, t2, q⟩ := h
  wtm_at "go0"
  refine use_require_tree ht ?_
  wtm_at "go"
  refine use_pairs_walk ct na hs ht rs rt s2 t2 (fun p fA H2 ms m1 m2 e2 hp0 hf => ?_)
  have hp := And.intro trivial hp0
  clear hp0
  wtm_at "go"
  refine ⟨p, _, 0, _, rfl, rfl, Evl.st_of hp.2, rfl, ?_⟩
  wtm_at "go"
  refine i_qtupleL hf (fun p5 H5 e5 hh => ?_)
  obtain ⟨vs, g1, g2⟩ := hh
  exact q ms m1 m2 _ _ (e2.trans e5) (.tup (Evl.st_of g1) g2)
def sp_Tree_pairs_looked (K : PySem.W.Frag) (CT : Addr) : Sp := A2 fun v1 v2 H Q => ∃ (a c : Addr) (s t : Fs), v1 = .ref a ∧ v2 = .ref c ∧ TreeAt K CT H a s ∧ TreeAt K CT H c t ∧ Root s ∧ Root t ∧ s.1 ≤ 2 ∧ t.1 ≤ 2 ∧ Ret K (.int (totP (s, t))) H Q
abbrev s_Tree_pairs_looked : Stmt := inClass (top 51) 13
theorem sc_Tree_pairs_looked : FnScope ["self", "other"] ["self", "other"] (defScope s_Tree_pairs_looked) := ⟨rfl, rfl, rfl, by decide +kernel, rfl, by decide +kernel, by decide +kernel⟩
theorem ok_Tree_pairs_looked {f : Addr} {fd : FuncData} (F : FunD K "pairs_looked" "Tree.pairs_looked" (defArgs s_Tree_pairs_looked) (defBody s_Tree_pairs_looked) (defScope s_Tree_pairs_looked) [] [] f fd) (g : G mg) {CT : Addr} (ct : Cls K CT) (na : NoAttr K CT "own_form") (c_require_tree : Cl P w K mg base 1 "require_tree" (sp_require_tree K CT)) (c_pairs_walk : Cl P w K mg base 3 "pairs_walk" (sp_pairs_walk K CT)) : FnOk P w K mg base CX0 4 f fd ["self", "other"] (sp_Tree_pairs_looked K CT) := by
  have nd := sc_Tree_pairs_looked.nd
  refine F.ok sc_Tree_pairs_looked (fun vs H Q E h => h.len) (fun cdv A outer s H vs Q E hr h => ?_)
  obtain ⟨v1, v2, rfl, h⟩ := h
  refine ⟨_, PSs.nox (pss_cons (ps_expr (pc c_require_tree hr (by first | decide | omega) (by rfl) (pa_cons (pv 1) pa_nil))) (pss_one (ps_ret (pe_ix ix_tup (pc c_pairs_walk hr (by first | decide | omega) (by rfl) (pa_cons (pv 0) (pa_cons (pv 1) (pa_cons pe_int pa_nil)))) pe_int (fun _ _ => rfl))))), ?_⟩
  obtain ⟨a, c, s, t, rfl, rfl, hs, ht, rs, rt, s2, t2, q⟩ := h
  wtm_at "go0"
  refine use_require_tree ht ?_
  wtm_at "go"
  refine use_pairs_walk ct na hs ht rs rt s2 t2 (fun p fA H2 ms m1 m2 e2 hp0 hf => ?_)
  have hp := And.intro trivial hp0
  clear hp0
  wtm_at "go"
  refine ⟨p, _, 1, _, rfl, rfl, Evl.st_of hp.2, rfl, ?_⟩
  wtm_at "go"
  exact q.int e2
/-- the box of an item by its place -/
def sp__law_box_with (K : PySem.W.Frag) : Sp := A2 fun v1 v2 H Q => ∃ (s : Fs) (i : Nat) (it : Itm), Dp K H v1 (fsD s) ∧ v2 = .int (i : Int) ∧ (fitems s)[i]? = some it ∧ ∀ u, Dp K H u (bxD it.1) → Q u H
abbrev s__law_box_with : Stmt := top 69
theorem sc__law_box_with : FnScope ["_law_form", "_law_at"] ["_law_form", "_law_at"] (defScope s__law_box_with) := ⟨rfl, rfl, rfl, by decide +kernel, rfl, by decide +kernel, by decide +kernel⟩
theorem ok__law_box_with {f : Addr} {fd : FuncData} (F : FnP K "_law_box_with" s__law_box_with f fd) (g : G mg)   : FnOk P w K mg base CX0 1 f fd ["_law_form", "_law_at"] (sp__law_box_with K) := by
  have nd := sc__law_box_with.nd
  refine F.ok sc__law_box_with (fun vs H Q E h => h.len) (fun cdv A outer s H vs Q E hr h => ?_)
  obtain ⟨v1, v2, rfl, h⟩ := h
  refine ⟨_, PSs.nox (pss_one (ps_ret (pe_ifExp (pt_cmpR op_eq (pe_ix ix_tup (pv 0) pe_int (fun _ _ => rfl)) pe_str (nomark _)) (pe_ix ix_tup (pe_ix ix_tup (pe_ix ix_tup (pv 0) pe_int (fun _ _ => rfl)) (pv 1) (fun _ _ => rfl)) pe_int (fun _ _ => rfl)) (pe_ix ix_tup (pe_ix ix_tup (pe_ix ix_tup (pv 0) pe_int (fun _ _ => rfl)) (pv 1) (fun _ _ => rfl)) pe_int (fun _ _ => rfl))))), ?_⟩
  obtain ⟨⟨k, t⟩, i, it, h1, rfl, hi, q⟩ := h
  cases k with
  | zero =>
    have h1 : Dp K H v1 (.tuple [.str "leaf", .tuple ((foL t).map enD)]) := h1
    have hi : ((foL t).map fun e => ((e.2, .inl e.1) : Itm))[i]? = some it := hi
    rw [List.getElem?_map] at hi
    obtain ⟨e, he, rfl⟩ := Option.map_eq_some_iff.mp hi
    wtm_at "go0"
    rename_i xu hxu
    refine i_ixTN (d := enD e) hxu (by rw [List.getElem?_map, he]; rfl) (fun w hw => ?_)
    have hw : Dp K H w (.tuple [.int e.1, bxD e.2]) := hw
    wtm_at "go"
    exact q _ (by assumption)
  | succ k =>
    have h1 : Dp K H v1 (.tuple [.str "node", .tuple ((foB t).map (brD k))]) := h1
    have hi : ((foB t).map fun p => ((p.1, .inr ⟨k, p.2⟩) : Itm))[i]? = some it := hi
    rw [List.getElem?_map] at hi
    obtain ⟨p, hp, rfl⟩ := Option.map_eq_some_iff.mp hi
    wtm_at "go0"
    rename_i xu hxu
    refine i_ixTN (d := brD k p) hxu (by rw [List.getElem?_map, hp]; rfl) (fun w hw => ?_)
    have hw : Dp K H w (.tuple [bxD p.1, foD k p.2]) := hw
    wtm_at "go"
    exact q _ (by assumption)
theorem use__law_box_with {s : Fs} {i : Nat} {it : Itm} (h1 : Dp K H v1 (fsD s)) (hi : (fitems s)[i]? = some it) (q : ∀ u, Dp K H u (bxD it.1) → Q u H) : sp__law_box_with K [v1, .int (i : Int)] H Q E := ⟨_, _, rfl, s, i, it, h1, rfl, hi, q⟩
theorem wd_non {b c : Bx} : wdV (apart b c) = V.non ↔ meetB b c = true := by
  rw [meet_apart]
  cases apart b c with
  | none => simp [wdV]
  | some x => simp [wdV]
theorem range_filter {α : Type} (d : α) (c : α → Bool) (xs : List α) : ((List.range xs.length).filter fun j => c (xs.getD j d)).map (fun j => xs.getD j d) = xs.filter c := by
  conv => rhs; rw [← range_get d xs]
  rw [List.filter_map]
  rfl
section
variable {σ : L2.St} {te : TE} {tt : TT} {vs : List Nat} {j : Nat}
/-- [j for j in range(n) if ..], nothing but new things made -/
theorem i_lcRF {n : Nat} (c : Nat → Bool) (hn : n ≤ 1000) (hw : ∀ x, wipe ((wipe σ vs).set j (some x)) vs = wipe σ vs)
    (he : ∀ (i : Nat) (H2 : Hp) (R : Hp → Prop) (Y : VK), i < n → Ex H H2 → (c i = false → ∀ H3, Ex H2 H3 → R H3) → (c i = true → ∀ H3, Ex H2 H3 → Y (.int (i : Int)) H3) → tt ((wipe σ vs).set j (some (.int (i : Int)))) H2 fun b H4 => if b = true then te ((wipe σ vs).set j (some (.int (i : Int)))) H4 Y else R H4)
    (q : ∀ p H2, H p = none → Ex H H2 → Dp K H2 (.ref p) (.list (((List.range n).filter c).map fun i : Nat => .int (i : Int))) → Q (.ref p) H2) : tLc (iRng1 (kA [.int (n : Int)])) (gName j) tt te vs σ H Q := by
  refine ⟨(n : Int), rfl, by omega, by omega, fun D0 hD => ?_⟩
  refine lc_range (lo := 0) (n := ((n : Int)).toNat) (fun i H' => Acc K H D0 (((List.range i).filter c).map fun i : Nat => .int (i : Int)) H') (Acc.new hD) (fun i H' hi p => ?_) (fun H' p => ?_)
  · have e0 : (0 : Int) + (i : Int) = (i : Int) := Int.zero_add _
    show wipe ((wipe σ vs).set j (some (.int ((0 : Int) + (i : Int))))) vs = wipe σ vs ∧ tt ((wipe σ vs).set j (some (.int ((0 : Int) + (i : Int))))) H' fun b' H3 => _
    rw [e0]
    refine ⟨hw _, he i H' _ _ (by omega) p.2.1 (fun hc H3 e3 => ?_) (fun hc H3 e3 => ?_)⟩
    · rw [List.range_succ, List.filter_append, List.filter_cons, if_neg (by rw [hc]; decide), List.filter_nil, List.append_nil]
      exact p.up e3
    · have := (p.up e3).put (d := .int (i : Int)) (y := .int (i : Int)) (by
        rw [List.length_map]
        have := List.length_filter_le c (List.range i)
        rw [List.length_range] at this
        omega) (fun z hz => by
        obtain ⟨k, _, rfl⟩ := List.mem_map.mp hz
        rfl) rfl (.int _)
      rw [List.range_succ, List.filter_append, List.map_append, List.filter_cons, if_pos hc]
      exact this
  · obtain ⟨p1, p2, acc, p3, p4⟩ := p
    exact q D0 H' p1 p2 (.lst (Evl.sq_of p3) p4)
end
/-- the law's own test of two items -/
abbrev aptT (K : PySem.W.Frag) : TT := tTest (tOp qIsN (tCl (sp__law_apart_word K) (tCons (tCl (sp__law_box_with K) (tCons (tVar 0) (tCons (tVar 3) tNil))) (tCons (tCl (sp__law_box_with K) (tCons (tVar 1) (tCons (tVar 4) tNil))) tNil))) (tC V.non))
theorem apt_turn {s t : Fs} {i k : Nat} {it g : Itm} {R : Hp → Prop} {Y : Hp → Prop} {c2 c5 : Option V} (h1 : Dp K H v1 (fsD s)) (h2 : Dp K H v2 (fsD t)) (hi : (fitems s)[i]? = some it) (hk : (fitems t)[k]? = some g)
    (hn : meetB it.1 g.1 = false → R H) (hy : meetB it.1 g.1 = true → Y H) : aptT K [some v1, some v2, c2, some (.int (i : Int)), some (.int (k : Int)), c5] H fun b H4 => if b = true then Y H4 else R H4 := by
  wtm_at "go"
  refine use__law_box_with h1 hi (fun u hu => ?_)
  wtm_at "go"
  refine use__law_box_with h2 hk (fun w hw => ?_)
  wtm_at "go"
  refine use__law_apart_word hu hw ?_
  wtm_at "go"
  · rename_i hz
    exact hy (wd_non.mp hz)
  · rename_i hz
    refine hn ?_
    cases hm : meetB it.1 g.1 with
    | false => rfl
    | true => exact absurd (wd_non.mpr hm) hz
abbrev n2B (K : PySem.W.Frag) : TS := tSeq (tAsg (tLc (iRng1 (tCons (tCB (qLen K) (tCons (tOp (rIxT K) (tVar 1) (tC (V.int 1))) tNil)) tNil)) (gName 4) (aptT K) (tVar 4) [4]) (gName 5))
  (tSeq (tIfS (tAnd (tTest (tOp rEq (tOp (rIxT K) (tVar 0) (tC (V.int 0))) (tC (V.str "node")))) (tTest (tOp rEq (tOp (rIxT K) (tVar 1) (tC (V.int 0))) (tC (V.str "node")))))
      (tDrop (tBM K "list" rExtend (tVar 2) (tCons (tLc (iList K (tVar 5)) (gName 4) tYes (tTup (tCons (tOp (rIxT K) (tOp (rIxT K) (tOp (rIxT K) (tVar 0) (tC (V.int 1))) (tVar 3)) (tC (V.int 1))) (tCons (tOp (rIxT K) (tOp (rIxT K) (tOp (rIxT K) (tVar 1) (tC (V.int 1))) (tVar 4)) (tC (V.int 1))) tNil))) [4]) tNil)))
      tNext)
    (tIfS (tAnd (tTest (tOp rEq (tOp (rIxT K) (tVar 0) (tC (V.int 0))) (tC (V.str "node")))) (tAnd (tTest (tOp rEq (tOp (rIxT K) (tVar 1) (tC (V.int 0))) (tC (V.str "leaf")))) (tTest (tOp (rNeD K) (tVar 5) (tLst tNil)))))
      (tDrop (tBM K "list" rAppend (tVar 2) (tCons (tTup (tCons (tOp (rIxT K) (tOp (rIxT K) (tOp (rIxT K) (tVar 0) (tC (V.int 1))) (tVar 3)) (tC (V.int 1))) (tCons (tVar 1) tNil))) tNil)))
      tNext))
theorem shp_nats (js : List Nat) : SeqAt.shaped (.list (js.map fun i : Nat => .int (i : Int))) = true := shp_list (k := 0) (by decide) fun d hd => by
  obtain ⟨i, _, rfl⟩ := List.mem_map.mp hd
  exact ⟨rfl, Nat.le_refl _⟩
/-- the places of what an item meets -/
def hitJ (it : Itm) (t : Fs) : List Nat := (List.range (fitems t).length).filter fun j => meetB it.1 ((fitems t).getD j it).1
theorem hitJ_map (it : Itm) (t : Fs) : (hitJ it t).map (fun j => (fitems t).getD j it) = hitsP it t := range_filter it (fun g => meetB it.1 g.1) (fitems t)
theorem getD_at {xs : List Itm} {j : Nat} {d : Itm} (h : j < xs.length) : xs[j]? = some (xs.getD j d) := by
  rw [List.getD_eq_getElem?_getD, List.getElem?_eq_getElem h]
  rfl
theorem next_turn {D : Ends} {H0 : Hp} {s t : Fs} {it : Itm} {i : Nat} {W : List PF} {fA : Addr} {c4 c5 : Option V} (L : Lsts K H0 [(fA, W.map prD)] H) (h1 : Dp K H v1 (fsD s)) (h2 : Dp K H v2 (fsD t)) (hs : Sm s.1 s.2) (ht : Sm t.1 t.2) (hi : (fitems s)[i]? = some it) (hW : W.length ≤ 1000)
    (q : ∀ H2 c4 c5, Lsts K H0 [(fA, (W ++ nextI t it).map prD)] H2 → (∀ {v : V} {c : PyData}, noL c = true → Dp K H v c → Dp K H2 v c) → D.nx [some v1, some v2, some (.ref fA), some (.int (i : Int)), c4, c5] H2) :
    n2B K D [some v1, some v2, some (.ref fA), some (.int (i : Int)), c4, c5] H := by
  obtain ⟨z2, ds2, ez2, el2⟩ := form_two t
  have h2z : Dp K H v2 (.tuple [.str z2, .tuple ds2]) := by
    rw [← ez2]
    exact h2
  have hl2 := items_len ht
  refine i_seq (i_asg (i_lcRU ?_))
  wtm_at "go"
  rw [el2]
  refine i_lcRF (K := K) (fun j => meetB it.1 ((fitems t).getD j it).1) (by omega) (fun _ => rfl) (fun j H2 R Y hj e2 hn hy => ?_) (fun p5 H2 n5 e2 h5 => ?_)
  · wtm_at "nrm"
    refine apt_turn (dpMono e2 h1) (dpMono e2 h2) hi (getD_at hj) (fun hz => hn hz _ (Ex.refl _)) (fun hz => ?_)
    wtm_at "go"
    exact hy hz _ (Ex.refl _)
  have h5 : Dp K H2 (.ref p5) (.list ((hitJ it t).map fun j : Nat => .int (j : Int))) := h5
  have hmap := hitJ_map it t
  have hjl : (hitJ it t).length ≤ 4 := by
    have := congrArg List.length hmap
    rw [List.length_map] at this
    rw [this]
    exact hits_len ht
  have hjm : ∀ j ∈ hitJ it t, j < (fitems t).length := fun j hj => List.mem_range.mp (List.mem_filter.mp hj).1
  clear h2z
  clear ez2 el2
  have L2 := L.up e2
  obtain ⟨m, st⟩ := s
  obtain ⟨k, tt⟩ := t
  cases m with
  | zero =>
    have h1 : Dp K H v1 (.tuple [.str "leaf", .tuple ((foL st).map enD)]) := h1
    obtain ⟨n, e⟩ := item_leaf (s := ⟨0, st⟩) rfl (List.mem_of_getElem? hi)
    have e8 : nextI ⟨k, tt⟩ it = [] := by
      unfold nextI
      rw [e]
    rw [e8, List.append_nil] at q
    wtm_at "go"
    exact q _ _ _ L2 fun hn h => dpMono e2 h
  | succ m =>
    have h1 : Dp K H v1 (.tuple [.str "node", .tuple ((foB st).map (brD m))]) := h1
    have hi0 : ((foB st).map fun p => ((p.1, .inr ⟨m, p.2⟩) : Itm))[i]? = some it := hi
    rw [List.getElem?_map] at hi0
    obtain ⟨p, hp, rfl⟩ := Option.map_eq_some_iff.mp hi0
    have e8 : nextI ⟨k, tt⟩ (p.1, .inr ⟨m, p.2⟩) = if k = 0 then (if hitsP (p.1, .inr ⟨m, p.2⟩) ⟨k, tt⟩ = [] then [] else [((⟨m, p.2⟩ : Fs), (⟨k, tt⟩ : Fs))]) else (hitsP (p.1, .inr ⟨m, p.2⟩) ⟨k, tt⟩).map fun g => ((⟨m, p.2⟩ : Fs), kidOf g) := rfl
    rw [e8] at q
    clear e8
    generalize hit : ((p.1, .inr ⟨m, p.2⟩) : Itm) = it at *
    cases k with
    | zero =>
      have h2' : Dp K H v2 (.tuple [.str "leaf", .tuple ((foL tt).map enD)]) := h2
      rw [if_pos rfl] at q
      wtm_at "go"
      rename_i np H3 n3 e3 h3
      have e03 := e2.trans e3
      refine i_neD (dpMono e3 h5) (.lst (Evl.sq_of h3) .nil) (shp_nats _) rfl ?_
      rw [eqv_nil]
      wtm_at "go"
      · rename_i hne
        have hne' : ¬ hitsP it ⟨0, tt⟩ = [] := fun z => hne (by
          rw [← hmap] at z
          rw [List.map_eq_nil_iff.mp z]
          rfl)
        rw [if_neg hne'] at q
        refine i_bmA ?_
        wtm_at "go"
        refine (L2.up e3).ty (i := 0) rfl ?_
        wtm_at "go"
        rename_i xu hxu
        refine i_ixTN (d := brD m p) (dpMono e03 hxu) (by rw [List.getElem?_map, hp]; rfl) (fun w hw => ?_)
        have hw : Dp K H3 w (.tuple [bxD p.1, foD m p.2]) := hw
        wtm_at "go"
        rename_i yu hyu np2 H4 e4 h4
        refine ((L2.up e3).up e4).append (i := 0) (d := prD (⟨m, p.2⟩, ⟨0, tt⟩)) rfl (.tup (Evl.st_of h4) (.cons (dpMono e4 hyu) (.cons (dpMono (e03.trans e4) h2) .nil))) (noL_pr _) (by rw [List.length_map]; omega) (fun H5 L5 hk => ?_)
        wtm_at "go"
        refine q H5 _ _ ?_ fun hn h => hk hn (dpMono (e03.trans e4) h)
        rw [List.map_append]
        exact L5
      · rename_i hne
        have hne' : hitsP it ⟨0, tt⟩ = [] := by
          rw [← hmap]
          rw [List.map_eq_nil_iff.mp hne]
          rfl
        rw [if_pos hne', List.append_nil] at q
        exact q H3 _ _ (L2.up e3) fun hn h => dpMono e03 h
    | succ k =>
      have h2' : Dp K H v2 (.tuple [.str "node", .tuple ((foB tt).map (brD k))]) := h2
      rw [if_neg (fun z : k + 1 = 0 => by omega)] at q
      wtm_at "go"
      refine i_bmA ?_
      wtm_at "go"
      refine L2.ty (i := 0) rfl ?_
      wtm_at "go"
      refine i_lcLU ?_
      wtm_at "go"
      refine i_lcGLR (enc := fun j : Nat => .int (j : Int)) (xs := hitJ it ⟨k + 1, tt⟩) (fun _ => true) (fun j => prD (⟨m, p.2⟩, kidOf ((fitems ⟨k + 1, tt⟩).getD j it))) h5 (by omega) (fun _ _ => noL_pr _) (fun u j H3 R Y e3 hm hu hn hy => ?_) (fun p11 H3 zs n11 e3 hz1 hz2 => ?_)
      · cases dpInt hu
        have hj := hjm j hm
        have hg : (fitems ⟨k + 1, tt⟩)[j]? = some ((fitems ⟨k + 1, tt⟩).getD j it) := getD_at hj
        have hg0 : ((foB tt).map fun p => ((p.1, .inr ⟨k, p.2⟩) : Itm))[j]? = some ((fitems ⟨k + 1, tt⟩).getD j it) := hg
        rw [List.getElem?_map] at hg0
        obtain ⟨p2, hp2, ep2⟩ := Option.map_eq_some_iff.mp hg0
        dsimp only at hy
        rw [← ep2] at hy
        wtm_at "nrm"
        refine ⟨rfl, ?_⟩
        wtm_at "go"
        rename_i xu hxu
        refine i_ixTN (d := brD m p) (dpMono (e2.trans e3) hxu) (by rw [List.getElem?_map, hp]; rfl) (fun w hw => ?_)
        have hw : Dp K H3 w (.tuple [bxD p.1, foD m p.2]) := hw
        wtm_at "go"
        rename_i yu hyu zu hzu
        refine i_ixTN (d := brD k p2) (dpMono (e2.trans e3) hzu) (by rw [List.getElem?_map, hp2]; rfl) (fun w2 hw2 => ?_)
        have hw2 : Dp K H3 w2 (.tuple [bxD p2.1, foD k p2.2]) := hw2
        wtm_at "go"
        rename_i yu2 hyu2 np2 H4 e4 h4
        exact hy rfl _ _ e4 (.tup (Evl.st_of h4) (.cons (dpMono e4 hyu) (.cons (dpMono e4 hyu2) .nil)))
      rw [filt_true] at hz2
      wtm_at "go"
      refine (L2.up e3).extend (i := 0) rfl hz1 hz2 (noLs_map _ (fun _ => noL_pr _) _) (by rw [List.length_map, List.length_map]; omega) (fun H4 L4 hk => ?_)
      have h1k : Dp K H4 v1 (.tuple [.str "node", .tuple ((foB st).map (brD m))]) := hk (noL_fs ⟨m + 1, st⟩) (dpMono (e2.trans e3) h1)
      have h2k : Dp K H4 v2 (.tuple [.str "node", .tuple ((foB tt).map (brD k))]) := hk (noL_fs ⟨k + 1, tt⟩) (dpMono (e2.trans e3) h2)
      wtm_at "go"
      refine q H4 _ _ ?_ fun hn h => hk hn (dpMono (e2.trans e3) h)
      have e7 : (hitsP it ⟨k + 1, tt⟩).map (fun g => ((⟨m, p.2⟩ : Fs), kidOf g)) = (hitJ it ⟨k + 1, tt⟩).map fun j => ((⟨m, p.2⟩ : Fs), kidOf ((fitems ⟨k + 1, tt⟩).getD j it)) := by
        rw [← hmap, List.map_map]
        rfl
      rw [e7, List.map_append, List.map_map]
      exact L4
/-- the second loop's turn: a leaf and a node -/
abbrev n2E (K : PySem.W.Frag) : TS := tIfS (tTest (tOp (rNeD K) (tLc (iRng1 (tCons (tCB (qLen K) (tCons (tOp (rIxT K) (tVar 0) (tC (V.int 1))) tNil)) tNil)) (gName 3) (aptT K) (tVar 3) [3]) (tLst tNil)))
  (tDrop (tBM K "list" rAppend (tVar 2) (tCons (tTup (tCons (tVar 0) (tCons (tOp (rIxT K) (tOp (rIxT K) (tOp (rIxT K) (tVar 1) (tC (V.int 1))) (tVar 4)) (tC (V.int 1))) tNil))) tNil)))
  tNext
theorem any_range (c : Itm → Bool) (xs : List Itm) (d : Itm) : ((List.range xs.length).filter fun i => c (xs.getD i d)) = [] ↔ xs.any c = false := by
  have h := range_filter d c xs
  constructor
  · intro z
    rw [z] at h
    have h : xs.filter c = [] := h.symm
    exact List.any_eq_false.mpr fun x hx hc => by
      have := List.filter_eq_nil_iff.mp h x hx
      exact this hc
  · intro z
    have h2 : xs.filter c = [] := List.filter_eq_nil_iff.mpr fun x hx hc => List.any_eq_false.mp z x hx hc
    rw [h2] at h
    exact List.map_eq_nil_iff.mp h
theorem nextE_turn {D : Ends} {H0 : Hp} {st : Fo 0} {k : Nat} {tt : Fo (k + 1)} {p : Bx × Fo k} {j : Nat} {W : List PF} {fA : Addr} {c3 c5 : Option V} (L : Lsts K H0 [(fA, W.map prD)] H) (h1 : Dp K H v1 (fsD ⟨0, st⟩)) (h2 : Dp K H v2 (fsD ⟨k + 1, tt⟩)) (hs : Sm 0 st) (hj : (foB tt)[j]? = some p) (hW : W.length ≤ 1000)
    (q : ∀ H2 c3 c5, Lsts K H0 [(fA, (W ++ if anyP ⟨0, st⟩ p.1 = true then [((⟨0, st⟩, ⟨k, p.2⟩) : PF)] else []).map prD)] H2 → (∀ {v : V} {c : PyData}, noL c = true → Dp K H v c → Dp K H2 v c) → D.nx [some v1, some v2, some (.ref fA), c3, some (.int (j : Int)), c5] H2) :
    n2E K D [some v1, some v2, some (.ref fA), c3, some (.int (j : Int)), c5] H := by
  have h1z : Dp K H v1 (.tuple [.str "leaf", .tuple ((foL st).map enD)]) := h1
  have hl1 := items_len (s := ⟨0, st⟩) hs
  have hg : (fitems ⟨k + 1, tt⟩)[j]? = some (p.1, .inr ⟨k, p.2⟩) := by
    show ((foB tt).map fun p => ((p.1, .inr ⟨k, p.2⟩) : Itm))[j]? = _
    rw [List.getElem?_map, hj]
    rfl
  have el : ((foL st).map enD).length = (fitems ⟨0, st⟩).length := by
    rw [List.length_map]
    exact (List.length_map _).symm
  refine i_ifs (i_test (i_op (i_lcRU ?_)))
  wtm_at "go"
  rw [el]
  refine i_lcRF (K := K) (fun i => meetB ((fitems ⟨0, st⟩).getD i (p.1, .inr ⟨k, p.2⟩)).1 p.1) (by omega) (fun _ => rfl) (fun i H2 R Y hi e2 hn hy => ?_) (fun p5 H2 n5 e2 h5 => ?_)
  · wtm_at "nrm"
    refine apt_turn (dpMono e2 h1) (dpMono e2 h2) (getD_at hi) hg (fun hz => hn hz _ (Ex.refl _)) (fun hz => ?_)
    wtm_at "go"
    exact hy hz _ (Ex.refl _)
  have L2 := L.up e2
  wtm_at "go"
  rename_i np H3 n3 e3 h3
  have e03 := e2.trans e3
  refine i_neD (dpMono e3 h5) (.lst (Evl.sq_of h3) .nil) (shp_nats _) rfl ?_
  rw [eqv_nil]
  have key := any_range (fun g : Itm => meetB g.1 p.1) (fitems ⟨0, st⟩) (p.1, .inr ⟨k, p.2⟩)
  have h2z : Dp K H v2 (.tuple [.str "node", .tuple ((foB tt).map (brD k))]) := h2
  wtm_at "go"
  · rename_i hne
    have ha : anyP ⟨0, st⟩ p.1 = true := by
      cases hz : anyP ⟨0, st⟩ p.1 with
      | true => rfl
      | false => exact absurd (by rw [key.mpr hz]; rfl) hne
    rw [if_pos ha] at q
    refine i_bmA ?_
    wtm_at "go"
    refine (L2.up e3).ty (i := 0) rfl ?_
    wtm_at "go"
    rename_i xu hxu
    refine i_ixTN (d := brD k p) (dpMono e03 hxu) (by rw [List.getElem?_map, hj]; rfl) (fun w hw => ?_)
    have hw : Dp K H3 w (.tuple [bxD p.1, foD k p.2]) := hw
    wtm_at "go"
    rename_i yu hyu np2 H4 e4 h4
    refine ((L2.up e3).up e4).append (i := 0) (d := prD (⟨0, st⟩, ⟨k, p.2⟩)) rfl (.tup (Evl.st_of h4) (.cons (dpMono (e03.trans e4) h1) (.cons (dpMono e4 hyu) .nil))) (noL_pr _) (by rw [List.length_map]; omega) (fun H5 L5 hk => ?_)
    wtm_at "go"
    refine q H5 _ _ ?_ fun hn h => hk hn (dpMono (e03.trans e4) h)
    rw [List.map_append]
    exact L5
  · rename_i hne
    have ha : ¬ anyP ⟨0, st⟩ p.1 = true := fun z => by
      have := key.mp (List.map_eq_nil_iff.mp hne)
      have z : (fitems ⟨0, st⟩).any (fun g => meetB g.1 p.1) = true := z
      rw [this] at z
      cases z
    rw [if_neg ha, List.append_nil] at q
    exact q H3 _ _ (L2.up e3) fun hn h => dpMono e03 h
end
end Wb

namespace Wb
open PySem PySem.Spec PyProof.Rows L2 StX
open Evl (Ex Ex.refl Ex.trans Ex.new)
open LmK (pD)
local macro_rules | `(tactic| wtm_at "dp") => `(tactic| first | with_reducible assumption | with_reducible exact Dp.int _ | with_reducible exact Dp.bl _ | with_reducible exact Dp.str _ | with_reducible exact Dp.non | ((with_reducible refine' dpMono ?dme (by with_reducible assumption)); (case dme => wtm_at "ex")) | ((with_reducible refine' Dp.tup (Evl.st_of ?dph) ?dpa); (case dph => wtm_at "hs"); (case dpa => wtm_at "dpa")) | ((with_reducible refine' Dp.lst (Evl.sq_of ?dph) ?dpa); (case dph => wtm_at "hs"); (case dpa => wtm_at "dpa")))
local macro_rules | `(tactic| wtm_at "dpa") => `(tactic| first | with_reducible exact DpAll.nil | ((with_reducible refine' DpAll.cons ?dp1 ?dp2); (case dp1 => wtm_at "dp"); (case dp2 => wtm_at "dpa")) | with_reducible assumption | ((with_reducible refine' dpMonoA ?dme (by with_reducible assumption)); (case dme => wtm_at "ex")))
local macro_rules | `(tactic| wtm_at "sz") => `(tactic| first | with_reducible assumption | ((with_reducible refine' sz_mul ?sz1 ?sz2); (case sz1 => wtm_at "sz"); (case sz2 => wtm_at "sz")) | ((with_reducible refine' sz_add ?sz1 ?sz2); (case sz1 => wtm_at "sz"); (case sz2 => wtm_at "sz")) | ((with_reducible refine' sz_sub ?sz1 ?sz2); (case sz1 => wtm_at "sz"); (case sz2 => wtm_at "sz")) | ((with_reducible refine' sz_neg ?sz1); (case sz1 => wtm_at "sz")) | ((with_reducible refine' sz_div ?sz1); (case sz1 => wtm_at "sz")) | ((with_reducible refine' sz_fdiv ?sz1); (case sz1 => wtm_at "sz")) | exact sz_lit (by decide) | wtm_at "sz2")
local macro_rules | `(tactic| wtm_at "szb") => `(tactic| first | with_reducible assumption | ((with_reducible refine' sz_mono ?szb1 ?szb2); (case szb1 => wtm_at "sz"); (case szb2 => decide)))
local macro_rules | `(tactic| wtm_at "nz") => `(tactic| first | assumption | decide | omega)
local macro_rules | `(tactic| wtm_at "shaped") => `(tactic| first | rfl | decide)
local macro_rules | `(tactic| wtm_at "sset") => `(tactic| ((dsimp only [L2.wipe, List.set, List.set_cons_zero, List.set_cons_succ]) <;> exact rfl))
local macro_rules | `(tactic| wtm_at "nrm") => `(tactic| dsimp only [L2.start, L2.wipe, List.set, List.append, List.map, List.map_cons, List.map_nil, List.length_cons, List.length_nil, Nat.reduceAdd, Nat.reduceSub, List.reduceReplicate, List.replicate, List.cons_append, List.nil_append, List.set_cons_zero, List.set_cons_succ])
local macro_rules | `(tactic| wtm_at "st") => `(tactic| first
  | ((with_reducible refine' i_var (v := ?u0) ?u1 ?uq); (case u1 => exact rfl))
  | ((with_reducible refine' i_nameN ?u0 ?uq); (case u0 => wtm_at "sset"))
  | (with_reducible refine' i_op ?uq)
  | (with_reducible refine' i_c ?uq)
  | (with_reducible refine' i_I0 ?uq)
  | ((with_reducible refine' i_ixTI (i := ?u0) ?u1 ?u2 ?u3 ?uq); (case u1 => wtm_at "dp"); (case u2 => wtm_at "ex"); (case u3 => exact rfl))
  | ((with_reducible refine' i_ixT (d := ?u0) ?u1 ?u2 ?u3 (fun xu hxu => ?uq)); (case u1 => wtm_at "dp"); (case u2 => wtm_at "ex"); (case u3 => exact rfl))
  | ((with_reducible refine' i_mul ?u0 ?u1 ?u2 ?uq); (case u0 => wtm_at "sz"); (case u1 => wtm_at "sz"); (case u2 => first | decide | omega))
  | (with_reducible refine' i_seq ?uq)
  | (with_reducible refine' i_asg ?uq)
  | (with_reducible refine' i_ret ?uq)
  | (with_reducible refine' i_ifs ?uq)
  | (with_reducible refine' i_drop ?uq)
  | (with_reducible refine' i_next ?uq)
  | (with_reducible refine' i_cons ?uq)
  | (with_reducible refine' i_nil ?uq)
  | (with_reducible refine' i_cl ?uq)
  | (with_reducible refine' i_cb ?uq)
  | (with_reducible refine' i_tup ?uq)
  | (with_reducible refine' i_lst ?uq)
  | ((with_reducible refine' i_mkT ?u0 (fun np nH nhe nhp => ?uq)); (case u0 => exact Nat.le_of_ble_eq_true rfl))
  | (with_reducible refine' i_test ?uq)
  | (with_reducible refine' i_B ?uq)
  | (with_reducible refine' i_k ?uq)
  | (with_reducible refine' i_and ?uq)
  | (with_reducible refine' i_or ?uq)
  | (with_reducible refine' i_not ?uq)
  | (with_reducible refine' i_andV ?uq)
  | (with_reducible refine' i_orV ?uq)
  | (with_reducible refine' i_notV ?uq)
  | (with_reducible refine' i_if ?uq)
  | (with_reducible refine' i_un ?uq)
  | (with_reducible refine' i_U ?uq)
  | (with_reducible refine' i_iteT ?uq)
  | (with_reducible refine' i_iteF ?uq)
  | ((with_reducible refine' i_iteTr ?u0 ?uq); (case u0 => first | with_reducible rfl | decide | (simp only [dIsInt, dIsBool, dIsTup, dIsStr, dIsLst, Bool.not_true, Bool.not_false]; done)))
  | ((with_reducible refine' i_iteFr ?u0 ?uq); (case u0 => first | with_reducible rfl | decide | (simp only [dIsInt, dIsBool, dIsTup, dIsStr, dIsLst, Bool.not_true, Bool.not_false]; done)))
  | (with_reducible refine' i_ite (fun hif => ?uqa) (fun hif => ?uqb))
  | (with_reducible refine' i_iteN (fun hif => ?uqa) (fun hif => ?uqb))
  | (with_reducible refine' i_iteBN (fun hif => ?uqa) (fun hif => ?uqb))
  | (with_reducible refine' i_iteB (fun hif => ?uqa) (fun hif => ?uqb))
  | ((with_reducible refine' i_modN ?u0 ?uq); (case u0 => wtm_at "nz"))
  | ((with_reducible refine' i_fdX ?u0 ?u1 ?u2 ?uq); (case u0 => wtm_at "nz"); (case u1 => wtm_at "sz"); (case u2 => first | decide | omega))
  | ((with_reducible refine' i_pow ?u0 ?uq); (case u0 => exact ⟨by decide, by decide +kernel⟩))
  | (with_reducible refine' i_eqI ?uq)
  | (with_reducible refine' i_neI ?uq)
  | (with_reducible refine' i_gcd ?uq)
  | (with_reducible refine' i_qabs ?uq)
  | (with_reducible refine' i_qint ?uq)
  | (with_reducible refine' i_qintB ?uq)
  | (with_reducible refine' i_qmax2 ?uq)
  | (with_reducible refine' i_qmin2 ?uq)
  | (with_reducible refine' i_isB ?uq)
  | (with_reducible refine' i_notB ?uq)
  | (with_reducible refine' i_chain ?uq)
  | (with_reducible refine' i_qisN ?uq)
  | (with_reducible refine' i_qnotN ?uq)
  | (with_reducible refine' i_yes ?uq)
  | (with_reducible refine' i_par ?uq)
  | (with_reducible refine' i_par3 ?uq)
  | ((with_reducible refine' i_par2 ?u0 ?uq); (case u0 => wtm_at "sset"))
  | ((with_reducible refine' i_par33 ?u0 ?uq); (case u0 => wtm_at "sset"))
  | ((with_reducible refine' i_ixLI (i := ?u0) ?u1 ?u2 ?u3 ?uq); (case u1 => wtm_at "dp"); (case u2 => wtm_at "ex"); (case u3 => exact rfl))
  | ((with_reducible refine' i_ixL (d := ?u0) ?u1 ?u2 ?u3 (fun xu hxu => ?uq)); (case u1 => wtm_at "dp"); (case u2 => wtm_at "ex"); (case u3 => exact rfl))
  | ((with_reducible refine' i_qlenT ?u0 ?uq); (case u0 => wtm_at "dp"))
  | ((with_reducible refine' i_qlenL ?u0 ?uq); (case u0 => wtm_at "dp"))
  | ((with_reducible refine' i_gtup ?u0 ?u1 ?u2 (fun gvs gdp => ?uq)); (case u0 => wtm_at "dp"); (case u1 => wtm_at "ex"); (case u2 => exact rfl))
  | ((with_reducible refine' i_glst ?u0 ?u1 ?u2 (fun gvs gdp => ?uq)); (case u0 => wtm_at "dp"); (case u1 => wtm_at "ex"); (case u2 => exact rfl))
  | ((with_reducible refine' i_gconsI ?u0 (fun gr gh => ?uq)); (case u0 => with_reducible assumption))
  | ((with_reducible refine' i_gconsA ?u0 (fun gv gr gh1 gh2 => ?uq)); (case u0 => with_reducible assumption))
  | ((with_reducible refine' i_gnilA ?u0 ?uq); (case u0 => with_reducible assumption))
  | ((with_reducible refine' i_isiI ?u0 ?uq); (case u0 => wtm_at "dp"))
  | ((with_reducible refine' i_isiB ?u0 ?uq); (case u0 => wtm_at "dp"))
  | ((with_reducible refine' i_isiT ?u0 ?uq); (case u0 => wtm_at "dp"))
  | ((with_reducible refine' i_isiS ?u0 ?uq); (case u0 => wtm_at "dp"))
  | ((with_reducible refine' i_isiL ?u0 ?uq); (case u0 => wtm_at "dp"))
  | ((with_reducible refine' i_eqD ?u0 ?u1 ?u2 ?u3 ?uq); (case u0 => wtm_at "dp"); (case u1 => wtm_at "dp"); (case u2 => wtm_at "shaped"); (case u3 => wtm_at "shaped"))
  | ((with_reducible refine' i_neD ?u0 ?u1 ?u2 ?u3 ?uq); (case u0 => wtm_at "dp"); (case u1 => wtm_at "dp"); (case u2 => wtm_at "shaped"); (case u3 => wtm_at "shaped"))
  | wtm_at "st2"
  | wtm_at "use")
local macro_rules | `(tactic| wtm_at "go") => `(tactic| repeat' (wtm_at "st"))
local macro_rules | `(tactic| wtm_at "go0") => `(tactic| ((try dsimp only [L2.cxOf, L2.Cx.nox, L2.Cx.wish, L2.Cx.tr, L2.Cx.blk]); (try wtm_at "nrm"); wtm_at "go"))
local macro_rules | `(tactic| wtm_at "fin") => `(tactic| ((try dsimp only); first | with_reducible assumption | assumption | ((with_reducible refine' Ret.use ?rur ?rue ?rud); (case rur => with_reducible assumption); (case rue => wtm_at "ex"); (case rud => wtm_at "dp"))))
local macro_rules | `(tactic| wtm_at "exh") => `(tactic| first | with_reducible assumption | with_reducible exact Ex.refl _ | with_reducible exact ex_hid | ((with_reducible refine' Ex.trans ?exe (by with_reducible assumption)); (case exe => wtm_at "exh")) | ((with_reducible refine' Ex.trans ?exe (hid_ex (by with_reducible assumption))); (case exe => wtm_at "exh")))
local macro_rules | `(tactic| wtm_at "ex") => `(tactic| first | with_reducible assumption | with_reducible exact Ex.refl _ | with_reducible exact ex_hid | ((with_reducible refine' Ex.trans ?exe (by with_reducible assumption)); (case exe => wtm_at "ex")) | ((with_reducible refine' Ex.trans ?exe (hid_ex (by with_reducible assumption))); (case exe => wtm_at "ex")) | ((with_reducible refine' Ex.trans ?exe ex_hid); (case exe => wtm_at "exh")))
local macro_rules | `(tactic| wtm_at "bag") => `(tactic| first | with_reducible assumption | ((with_reducible refine' Bag.mono ?bgm (by with_reducible assumption)); (case bgm => wtm_at "bag")))
local macro_rules | `(tactic| wtm_at "hs") => `(tactic| first | with_reducible assumption | ((with_reducible refine' hid_tup ?hb ?hp); (case hp => with_reducible assumption); (case hb => wtm_at "bag")) | ((with_reducible refine' hid_new ?hb ?hn ?hp); (case hp => with_reducible assumption); (case hn => with_reducible assumption); (case hb => wtm_at "bag")) | ((with_reducible refine' ex_at ?exe (by with_reducible assumption)); (case exe => wtm_at "ex")))
local macro_rules | `(tactic| wtm_at "st2") => `(tactic| first
  | ((with_reducible refine' i_mulC ?u0 ?uq); (case u0 => first | exact cmul_l (by decide) | exact cmul_r (by decide)))
  | ((with_reducible refine' i_ixLr (v := ?u0) ?u1 ?u2 ?uq); (case u1 => with_reducible assumption); (case u2 => exact rfl))
  | (with_reducible refine' i_sub ?uq)
  | ((with_reducible refine' i_mkL ?u0 (fun np nH nfr nhe nhp => ?uq)); (case u0 => exact Nat.le_of_ble_eq_true rfl))
  | ((with_reducible refine' i_setL (n := ?u0) ?u1 ?u2 (fun sH sh se => ?uq)); (case u1 => with_reducible assumption); (case u2 => exact rfl))
  | (with_reducible refine' i_sl ?uq)
  | (with_reducible refine' i_nopart ?uq)
  | (with_reducible refine' i_part ?uq)
  | (with_reducible refine' i_part1 ?uq))
local macro_rules | `(tactic| wtm_at "sz2") => `(tactic| ((with_reducible refine' sz_fmod ?sz1 ?sz2); (case sz1 => wtm_at "nz"); (case sz2 => wtm_at "sz")))
local macro_rules | `(tactic| wtm_at "stb") => `(tactic| first
  | ((with_reducible refine' i_mkTB ?u0 ?u1 (fun np nH nhe nhb nhp => ?uq)); (case u0 => exact Nat.le_of_ble_eq_true rfl); (case u1 => wtm_at "bag"))
  | ((with_reducible refine' i_mkLB ?u0 ?u1 (fun np nH nfr nhe nhb nhp => ?uq)); (case u0 => exact Nat.le_of_ble_eq_true rfl); (case u1 => wtm_at "bag"))
  | wtm_at "st")
local macro_rules | `(tactic| wtm_at "gob") => `(tactic| repeat' (wtm_at "stb"))
local macro_rules | `(tactic| wtm_at "gob0") => `(tactic| ((try dsimp only [L2.cxOf, L2.Cx.nox, L2.Cx.wish, L2.Cx.tr, L2.Cx.blk]); (try wtm_at "nrm"); wtm_at "gob"))
local macro_rules | `(tactic| wtm_at "st") => `(tactic| first | ((with_reducible refine' i_ixTS (z := ?u0) ?u1 ?u2 ?u3 ?uq); (case u1 => wtm_at "dp"); (case u2 => wtm_at "ex"); (case u3 => exact rfl)) | fail)
local macro_rules | `(tactic| wtm_at "st2") => `(tactic| first | ((with_reducible refine' i_eqST ?u0 ?uq); (case u0 => with_reducible rfl)) | ((with_reducible refine' i_eqSF ?u0 ?uq); (case u0 => decide +kernel)) | ((with_reducible refine' i_neST ?u0 ?uq); (case u0 => with_reducible rfl)) | ((with_reducible refine' i_neSF ?u0 ?uq); (case u0 => decide +kernel)) | fail)
section
variable {P : Program} {w : World} {K : PySem.W.Frag} {mg : Str → Option Value} {base : Heap} {H H' : Hp} {Q : VK} {E : XK} {v1 v2 v3 v4 v5 : V}
def sp__law_next_two (K : PySem.W.Frag) : Sp := A2 fun v1 v2 H Q => ∃ s t : Fs, Dp K H v1 (fsD s) ∧ Dp K H v2 (fsD t) ∧ SmP (s, t) ∧ RetR K ((nextP (s, t)).map prD) H Q
theorem Lsts.raw {G0 : Hp} {ls : List (Addr × List PyData)} {i : Nat} {a : Addr} {ds : List PyData} (L : Lsts K G0 ls H) (e : ls[i]? = some (a, ds)) : ∃ us, H a = some (.lst us) ∧ DpAll K H us ds := L.at_ _ (List.mem_of_getElem? e)
theorem nextE_flat {st : Fo 0} {k : Nat} : ∀ l : List (Bx × Fo k), l.flatMap (fun p => if anyP ⟨0, st⟩ p.1 = true then [((⟨0, st⟩, ⟨k, p.2⟩) : PF)] else []) = ((l.map fun p => ((p.1, Sum.inr (⟨k, p.2⟩ : Fs)) : Itm)).filter fun g => anyP ⟨0, st⟩ g.1).map fun g => ((⟨0, st⟩ : Fs), kidOf g)
  | [] => rfl
  | p :: r => by
    rw [List.flatMap_cons, nextE_flat r, List.map_cons, List.filter_cons]
    by_cases hz : anyP ⟨0, st⟩ p.1 = true
    · rw [if_pos hz, if_pos hz]
      rfl
    · rw [if_neg hz, if_neg hz]
      rfl
abbrev s__law_next_two : Stmt := top 70
theorem sc__law_next_two : FnScope ["_law_first", "_law_second", "_law_found", "_law_at", "_law_to", "_law_hits"] ["_law_first", "_law_second"] (defScope s__law_next_two) := ⟨rfl, rfl, rfl, by decide +kernel, rfl, by decide +kernel, by decide +kernel⟩
theorem ok__law_next_two {f : Addr} {fd : FuncData} (F : FnP K "_law_next_two" s__law_next_two f fd) (g : G mg)  (c__law_box_with : Cl P w K mg base 1 "_law_box_with" (sp__law_box_with K)) (c__law_apart_word : Cl P w K mg base 1 "_law_apart_word" (sp__law_apart_word K)) : FnOk P w K mg base CX0 2 f fd ["_law_first", "_law_second"] (sp__law_next_two K) := by
  have nd := sc__law_next_two.nd
  refine F.ok sc__law_next_two (fun vs H Q E h => h.len) (fun cdv A outer s H vs Q E hr h => ?_)
  obtain ⟨v1, v2, rfl, h⟩ := h
  refine ⟨_, PSs.nox (pss_cons (ps_set (i := 2) nd rfl (Or.inl rfl) (pe_lst pa_nil)) (pss_cons (ps_for PassesOwn.never rfl (pi_range1 (by rfl) g.f_range (pa_cons (pe_callB call_qlen (by rfl) g.f_len boot_len (pa_cons (pe_ix ix_tup (pv 0) pe_int (fun _ _ => rfl)) pa_nil)) pa_nil)) (pg_name (i := 3) nd rfl (Or.inr rfl)) (pss_cons (ps_setLc (i := 5) (own := [("_law_to", 4)]) (g := gName 4) (by rfl) nd rfl rfl (sw_true rfl rfl rfl (by decide +kernel)) (pi_range1 (by rfl) g.f_range (pa_cons (pe_callB call_qlen (by rfl) g.f_len boot_len (pa_cons (pe_ix ix_tup (pv 1) pe_int (fun _ _ => rfl)) pa_nil)) pa_nil)) (blkOk_by (N := ["_law_first", "_law_second", "_law_found", "_law_at", "_law_to", "_law_hits"]) (sc := defScope s__law_next_two) (own := [("_law_to", 4)]) (by decide +kernel)) (fun _ _ _ _ _ => (pg_name (i := 4) nd rfl (Or.inl rfl))) (fun _ _ _ _ _ => (pts_one (pt_cmpR op_qisN (pc c__law_apart_word hr (by first | decide | omega) (by rfl) (pa_cons (pc c__law_box_with hr (by first | decide | omega) (by rfl) (pa_cons (pv 0) (pa_cons (pv 3) pa_nil))) (pa_cons (pc c__law_box_with hr (by first | decide | omega) (by rfl) (pa_cons (pv 1) (pa_cons (pv 4) pa_nil))) pa_nil))) pe_non (nomark _)))) (fun _ _ _ _ _ => (pv 4))) (pss_cons (ps_if (PW.pt (pw_and (pt_cmpR op_eq (pe_ix ix_tup (pv 0) pe_int (fun _ _ => rfl)) pe_str (nomark _)) (pw_and1 (pt_cmpR op_eq (pe_ix ix_tup (pv 1) pe_int (fun _ _ => rfl)) pe_str (nomark _))))) (pss_one (ps_expr (pe_bm PySem.F.plainAttrs_list PySem.F.slot_list_extend PySem.F.type_list_extend mt_extend (pv 2) (pa_cons (pe_lc (own := [("_law_to", 4)]) (g := gName 4) (by rfl) nd (pi_list (pv 5)) (blkOk_by (N := ["_law_first", "_law_second", "_law_found", "_law_at", "_law_to", "_law_hits"]) (sc := defScope s__law_next_two) (own := [("_law_to", 4)]) (by decide +kernel)) (fun _ _ _ _ _ => (pg_name (i := 4) nd rfl (Or.inl rfl))) (fun _ _ _ _ _ => pts_nil) (fun _ _ _ _ _ => (pe_tup (pa_cons (pe_ix (show IxR _ (rIxT K) from ix_tup) (pe_ix (show IxR _ (rIxT K) from ix_tup) (pe_ix (show IxR _ (rIxT K) from ix_tup) (pv 0) pe_int (fun _ _ => rfl)) (pv 3) (fun _ _ => rfl)) pe_int (fun _ _ => rfl)) (pa_cons (pe_ix (show IxR _ (rIxT K) from ix_tup) (pe_ix (show IxR _ (rIxT K) from ix_tup) (pe_ix (show IxR _ (rIxT K) from ix_tup) (pv 1) pe_int (fun _ _ => rfl)) (pv 4) (fun _ _ => rfl)) pe_int (fun _ _ => rfl)) pa_nil))))) pa_nil)))) pss_nil) (pss_one (ps_if (PW.pt (pw_and (pt_cmpR op_eq (pe_ix ix_tup (pv 0) pe_int (fun _ _ => rfl)) pe_str (nomark _)) (pw_and (pt_cmpR op_eq (pe_ix ix_tup (pv 1) pe_int (fun _ _ => rfl)) pe_str (nomark _)) (pw_and1 (pt_cmpR (op_neD hr.units) (pv 5) (pe_lst pa_nil) (nomark _)))))) (pss_one (ps_expr (pe_bm PySem.F.plainAttrs_list PySem.F.slot_list_append PySem.F.type_list_append mt_append (pv 2) (pa_cons (pe_tup (pa_cons (pe_ix ix_tup (pe_ix ix_tup (pe_ix ix_tup (pv 0) pe_int (fun _ _ => rfl)) (pv 3) (fun _ _ => rfl)) pe_int (fun _ _ => rfl)) (pa_cons (pv 1) pa_nil))) pa_nil)))) pss_nil))))) (pss_cons (ps_for PassesOwn.never rfl (pi_range1 (by rfl) g.f_range (pa_cons (pe_ifExp (PW.pt (pw_and (pt_cmpR op_eq (pe_ix ix_tup (pv 0) pe_int (fun _ _ => rfl)) pe_str (nomark _)) (pw_and1 (pt_cmpR op_eq (pe_ix ix_tup (pv 1) pe_int (fun _ _ => rfl)) pe_str (nomark _))))) (pe_callB call_qlen (by rfl) g.f_len boot_len (pa_cons (pe_ix ix_tup (pv 1) pe_int (fun _ _ => rfl)) pa_nil)) pe_int) pa_nil)) (pg_name (i := 4) nd rfl (Or.inr rfl)) (pss_one (ps_if (pt_cmpR (op_neD hr.units) (pe_lc (own := [("_law_at", 3)]) (g := gName 3) (by rfl) nd (pi_range1 (by rfl) g.f_range (pa_cons (pe_callB call_qlen (by rfl) g.f_len boot_len (pa_cons (pe_ix ix_tup (pv 0) pe_int (fun _ _ => rfl)) pa_nil)) pa_nil)) (blkOk_by (N := ["_law_first", "_law_second", "_law_found", "_law_at", "_law_to", "_law_hits"]) (sc := defScope s__law_next_two) (own := [("_law_at", 3)]) (by decide +kernel)) (fun _ _ _ _ _ => (pg_name (i := 3) nd rfl (Or.inl rfl))) (fun _ _ _ _ _ => (pts_one (pt_cmpR op_qisN (pc c__law_apart_word hr (by first | decide | omega) (by rfl) (pa_cons (pc c__law_box_with hr (by first | decide | omega) (by rfl) (pa_cons (pv 0) (pa_cons (pv 3) pa_nil))) (pa_cons (pc c__law_box_with hr (by first | decide | omega) (by rfl) (pa_cons (pv 1) (pa_cons (pv 4) pa_nil))) pa_nil))) pe_non (nomark _)))) (fun _ _ _ _ _ => (pv 3))) (pe_lst pa_nil) (nomark _)) (pss_one (ps_expr (pe_bm PySem.F.plainAttrs_list PySem.F.slot_list_append PySem.F.type_list_append mt_append (pv 2) (pa_cons (pe_tup (pa_cons (pv 0) (pa_cons (pe_ix ix_tup (pe_ix ix_tup (pe_ix ix_tup (pv 1) pe_int (fun _ _ => rfl)) (pv 4) (fun _ _ => rfl)) pe_int (fun _ _ => rfl)) pa_nil))) pa_nil)))) pss_nil))) (pss_one (ps_ret (pv 2)))))), ?_⟩
  obtain ⟨s, t, h1, h2, hsm, q⟩ := h
  have hsm1 : Sm s.1 s.2 := hsm.1
  have hsm2 : Sm t.1 t.2 := hsm.2
  have hl1 := items_len hsm1
  have hl2 := items_len hsm2
  obtain ⟨z1, ds1, ez1, el1⟩ := form_two s
  have h1z : Dp K H v1 (.tuple [.str z1, .tuple ds1]) := by
    rw [← ez1]
    exact h1
  wtm_at "go0"
  rename_i fA H1 fn fe fp
  have L0 : Lsts K H [(fA, ([] : List PF).map prD)] H1 := (Lsts.nil (K := K) (G0 := H)).add fn fe fp .nil rfl
  have h11 := dpMono fe h1
  have h21 := dpMono fe h2
  refine i_forRU ?_
  wtm_at "go"
  rw [el1]
  have nl : ∀ i, (((fitems s).take i).flatMap (nextI t)).length ≤ 16 := fun i => by
    have a := flat_take (nextI t) (fitems s) i
    have b := flat_len (nextI t) 4 (fitems s) fun it _ => nextI_len hsm2
    omega
  refine i_forRK (by omega) (fun i σ' H' => ∃ (c3 c4 c5 : Option V), σ' = [some v1, some v2, some (.ref fA), c3, c4, c5] ∧ Lsts K H [(fA, (((fitems s).take i).flatMap (nextI t)).map prD)] H' ∧ Dp K H' v1 (fsD s) ∧ Dp K H' v2 (fsD t))
    ⟨_, _, _, rfl, L0, h11, h21⟩ (fun i σ' H' hi p => ?_) (fun σ' H' p => ?_)
  · obtain ⟨c3, c4, c5, rfl, L, p1, p2⟩ := p
    have hi' : i < (fitems s).length := by omega
    have hit : (fitems s)[i]? = some (fitems s)[i] := List.getElem?_eq_getElem hi'
    have ht1 : (fitems s).take (i + 1) = (fitems s).take i ++ [(fitems s)[i]] := by rw [List.take_add_one, hit]; rfl
    wtm_at "nrm"
    refine next_turn L p1 p2 hsm1 hsm2 hit (by have := nl i; omega) (fun H2 c4 c5 L2 hk => ?_)
    refine ⟨_, _, _, rfl, ?_, hk (noL_fs _) p1, hk (noL_fs _) p2⟩
    rw [ht1, List.flatMap_append, List.flatMap_cons, List.flatMap_nil, List.append_nil]
    exact L2
  · obtain ⟨c3, c4, c5, rfl, L, p1, p2⟩ := p
    have e0 : ((fitems s).length : Int).toNat = (fitems s).length := by omega
    rw [e0, List.take_length] at L
    have n0 := nl (fitems s).length
    rw [List.take_length] at n0
    dsimp only
    refine i_seq (i_forRU ?_)
    obtain ⟨m, st⟩ := s
    obtain ⟨k, tt⟩ := t
    have fin : ∀ (W : List PF) (σ2 : L2.St) (G : Hp) (c3 c4 c5 : Option V), W = nextP (⟨m, st⟩, ⟨k, tt⟩) → σ2 = [some v1, some v2, some (.ref fA), c3, c4, c5] → Lsts K H [(fA, W.map prD)] G → tRet (tVar 2) { nx := fun x H' => Q V.non H', rt := Q } σ2 G := by
      intro W σ2 G c3 c4 c5 eW eσ L2
      subst eW eσ
      obtain ⟨us, g1, g2⟩ := L2.raw (i := 0) rfl
      wtm_at "go"
      exact q fA G us (L2.fr _ List.mem_cons_self) L2.ex g1 g2
    have zero : nextE ⟨m, st⟩ ⟨k, tt⟩ = [] → tFor (iRng1 (kA [V.int 0])) (gName 4) (n2E K) { nx := tRet (tVar 2) { nx := fun x H' => Q V.non H', rt := Q }, rt := Q } [some v1, some v2, some (V.ref fA), c3, c4, c5] H' := fun e => by
      refine i_forRK (by omega) (fun i σ' G => ∃ (c3 c4 c5 : Option V), σ' = [some v1, some v2, some (.ref fA), c3, c4, c5] ∧ Lsts K H [(fA, ((fitems ⟨m, st⟩).flatMap (nextI ⟨k, tt⟩)).map prD)] G) ⟨_, _, _, rfl, L⟩ (fun i σ' H' hi p => absurd hi (by omega)) (fun σ' H' p => ?_)
      obtain ⟨c3, c4, c5, rfl, L2⟩ := p
      refine fin _ _ _ _ _ _ ?_ rfl L2
      show _ = (fitems ⟨m, st⟩).flatMap (nextI ⟨k, tt⟩) ++ nextE ⟨m, st⟩ ⟨k, tt⟩
      rw [e, List.append_nil]
    cases m with
    | succ m =>
      have p1' : Dp K H' v1 (.tuple [.str "node", .tuple ((foB st).map (brD m))]) := p1
      wtm_at "go"
      exact zero (if_neg fun z => by have : m + 1 = 0 := z.1; omega)
    | zero =>
      have p1' : Dp K H' v1 (.tuple [.str "leaf", .tuple ((foL st).map enD)]) := p1
      cases k with
      | zero =>
        have p2' : Dp K H' v2 (.tuple [.str "leaf", .tuple ((foL tt).map enD)]) := p2
        wtm_at "go"
        exact zero (if_neg fun z => z.2 rfl)
      | succ k =>
        have p2' : Dp K H' v2 (.tuple [.str "node", .tuple ((foB tt).map (brD k))]) := p2
        clear zero
        wtm_at "go"
        rw [List.length_map]
        have hb4 : (foB tt).length ≤ 4 := hsm2.1
        have ez : (fitems ⟨0, st⟩).flatMap (nextI ⟨k + 1, tt⟩) = [] := List.flatMap_eq_nil_iff.mpr fun it hi => by
          obtain ⟨n, e⟩ := item_leaf (s := ⟨0, st⟩) rfl hi
          unfold nextI
          rw [e]
        rw [ez] at L
        have gE : ∀ i, (((foB tt).take i).flatMap fun p => if anyP ⟨0, st⟩ p.1 = true then [((⟨0, st⟩, ⟨k, p.2⟩) : PF)] else []).length ≤ 4 := fun i => by
          have := flat_len (fun p : Bx × Fo k => if anyP ⟨0, st⟩ p.1 = true then [((⟨0, st⟩, ⟨k, p.2⟩) : PF)] else []) 1 ((foB tt).take i) fun p _ => by split <;> simp
          have : ((foB tt).take i).length ≤ 4 := by rw [List.length_take]; omega
          omega
        refine i_forRK (by omega) (fun i σ' G => ∃ (c3 c4 c5 : Option V), σ' = [some v1, some v2, some (.ref fA), c3, c4, c5] ∧ Lsts K H [(fA, (((foB tt).take i).flatMap fun p => if anyP ⟨0, st⟩ p.1 = true then [((⟨0, st⟩, ⟨k, p.2⟩) : PF)] else []).map prD)] G ∧ Dp K G v1 (fsD ⟨0, st⟩) ∧ Dp K G v2 (fsD ⟨k + 1, tt⟩)) ⟨_, _, _, rfl, L, p1, p2⟩ (fun i σ' G hi p => ?_) (fun σ' G p => ?_)
        · obtain ⟨c3, c4, c5, rfl, L2, r1, r2⟩ := p
          have hi' : i < (foB tt).length := by omega
          have hit : (foB tt)[i]? = some (foB tt)[i] := List.getElem?_eq_getElem hi'
          have ht1 : (foB tt).take (i + 1) = (foB tt).take i ++ [(foB tt)[i]] := by rw [List.take_add_one, hit]; rfl
          wtm_at "nrm"
          refine nextE_turn L2 r1 r2 hsm1 hit (by have := gE i; omega) (fun H2 c3 c5 L3 hk => ?_)
          refine ⟨_, _, _, rfl, ?_, hk (noL_fs _) r1, hk (noL_fs _) r2⟩
          rw [ht1, List.flatMap_append, List.flatMap_cons, List.flatMap_nil, List.append_nil]
          exact L3
        · obtain ⟨c3, c4, c5, rfl, L2, r1, r2⟩ := p
          have e0 : ((foB tt).length : Int).toNat = (foB tt).length := by omega
          rw [e0, List.take_length] at L2
          refine fin _ _ _ _ _ _ ?_ rfl L2
          show _ = (fitems ⟨0, st⟩).flatMap (nextI ⟨k + 1, tt⟩) ++ nextE ⟨0, st⟩ ⟨k + 1, tt⟩
          rw [ez, List.nil_append]
          unfold nextE
          rw [if_pos ⟨rfl, by show k + 1 ≠ 0; omega⟩]
          have ei : fitems ⟨k + 1, tt⟩ = (foB tt).map fun p => ((p.1, Sum.inr (⟨k, p.2⟩ : Fs)) : Itm) := rfl
          rw [ei]
          exact nextE_flat (foB tt)
theorem use__law_next_two {s t : Fs} (h1 : Dp K H v1 (fsD s)) (h2 : Dp K H v2 (fsD t)) (hs : SmP (s, t)) (q : RetR K ((nextP (s, t)).map prD) H Q) : sp__law_next_two K [v1, v2] H Q E := ⟨_, _, rfl, s, t, h1, h2, hs, q⟩
end
end Wb

namespace Wb
open PySem PySem.Spec PyProof.Rows L2 StX
open Evl (Ex Ex.refl Ex.trans Ex.new)
open LmK (pD)
local macro_rules | `(tactic| wtm_at "dp") => `(tactic| first | with_reducible assumption | with_reducible exact Dp.int _ | with_reducible exact Dp.bl _ | with_reducible exact Dp.str _ | with_reducible exact Dp.non | ((with_reducible refine' dpMono ?dme (by with_reducible assumption)); (case dme => wtm_at "ex")) | ((with_reducible refine' Dp.tup (Evl.st_of ?dph) ?dpa); (case dph => wtm_at "hs"); (case dpa => wtm_at "dpa")) | ((with_reducible refine' Dp.lst (Evl.sq_of ?dph) ?dpa); (case dph => wtm_at "hs"); (case dpa => wtm_at "dpa")))
local macro_rules | `(tactic| wtm_at "dpa") => `(tactic| first | with_reducible exact DpAll.nil | ((with_reducible refine' DpAll.cons ?dp1 ?dp2); (case dp1 => wtm_at "dp"); (case dp2 => wtm_at "dpa")) | with_reducible assumption | ((with_reducible refine' dpMonoA ?dme (by with_reducible assumption)); (case dme => wtm_at "ex")))
local macro_rules | `(tactic| wtm_at "sz") => `(tactic| first | with_reducible assumption | ((with_reducible refine' sz_mul ?sz1 ?sz2); (case sz1 => wtm_at "sz"); (case sz2 => wtm_at "sz")) | ((with_reducible refine' sz_add ?sz1 ?sz2); (case sz1 => wtm_at "sz"); (case sz2 => wtm_at "sz")) | ((with_reducible refine' sz_sub ?sz1 ?sz2); (case sz1 => wtm_at "sz"); (case sz2 => wtm_at "sz")) | ((with_reducible refine' sz_neg ?sz1); (case sz1 => wtm_at "sz")) | ((with_reducible refine' sz_div ?sz1); (case sz1 => wtm_at "sz")) | ((with_reducible refine' sz_fdiv ?sz1); (case sz1 => wtm_at "sz")) | exact sz_lit (by decide) | wtm_at "sz2")
local macro_rules | `(tactic| wtm_at "szb") => `(tactic| first | with_reducible assumption | ((with_reducible refine' sz_mono ?szb1 ?szb2); (case szb1 => wtm_at "sz"); (case szb2 => decide)))
local macro_rules | `(tactic| wtm_at "nz") => `(tactic| first | assumption | decide | omega)
local macro_rules | `(tactic| wtm_at "shaped") => `(tactic| first | rfl | decide)
local macro_rules | `(tactic| wtm_at "sset") => `(tactic| ((dsimp only [L2.wipe, List.set, List.set_cons_zero, List.set_cons_succ]) <;> exact rfl))
local macro_rules | `(tactic| wtm_at "nrm") => `(tactic| dsimp only [L2.start, L2.wipe, List.set, List.append, List.map, List.map_cons, List.map_nil, List.length_cons, List.length_nil, Nat.reduceAdd, Nat.reduceSub, List.reduceReplicate, List.replicate, List.cons_append, List.nil_append, List.set_cons_zero, List.set_cons_succ])
local macro_rules | `(tactic| wtm_at "st") => `(tactic| first
  | ((with_reducible refine' i_var (v := ?u0) ?u1 ?uq); (case u1 => exact rfl))
  | ((with_reducible refine' i_nameN ?u0 ?uq); (case u0 => wtm_at "sset"))
  | (with_reducible refine' i_op ?uq)
  | (with_reducible refine' i_c ?uq)
  | (with_reducible refine' i_I0 ?uq)
  | ((with_reducible refine' i_ixTI (i := ?u0) ?u1 ?u2 ?u3 ?uq); (case u1 => wtm_at "dp"); (case u2 => wtm_at "ex"); (case u3 => exact rfl))
  | ((with_reducible refine' i_ixT (d := ?u0) ?u1 ?u2 ?u3 (fun xu hxu => ?uq)); (case u1 => wtm_at "dp"); (case u2 => wtm_at "ex"); (case u3 => exact rfl))
  | ((with_reducible refine' i_mul ?u0 ?u1 ?u2 ?uq); (case u0 => wtm_at "sz"); (case u1 => wtm_at "sz"); (case u2 => first | decide | omega))
  | (with_reducible refine' i_seq ?uq)
  | (with_reducible refine' i_asg ?uq)
  | (with_reducible refine' i_ret ?uq)
  | (with_reducible refine' i_ifs ?uq)
  | (with_reducible refine' i_drop ?uq)
  | (with_reducible refine' i_next ?uq)
  | (with_reducible refine' i_cons ?uq)
  | (with_reducible refine' i_nil ?uq)
  | (with_reducible refine' i_cl ?uq)
  | (with_reducible refine' i_cb ?uq)
  | (with_reducible refine' i_tup ?uq)
  | (with_reducible refine' i_lst ?uq)
  | ((with_reducible refine' i_mkT ?u0 (fun np nH nhe nhp => ?uq)); (case u0 => exact Nat.le_of_ble_eq_true rfl))
  | (with_reducible refine' i_test ?uq)
  | (with_reducible refine' i_B ?uq)
  | (with_reducible refine' i_k ?uq)
  | (with_reducible refine' i_and ?uq)
  | (with_reducible refine' i_or ?uq)
  | (with_reducible refine' i_not ?uq)
  | (with_reducible refine' i_andV ?uq)
  | (with_reducible refine' i_orV ?uq)
  | (with_reducible refine' i_notV ?uq)
  | (with_reducible refine' i_if ?uq)
  | (with_reducible refine' i_un ?uq)
  | (with_reducible refine' i_U ?uq)
  | (with_reducible refine' i_iteT ?uq)
  | (with_reducible refine' i_iteF ?uq)
  | ((with_reducible refine' i_iteTr ?u0 ?uq); (case u0 => first | with_reducible rfl | decide | (simp only [dIsInt, dIsBool, dIsTup, dIsStr, dIsLst, Bool.not_true, Bool.not_false]; done)))
  | ((with_reducible refine' i_iteFr ?u0 ?uq); (case u0 => first | with_reducible rfl | decide | (simp only [dIsInt, dIsBool, dIsTup, dIsStr, dIsLst, Bool.not_true, Bool.not_false]; done)))
  | (with_reducible refine' i_ite (fun hif => ?uqa) (fun hif => ?uqb))
  | (with_reducible refine' i_iteN (fun hif => ?uqa) (fun hif => ?uqb))
  | (with_reducible refine' i_iteBN (fun hif => ?uqa) (fun hif => ?uqb))
  | (with_reducible refine' i_iteB (fun hif => ?uqa) (fun hif => ?uqb))
  | ((with_reducible refine' i_modN ?u0 ?uq); (case u0 => wtm_at "nz"))
  | ((with_reducible refine' i_fdX ?u0 ?u1 ?u2 ?uq); (case u0 => wtm_at "nz"); (case u1 => wtm_at "sz"); (case u2 => first | decide | omega))
  | ((with_reducible refine' i_pow ?u0 ?uq); (case u0 => exact ⟨by decide, by decide +kernel⟩))
  | (with_reducible refine' i_eqI ?uq)
  | (with_reducible refine' i_neI ?uq)
  | (with_reducible refine' i_gcd ?uq)
  | (with_reducible refine' i_qabs ?uq)
  | (with_reducible refine' i_qint ?uq)
  | (with_reducible refine' i_qintB ?uq)
  | (with_reducible refine' i_qmax2 ?uq)
  | (with_reducible refine' i_qmin2 ?uq)
  | (with_reducible refine' i_isB ?uq)
  | (with_reducible refine' i_notB ?uq)
  | (with_reducible refine' i_chain ?uq)
  | (with_reducible refine' i_qisN ?uq)
  | (with_reducible refine' i_qnotN ?uq)
  | (with_reducible refine' i_yes ?uq)
  | (with_reducible refine' i_par ?uq)
  | (with_reducible refine' i_par3 ?uq)
  | ((with_reducible refine' i_par2 ?u0 ?uq); (case u0 => wtm_at "sset"))
  | ((with_reducible refine' i_par33 ?u0 ?uq); (case u0 => wtm_at "sset"))
  | ((with_reducible refine' i_ixLI (i := ?u0) ?u1 ?u2 ?u3 ?uq); (case u1 => wtm_at "dp"); (case u2 => wtm_at "ex"); (case u3 => exact rfl))
  | ((with_reducible refine' i_ixL (d := ?u0) ?u1 ?u2 ?u3 (fun xu hxu => ?uq)); (case u1 => wtm_at "dp"); (case u2 => wtm_at "ex"); (case u3 => exact rfl))
  | ((with_reducible refine' i_qlenT ?u0 ?uq); (case u0 => wtm_at "dp"))
  | ((with_reducible refine' i_qlenL ?u0 ?uq); (case u0 => wtm_at "dp"))
  | ((with_reducible refine' i_gtup ?u0 ?u1 ?u2 (fun gvs gdp => ?uq)); (case u0 => wtm_at "dp"); (case u1 => wtm_at "ex"); (case u2 => exact rfl))
  | ((with_reducible refine' i_glst ?u0 ?u1 ?u2 (fun gvs gdp => ?uq)); (case u0 => wtm_at "dp"); (case u1 => wtm_at "ex"); (case u2 => exact rfl))
  | ((with_reducible refine' i_gconsI ?u0 (fun gr gh => ?uq)); (case u0 => with_reducible assumption))
  | ((with_reducible refine' i_gconsA ?u0 (fun gv gr gh1 gh2 => ?uq)); (case u0 => with_reducible assumption))
  | ((with_reducible refine' i_gnilA ?u0 ?uq); (case u0 => with_reducible assumption))
  | ((with_reducible refine' i_isiI ?u0 ?uq); (case u0 => wtm_at "dp"))
  | ((with_reducible refine' i_isiB ?u0 ?uq); (case u0 => wtm_at "dp"))
  | ((with_reducible refine' i_isiT ?u0 ?uq); (case u0 => wtm_at "dp"))
  | ((with_reducible refine' i_isiS ?u0 ?uq); (case u0 => wtm_at "dp"))
  | ((with_reducible refine' i_isiL ?u0 ?uq); (case u0 => wtm_at "dp"))
  | ((with_reducible refine' i_eqD ?u0 ?u1 ?u2 ?u3 ?uq); (case u0 => wtm_at "dp"); (case u1 => wtm_at "dp"); (case u2 => wtm_at "shaped"); (case u3 => wtm_at "shaped"))
  | ((with_reducible refine' i_neD ?u0 ?u1 ?u2 ?u3 ?uq); (case u0 => wtm_at "dp"); (case u1 => wtm_at "dp"); (case u2 => wtm_at "shaped"); (case u3 => wtm_at "shaped"))
  | wtm_at "st2"
  | wtm_at "use")
local macro_rules | `(tactic| wtm_at "go") => `(tactic| repeat' (wtm_at "st"))
local macro_rules | `(tactic| wtm_at "go0") => `(tactic| ((try dsimp only [L2.cxOf, L2.Cx.nox, L2.Cx.wish, L2.Cx.tr, L2.Cx.blk]); (try wtm_at "nrm"); wtm_at "go"))
local macro_rules | `(tactic| wtm_at "fin") => `(tactic| ((try dsimp only); first | with_reducible assumption | assumption | ((with_reducible refine' Ret.use ?rur ?rue ?rud); (case rur => with_reducible assumption); (case rue => wtm_at "ex"); (case rud => wtm_at "dp"))))
local macro_rules | `(tactic| wtm_at "exh") => `(tactic| first | with_reducible assumption | with_reducible exact Ex.refl _ | with_reducible exact ex_hid | ((with_reducible refine' Ex.trans ?exe (by with_reducible assumption)); (case exe => wtm_at "exh")) | ((with_reducible refine' Ex.trans ?exe (hid_ex (by with_reducible assumption))); (case exe => wtm_at "exh")))
local macro_rules | `(tactic| wtm_at "ex") => `(tactic| first | with_reducible assumption | with_reducible exact Ex.refl _ | with_reducible exact ex_hid | ((with_reducible refine' Ex.trans ?exe (by with_reducible assumption)); (case exe => wtm_at "ex")) | ((with_reducible refine' Ex.trans ?exe (hid_ex (by with_reducible assumption))); (case exe => wtm_at "ex")) | ((with_reducible refine' Ex.trans ?exe ex_hid); (case exe => wtm_at "exh")))
local macro_rules | `(tactic| wtm_at "bag") => `(tactic| first | with_reducible assumption | ((with_reducible refine' Bag.mono ?bgm (by with_reducible assumption)); (case bgm => wtm_at "bag")))
local macro_rules | `(tactic| wtm_at "hs") => `(tactic| first | with_reducible assumption | ((with_reducible refine' hid_tup ?hb ?hp); (case hp => with_reducible assumption); (case hb => wtm_at "bag")) | ((with_reducible refine' hid_new ?hb ?hn ?hp); (case hp => with_reducible assumption); (case hn => with_reducible assumption); (case hb => wtm_at "bag")) | ((with_reducible refine' ex_at ?exe (by with_reducible assumption)); (case exe => wtm_at "ex")))
local macro_rules | `(tactic| wtm_at "st2") => `(tactic| first
  | ((with_reducible refine' i_mulC ?u0 ?uq); (case u0 => first | exact cmul_l (by decide) | exact cmul_r (by decide)))
  | ((with_reducible refine' i_ixLr (v := ?u0) ?u1 ?u2 ?uq); (case u1 => with_reducible assumption); (case u2 => exact rfl))
  | (with_reducible refine' i_sub ?uq)
  | ((with_reducible refine' i_mkL ?u0 (fun np nH nfr nhe nhp => ?uq)); (case u0 => exact Nat.le_of_ble_eq_true rfl))
  | ((with_reducible refine' i_setL (n := ?u0) ?u1 ?u2 (fun sH sh se => ?uq)); (case u1 => with_reducible assumption); (case u2 => exact rfl))
  | (with_reducible refine' i_sl ?uq)
  | (with_reducible refine' i_nopart ?uq)
  | (with_reducible refine' i_part ?uq)
  | (with_reducible refine' i_part1 ?uq))
local macro_rules | `(tactic| wtm_at "sz2") => `(tactic| ((with_reducible refine' sz_fmod ?sz1 ?sz2); (case sz1 => wtm_at "nz"); (case sz2 => wtm_at "sz")))
local macro_rules | `(tactic| wtm_at "stb") => `(tactic| first
  | ((with_reducible refine' i_mkTB ?u0 ?u1 (fun np nH nhe nhb nhp => ?uq)); (case u0 => exact Nat.le_of_ble_eq_true rfl); (case u1 => wtm_at "bag"))
  | ((with_reducible refine' i_mkLB ?u0 ?u1 (fun np nH nfr nhe nhb nhp => ?uq)); (case u0 => exact Nat.le_of_ble_eq_true rfl); (case u1 => wtm_at "bag"))
  | wtm_at "st")
local macro_rules | `(tactic| wtm_at "gob") => `(tactic| repeat' (wtm_at "stb"))
local macro_rules | `(tactic| wtm_at "gob0") => `(tactic| ((try dsimp only [L2.cxOf, L2.Cx.nox, L2.Cx.wish, L2.Cx.tr, L2.Cx.blk]); (try wtm_at "nrm"); wtm_at "gob"))
local macro_rules | `(tactic| wtm_at "st") => `(tactic| first | ((with_reducible refine' i_ixTS (z := ?u0) ?u1 ?u2 ?u3 ?uq); (case u1 => wtm_at "dp"); (case u2 => wtm_at "ex"); (case u3 => exact rfl)) | fail)
local macro_rules | `(tactic| wtm_at "st2") => `(tactic| first | ((with_reducible refine' i_eqST ?u0 ?uq); (case u0 => with_reducible rfl)) | ((with_reducible refine' i_eqSF ?u0 ?uq); (case u0 => decide +kernel)) | ((with_reducible refine' i_neST ?u0 ?uq); (case u0 => with_reducible rfl)) | ((with_reducible refine' i_neSF ?u0 ?uq); (case u0 => decide +kernel)) | fail)
section
variable {P : Program} {w : World} {K : PySem.W.Frag} {mg : Str → Option Value} {base : Heap} {H H' : Hp} {Q : VK} {E : XK} {v1 v2 v3 v4 v5 : V}
def sp__law_compared (K : PySem.W.Frag) : Sp := A2 fun v1 v2 H Q => ∃ s t : Fs, Dp K H v1 (fsD s) ∧ Dp K H v2 (fsD t) ∧ SmP (s, t) ∧ RtP (s, t) ∧ s.1 ≤ 2 ∧ t.1 ≤ 2 ∧ Ret K (.int (totP (s, t))) H Q
abbrev s__law_compared : Stmt := top 71
theorem sc__law_compared : FnScope ["_law_first", "_law_second", "_law_looked", "_law_waits", "_law_one", "_law_two"] ["_law_first", "_law_second"] (defScope s__law_compared) := ⟨rfl, rfl, rfl, by decide +kernel, rfl, by decide +kernel, by decide +kernel⟩
theorem ok__law_compared {f : Addr} {fd : FuncData} (F : FnP K "_law_compared" s__law_compared f fd) (g : G mg)  (c__law_next_two : Cl P w K mg base 2 "_law_next_two" (sp__law_next_two K)) : FnOk P w K mg base CX0 3 f fd ["_law_first", "_law_second"] (sp__law_compared K) := by
  have nd := sc__law_compared.nd
  refine F.ok sc__law_compared (fun vs H Q E h => h.len) (fun cdv A outer s H vs Q E hr h => ?_)
  obtain ⟨v1, v2, rfl, h⟩ := h
  refine ⟨_, PSs.nox (pss_cons (ps_par (i := 2) (j := 3) (by rfl) nd rfl rfl (by decide) rfl rfl (pa_cons pe_int (pa_cons (pe_lst (pa_cons (pe_tup (pa_cons (pv 0) (pa_cons (pv 1) pa_nil))) pa_nil)) pa_nil)) (by rfl)) (pss_cons (ps_while PassesOwn.never (pt_cmpR (op_neD hr.units) (pv 3) (pe_lst pa_nil) (nomark _)) (pss_cons (ps_asg (pe_bm0 PySem.F.plainAttrs_list PySem.F.slot_list_pop PySem.F.type_list_pop mt_pop (pv 3) ) (pg_tup (n := 2) (by rfl) (pgs_cons (pg_name (i := 4) nd rfl (Or.inl rfl)) (pgs_cons (pg_name (i := 5) nd rfl (Or.inl rfl)) pgs_nil)))) (pss_cons (ps_set (i := 2) nd rfl (Or.inl rfl) (pe_op op_add (pv 2) (pe_op op_mulX (pe_callB call_qlen (by rfl) g.f_len boot_len (pa_cons (pe_ix ix_tup (pv 4) pe_int (fun _ _ => rfl)) pa_nil)) (pe_callB call_qlen (by rfl) g.f_len boot_len (pa_cons (pe_ix ix_tup (pv 5) pe_int (fun _ _ => rfl)) pa_nil))))) (pss_one (ps_expr (pe_bm PySem.F.plainAttrs_list PySem.F.slot_list_extend PySem.F.type_list_extend mt_extend (pv 3) (pa_cons (pc c__law_next_two hr (by first | decide | omega) (by rfl) (pa_cons (pv 4) (pa_cons (pv 5) pa_nil))) pa_nil))))))) (pss_one (ps_ret (pv 2))))), ?_⟩
  obtain ⟨s, t, h1, h2, hsm, hrt0, hs2, ht2, q⟩ := h
  wtm_at "go0"
  rename_i pA H2 pe2 pp2 wA H3 wn3 we3 wp3
  have L0 : Lsts K H [(wA, ([(s, t)] : List PF).map prD)] H3 := ((Lsts.nil (K := K) (G0 := H)).up pe2) |>.add wn3 we3 wp3 (.cons (.tup (Evl.st_of (we3 _ _ pp2)) (.cons (dpMono (pe2.trans we3) h1) (.cons (dpMono (pe2.trans we3) h2) .nil))) .nil) (noLs_map prD noL_pr [(s, t)])
  refine i_tw (fun μ σ' H' => ∃ (W : List PF) (F : List (Int × Int)) (lk : Int) (c4 c5 : Option V), σ' = [some v1, some v2, some (.int lk), some (.ref wA), c4, c5] ∧ Lsts K H [(wA, W.map prD)] H' ∧ PInv (s, t) W F lk ∧ (W.flatMap allP).length = μ) (([(s, t)] : List PF).flatMap allP).length
    ⟨[(s, t)], [], 0, _, _, rfl, L0, pinv_start hsm hs2 ht2, rfl⟩ ?_
  rintro μ σ' H' ⟨W, F, lk, c4, c5, rfl, L, I, rfl⟩
  wtm_at "go"
  rename_i np nH nfr nhe nhp
  have L1 := L.up nhe
  refine i_neD (L1.ref (i := 0) rfl) (.lst (Evl.sq_of nhp) .nil) (shp_prs fun p hp => (I.sm p hp).2) rfl ?_
  rw [eqv_nil]
  wtm_at "go"
  · rename_i hne
    have hne' : W ≠ [] := fun z => hne (by rw [z]; rfl)
    obtain ⟨r, p, rfl⟩ : ∃ r p, W = r ++ [p] := ⟨W.dropLast, W.getLast hne', (List.dropLast_concat_getLast hne').symm⟩
    obtain ⟨hpm, hp1, hp2⟩ := I.sm p (List.mem_append_right _ List.mem_cons_self)
    obtain ⟨J, hlt⟩ := pinv_step I
    obtain ⟨b1, b2⟩ := pinv_b hsm hrt0 hs2 ht2 I
    obtain ⟨s', t'⟩ := p
    refine ⟨fun σ2 G2 => ∃ μ', μ' < ((r ++ [(s', t')]).flatMap allP).length ∧ ∃ (W : List PF) (F : List (Int × Int)) (lk : Int) (c4 c5 : Option V), σ2 = [some v1, some v2, some (.int lk), some (.ref wA), c4, c5] ∧ Lsts K H [(wA, W.map prD)] G2 ∧ PInv (s, t) W F lk ∧ (W.flatMap allP).length = μ', fun _ _ h => h, ?_⟩
    have L1' : Lsts K H [(wA, r.map prD ++ [prD (s', t')])] nH := by
      have := L1
      rw [List.map_append] at this
      exact this
    wtm_at "go"
    refine i_bm0 ?_
    wtm_at "go"
    refine L1'.ty (i := 0) rfl ?_
    refine L1'.pop (i := 0) rfl (fun y G hLG hy hk => ?_)
    have LG : Lsts K H [(wA, r.map prD)] G := hLG
    have hy : Dp K G y (.tuple [fsD s', fsD t']) := hy
    wtm_at "go"
    rename_i gvs gdp fv gr hfv hgr sv gr2 hsv hgr2
    obtain ⟨z1, ds1, ez1, el1⟩ := form_two s'
    obtain ⟨z2, ds2, ez2, el2⟩ := form_two t'
    have hfz : Dp K G fv (.tuple [.str z1, .tuple ds1]) := by
      rw [← ez1]
      exact hfv
    have hsz : Dp K G sv (.tuple [.str z2, .tuple ds2]) := by
      rw [← ez2]
      exact hsv
    wtm_at "go"
    have l1 : (fitems s').length ≤ 4 := items_len hpm.1
    have l2 : (fitems t').length ≤ 4 := items_len hpm.2
    refine i_mul (a := 64) (b := 64) (sz_nat (by omega)) (sz_nat (by omega)) (by decide) ?_
    rw [el1, el2]
    wtm_at "go"
    refine i_bmA ?_
    wtm_at "go"
    refine LG.ty (i := 0) rfl ?_
    wtm_at "go"
    refine use__law_next_two hfv hsv hpm (fun nA G3 us nn ne np nd => ?_)
    wtm_at "go"
    refine (LG.up ne).extend (i := 0) rfl np nd (noLs_map _ noL_pr _) (by rw [List.length_map, List.length_map]; omega) (fun G4 L4 hk4 => ?_)
    wtm_at "go"
    refine ⟨_, hlt, r ++ nextP (s', t'), F ++ foundP (s', t'), _, _, _, rfl, ?_, J, rfl⟩
    rw [List.map_append]
    exact L4
  · rename_i hz
    have hz' : W = [] := List.map_eq_nil_iff.mp hz
    subst hz'
    have hlk : totP (s, t) = lk := by
      have := I.lk
      rw [List.flatMap_nil] at this
      have e : sumL [] = 0 := rfl
      omega
    wtm_at "go"
    exact q.int' L1.ex hlk
theorem use__law_compared {s t : Fs} (h1 : Dp K H v1 (fsD s)) (h2 : Dp K H v2 (fsD t)) (hs : SmP (s, t)) (hr : RtP (s, t)) (s2 : s.1 ≤ 2) (t2 : t.1 ≤ 2) (q : ∀ H2, Ex H H2 → Q (.int (totP (s, t))) H2) : sp__law_compared K [v1, v2] H Q E := ⟨_, _, rfl, s, t, h1, h2, hs, hr, s2, t2, ret_int q⟩
end
end Wb

namespace Wb
open PySem PySem.Spec PyProof.Rows L2 StX
open Evl (Ex Ex.refl Ex.trans Ex.new)
open LamX (Tabs TabS TabB ExtN CodeO)
open LmK (dpN dpNA exN tabsE sqlN sqtN rdN pD)
local macro_rules | `(tactic| wtm_at "dp") => `(tactic| first | with_reducible assumption | with_reducible exact Dp.int _ | with_reducible exact Dp.bl _ | with_reducible exact Dp.str _ | with_reducible exact Dp.non | ((with_reducible refine' dpMono ?dme (by with_reducible assumption)); (case dme => wtm_at "ex")) | ((with_reducible refine' Dp.tup (Evl.st_of ?dph) ?dpa); (case dph => wtm_at "hs"); (case dpa => wtm_at "dpa")) | ((with_reducible refine' Dp.lst (Evl.sq_of ?dph) ?dpa); (case dph => wtm_at "hs"); (case dpa => wtm_at "dpa")))
local macro_rules | `(tactic| wtm_at "dpa") => `(tactic| first | with_reducible exact DpAll.nil | ((with_reducible refine' DpAll.cons ?dp1 ?dp2); (case dp1 => wtm_at "dp"); (case dp2 => wtm_at "dpa")) | with_reducible assumption | ((with_reducible refine' dpMonoA ?dme (by with_reducible assumption)); (case dme => wtm_at "ex")))
local macro_rules | `(tactic| wtm_at "sz") => `(tactic| first | with_reducible assumption | ((with_reducible refine' sz_mul ?sz1 ?sz2); (case sz1 => wtm_at "sz"); (case sz2 => wtm_at "sz")) | ((with_reducible refine' sz_add ?sz1 ?sz2); (case sz1 => wtm_at "sz"); (case sz2 => wtm_at "sz")) | ((with_reducible refine' sz_sub ?sz1 ?sz2); (case sz1 => wtm_at "sz"); (case sz2 => wtm_at "sz")) | ((with_reducible refine' sz_neg ?sz1); (case sz1 => wtm_at "sz")) | ((with_reducible refine' sz_div ?sz1); (case sz1 => wtm_at "sz")) | ((with_reducible refine' sz_fdiv ?sz1); (case sz1 => wtm_at "sz")) | exact sz_lit (by decide) | wtm_at "sz2")
local macro_rules | `(tactic| wtm_at "szb") => `(tactic| first | with_reducible assumption | ((with_reducible refine' sz_mono ?szb1 ?szb2); (case szb1 => wtm_at "sz"); (case szb2 => decide)))
local macro_rules | `(tactic| wtm_at "nz") => `(tactic| first | assumption | decide | omega)
local macro_rules | `(tactic| wtm_at "shaped") => `(tactic| first | rfl | decide)
local macro_rules | `(tactic| wtm_at "sset") => `(tactic| ((dsimp only [L2.wipe, List.set, List.set_cons_zero, List.set_cons_succ]) <;> exact rfl))
local macro_rules | `(tactic| wtm_at "nrm") => `(tactic| dsimp only [L2.start, L2.wipe, List.set, List.append, List.map, List.map_cons, List.map_nil, List.length_cons, List.length_nil, Nat.reduceAdd, Nat.reduceSub, List.reduceReplicate, List.replicate, List.cons_append, List.nil_append, List.set_cons_zero, List.set_cons_succ])
local macro_rules | `(tactic| wtm_at "st") => `(tactic| first
  | ((with_reducible refine' i_var (v := ?u0) ?u1 ?uq); (case u1 => exact rfl))
  | ((with_reducible refine' i_nameN ?u0 ?uq); (case u0 => wtm_at "sset"))
  | (with_reducible refine' i_op ?uq)
  | (with_reducible refine' i_c ?uq)
  | (with_reducible refine' i_I0 ?uq)
  | ((with_reducible refine' i_ixTI (i := ?u0) ?u1 ?u2 ?u3 ?uq); (case u1 => wtm_at "dp"); (case u2 => wtm_at "ex"); (case u3 => exact rfl))
  | ((with_reducible refine' i_ixT (d := ?u0) ?u1 ?u2 ?u3 (fun xu hxu => ?uq)); (case u1 => wtm_at "dp"); (case u2 => wtm_at "ex"); (case u3 => exact rfl))
  | ((with_reducible refine' i_mul ?u0 ?u1 ?u2 ?uq); (case u0 => wtm_at "sz"); (case u1 => wtm_at "sz"); (case u2 => first | decide | omega))
  | (with_reducible refine' i_seq ?uq)
  | (with_reducible refine' i_asg ?uq)
  | (with_reducible refine' i_ret ?uq)
  | (with_reducible refine' i_ifs ?uq)
  | (with_reducible refine' i_drop ?uq)
  | (with_reducible refine' i_next ?uq)
  | (with_reducible refine' i_cons ?uq)
  | (with_reducible refine' i_nil ?uq)
  | (with_reducible refine' i_cl ?uq)
  | (with_reducible refine' i_cb ?uq)
  | (with_reducible refine' i_tup ?uq)
  | (with_reducible refine' i_lst ?uq)
  | ((with_reducible refine' i_mkT ?u0 (fun np nH nhe nhp => ?uq)); (case u0 => exact Nat.le_of_ble_eq_true rfl))
  | (with_reducible refine' i_test ?uq)
  | (with_reducible refine' i_B ?uq)
  | (with_reducible refine' i_k ?uq)
  | (with_reducible refine' i_and ?uq)
  | (with_reducible refine' i_or ?uq)
  | (with_reducible refine' i_not ?uq)
  | (with_reducible refine' i_andV ?uq)
  | (with_reducible refine' i_orV ?uq)
  | (with_reducible refine' i_notV ?uq)
  | (with_reducible refine' i_if ?uq)
  | (with_reducible refine' i_un ?uq)
  | (with_reducible refine' i_U ?uq)
  | (with_reducible refine' i_iteT ?uq)
  | (with_reducible refine' i_iteF ?uq)
  | ((with_reducible refine' i_iteTr ?u0 ?uq); (case u0 => first | with_reducible rfl | decide | (simp only [dIsInt, dIsBool, dIsTup, dIsStr, dIsLst, Bool.not_true, Bool.not_false]; done)))
  | ((with_reducible refine' i_iteFr ?u0 ?uq); (case u0 => first | with_reducible rfl | decide | (simp only [dIsInt, dIsBool, dIsTup, dIsStr, dIsLst, Bool.not_true, Bool.not_false]; done)))
  | (with_reducible refine' i_ite (fun hif => ?uqa) (fun hif => ?uqb))
  | (with_reducible refine' i_iteN (fun hif => ?uqa) (fun hif => ?uqb))
  | (with_reducible refine' i_iteBN (fun hif => ?uqa) (fun hif => ?uqb))
  | (with_reducible refine' i_iteB (fun hif => ?uqa) (fun hif => ?uqb))
  | ((with_reducible refine' i_modN ?u0 ?uq); (case u0 => wtm_at "nz"))
  | ((with_reducible refine' i_fdX ?u0 ?u1 ?u2 ?uq); (case u0 => wtm_at "nz"); (case u1 => wtm_at "sz"); (case u2 => first | decide | omega))
  | ((with_reducible refine' i_pow ?u0 ?uq); (case u0 => exact ⟨by decide, by decide +kernel⟩))
  | (with_reducible refine' i_eqI ?uq)
  | (with_reducible refine' i_neI ?uq)
  | (with_reducible refine' i_gcd ?uq)
  | (with_reducible refine' i_qabs ?uq)
  | (with_reducible refine' i_qint ?uq)
  | (with_reducible refine' i_qintB ?uq)
  | (with_reducible refine' i_qmax2 ?uq)
  | (with_reducible refine' i_qmin2 ?uq)
  | (with_reducible refine' i_isB ?uq)
  | (with_reducible refine' i_notB ?uq)
  | (with_reducible refine' i_chain ?uq)
  | (with_reducible refine' i_qisN ?uq)
  | (with_reducible refine' i_qnotN ?uq)
  | (with_reducible refine' i_yes ?uq)
  | (with_reducible refine' i_par ?uq)
  | (with_reducible refine' i_par3 ?uq)
  | ((with_reducible refine' i_par2 ?u0 ?uq); (case u0 => wtm_at "sset"))
  | ((with_reducible refine' i_par33 ?u0 ?uq); (case u0 => wtm_at "sset"))
  | ((with_reducible refine' i_ixLI (i := ?u0) ?u1 ?u2 ?u3 ?uq); (case u1 => wtm_at "dp"); (case u2 => wtm_at "ex"); (case u3 => exact rfl))
  | ((with_reducible refine' i_ixL (d := ?u0) ?u1 ?u2 ?u3 (fun xu hxu => ?uq)); (case u1 => wtm_at "dp"); (case u2 => wtm_at "ex"); (case u3 => exact rfl))
  | ((with_reducible refine' i_qlenT ?u0 ?uq); (case u0 => wtm_at "dp"))
  | ((with_reducible refine' i_qlenL ?u0 ?uq); (case u0 => wtm_at "dp"))
  | ((with_reducible refine' i_gtup ?u0 ?u1 ?u2 (fun gvs gdp => ?uq)); (case u0 => wtm_at "dp"); (case u1 => wtm_at "ex"); (case u2 => exact rfl))
  | ((with_reducible refine' i_glst ?u0 ?u1 ?u2 (fun gvs gdp => ?uq)); (case u0 => wtm_at "dp"); (case u1 => wtm_at "ex"); (case u2 => exact rfl))
  | ((with_reducible refine' i_gconsI ?u0 (fun gr gh => ?uq)); (case u0 => with_reducible assumption))
  | ((with_reducible refine' i_gconsA ?u0 (fun gv gr gh1 gh2 => ?uq)); (case u0 => with_reducible assumption))
  | ((with_reducible refine' i_gnilA ?u0 ?uq); (case u0 => with_reducible assumption))
  | ((with_reducible refine' i_isiI ?u0 ?uq); (case u0 => wtm_at "dp"))
  | ((with_reducible refine' i_isiB ?u0 ?uq); (case u0 => wtm_at "dp"))
  | ((with_reducible refine' i_isiT ?u0 ?uq); (case u0 => wtm_at "dp"))
  | ((with_reducible refine' i_isiS ?u0 ?uq); (case u0 => wtm_at "dp"))
  | ((with_reducible refine' i_isiL ?u0 ?uq); (case u0 => wtm_at "dp"))
  | ((with_reducible refine' i_eqD ?u0 ?u1 ?u2 ?u3 ?uq); (case u0 => wtm_at "dp"); (case u1 => wtm_at "dp"); (case u2 => wtm_at "shaped"); (case u3 => wtm_at "shaped"))
  | ((with_reducible refine' i_neD ?u0 ?u1 ?u2 ?u3 ?uq); (case u0 => wtm_at "dp"); (case u1 => wtm_at "dp"); (case u2 => wtm_at "shaped"); (case u3 => wtm_at "shaped"))
  | wtm_at "st2"
  | wtm_at "use")
local macro_rules | `(tactic| wtm_at "go") => `(tactic| repeat' (wtm_at "st"))
local macro_rules | `(tactic| wtm_at "go0") => `(tactic| ((try dsimp only [L2.cxOf, L2.Cx.nox, L2.Cx.wish, L2.Cx.tr, L2.Cx.blk]); (try wtm_at "nrm"); wtm_at "go"))
local macro_rules | `(tactic| wtm_at "fin") => `(tactic| ((try dsimp only); first | with_reducible assumption | assumption | ((with_reducible refine' Ret.use ?rur ?rue ?rud); (case rur => with_reducible assumption); (case rue => wtm_at "ex"); (case rud => wtm_at "dp"))))
local macro_rules | `(tactic| wtm_at "exh") => `(tactic| first | with_reducible assumption | with_reducible exact Ex.refl _ | with_reducible exact ex_hid | ((with_reducible refine' Ex.trans ?exe (by with_reducible assumption)); (case exe => wtm_at "exh")) | ((with_reducible refine' Ex.trans ?exe (hid_ex (by with_reducible assumption))); (case exe => wtm_at "exh")))
local macro_rules | `(tactic| wtm_at "ex") => `(tactic| first | with_reducible assumption | with_reducible exact Ex.refl _ | with_reducible exact ex_hid | ((with_reducible refine' Ex.trans ?exe (by with_reducible assumption)); (case exe => wtm_at "ex")) | ((with_reducible refine' Ex.trans ?exe (hid_ex (by with_reducible assumption))); (case exe => wtm_at "ex")) | ((with_reducible refine' Ex.trans ?exe ex_hid); (case exe => wtm_at "exh")))
local macro_rules | `(tactic| wtm_at "bag") => `(tactic| first | with_reducible assumption | ((with_reducible refine' Bag.mono ?bgm (by with_reducible assumption)); (case bgm => wtm_at "bag")))
local macro_rules | `(tactic| wtm_at "hs") => `(tactic| first | with_reducible assumption | ((with_reducible refine' hid_tup ?hb ?hp); (case hp => with_reducible assumption); (case hb => wtm_at "bag")) | ((with_reducible refine' hid_new ?hb ?hn ?hp); (case hp => with_reducible assumption); (case hn => with_reducible assumption); (case hb => wtm_at "bag")) | ((with_reducible refine' ex_at ?exe (by with_reducible assumption)); (case exe => wtm_at "ex")))
local macro_rules | `(tactic| wtm_at "st2") => `(tactic| first
  | ((with_reducible refine' i_mulC ?u0 ?uq); (case u0 => first | exact cmul_l (by decide) | exact cmul_r (by decide)))
  | ((with_reducible refine' i_ixLr (v := ?u0) ?u1 ?u2 ?uq); (case u1 => with_reducible assumption); (case u2 => exact rfl))
  | (with_reducible refine' i_sub ?uq)
  | ((with_reducible refine' i_mkL ?u0 (fun np nH nfr nhe nhp => ?uq)); (case u0 => exact Nat.le_of_ble_eq_true rfl))
  | ((with_reducible refine' i_setL (n := ?u0) ?u1 ?u2 (fun sH sh se => ?uq)); (case u1 => with_reducible assumption); (case u2 => exact rfl))
  | (with_reducible refine' i_sl ?uq)
  | (with_reducible refine' i_nopart ?uq)
  | (with_reducible refine' i_part ?uq)
  | (with_reducible refine' i_part1 ?uq))
local macro_rules | `(tactic| wtm_at "sz2") => `(tactic| ((with_reducible refine' sz_fmod ?sz1 ?sz2); (case sz1 => wtm_at "nz"); (case sz2 => wtm_at "sz")))
local macro_rules | `(tactic| wtm_at "stb") => `(tactic| first
  | ((with_reducible refine' i_mkTB ?u0 ?u1 (fun np nH nhe nhb nhp => ?uq)); (case u0 => exact Nat.le_of_ble_eq_true rfl); (case u1 => wtm_at "bag"))
  | ((with_reducible refine' i_mkLB ?u0 ?u1 (fun np nH nfr nhe nhb nhp => ?uq)); (case u0 => exact Nat.le_of_ble_eq_true rfl); (case u1 => wtm_at "bag"))
  | wtm_at "st")
local macro_rules | `(tactic| wtm_at "gob") => `(tactic| repeat' (wtm_at "stb"))
local macro_rules | `(tactic| wtm_at "gob0") => `(tactic| ((try dsimp only [L2.cxOf, L2.Cx.nox, L2.Cx.wish, L2.Cx.tr, L2.Cx.blk]); (try wtm_at "nrm"); wtm_at "gob"))
local macro_rules | `(tactic| wtm_at "st") => `(tactic| first | ((with_reducible refine' i_ixTS (z := ?u0) ?u1 ?u2 ?u3 ?uq); (case u1 => wtm_at "dp"); (case u2 => wtm_at "ex"); (case u3 => exact rfl)) | fail)
local macro_rules | `(tactic| wtm_at "st2") => `(tactic| first | ((with_reducible refine' i_eqST ?u0 ?uq); (case u0 => with_reducible rfl)) | ((with_reducible refine' i_eqSF ?u0 ?uq); (case u0 => decide +kernel)) | ((with_reducible refine' i_neST ?u0 ?uq); (case u0 => with_reducible rfl)) | ((with_reducible refine' i_neSF ?u0 ?uq); (case u0 => decide +kernel)) | fail)
section
variable {P : Program} {w : World} {K : PySem.W.Frag} {mg : Str → Option Value} {base : Heap} {H H' : Hp} {Q : VK} {E : XK} {v1 v2 v3 v4 v5 : V}
theorem i_cmU {C : Addr} {sp : Sp} {E : XK} {ta : TE} {ts : TA} {σ : L2.St} (q : ta σ H fun x H1 => x = .ref C ∧ ts σ H1 fun vs H2 => sp (.ref C :: vs) H2 Q E) : ClX.tCMeth C sp E ta ts σ H Q := q
theorem i_neT {d : PyData} {v w : V} (h1 : Dp K H v d) (h2 : Dp K H w d) (hs : SeqAt.shaped d = true) (q : Q (.bl false) H) : rNeD K v w H Q := by
  refine i_neD h1 h2 hs hs ?_
  rw [eqv_self hs]
  exact q
theorem hid_exN {b : Addr} {H H' : Hp} (e : ExtN H H') : ExtN (hid b H) (hid b H') := fun a o h n => by
  obtain ⟨h1, h2⟩ := of_hid h
  exact hid_of (e a o h2 n) h1
theorem Bag.monoN {b : Addr} {H H' : Hp} (h : Bag b H) (e : ExtN H H') : Bag b H' := by
  obtain ⟨x, y, z, h1, h2, h3⟩ := h.ex
  exact ⟨x, y, z, e _ _ h1 (fun ps z => by cases z), h2, h3⟩
theorem hid_tabs {b : Addr} {H H' : Hp} {T : List (Addr × Str)} (t : Tabs T H) (hb : Bag b H) (e : Ex (hid b H) (hid b H')) : Tabs T H' := fun p hp => by
  obtain ⟨ps, a1, a2, a3⟩ := t p hp
  obtain ⟨x, y, z, h1, _⟩ := hb.ex
  have n1 : p.1 ≠ b := ne_of a1 h1 (by intro z; cases z)
  refine ⟨ps, (of_hid (e _ _ (hid_of a1 n1))).2, a2, fun pos cv hc => ?_⟩
  obtain ⟨c, e1, e2⟩ := a3 pos cv hc
  have n2 : c ≠ b := ne_of e2 h1 (by intro z; unfold CodeO at z; cases z)
  exact ⟨c, e1, (of_hid (e _ _ (hid_of e2 n2))).2⟩
theorem lay_pairs (ms : List (Int × Int)) : ∀ d ∈ ms.map pD, PyData.canLay0 d = true ∧ PyData.depth d ≤ 1 := fun d hd => by
  obtain ⟨m, _, rfl⟩ := List.mem_map.mp hd
  exact ⟨rfl, Nat.le_refl _⟩
theorem shp_pairs (ms : List (Int × Int)) : SeqAt.shaped (.list (ms.map pD)) = true := shp_list (k := 1) (by decide) (lay_pairs ms)
theorem shp_pairsT (ms : List (Int × Int)) : SeqAt.shaped (.tuple (ms.map pD)) = true := shp_tup (k := 1) (by decide) (lay_pairs ms)
abbrev ttE (K : PySem.W.Frag) (CT : Addr) (T : List (Addr × Str)) (m : Str) (sp : Sp) (i j : Nat) : TE := tMeth CT m sp [] E0 (ClX.tCMeth CT (sp_Tree_told K CT T) E0 (tC (.ref CT)) (tCons (tVar i) tNil)) (tCons (ClX.tCMeth CT (sp_Tree_told K CT T) E0 (tC (.ref CT)) (tCons (tVar j) tNil)) tNil)
/-- Tree.told(x).m(Tree.told(y)) -/
theorem two_told {CT : Addr} {T : List (Addr × Str)} {m : Str} {sp : Sp} {i j : Nat} {σ : L2.St} {u v : V} {s t : Fs} (m1 : m ≠ "own_form") (m2 : m ≠ "own_boxes") (hi : σ[i]? = some (some u)) (hj : σ[j]? = some (some v)) (hu : Dp K H u (fsD s)) (hv : Dp K H v (fsD t)) (rs : Root s) (rt : Root t) (s2 : s.1 ≤ 2) (t2 : t.1 ≤ 2)
    (ns : ((fsE s).map (·.1)).Nodup) (nt : ((fsE t).map (·.1)).Nodup) (hT : Tabs T H) (q : ∀ a c H2, ExtN H H2 → Tabs T H2 → TreeAt K CT H2 a s → TreeAt K CT H2 c t → sp [.ref a, .ref c] H2 Q E0) : ttE K CT T m sp i j σ H Q := by
  refine i_methU (i_cmU (i_c ⟨rfl, i_cons (i_var hi (i_nil ?_))⟩))
  refine ⟨_, _, rfl, rfl, s, hu, rs, by omega, ns, hT, fun x1 dx1 H1 e1 t1 T1 => ?_⟩
  obtain ⟨fs1, fv1, m11, m12, m13, m14⟩ := id T1
  refine ⟨x1, dx1, fs1, rfl, m11, m14 m m1 m2, i_cons (i_cmU (i_c ⟨rfl, i_cons (i_var hj (i_nil ?_))⟩))⟩
  refine ⟨_, _, rfl, rfl, t, dpN e1 hv, rt, by omega, nt, t1, fun x2 dx2 H2 e2 t2 T2 => i_nil ?_⟩
  exact q x1 x2 H2 (e1.trans e2) t2 (T1.monoN e2).at_ T2.at_
/-- what holds through the law's body -/
structure Fx (K : PySem.W.Frag) (T : List (Addr × Str)) (fv ov d1 d2 dA : V) (s t : Fs) (es1 es2 : List En) (ds : List (Int × Int)) (G : Hp) : Prop where
  f : Dp K G fv (fsD s)
  o : Dp K G ov (fsD t)
  e1 : Dp K G d1 (.list (es1.map enD))
  e2 : Dp K G d2 (.list (es2.map enD))
  du : Dp K G dA (.list (ds.map pD))
  tb : Tabs T G
theorem Fx.go {T : List (Addr × Str)} {fv ov d1 d2 dA : V} {s t : Fs} {es1 es2 : List En} {ds : List (Int × Int)} {G G' : Hp} (X : Fx K T fv ov d1 d2 dA s t es1 es2 ds G) (e : ExtN G G') (tb : Tabs T G') : Fx K T fv ov d1 d2 dA s t es1 es2 ds G' := ⟨dpN e X.f, dpN e X.o, dpN e X.e1, dpN e X.e2, dpN e X.du, tb⟩
theorem Fx.up {T : List (Addr × Str)} {fv ov d1 d2 dA : V} {s t : Fs} {es1 es2 : List En} {ds : List (Int × Int)} {G G' : Hp} (X : Fx K T fv ov d1 d2 dA s t es1 es2 ds G) (e : Ex G G') : Fx K T fv ov d1 d2 dA s t es1 es2 ds G' := X.go (exN e) (X.tb.ext e)
theorem i_eqT {d : PyData} {v w : V} (h1 : Dp K H v d) (h2 : Dp K H w d) (hs : SeqAt.shaped d = true) (q : Q (.bl true) H) : rEqD K v w H Q := by
  refine i_eqD h1 h2 hs hs ?_
  rw [eqv_self hs]
  exact q
theorem due2_one' (x : En) (es : List En) : ((es.filter fun g => meetB x.2 g.2).map fun g => ((x.1, g.1) : Int × Int)) = due2 [x] es := (due2_one x es).symm
theorem due2_snoc (xs : List En) (x : En) (es : List En) : due2 (xs ++ [x]) es = due2 xs es ++ due2 [x] es := by
  unfold due2
  rw [List.flatMap_append]
def sp__law_right (K : PySem.W.Frag) (T : List (Addr × Str)) : Sp := A1 fun v1 H Q => ∃ b : Addr, v1 = .ref b ∧ Bag b H ∧ Tabs T H ∧ ∀ H2, ExtN (hid b H) (hid b H2) → Bag b H2 → Tabs T H2 → Q (.bl true) H2
abbrev s__law_right : Stmt := top 72
theorem sc__law_right : FnScope ["_law_bag_here", "_law_one", "_law_two", "_law_first", "_law_second", "_law_due", "_law_number", "_law_box", "_law_told", "_law_turned", "_law_looked", "_law_name", "_law_goal"] ["_law_bag_here"] (defScope s__law_right) := ⟨rfl, rfl, rfl, by decide +kernel, rfl, by decide +kernel, by decide +kernel⟩
theorem ok__law_right {f : Addr} {fd : FuncData} (F : FnP K "_law_right" s__law_right f fd) (g : G mg) {T : List (Addr × Str)} {CT CK : Addr} (mT : mg "Tree" = some (.ref CT)) (ct : Cls K CT) {fPr fPl fT : Addr} {fdPr fdPl fdT : FuncData} (mPr : Meth K CT "pairs" fPr) (FPr : FnOk P w K mg base CX0 4 fPr fdPr ["self", "other"] (sp_Tree_pairs K CT)) (bPr : Binds K fdPr ["self", "other"] []) (mPl : Meth K CT "pairs_looked" fPl) (FPl : FnOk P w K mg base CX0 4 fPl fdPl ["self", "other"] (sp_Tree_pairs_looked K CT)) (bPl : Binds K fdPl ["self", "other"] []) (MT : Mk K CT fT) (FT : FnOk P w K mg base CX0 14 fT fdT ["self", "entries"] (sp_Tree_init K CT CK T)) (bT : Binds K fdT ["self", "entries"] []) {pT gT : Addr} (cr : ClX.CRead K CT (.type "type")) (cm : ClX.CMet K CT (.type "type") "told" pT gT) (FTo : FnR P w K mg base CX0 16 gT (sp_Tree_told K CT T)) (c__law_draw : Cl P w K mg base 1 "_law_draw" (sp__law_draw K)) (c__law_drawn_entries : Cl P w K mg base 4 "_law_drawn_entries" (sp__law_drawn_entries K)) (c__law_drawn_form : Cl P w K mg base 3 "_law_drawn_form" (sp__law_drawn_form K)) (c__law_apart_word : Cl P w K mg base 1 "_law_apart_word" (sp__law_apart_word K)) (c__law_compared : Cl P w K mg base 3 "_law_compared" (sp__law_compared K)) : FnOk P w K mg base CX0 17 f fd ["_law_bag_here"] (sp__law_right K T) := by
  have nd := sc__law_right.nd
  refine F.ok sc__law_right (fun vs H Q E h => h.len) (fun cdv A outer s H vs Q E hr h => ?_)
  obtain ⟨v1, rfl, h⟩ := h
  refine ⟨_, PSs.nox (pss_cons (ps_par (i := 1) (j := 2) (by rfl) nd rfl rfl (by decide) rfl rfl (pa_cons (pc c__law_drawn_entries hr (by first | decide | omega) (by rfl) (pa_cons (pv 0) (pa_cons (pc c__law_draw hr (by first | decide | omega) (by rfl) (pa_cons (pv 0) (pa_cons pe_int pa_nil))) pa_nil))) (pa_cons (pc c__law_drawn_entries hr (by first | decide | omega) (by rfl) (pa_cons (pv 0) (pa_cons (pc c__law_draw hr (by first | decide | omega) (by rfl) (pa_cons (pv 0) (pa_cons pe_int pa_nil))) pa_nil))) pa_nil)) (by rfl)) (pss_cons (ps_par (i := 3) (j := 4) (by rfl) nd rfl rfl (by decide) rfl rfl (pa_cons (pc c__law_drawn_form hr (by first | decide | omega) (by rfl) (pa_cons (pv 0) (pa_cons (pv 1) pa_nil))) (pa_cons (pc c__law_drawn_form hr (by first | decide | omega) (by rfl) (pa_cons (pv 0) (pa_cons (pv 2) pa_nil))) pa_nil)) (by rfl)) (pss_cons (ps_set (i := 5) nd rfl (Or.inl rfl) (pe_lst pa_nil)) (pss_cons (ps_for PassesOwn.never rfl (pi_list (pv 1)) (pg_tup (n := 2) (by rfl) (pgs_cons (pg_name (i := 6) nd rfl (Or.inr rfl)) (pgs_cons (pg_name (i := 7) nd rfl (Or.inr rfl)) pgs_nil))) (pss_one (ps_expr (pe_bm PySem.F.plainAttrs_list PySem.F.slot_list_extend PySem.F.type_list_extend mt_extend (pv 5) (pa_cons (pe_lc (own := [("_law_name", 11), ("_law_goal", 12)]) (g := _) (by rfl) nd (pi_list (pv 2)) (blkOk_by (N := ["_law_bag_here", "_law_one", "_law_two", "_law_first", "_law_second", "_law_due", "_law_number", "_law_box", "_law_told", "_law_turned", "_law_looked", "_law_name", "_law_goal"]) (sc := defScope s__law_right) (own := [("_law_name", 11), ("_law_goal", 12)]) (by decide +kernel)) (fun _ _ _ _ _ => (show PG _ _ (gTup K 2 _) from (pg_tup (by rfl) (pgs_cons (pg_name (i := 11) nd rfl (Or.inl rfl)) (pgs_cons (pg_name (i := 12) nd rfl (Or.inl rfl)) pgs_nil))))) (fun _ _ _ _ _ => (pts_one (pt_cmpR op_qisN (pc c__law_apart_word hr (by first | decide | omega) (by rfl) (pa_cons (pv 7) (pa_cons (pv 12) pa_nil))) pe_non (nomark _)))) (fun _ _ _ _ _ => (pe_tup (pa_cons (pv 6) (pa_cons (pv 11) pa_nil))))) pa_nil))))) (pss_cons (ps_par (i := 8) (j := 9) (by rfl) nd rfl rfl (by decide) rfl rfl (pa_cons (pe_meth (ClX.pe_cmeth (pe_glob (v := .ref CT) (by rfl) mT rfl) cr cm FTo (hr.mono (by decide)) pass0 (pa_cons (pv 3) pa_nil)) ct mPr FPr (hr.mono (by decide)) bPr .nil pass0 (pa_cons (ClX.pe_cmeth (pe_glob (v := .ref CT) (by rfl) mT rfl) cr cm FTo (hr.mono (by decide)) pass0 (pa_cons (pv 4) pa_nil)) pa_nil)) (pa_cons (pe_meth (ClX.pe_cmeth (pe_glob (v := .ref CT) (by rfl) mT rfl) cr cm FTo (hr.mono (by decide)) pass0 (pa_cons (pv 4) pa_nil)) ct mPr FPr (hr.mono (by decide)) bPr .nil pass0 (pa_cons (ClX.pe_cmeth (pe_glob (v := .ref CT) (by rfl) mT rfl) cr cm FTo (hr.mono (by decide)) pass0 (pa_cons (pv 3) pa_nil)) pa_nil)) pa_nil)) (by rfl)) (pss_cons (ps_if (PW.pt (pw_or (pt_cmpR (op_neD hr.units) (pe_callTy call_qlist (by rfl) g.f_list boot_list (pa_cons (pv 8) pa_nil)) (pe_callB cr_sortPD (by rfl) g.f_sorted boot_sorted (pa_cons (pv 5) pa_nil)) (nomark _)) (pw_or1 (pt_cmpR (op_neD hr.units) (pe_callTy call_qlist (by rfl) g.f_list boot_list (pa_cons (pv 9) pa_nil)) (pe_callB cr_sortPD (by rfl) g.f_sorted boot_sorted (pa_cons (pe_lc (own := [("_law_number", 6), ("_law_name", 11)]) (g := _) (by rfl) nd (pi_list (pv 5)) (blkOk_by (N := ["_law_bag_here", "_law_one", "_law_two", "_law_first", "_law_second", "_law_due", "_law_number", "_law_box", "_law_told", "_law_turned", "_law_looked", "_law_name", "_law_goal"]) (sc := defScope s__law_right) (own := [("_law_number", 6), ("_law_name", 11)]) (by decide +kernel)) (fun _ _ _ _ _ => (show PG _ _ (gTup K 2 _) from (pg_tup (by rfl) (pgs_cons (pg_name (i := 6) nd rfl (Or.inl rfl)) (pgs_cons (pg_name (i := 11) nd rfl (Or.inl rfl)) pgs_nil))))) (fun _ _ _ _ _ => pts_nil) (fun _ _ _ _ _ => (pe_tup (pa_cons (pv 11) (pa_cons (pv 6) pa_nil))))) pa_nil)) (nomark _))))) (pss_one (ps_ret pe_bl)) pss_nil) (pss_cons (ps_if (pt_cmpR (op_neD hr.units) (pe_meth (pe_make MT FT (hr.mono (by decide)) (by rfl) mT bT .nil pass0 (pa_cons (pe_callTy call_qtuple (by rfl) g.f_tuple boot_tuple (pa_cons (pv 1) pa_nil)) pa_nil)) ct mPr FPr (hr.mono (by decide)) bPr .nil pass0 (pa_cons (pe_make MT FT (hr.mono (by decide)) (by rfl) mT bT .nil pass0 (pa_cons (pe_callTy call_qtuple (by rfl) g.f_tuple boot_tuple (pa_cons (pv 2) pa_nil)) pa_nil)) pa_nil)) (pv 8) (nomark _)) (pss_one (ps_ret pe_bl)) pss_nil) (pss_cons (ps_set (i := 10) nd rfl (Or.inl rfl) (pe_meth (ClX.pe_cmeth (pe_glob (v := .ref CT) (by rfl) mT rfl) cr cm FTo (hr.mono (by decide)) pass0 (pa_cons (pv 3) pa_nil)) ct mPl FPl (hr.mono (by decide)) bPl .nil pass0 (pa_cons (ClX.pe_cmeth (pe_glob (v := .ref CT) (by rfl) mT rfl) cr cm FTo (hr.mono (by decide)) pass0 (pa_cons (pv 4) pa_nil)) pa_nil))) (pss_one (ps_ret (pe_and (pe_cmpR op_eq (pv 10) (pc c__law_compared hr (by first | decide | omega) (by rfl) (pa_cons (pv 3) (pa_cons (pv 4) pa_nil))) (nomark _)) (pe_one (pe_cmpR (op_eqD hr.units) (pe_meth (ClX.pe_cmeth (pe_glob (v := .ref CT) (by rfl) mT rfl) cr cm FTo (hr.mono (by decide)) pass0 (pa_cons (pv 4) pa_nil)) ct mPl FPl (hr.mono (by decide)) bPl .nil pass0 (pa_cons (ClX.pe_cmeth (pe_glob (v := .ref CT) (by rfl) mT rfl) cr cm FTo (hr.mono (by decide)) pass0 (pa_cons (pv 3) pa_nil)) pa_nil)) (pc c__law_compared hr (by first | decide | omega) (by rfl) (pa_cons (pv 4) (pa_cons (pv 3) pa_nil))) (nomark _)))))))))))))), ?_⟩
  obtain ⟨b, rfl, hb, hT, q⟩ := h
  wtm_at "gob0"
  refine use__law_draw hb (by decide) (sz_mono (sz_lit (by decide)) (by decide)) (fun dn H1 d0 d1 e1 b1 => ?_)
  obtain ⟨n1, rfl⟩ : ∃ n : Nat, dn = n := ⟨dn.toNat, by omega⟩
  wtm_at "gob"
  refine use__law_drawn_entries (by omega) b1 (fun p1 H2 es1 hel1 hok1 e2 b2 hE1 => ?_)
  wtm_at "gob"
  refine use__law_draw b2 (by decide) (sz_mono (sz_lit (by decide)) (by decide)) (fun dn2 H3 d20 d21 e3 b3 => ?_)
  obtain ⟨n2, rfl⟩ : ∃ n : Nat, dn2 = n := ⟨dn2.toNat, by omega⟩
  wtm_at "gob"
  refine use__law_drawn_entries (by omega) b3 (fun p2 H4 es2 hel2 hok2 e4 b4 hE2 => ?_)
  have hl1 : es1.length ≤ 10 := by omega
  have hl2 : es2.length ≤ 10 := by omega
  clear hel1 hel2
  wtm_at "gob"
  refine use__law_drawn_form b4 (dpMono (e3.trans e4) hE1) hok1.2 (by omega) (fun fv H5 m1 t1 hm1 hr1 hz1 hy1 hen1 e5 b5 hf1 => ?_)
  wtm_at "gob"
  refine use__law_drawn_form b5 (dpMono e5 hE2) hok2.2 (by omega) (fun ov H6 m2 t2 hm2 hr2 hz2 hy2 hen2 e6 b6 hf2 => ?_)
  have e06 : Ex (hid b H) (hid b H6) := ((((e1.trans e2).trans e3).trans e4).trans e5).trans e6
  have hT6 : Tabs T H6 := hid_tabs hT hb e06
  have hF6 : Dp K H6 fv (fsD ⟨m1, t1⟩) := dpMono ex_hid (dpMono e6 hf1)
  have hO6 : Dp K H6 ov (fsD ⟨m2, t2⟩) := dpMono ex_hid hf2
  have hA6 : Dp K H6 (.ref p1) (.list (es1.map enD)) := dpMono ex_hid (dpMono (((e3.trans e4).trans e5).trans e6) hE1)
  have hB6 : Dp K H6 (.ref p2) (.list (es2.map enD)) := dpMono ex_hid (dpMono (e5.trans e6) hE2)
  have q6 : ∀ G, ExtN H6 G → Tabs T G → Q (.bl true) G := fun G e t => q G ((exN e06).trans (hid_exN e)) (b6.monoN e) t
  have rs : Root ⟨m1, t1⟩ := ⟨hr1, hz1, hy1⟩
  have rt : Root ⟨m2, t2⟩ := ⟨hr2, hz2, hy2⟩
  have es_ : fsE ⟨m1, t1⟩ = es1 := hen1
  have et_ : fsE ⟨m2, t2⟩ = es2 := hen2
  have hm1 : (⟨m1, t1⟩ : Fs).1 ≤ 2 := hm1
  have hm2 : (⟨m2, t2⟩ : Fs).1 ≤ 2 := hm2
  clear hE1 hE2 hf1 hf2 e1 e2 e3 e4 e5 e6 b1 b2 b3 b4 b5 q hT d0 d1 d20 d21 hen1 hen2 hr1 hr2 hz1 hz2 hy1 hy2
  generalize hs' : (⟨m1, t1⟩ : Fs) = s at *
  generalize ht' : (⟨m2, t2⟩ : Fs) = t at *
  have ns : ((fsE s).map (·.1)).Nodup := by rw [es_]; exact hok1.1
  have nt : ((fsE t).map (·.1)).Nodup := by rw [et_]; exact hok2.1
  have hdue : dueP (s, t) = due2 es1 es2 := by
    show due2 (fsE s) (fsE t) = _
    rw [es_, et_]
  have hdue2 : dueP (t, s) = due2 es2 es1 := by
    show due2 (fsE t) (fsE s) = _
    rw [es_, et_]
  have hsm : SmP (s, t) := ⟨sm_of s.1 s.2 rs.2.1 rs.1, sm_of t.1 t.2 rt.2.1 rt.1⟩
  have hsm2 : SmP (t, s) := ⟨hsm.2, hsm.1⟩
  have hrt1 : RtP (s, t) := ⟨rs.1, rt.1⟩
  have hrt2 : RtP (t, s) := ⟨rt.1, rs.1⟩
  wtm_at "go"
  rename_i dA H7 dn7 de7 dp7
  have L0 : Lsts K H6 [(dA, ([] : List (Int × Int)).map pD)] H7 := (Lsts.nil (K := K) (G0 := H6)).add dn7 de7 dp7 .nil rfl
  refine i_forLU ?_
  wtm_at "go"
  obtain ⟨p1', us1, ep1, hus1, hua1⟩ := dpLst (dpMono de7 hA6)
  cases ep1
  have hel : (es1.map enD).length = es1.length := List.length_map _
  have dl : ∀ k, (due2 (es1.take k) es2).length ≤ 1000 := fun k => by
    have := due2_len (es1.take k) es2
    have h2 : (es1.take k).length ≤ 10 := by rw [List.length_take]; omega
    have := Nat.mul_le_mul h2 hl2
    omega
  refine ⟨p1, rfl, ⟨us1, hus1⟩, for_it (walk_lsD (a := p1) (ds := es1.map enD)) (fun i σ' G => ∃ (c6 c7 : Option V), σ' = [some (.ref b), some (.ref p1), some (.ref p2), some fv, some ov, some (.ref dA), c6, c7, none, none, none, none, none] ∧ Lsts K H6 [(dA, (due2 (es1.take i) es2).map pD)] G)
    ⟨_, _, rfl, L0⟩ (fun i σ' G _ p => by obtain ⟨_, _, _, L⟩ := p; exact dpMono L.ex hA6) (fun i x σ' G0 G hi p yy => ?_) (fun σ' G p => ?_)⟩
  · obtain ⟨c6, c7, rfl, L⟩ := p
    obtain ⟨rfl, d, hd, hx⟩ := yy
    rw [List.getElem?_map] at hd
    obtain ⟨e, he, rfl⟩ := Option.map_eq_some_iff.mp hd
    have hx : Dp K G x (.tuple [.int e.1, bxD e.2]) := hx
    have ht1 : es1.take (i + 1) = es1.take i ++ [e] := by rw [List.take_add_one, he]; rfl
    have hBG : Dp K G (.ref p2) (.list (es2.map enD)) := dpMono L.ex hB6
    wtm_at "go"
    rename_i gvs gdp gr gh gv gr2 gh1 gh2
    refine i_bmA ?_
    wtm_at "go"
    refine L.ty (i := 0) rfl ?_
    wtm_at "go"
    refine i_lcLU ?_
    wtm_at "go"
    refine i_lcGLR (enc := enD) (xs := es2) (fun g => meetB e.2 g.2) (fun g => pD (e.1, g.1)) hBG (by omega) (fun _ _ => rfl) (fun u y G2 R Y g2 hm hu hn hy => ?_) (fun p9 G2 zs n9 g2 hz1 hz2 => ?_)
    · have hu : Dp K G2 u (.tuple [.int y.1, bxD y.2]) := hu
      wtm_at "nrm"
      wtm_at "go"
      refine ⟨rfl, ?_⟩
      wtm_at "go"
      rename_i kvs kdp kr kh kv kr2 kh1 kh2
      refine use__law_apart_word (dpMono g2 gh1) kh1 ?_
      wtm_at "go"
      · rename_i hz np G3 g3 h3
        exact hy (wd_non.mp hz) _ _ g3 (.tup (Evl.st_of h3) (.cons (.int _) (.cons (.int _) .nil)))
      · rename_i hz
        refine hn ?_ _ (Ex.refl _)
        cases hmm : meetB e.2 y.2 with
        | false => exact hmm
        | true => exact absurd (wd_non.mpr hmm) hz
    wtm_at "go"
    have e9 : ((es2.filter fun g => meetB e.2 g.2).map fun g => pD (e.1, g.1)) = (due2 [e] es2).map pD := by
      rw [← due2_one', List.map_map]
      rfl
    rw [e9] at hz2
    refine (L.up g2).extend (i := 0) rfl hz1 hz2 (noLs_map _ (fun _ => rfl) _) ?_ (fun G4 L4 hk4 => ?_)
    · have a1 := dl (i + 1)
      rw [ht1, due2_snoc, List.length_append] at a1
      rw [List.length_map, List.length_map]
      omega
    wtm_at "go"
    refine ⟨_, _, rfl, ?_⟩
    rw [ht1, due2_snoc, List.map_append]
    exact L4
  · obtain ⟨c6, c7, rfl, L⟩ := p
    rw [hel, List.take_length] at L
    have X : Fx K T fv ov (.ref p1) (.ref p2) (.ref dA) s t es1 es2 (due2 es1 es2) G := ⟨dpMono L.ex hF6, dpMono L.ex hO6, dpMono L.ex hA6, dpMono L.ex hB6, L.ref (i := 0) rfl, hT6.ext L.ex⟩
    have qG : ∀ G', ExtN G G' → Tabs T G' → Q (.bl true) G' := fun G' e t => q6 G' ((exN L.ex).trans e) t
    clear L dl hF6 hO6 hA6 hB6 q6 hT6 L0 de7 dn7 dp7 hus1 hua1 e06 hb b6
    wtm_at "go"
    refine two_told (by decide +kernel) (by decide +kernel) rfl rfl X.f X.o rs rt hm1 hm2 ns nt X.tb (fun a1 c1 G1 g1 tb1 T1 S1 => ?_)
    refine ⟨_, _, rfl, a1, c1, s, t, rfl, rfl, T1, S1, rs, rt, hm1, hm2, fun ms mp ml v1 G2 g2 hv1 => ?_⟩
    have X2 := (X.go g1 tb1).up g2
    have x02 : ExtN G G2 := g1.trans (exN g2)
    wtm_at "go"
    refine two_told (by decide +kernel) (by decide +kernel) rfl rfl X2.o X2.f rt rs hm2 hm1 nt ns X2.tb (fun a2 c2 G3 g3 tb3 T3 S3 => ?_)
    refine ⟨_, _, rfl, a2, c2, t, s, rfl, rfl, T3, S3, rt, rs, hm2, hm1, fun ms2 mp2 ml2 v2 G4 g4 hv2 => ?_⟩
    have X4 := (X2.go g3 tb3).up g4
    have x04 : ExtN G G4 := x02.trans (g3.trans (exN g4))
    have hv14 := dpN (g3.trans (exN g4)) hv1
    rw [hdue] at mp
    rw [hdue2] at mp2
    wtm_at "go"
    refine i_qlistT hv14 (fun p5 G5 n5 g5 hh => ?_)
    obtain ⟨ws5, w51, w52⟩ := hh
    wtm_at "go"
    refine i_sortPD (X4.up g5).du (fun p6 ds6 G6 dp6 dl6 n6 g6 hd6 => ?_)
    have e6 : ds6 = ms := lexS_uniq dl6 ml (dp6.trans mp.symm)
    subst e6
    wtm_at "go"
    refine i_neT (dpMono g6 (.lst (Evl.sq_of w51) w52)) hd6 (shp_pairs _) ?_
    wtm_at "go"
    have X6 := (X4.up g5).up g6
    refine i_qlistT (dpMono (g5.trans g6) hv2) (fun p7 G7 n7 g7 hh => ?_)
    obtain ⟨ws7, w71, w72⟩ := hh
    wtm_at "go"
    refine i_lcLU ?_
    wtm_at "go"
    have hdl : (due2 es1 es2).length ≤ 1000 := by
      have := due2_len es1 es2
      have := Nat.mul_le_mul hl1 hl2
      omega
    refine i_lcGL (enc := pD) (xs := due2 es1 es2) (fun _ => true) (fun q => pD (q.2, q.1)) (X6.up g7).du (by omega) (fun _ _ => rfl) (fun u y Ga R Y ga hm hu hn hy => ?_) (fun p8 G8 n8 g8 h8 => ?_)
    · have hu : Dp K Ga u (.tuple [.int y.1, .int y.2]) := hu
      wtm_at "nrm"
      wtm_at "go"
      refine ⟨rfl, ?_⟩
      wtm_at "go"
      rename_i np Gb gb hb
      exact hy rfl _ _ gb (.tup (Evl.st_of hb) (.cons (.int _) (.cons (.int _) .nil)))
    rw [filt_true] at h8
    have h8 : Dp K G8 (.ref p8) (.list (((due2 es1 es2).map fun q => ((q.2, q.1) : Int × Int)).map pD)) := by
      rw [List.map_map]
      exact h8
    wtm_at "go"
    refine i_sortPD h8 (fun p9 ds9 G9 dp9 dl9 n9 g9 hd9 => ?_)
    have e9 : ds9 = ms2 := lexS_uniq dl9 ml2 (dp9.trans ((due2_turn es2 es1).trans mp2.symm))
    subst e9
    wtm_at "go"
    refine i_neT (dpMono (g8.trans g9) (.lst (Evl.sq_of w71) w72)) hd9 (shp_pairs _) ?_
    have X9 := ((X6.up g7).up g8).up g9
    have x49 : Ex G4 G9 := (((g5.trans g6).trans g7).trans g8).trans g9
    wtm_at "go"
    refine i_methU ?_
    refine i_mkU ?_
    wtm_at "go"
    refine i_qtupleL X9.e1 (fun pa Ga ga hh => ?_)
    obtain ⟨wsa, wa1, wa2⟩ := hh
    wtm_at "go"
    intro x dx nx ndx nex
    have Xa := X9.up ga
    have eb : Ex Ga (upd (upd Ga dx (.own x)) x (.ins CT dx [])) := Evl.Ex.mut (Ex.new ndx) nx
    refine ⟨_, _, rfl, x, dx, Ga, fun s' => Root s' ∧ (fsE s').Perm es1, rfl, eb, nx, upd_same, Xa.tb.ext eb, .inr ⟨es1, dpMono eb (.tup (Evl.st_of wa1) wa2), hok1.2, hok1.1, by omega, fun s' r p => ⟨r, p⟩⟩, fun Gb s' hP gb tbb Tb => ⟨rfl, ?_⟩⟩
    obtain ⟨hr', hp'⟩ := hP
    have Xb := Xa.go gb tbb
    obtain ⟨fsb, fvb, mb1, mb2, mb3, mb4⟩ := id Tb
    refine ⟨x, dx, fsb, rfl, mb1, mb4 "pairs" (by decide +kernel) (by decide +kernel), ?_⟩
    refine i_cons (i_mkU ?_)
    wtm_at "go"
    refine i_qtupleL Xb.e2 (fun pc Gc gc hh => ?_)
    obtain ⟨wsc, wc1, wc2⟩ := hh
    wtm_at "go"
    intro y dy ny ndy ney
    have Xc := Xb.up gc
    have ed : Ex Gc (upd (upd Gc dy (.own y)) y (.ins CT dy [])) := Evl.Ex.mut (Ex.new ndy) ny
    refine ⟨_, _, rfl, y, dy, Gc, fun s' => Root s' ∧ (fsE s').Perm es2, rfl, ed, ny, upd_same, Xc.tb.ext ed, .inr ⟨es2, dpMono ed (.tup (Evl.st_of wc1) wc2), hok2.2, hok2.1, by omega, fun s' r p => ⟨r, p⟩⟩, fun Gd t' hP gd tbd Td => ⟨rfl, ?_⟩⟩
    obtain ⟨hr2', hp2'⟩ := hP
    have Xd := Xc.go gd tbd
    wtm_at "go"
    refine ⟨_, _, rfl, x, y, s', t', rfl, rfl, (Tb.monoN ((exN gc).trans gd)).at_, Td.at_, hr', hr2', root_le hr' (by rw [hp'.length_eq]; omega), root_le hr2' (by rw [hp2'.length_eq]; omega), fun ms3 mp3 ml3 v3 Ge ge hv3 => ?_⟩
    have e3 : ms3 = ds6 := lexS_uniq ml3 ml (mp3.trans ((due2_perm hp' hp2').trans mp.symm))
    subst e3
    have Xe := Xd.up ge
    have x9e : ExtN G9 Ge := ((exN ga).trans gb).trans (((exN gc).trans gd).trans (exN ge))
    have hv1e := dpN ((exN x49).trans x9e) hv14
    wtm_at "go"
    refine i_neT hv3 hv1e (shp_pairsT _) ?_
    wtm_at "go"
    refine two_told (by decide +kernel) (by decide +kernel) rfl rfl Xe.f Xe.o rs rt hm1 hm2 ns nt Xe.tb (fun a5 c5 Gf gf tbf Tf Sf => ?_)
    have Xf := Xe.go gf tbf
    refine ⟨_, _, rfl, a5, c5, s, t, rfl, rfl, Tf, Sf, rs, rt, hm1, hm2, ret_int fun Gg gg => ?_⟩
    have Xg := Xf.up gg
    wtm_at "go"
    refine use__law_compared Xg.f Xg.o hsm hrt1 hm1 hm2 (fun Gh gh => ?_)
    have Xh := Xg.up gh
    wtm_at "go"
    · refine two_told (by decide +kernel) (by decide +kernel) rfl rfl Xh.o Xh.f rt rs hm2 hm1 nt ns Xh.tb (fun a6 c6 Gi gi tbi Ti Si => ?_)
      have Xi := Xh.go gi tbi
      refine ⟨_, _, rfl, a6, c6, t, s, rfl, rfl, Ti, Si, rt, rs, hm2, hm1, ret_int fun Gj gj => ?_⟩
      have Xj := Xi.up gj
      wtm_at "go"
      refine use__law_compared Xj.o Xj.f hsm2 hrt2 hm2 hm1 (fun Gk gk => ?_)
      have Xk := Xj.up gk
      refine i_eqT (d := .int (totP (t, s))) (Dp.int _) (Dp.int _) rfl ?_
      refine qG Gk ?_ Xk.tb
      exact (x04.trans (exN x49)).trans (x9e.trans ((gf.trans (exN (gg.trans gh))).trans (gi.trans (exN (gj.trans gk)))))
    · rename_i hz
      exact absurd rfl hz
theorem use__law_right {T : List (Addr × Str)} {b : Addr} (hb : Bag b H) (hT : Tabs T H) (q : ∀ H2, ExtN (hid b H) (hid b H2) → Bag b H2 → Tabs T H2 → Q (.bl true) H2) : sp__law_right K T [.ref b] H Q E := ⟨_, rfl, b, rfl, hb, hT, q⟩
end
end Wb

namespace Wb
open PySem PySem.Spec PyProof.Rows L2 StX
open Evl (Ex Ex.refl Ex.trans Ex.new)
open LamX (Tabs TabS TabB ExtN CodeO)
open LmK (dpN dpNA exN tabsE sqlN sqtN rdN pD)
local macro_rules | `(tactic| wtm_at "dp") => `(tactic| first | with_reducible assumption | with_reducible exact Dp.int _ | with_reducible exact Dp.bl _ | with_reducible exact Dp.str _ | with_reducible exact Dp.non | ((with_reducible refine' dpMono ?dme (by with_reducible assumption)); (case dme => wtm_at "ex")) | ((with_reducible refine' Dp.tup (Evl.st_of ?dph) ?dpa); (case dph => wtm_at "hs"); (case dpa => wtm_at "dpa")) | ((with_reducible refine' Dp.lst (Evl.sq_of ?dph) ?dpa); (case dph => wtm_at "hs"); (case dpa => wtm_at "dpa")))
local macro_rules | `(tactic| wtm_at "dpa") => `(tactic| first | with_reducible exact DpAll.nil | ((with_reducible refine' DpAll.cons ?dp1 ?dp2); (case dp1 => wtm_at "dp"); (case dp2 => wtm_at "dpa")) | with_reducible assumption | ((with_reducible refine' dpMonoA ?dme (by with_reducible assumption)); (case dme => wtm_at "ex")))
local macro_rules | `(tactic| wtm_at "sz") => `(tactic| first | with_reducible assumption | ((with_reducible refine' sz_mul ?sz1 ?sz2); (case sz1 => wtm_at "sz"); (case sz2 => wtm_at "sz")) | ((with_reducible refine' sz_add ?sz1 ?sz2); (case sz1 => wtm_at "sz"); (case sz2 => wtm_at "sz")) | ((with_reducible refine' sz_sub ?sz1 ?sz2); (case sz1 => wtm_at "sz"); (case sz2 => wtm_at "sz")) | ((with_reducible refine' sz_neg ?sz1); (case sz1 => wtm_at "sz")) | ((with_reducible refine' sz_div ?sz1); (case sz1 => wtm_at "sz")) | ((with_reducible refine' sz_fdiv ?sz1); (case sz1 => wtm_at "sz")) | exact sz_lit (by decide) | wtm_at "sz2")
local macro_rules | `(tactic| wtm_at "szb") => `(tactic| first | with_reducible assumption | ((with_reducible refine' sz_mono ?szb1 ?szb2); (case szb1 => wtm_at "sz"); (case szb2 => decide)))
local macro_rules | `(tactic| wtm_at "nz") => `(tactic| first | assumption | decide | omega)
local macro_rules | `(tactic| wtm_at "shaped") => `(tactic| first | rfl | decide)
local macro_rules | `(tactic| wtm_at "sset") => `(tactic| ((dsimp only [L2.wipe, List.set, List.set_cons_zero, List.set_cons_succ]) <;> exact rfl))
local macro_rules | `(tactic| wtm_at "nrm") => `(tactic| dsimp only [L2.start, L2.wipe, List.set, List.append, List.map, List.map_cons, List.map_nil, List.length_cons, List.length_nil, Nat.reduceAdd, Nat.reduceSub, List.reduceReplicate, List.replicate, List.cons_append, List.nil_append, List.set_cons_zero, List.set_cons_succ])
local macro_rules | `(tactic| wtm_at "st") => `(tactic| first
  | ((with_reducible refine' i_var (v := ?u0) ?u1 ?uq); (case u1 => exact rfl))
  | ((with_reducible refine' i_nameN ?u0 ?uq); (case u0 => wtm_at "sset"))
  | (with_reducible refine' i_op ?uq)
  | (with_reducible refine' i_c ?uq)
  | (with_reducible refine' i_I0 ?uq)
  | ((with_reducible refine' i_ixTI (i := ?u0) ?u1 ?u2 ?u3 ?uq); (case u1 => wtm_at "dp"); (case u2 => wtm_at "ex"); (case u3 => exact rfl))
  | ((with_reducible refine' i_ixT (d := ?u0) ?u1 ?u2 ?u3 (fun xu hxu => ?uq)); (case u1 => wtm_at "dp"); (case u2 => wtm_at "ex"); (case u3 => exact rfl))
  | ((with_reducible refine' i_mul ?u0 ?u1 ?u2 ?uq); (case u0 => wtm_at "sz"); (case u1 => wtm_at "sz"); (case u2 => first | decide | omega))
  | (with_reducible refine' i_seq ?uq)
  | (with_reducible refine' i_asg ?uq)
  | (with_reducible refine' i_ret ?uq)
  | (with_reducible refine' i_ifs ?uq)
  | (with_reducible refine' i_drop ?uq)
  | (with_reducible refine' i_next ?uq)
  | (with_reducible refine' i_cons ?uq)
  | (with_reducible refine' i_nil ?uq)
  | (with_reducible refine' i_cl ?uq)
  | (with_reducible refine' i_cb ?uq)
  | (with_reducible refine' i_tup ?uq)
  | (with_reducible refine' i_lst ?uq)
  | ((with_reducible refine' i_mkT ?u0 (fun np nH nhe nhp => ?uq)); (case u0 => exact Nat.le_of_ble_eq_true rfl))
  | (with_reducible refine' i_test ?uq)
  | (with_reducible refine' i_B ?uq)
  | (with_reducible refine' i_k ?uq)
  | (with_reducible refine' i_and ?uq)
  | (with_reducible refine' i_or ?uq)
  | (with_reducible refine' i_not ?uq)
  | (with_reducible refine' i_andV ?uq)
  | (with_reducible refine' i_orV ?uq)
  | (with_reducible refine' i_notV ?uq)
  | (with_reducible refine' i_if ?uq)
  | (with_reducible refine' i_un ?uq)
  | (with_reducible refine' i_U ?uq)
  | (with_reducible refine' i_iteT ?uq)
  | (with_reducible refine' i_iteF ?uq)
  | ((with_reducible refine' i_iteTr ?u0 ?uq); (case u0 => first | with_reducible rfl | decide | (simp only [dIsInt, dIsBool, dIsTup, dIsStr, dIsLst, Bool.not_true, Bool.not_false]; done)))
  | ((with_reducible refine' i_iteFr ?u0 ?uq); (case u0 => first | with_reducible rfl | decide | (simp only [dIsInt, dIsBool, dIsTup, dIsStr, dIsLst, Bool.not_true, Bool.not_false]; done)))
  | (with_reducible refine' i_ite (fun hif => ?uqa) (fun hif => ?uqb))
  | (with_reducible refine' i_iteN (fun hif => ?uqa) (fun hif => ?uqb))
  | (with_reducible refine' i_iteBN (fun hif => ?uqa) (fun hif => ?uqb))
  | (with_reducible refine' i_iteB (fun hif => ?uqa) (fun hif => ?uqb))
  | ((with_reducible refine' i_modN ?u0 ?uq); (case u0 => wtm_at "nz"))
  | ((with_reducible refine' i_fdX ?u0 ?u1 ?u2 ?uq); (case u0 => wtm_at "nz"); (case u1 => wtm_at "sz"); (case u2 => first | decide | omega))
  | ((with_reducible refine' i_pow ?u0 ?uq); (case u0 => exact ⟨by decide, by decide +kernel⟩))
  | (with_reducible refine' i_eqI ?uq)
  | (with_reducible refine' i_neI ?uq)
  | (with_reducible refine' i_gcd ?uq)
  | (with_reducible refine' i_qabs ?uq)
  | (with_reducible refine' i_qint ?uq)
  | (with_reducible refine' i_qintB ?uq)
  | (with_reducible refine' i_qmax2 ?uq)
  | (with_reducible refine' i_qmin2 ?uq)
  | (with_reducible refine' i_isB ?uq)
  | (with_reducible refine' i_notB ?uq)
  | (with_reducible refine' i_chain ?uq)
  | (with_reducible refine' i_qisN ?uq)
  | (with_reducible refine' i_qnotN ?uq)
  | (with_reducible refine' i_yes ?uq)
  | (with_reducible refine' i_par ?uq)
  | (with_reducible refine' i_par3 ?uq)
  | ((with_reducible refine' i_par2 ?u0 ?uq); (case u0 => wtm_at "sset"))
  | ((with_reducible refine' i_par33 ?u0 ?uq); (case u0 => wtm_at "sset"))
  | ((with_reducible refine' i_ixLI (i := ?u0) ?u1 ?u2 ?u3 ?uq); (case u1 => wtm_at "dp"); (case u2 => wtm_at "ex"); (case u3 => exact rfl))
  | ((with_reducible refine' i_ixL (d := ?u0) ?u1 ?u2 ?u3 (fun xu hxu => ?uq)); (case u1 => wtm_at "dp"); (case u2 => wtm_at "ex"); (case u3 => exact rfl))
  | ((with_reducible refine' i_qlenT ?u0 ?uq); (case u0 => wtm_at "dp"))
  | ((with_reducible refine' i_qlenL ?u0 ?uq); (case u0 => wtm_at "dp"))
  | ((with_reducible refine' i_gtup ?u0 ?u1 ?u2 (fun gvs gdp => ?uq)); (case u0 => wtm_at "dp"); (case u1 => wtm_at "ex"); (case u2 => exact rfl))
  | ((with_reducible refine' i_glst ?u0 ?u1 ?u2 (fun gvs gdp => ?uq)); (case u0 => wtm_at "dp"); (case u1 => wtm_at "ex"); (case u2 => exact rfl))
  | ((with_reducible refine' i_gconsI ?u0 (fun gr gh => ?uq)); (case u0 => with_reducible assumption))
  | ((with_reducible refine' i_gconsA ?u0 (fun gv gr gh1 gh2 => ?uq)); (case u0 => with_reducible assumption))
  | ((with_reducible refine' i_gnilA ?u0 ?uq); (case u0 => with_reducible assumption))
  | ((with_reducible refine' i_isiI ?u0 ?uq); (case u0 => wtm_at "dp"))
  | ((with_reducible refine' i_isiB ?u0 ?uq); (case u0 => wtm_at "dp"))
  | ((with_reducible refine' i_isiT ?u0 ?uq); (case u0 => wtm_at "dp"))
  | ((with_reducible refine' i_isiS ?u0 ?uq); (case u0 => wtm_at "dp"))
  | ((with_reducible refine' i_isiL ?u0 ?uq); (case u0 => wtm_at "dp"))
  | ((with_reducible refine' i_eqD ?u0 ?u1 ?u2 ?u3 ?uq); (case u0 => wtm_at "dp"); (case u1 => wtm_at "dp"); (case u2 => wtm_at "shaped"); (case u3 => wtm_at "shaped"))
  | ((with_reducible refine' i_neD ?u0 ?u1 ?u2 ?u3 ?uq); (case u0 => wtm_at "dp"); (case u1 => wtm_at "dp"); (case u2 => wtm_at "shaped"); (case u3 => wtm_at "shaped"))
  | wtm_at "st2"
  | wtm_at "use")
local macro_rules | `(tactic| wtm_at "go") => `(tactic| repeat' (wtm_at "st"))
local macro_rules | `(tactic| wtm_at "go0") => `(tactic| ((try dsimp only [L2.cxOf, L2.Cx.nox, L2.Cx.wish, L2.Cx.tr, L2.Cx.blk]); (try wtm_at "nrm"); wtm_at "go"))
local macro_rules | `(tactic| wtm_at "fin") => `(tactic| ((try dsimp only); first | with_reducible assumption | assumption | ((with_reducible refine' Ret.use ?rur ?rue ?rud); (case rur => with_reducible assumption); (case rue => wtm_at "ex"); (case rud => wtm_at "dp"))))
local macro_rules | `(tactic| wtm_at "exh") => `(tactic| first | with_reducible assumption | with_reducible exact Ex.refl _ | with_reducible exact ex_hid | ((with_reducible refine' Ex.trans ?exe (by with_reducible assumption)); (case exe => wtm_at "exh")) | ((with_reducible refine' Ex.trans ?exe (hid_ex (by with_reducible assumption))); (case exe => wtm_at "exh")))
local macro_rules | `(tactic| wtm_at "ex") => `(tactic| first | with_reducible assumption | with_reducible exact Ex.refl _ | with_reducible exact ex_hid | ((with_reducible refine' Ex.trans ?exe (by with_reducible assumption)); (case exe => wtm_at "ex")) | ((with_reducible refine' Ex.trans ?exe (hid_ex (by with_reducible assumption))); (case exe => wtm_at "ex")) | ((with_reducible refine' Ex.trans ?exe ex_hid); (case exe => wtm_at "exh")))
local macro_rules | `(tactic| wtm_at "bag") => `(tactic| first | with_reducible assumption | ((with_reducible refine' Bag.mono ?bgm (by with_reducible assumption)); (case bgm => wtm_at "bag")))
local macro_rules | `(tactic| wtm_at "hs") => `(tactic| first | with_reducible assumption | ((with_reducible refine' hid_tup ?hb ?hp); (case hp => with_reducible assumption); (case hb => wtm_at "bag")) | ((with_reducible refine' hid_new ?hb ?hn ?hp); (case hp => with_reducible assumption); (case hn => with_reducible assumption); (case hb => wtm_at "bag")) | ((with_reducible refine' ex_at ?exe (by with_reducible assumption)); (case exe => wtm_at "ex")))
local macro_rules | `(tactic| wtm_at "st2") => `(tactic| first
  | ((with_reducible refine' i_mulC ?u0 ?uq); (case u0 => first | exact cmul_l (by decide) | exact cmul_r (by decide)))
  | ((with_reducible refine' i_ixLr (v := ?u0) ?u1 ?u2 ?uq); (case u1 => with_reducible assumption); (case u2 => exact rfl))
  | (with_reducible refine' i_sub ?uq)
  | ((with_reducible refine' i_mkL ?u0 (fun np nH nfr nhe nhp => ?uq)); (case u0 => exact Nat.le_of_ble_eq_true rfl))
  | ((with_reducible refine' i_setL (n := ?u0) ?u1 ?u2 (fun sH sh se => ?uq)); (case u1 => with_reducible assumption); (case u2 => exact rfl))
  | (with_reducible refine' i_sl ?uq)
  | (with_reducible refine' i_nopart ?uq)
  | (with_reducible refine' i_part ?uq)
  | (with_reducible refine' i_part1 ?uq))
local macro_rules | `(tactic| wtm_at "sz2") => `(tactic| ((with_reducible refine' sz_fmod ?sz1 ?sz2); (case sz1 => wtm_at "nz"); (case sz2 => wtm_at "sz")))
local macro_rules | `(tactic| wtm_at "stb") => `(tactic| first
  | ((with_reducible refine' i_mkTB ?u0 ?u1 (fun np nH nhe nhb nhp => ?uq)); (case u0 => exact Nat.le_of_ble_eq_true rfl); (case u1 => wtm_at "bag"))
  | ((with_reducible refine' i_mkLB ?u0 ?u1 (fun np nH nfr nhe nhb nhp => ?uq)); (case u0 => exact Nat.le_of_ble_eq_true rfl); (case u1 => wtm_at "bag"))
  | wtm_at "st")
local macro_rules | `(tactic| wtm_at "gob") => `(tactic| repeat' (wtm_at "stb"))
local macro_rules | `(tactic| wtm_at "gob0") => `(tactic| ((try dsimp only [L2.cxOf, L2.Cx.nox, L2.Cx.wish, L2.Cx.tr, L2.Cx.blk]); (try wtm_at "nrm"); wtm_at "gob"))
local macro_rules | `(tactic| wtm_at "st") => `(tactic| first | ((with_reducible refine' i_ixTS (z := ?u0) ?u1 ?u2 ?u3 ?uq); (case u1 => wtm_at "dp"); (case u2 => wtm_at "ex"); (case u3 => exact rfl)) | fail)
local macro_rules | `(tactic| wtm_at "st2") => `(tactic| first | ((with_reducible refine' i_eqST ?u0 ?uq); (case u0 => with_reducible rfl)) | ((with_reducible refine' i_eqSF ?u0 ?uq); (case u0 => decide +kernel)) | ((with_reducible refine' i_neST ?u0 ?uq); (case u0 => with_reducible rfl)) | ((with_reducible refine' i_neSF ?u0 ?uq); (case u0 => decide +kernel)) | fail)
section
variable {P : Program} {w : World} {K : PySem.W.Frag} {mg : Str → Option Value} {base : Heap} {H H' : Hp} {Q : VK} {E : XK} {v1 v2 v3 v4 v5 : V}
theorem exN_unhid {b : Addr} {H0 H H' : Hp} (h0 : H0 b = none) (e : Ex H0 H) (e2 : ExtN (hid b H) (hid b H')) : ExtN H0 H' := fun a o h n => (of_hid (e2 a o (hid_of (e a o h) (ne_of_none h h0)) n)).2
theorem root_empty {s : Fs} (h : Root s) (he : fsE s = []) : s = ⟨0, mkLf []⟩ := by
  obtain ⟨k, t⟩ := s
  cases k with
  | zero =>
    have he : (t : List En) = [] := he
    exact congrArg (Sigma.mk 0) he
  | succ k => exact absurd he (low_ents (n := k + 1) ⟨h.1, h.2.2 (Nat.succ_pos k), h.2.1⟩)
def sp_law (K : PySem.W.Frag) (T : List (Addr × Str)) : Sp := A1 fun v1 H Q => ∃ (a : Addr) (ns : List Int), v1 = .ref a ∧ SqL K H a (ns.map V.int) ∧ Tabs T H ∧ ∀ H2, Q (.bl true) H2
abbrev s_law : Stmt := top 73
theorem sc_law : FnScope ["_law_script", "_law_at", "_law_bag_here"] ["_law_script"] (defScope s_law) := ⟨rfl, rfl, rfl, by decide +kernel, rfl, by decide +kernel, by decide +kernel⟩
theorem ok_law {f : Addr} {fd : FuncData} (F : FnP K "law" s_law f fd) (g : G mg) {T : List (Addr × Str)} {CT CK : Addr} (mT : mg "Tree" = some (.ref CT)) (ct : Cls K CT) {fPr fPl fT : Addr} {fdPr fdPl fdT : FuncData} (mPr : Meth K CT "pairs" fPr) (FPr : FnOk P w K mg base CX0 4 fPr fdPr ["self", "other"] (sp_Tree_pairs K CT)) (bPr : Binds K fdPr ["self", "other"] []) (mPl : Meth K CT "pairs_looked" fPl) (FPl : FnOk P w K mg base CX0 4 fPl fdPl ["self", "other"] (sp_Tree_pairs_looked K CT)) (bPl : Binds K fdPl ["self", "other"] []) (MT : Mk K CT fT) (FT : FnOk P w K mg base CX0 14 fT fdT ["self", "entries"] (sp_Tree_init K CT CK T)) (bT : Binds K fdT ["self", "entries"] []) {dsT : List Value} (dT : Vals [.ref (dfT K)] dsT) (bT0 : Binds K fdT ["self", "entries"] dsT) (dK : ∀ H : Hp, SqT K H (dfT K) []) (c__law_bag : Cl P w K mg base 1 "_law_bag" (sp__law_bag K)) (c__law_right : Cl P w K mg base 17 "_law_right" (sp__law_right K T)) : FnOk P w K mg base CX0 18 f fd ["_law_script"] (sp_law K T) := by
  have nd := sc_law.nd
  refine F.ok sc_law (fun vs H Q E h => h.len) (fun cdv A outer s H vs Q E hr h => ?_)
  obtain ⟨v1, rfl, h⟩ := h
  refine ⟨_, PSs.nox (pss_cons (ps_for PassesOwn.never rfl (pi_range1 (by rfl) g.f_range (pa_cons (pe_callB (call_qmax2 rfl) (by rfl) g.f_max boot_max (pa_cons pe_int (pa_cons (pe_callB (call_qmin2 rfl) (by rfl) g.f_min boot_min (pa_cons pe_int (pa_cons (pe_callB call_qlen (by rfl) g.f_len boot_len (pa_cons (pv 0) pa_nil)) pa_nil))) pa_nil))) pa_nil)) (pg_name (i := 1) nd rfl (Or.inl rfl)) (pss_cons (ps_set (i := 2) nd rfl (Or.inl rfl) (pc c__law_bag hr (by first | decide | omega) (by rfl) (pa_cons (pv 0) (pa_cons (pv 1) pa_nil)))) (pss_one (ps_if (PW.pt (pw_or (pt_not (pt_val (pc c__law_right hr (by first | decide | omega) (by rfl) (pa_cons (pv 2) pa_nil)))) (pw_or1 (pt_not (pt_val (pc c__law_right hr (by first | decide | omega) (by rfl) (pa_cons (pv 2) pa_nil))))))) (pss_one (ps_ret pe_bl)) pss_nil)))) (pss_one (ps_ret (pe_and (pe_cmpR (op_eqD hr.units) (pe_meth (pe_make0 MT FT (hr.mono (by decide)) (by rfl) mT bT0 dT pass0) ct mPr FPr (hr.mono (by decide)) bPr .nil pass0 (pa_cons (pe_make MT FT (hr.mono (by decide)) (by rfl) mT bT .nil pass0 (pa_cons (pe_tup (pa_cons (pe_tup (pa_cons pe_int (pa_cons (pe_tup (pa_cons pe_int (pa_cons pe_int (pa_cons pe_int (pa_cons pe_int pa_nil))))) pa_nil))) pa_nil)) pa_nil)) pa_nil)) (pe_tup pa_nil) (nomark _)) (pe_one (pe_cmpR (op_eqD hr.units) (pe_meth (pe_make0 MT FT (hr.mono (by decide)) (by rfl) mT bT0 dT pass0) ct mPl FPl (hr.mono (by decide)) bPl .nil pass0 (pa_cons (pe_make0 MT FT (hr.mono (by decide)) (by rfl) mT bT0 dT pass0) pa_nil)) pe_int (nomark _))))))), ?_⟩
  obtain ⟨a, ns, rfl, hS, hT, q⟩ := h
  wtm_at "go0"
  refine i_forRU ?_
  wtm_at "go"
  refine i_qlenS hS ?_
  wtm_at "go"
  refine i_forRK (by repeat' split <;> omega) (fun i σ' H' => ∃ c1 c2 : Option V, σ' = [some (.ref a), c1, c2] ∧ ExtN H H' ∧ Tabs T H') ⟨_, _, rfl, ExtN.refl _, hT⟩ (fun i σ' H' hi p => ?_) (fun σ' H' p => ?_)
  · obtain ⟨c1, c2, rfl, e1, t1⟩ := p
    have hi2 : (i : Int) < 100 := by
      revert hi
      repeat' split <;> omega
    wtm_at "nrm"
    wtm_at "go"
    refine use__law_bag (sqlN e1 hS) (by omega) hi2 (fun b H2 nb eb bb => ?_)
    wtm_at "go"
    refine use__law_right bb (t1.ext eb) (fun H3 e3 b3 t3 => ?_)
    wtm_at "go"
    refine use__law_right b3 t3 (fun H4 e4 b4 t4 => ?_)
    wtm_at "go"
    exact ⟨_, _, rfl, e1.trans (exN_unhid nb eb (e3.trans e4)), t4⟩
  · obtain ⟨c1, c2, rfl, e1, t1⟩ := p
    clear hT hS
    wtm_at "go"
    refine i_methU ?_
    refine i_mkU ?_
    wtm_at "go"
    intro x dx nx ndx nex
    have ea : Ex H' (upd (upd H' dx (.own x)) x (.ins CT dx [])) := Evl.Ex.mut (Ex.new ndx) nx
    refine ⟨_, _, rfl, x, dx, H', fun s' => Root s' ∧ (fsE s').Perm [], rfl, ea, nx, upd_same, t1.ext ea, .inr ⟨[], .tup (dK _) .nil, fun e he => (by cases he), List.nodup_nil, Nat.zero_le _, fun s' r p => ⟨r, p⟩⟩, fun H2 s' hP e2 t2 T2 => ⟨rfl, ?_⟩⟩
    obtain ⟨r2, p2⟩ := hP
    have es2 := root_empty r2 (List.Perm.eq_nil p2)
    subst es2
    obtain ⟨fsb, fvb, mb1, mb2, mb3, mb4⟩ := id T2
    refine ⟨x, dx, fsb, rfl, mb1, mb4 "pairs" (by decide +kernel) (by decide +kernel), ?_⟩
    refine i_cons (i_mkU ?_)
    wtm_at "go"
    rename_i q1 G1 f1 k1 q2 G2 f2 k2 q3 G3 f3 k3
    intro y dy ny ndy ney
    have ed : Ex G3 (upd (upd G3 dy (.own y)) y (.ins CT dy [])) := Evl.Ex.mut (Ex.new ndy) ny
    have t3 := t2.ext ((f1.trans f2).trans f3)
    refine ⟨_, _, rfl, y, dy, G3, fun s' => Root s' ∧ (fsE s').Perm [((1, 0, 0, 0, 0) : En)], rfl, ed, ny, upd_same, t3.ext ed, .inr ⟨[(1, 0, 0, 0, 0)], dpMono ed (.tup (Evl.st_of k3) (.cons (.tup (Evl.st_of (f3 _ _ k2)) (.cons (.int _) (.cons (.tup (Evl.st_of (f3 _ _ (f2 _ _ k1))) (.cons (.int _) (.cons (.int _) (.cons (.int _) (.cons (.int _) .nil))))) .nil))) .nil)), fun e he => ?_, List.nodup_cons.mpr ⟨List.not_mem_nil, List.nodup_nil⟩, Nat.le_of_ble_eq_true rfl, fun s' r p => ⟨r, p⟩⟩, fun H4 t' hP e4 t4 T4 => ⟨rfl, ?_⟩⟩
    · rcases List.mem_singleton.mp he with rfl
      exact ⟨by decide, by decide⟩
    obtain ⟨r4, p4⟩ := hP
    wtm_at "go"
    refine ⟨_, _, rfl, x, y, ⟨0, mkLf []⟩, t', rfl, rfl, (T2.monoN ((exN ((f1.trans f2).trans f3)).trans e4)).at_, T4.at_, r2, r4, Nat.zero_le _, root_le r4 (by rw [p4.length_eq]; exact Nat.le_of_ble_eq_true rfl), fun ms mp ml v5 H5 e5 hv5 => ?_⟩
    have ems : ms = [] := by
      have : dueP (⟨0, mkLf []⟩, t') = [] := rfl
      rw [this] at mp
      exact List.Perm.eq_nil mp
    subst ems
    have t5 := t4.ext e5
    wtm_at "go"
    rename_i q6 H6 e6 k6
    have t6 := t5.ext e6
    refine i_methU ?_
    refine i_mkU ?_
    wtm_at "go"
    intro x7 dx7 nx7 ndx7 nex7
    have e7 : Ex H6 (upd (upd H6 dx7 (.own x7)) x7 (.ins CT dx7 [])) := Evl.Ex.mut (Ex.new ndx7) nx7
    refine ⟨_, _, rfl, x7, dx7, H6, fun s' => Root s' ∧ (fsE s').Perm [], rfl, e7, nx7, upd_same, t6.ext e7, .inr ⟨[], .tup (dK _) .nil, fun e he => (by cases he), List.nodup_nil, Nat.zero_le _, fun s' r p => ⟨r, p⟩⟩, fun H8 s' hP e8 t8 T8 => ⟨rfl, ?_⟩⟩
    obtain ⟨r8, p8⟩ := hP
    have es8 := root_empty r8 (List.Perm.eq_nil p8)
    subst es8
    obtain ⟨fsc, fvc, mc1, mc2, mc3, mc4⟩ := id T8
    refine ⟨x7, dx7, fsc, rfl, mc1, mc4 "pairs_looked" (by decide +kernel) (by decide +kernel), ?_⟩
    refine i_cons (i_mkU ?_)
    wtm_at "go"
    intro x9 dx9 nx9 ndx9 nex9
    have e9 : Ex H8 (upd (upd H8 dx9 (.own x9)) x9 (.ins CT dx9 [])) := Evl.Ex.mut (Ex.new ndx9) nx9
    refine ⟨_, _, rfl, x9, dx9, H8, fun s' => Root s' ∧ (fsE s').Perm [], rfl, e9, nx9, upd_same, t8.ext e9, .inr ⟨[], .tup (dK _) .nil, fun e he => (by cases he), List.nodup_nil, Nat.zero_le _, fun s' r p => ⟨r, p⟩⟩, fun H10 s' hP e10 t10 T10 => ⟨rfl, ?_⟩⟩
    obtain ⟨r10, p10⟩ := hP
    have es10 := root_empty r10 (List.Perm.eq_nil p10)
    subst es10
    wtm_at "go"
    refine ⟨_, _, rfl, x7, x9, ⟨0, mkLf []⟩, ⟨0, mkLf []⟩, rfl, rfl, (T8.monoN e10).at_, T10.at_, r8, r10, Nat.zero_le _, Nat.zero_le _, ret_int fun H11 e11 => ?_⟩
    have e0 : totP (⟨0, mkLf []⟩, ⟨0, mkLf []⟩) = 0 := rfl
    rw [e0]
    wtm_at "go"
    exact q _
end
end Wb

namespace Wb
open PySem PySem.Spec PyProof.Rows L2
theorem fnOk_no {P : Program} {w : World} {K : PySem.W.Frag} {mg : Str → Option Value} {base : Heap} {k : Nat} {f : Addr} {fd : FuncData} {ps : List Str} {sp : Sp} (h : ∀ vs H Q E, sp vs H Q E → False) : FnOk P w K mg base CX0 k f fd ps sp :=
  ⟨fun vs H Q E q => (h vs H Q E q).elim, fun A outer s H args us vs Q E _ _ _ _ q => (h vs H Q E q).elim⟩
theorem scl_ok {K : PySem.W.Frag} {C : Addr} (h : sclB K C = true) : L2.SCls K C := by
  unfold sclB at h
  obtain ⟨h1, h⟩ := Bool.and_eq_true_iff.mp h
  obtain ⟨h2, h⟩ := Bool.and_eq_true_iff.mp h
  obtain ⟨h3, h4⟩ := Bool.and_eq_true_iff.mp h
  exact ⟨h1, h2, h3, He.eqO_ok h4⟩
theorem slot_ok {K : PySem.W.Frag} {C : Addr} {f : Str} (h : slotB K C f = true) : L2.Slt K C f 0 (He.ma K C f) := by
  unfold slotB at h
  obtain ⟨h1, h⟩ := Bool.and_eq_true_iff.mp h
  obtain ⟨h2, h⟩ := Bool.and_eq_true_iff.mp h
  obtain ⟨h3, h⟩ := Bool.and_eq_true_iff.mp h
  obtain ⟨h4, h5⟩ := Bool.and_eq_true_iff.mp h
  exact ⟨He.eqO_ok h1, He.eqO_ok h2, of_decide_eq_true h3, of_decide_eq_true h5, of_decide_eq_true h4, by decide⟩
structure ExF (K : PySem.W.Frag) : Prop where
  scl : L2.SCls K (He.ga K "Kept")
  slt : L2.Slt K (He.ga K "Kept") "own_list" 0 (He.ma K (He.ga K "Kept") "own_list")
  isi : SlX.SIsi K (He.ga K "Kept")
  kt : PySem.W.kitOne K (.ref (He.ga K "Kept")) (.ref (He.ga K "Kept")) = some true
  ku : PySem.W.kitOne K (.type "tuple") (.ref (He.ga K "Kept")) = some false
  cr : ClX.CRead K (He.ga K "Tree") (.type "type")
  cm : ClX.CMet K (He.ga K "Tree") (.type "type") "told" (He.ma K (He.ga K "Tree") "told") (He5.wf K (He.ga K "Tree") "classmethod" "told")
  df : ∀ H : Hp, SqT K H (dfT K) []
  ti : TIs K (He.ga K "Tree")
theorem exB_ok {K : PySem.W.Frag} (h : exB K = true) {f f2 : Addr} (mk : Mk K (He.ga K "Kept") f) (mkT : Mk K (He.ga K "Tree") f2) (ct : Cls K (He.ga K "Tree")) : ExF K := by
  unfold exB at h
  obtain ⟨h, hw⟩ := Bool.and_eq_true_iff.mp h
  obtain ⟨hw, hf⟩ := Bool.and_eq_true_iff.mp hw
  obtain ⟨h, ht⟩ := Bool.and_eq_true_iff.mp h
  unfold exT at ht
  obtain ⟨t1, t2⟩ := Bool.and_eq_true_iff.mp ht
  unfold exK at h
  obtain ⟨h, k9⟩ := Bool.and_eq_true_iff.mp h
  obtain ⟨h, k8⟩ := Bool.and_eq_true_iff.mp h
  obtain ⟨h, k7⟩ := Bool.and_eq_true_iff.mp h
  obtain ⟨h, k6⟩ := Bool.and_eq_true_iff.mp h
  obtain ⟨h, k5⟩ := Bool.and_eq_true_iff.mp h
  obtain ⟨h, k4⟩ := Bool.and_eq_true_iff.mp h
  obtain ⟨h, k3⟩ := Bool.and_eq_true_iff.mp h
  obtain ⟨k1, k2⟩ := Bool.and_eq_true_iff.mp h
  obtain ⟨w1, w2⟩ := He5.wrapB_ok hw
  refine ⟨scl_ok k1, slot_ok k2, ⟨He.eqO_ok k8, by rfl, by rfl, mro_obj mk.makes⟩, of_decide_eq_true k5, of_decide_eq_true k4, ⟨k3, ?_⟩, ⟨w1, w2, hf⟩, fun H => ?_, ⟨ct, He.eqO_ok t1, by rfl, by rfl, mro_obj mkT.makes, of_decide_eq_true t2⟩⟩
  · show (PySem.W.typeIn K (.ref (He.ga K "Tree"))).bind (fun t => PySem.W.findIn K t "__getattribute__") = _
    rw [of_decide_eq_true k6]
    show PySem.W.findIn K (.type "type") "__getattribute__" = _
    first | rfl | decide +kernel
  · split at k9
    · rename_i c its n sl e
      obtain ⟨e1, e2⟩ := Bool.and_eq_true_iff.mp k9
      have e1 := of_decide_eq_true e1
      have e2 := of_decide_eq_true e2
      subst e1
      have e3 : its.toList = [] := List.eq_nil_of_length_eq_zero (by rw [Array.length_toList]; exact e2)
      exact .inr ⟨_, its, n, e, rfl, rfl, by rw [e2]; exact Nat.zero_le _, by rw [e3]; exact .nil⟩
    · cases k9
theorem facts {w : World} {K : PySem.W.Frag} {h : Heap} {mg : Str → Option Value} {f : Addr} (X : K.In h) (G0 : h.Ns mainGlobals mg) (hfa : mg ("law" : Str) = some (.ref f)) (cx : SaysY h K) :
    ∃ fd : FuncData, (∀ (s : Shared) (v : Value), BindsTo s fd ⟨[v], []⟩ [("_law_script", v)]) ∧ ∀ base : Heap, K.In base → base.Ns mainGlobals mg → LamX.TabB base mg (He.cT K ("halves", none)).1 (He.cT K ("halves", none)).2 → FnOk PySem.Challenge.pw_wherebase_k52_whole_pairs_of_two_trees w K mg base CX0 18 f fd ["_law_script"] (sp_law K [((He.cT K ("halves", none)).2, hlq)]) := by
  have c : He5.SaysA fa fn K := cx.d
  obtain ⟨d_is_integer, F_is_integer⟩ := c.def_ 0 (d := mkD "is_integer" 9) rfl
  obtain ⟨d_is_box, F_is_box⟩ := c.def_ 1 (d := mkD "is_box" 15) rfl
  obtain ⟨d_require_box, F_require_box⟩ := c.def_ 2 (d := mkD "require_box" 16) rfl
  obtain ⟨d_do_meet_in, F_do_meet_in⟩ := c.def_ 3 (d := mkD "do_meet_in" 17) rfl
  obtain ⟨d_joint_in, F_joint_in⟩ := c.def_ 4 (d := mkD "joint_in" 19) rfl
  obtain ⟨d_wider, F_wider⟩ := c.def_ 5 (d := mkD "wider" 20) rfl
  obtain ⟨d_is_entry, F_is_entry⟩ := c.def_ 6 (d := mkD "is_entry" 27) rfl
  obtain ⟨d_is_built, F_is_built⟩ := c.def_ 7 (d := mkD "is_built" 28) rfl
  obtain ⟨d_is_branch, F_is_branch⟩ := c.def_ 8 (d := mkD "is_branch" 29) rfl
  obtain ⟨d_entries_in, F_entries_in⟩ := c.def_ 9 (d := mkD "entries_in" 30) rfl
  obtain ⟨d_depths_in, F_depths_in⟩ := c.def_ 10 (d := mkD "depths_in" 31) rfl
  obtain ⟨d_forms_in, F_forms_in⟩ := c.def_ 11 (d := mkD "forms_in" 32) rfl
  obtain ⟨d_branches_in, F_branches_in⟩ := c.def_ 12 (d := mkD "branches_in" 33) rfl
  obtain ⟨d_has_size, F_has_size⟩ := c.def_ 13 (d := mkD "has_size" 34) rfl
  obtain ⟨d_has_box, F_has_box⟩ := c.def_ 14 (d := mkD "has_box" 35) rfl
  obtain ⟨d_flaws_of, F_flaws_of⟩ := c.def_ 15 (d := mkD "flaws_of" 36) rfl
  obtain ⟨d_branch_of, F_branch_of⟩ := c.def_ 16 (d := mkD "branch_of" 37) rfl
  obtain ⟨d_box_at, F_box_at⟩ := c.def_ 17 (d := mkD "box_at" 38) rfl
  obtain ⟨d_centre_of, F_centre_of⟩ := c.def_ 18 (d := mkD "centre_of" 39) rfl
  obtain ⟨d_halves, F_halves⟩ := c.def_ 19 (d := mkD "halves" 40) rfl
  obtain ⟨d_grows_by, F_grows_by⟩ := c.def_ 20 (d := mkD "grows_by" 41) rfl
  obtain ⟨d_put_into, F_put_into⟩ := c.def_ 21 (d := mkD "put_into" 42) rfl
  obtain ⟨d_fitting, F_fitting⟩ := c.def_ 22 (d := mkD "fitting" 43) rfl
  obtain ⟨d_with_entry, F_with_entry⟩ := c.def_ 23 (d := mkD "with_entry" 44) rfl
  obtain ⟨d_form_with, F_form_with⟩ := c.def_ 24 (d := mkD "form_with" 45) rfl
  obtain ⟨d_require_entries, F_require_entries⟩ := c.def_ 25 (d := mkD "require_entries" 46) rfl
  obtain ⟨d_items_of, F_items_of⟩ := c.def_ 26 (d := mkD "items_of" 48) rfl
  obtain ⟨d_pairs_walk, F_pairs_walk⟩ := c.def_ 27 (d := mkD "pairs_walk" 49) rfl
  obtain ⟨d_is_any_met, F_is_any_met⟩ := c.def_ 28 (d := mkD "is_any_met" 50) rfl
  obtain ⟨d_require_tree, F_require_tree⟩ := c.def_ 29 (d := mkD "require_tree" 54) rfl
  obtain ⟨d__law_bag, F__law_bag⟩ := c.def_ 30 (d := mkD "_law_bag" 57) rfl
  obtain ⟨d__law_draw, F__law_draw⟩ := c.def_ 31 (d := mkD "_law_draw" 58) rfl
  obtain ⟨d__law_one_of, F__law_one_of⟩ := c.def_ 32 (d := mkD "_law_one_of" 59) rfl
  obtain ⟨d__law_shuffled, F__law_shuffled⟩ := c.def_ 33 (d := mkD "_law_shuffled" 60) rfl
  obtain ⟨d__law_boxes_in, F__law_boxes_in⟩ := c.def_ 34 (d := mkD "_law_boxes_in" 61) rfl
  obtain ⟨d__law_small_box, F__law_small_box⟩ := c.def_ 35 (d := mkD "_law_small_box" 62) rfl
  obtain ⟨d__law_joint_box, F__law_joint_box⟩ := c.def_ 36 (d := mkD "_law_joint_box" 63) rfl
  obtain ⟨d__law_apart_word, F__law_apart_word⟩ := c.def_ 37 (d := mkD "_law_apart_word" 64) rfl
  obtain ⟨d__law_entries_in, F__law_entries_in⟩ := c.def_ 38 (d := mkD "_law_entries_in" 65) rfl
  obtain ⟨d__law_drawn_entries, F__law_drawn_entries⟩ := c.def_ 39 (d := mkD "_law_drawn_entries" 66) rfl
  obtain ⟨d__law_lots_of, F__law_lots_of⟩ := c.def_ 40 (d := mkD "_law_lots_of" 67) rfl
  obtain ⟨d__law_drawn_form, F__law_drawn_form⟩ := c.def_ 41 (d := mkD "_law_drawn_form" 68) rfl
  obtain ⟨d__law_box_with, F__law_box_with⟩ := c.def_ 42 (d := mkD "_law_box_with" 69) rfl
  obtain ⟨d__law_next_two, F__law_next_two⟩ := c.def_ 43 (d := mkD "_law_next_two" 70) rfl
  obtain ⟨d__law_compared, F__law_compared⟩ := c.def_ 44 (d := mkD "_law_compared" 71) rfl
  obtain ⟨d__law_right, F__law_right⟩ := c.def_ 45 (d := mkD "_law_right" 72) rfl
  obtain ⟨d_law, F_law⟩ := c.def_ 46 (d := mkD "law" 73) rfl
  obtain ⟨d_Tree___init__, F_Tree___init__⟩ := c.def_ 47 (d := mkM "Tree" "__init__" "Tree.__init__" 51 0 [.adr (He.dflAt ("Tree", some "__init__") 0)]) rfl
  obtain ⟨d_Tree_told_form, F_Tree_told_form⟩ := c.def_ 48 (d := mkM "Tree" "told_form" "Tree.told_form" 51 1 []) rfl
  obtain ⟨d_Tree_pairs, F_Tree_pairs⟩ := c.def_ 49 (d := mkM "Tree" "pairs" "Tree.pairs" 51 12 []) rfl
  obtain ⟨d_Tree_pairs_looked, F_Tree_pairs_looked⟩ := c.def_ 50 (d := mkM "Tree" "pairs_looked" "Tree.pairs_looked" 51 13 []) rfl
  obtain ⟨d_Kept___init__, F_Kept___init__⟩ := c.def_ 51 (d := mkM "Kept" "__init__" "Kept.__init__" 52 1 []) rfl
  obtain ⟨d_Tree_told, F_Tree_told⟩ := c.def_ 52 (d := mkW "classmethod" "Tree" "told" "Tree.told" 51 2) rfl
  have m_is_integer := He.glo_ok X G0 (c.fact 0 (f := .glo "is_integer") rfl)
  have m_is_box := He.glo_ok X G0 (c.fact 1 (f := .glo "is_box") rfl)
  have m_require_box := He.glo_ok X G0 (c.fact 2 (f := .glo "require_box") rfl)
  have m_do_meet_in := He.glo_ok X G0 (c.fact 3 (f := .glo "do_meet_in") rfl)
  have m_joint_in := He.glo_ok X G0 (c.fact 4 (f := .glo "joint_in") rfl)
  have m_wider := He.glo_ok X G0 (c.fact 5 (f := .glo "wider") rfl)
  have m_is_entry := He.glo_ok X G0 (c.fact 6 (f := .glo "is_entry") rfl)
  have m_is_built := He.glo_ok X G0 (c.fact 7 (f := .glo "is_built") rfl)
  have m_is_branch := He.glo_ok X G0 (c.fact 8 (f := .glo "is_branch") rfl)
  have m_entries_in := He.glo_ok X G0 (c.fact 9 (f := .glo "entries_in") rfl)
  have m_depths_in := He.glo_ok X G0 (c.fact 10 (f := .glo "depths_in") rfl)
  have m_forms_in := He.glo_ok X G0 (c.fact 11 (f := .glo "forms_in") rfl)
  have m_branches_in := He.glo_ok X G0 (c.fact 12 (f := .glo "branches_in") rfl)
  have m_has_size := He.glo_ok X G0 (c.fact 13 (f := .glo "has_size") rfl)
  have m_has_box := He.glo_ok X G0 (c.fact 14 (f := .glo "has_box") rfl)
  have m_flaws_of := He.glo_ok X G0 (c.fact 15 (f := .glo "flaws_of") rfl)
  have m_branch_of := He.glo_ok X G0 (c.fact 16 (f := .glo "branch_of") rfl)
  have m_box_at := He.glo_ok X G0 (c.fact 17 (f := .glo "box_at") rfl)
  have m_centre_of := He.glo_ok X G0 (c.fact 18 (f := .glo "centre_of") rfl)
  have m_halves := He.glo_ok X G0 (c.fact 19 (f := .glo "halves") rfl)
  have m_grows_by := He.glo_ok X G0 (c.fact 20 (f := .glo "grows_by") rfl)
  have m_put_into := He.glo_ok X G0 (c.fact 21 (f := .glo "put_into") rfl)
  have m_fitting := He.glo_ok X G0 (c.fact 22 (f := .glo "fitting") rfl)
  have m_with_entry := He.glo_ok X G0 (c.fact 23 (f := .glo "with_entry") rfl)
  have m_form_with := He.glo_ok X G0 (c.fact 24 (f := .glo "form_with") rfl)
  have m_require_entries := He.glo_ok X G0 (c.fact 25 (f := .glo "require_entries") rfl)
  have m_items_of := He.glo_ok X G0 (c.fact 26 (f := .glo "items_of") rfl)
  have m_pairs_walk := He.glo_ok X G0 (c.fact 27 (f := .glo "pairs_walk") rfl)
  have m_is_any_met := He.glo_ok X G0 (c.fact 28 (f := .glo "is_any_met") rfl)
  have m_require_tree := He.glo_ok X G0 (c.fact 29 (f := .glo "require_tree") rfl)
  have m__law_bag := He.glo_ok X G0 (c.fact 30 (f := .glo "_law_bag") rfl)
  have m__law_draw := He.glo_ok X G0 (c.fact 31 (f := .glo "_law_draw") rfl)
  have m__law_one_of := He.glo_ok X G0 (c.fact 32 (f := .glo "_law_one_of") rfl)
  have m__law_shuffled := He.glo_ok X G0 (c.fact 33 (f := .glo "_law_shuffled") rfl)
  have m__law_boxes_in := He.glo_ok X G0 (c.fact 34 (f := .glo "_law_boxes_in") rfl)
  have m__law_small_box := He.glo_ok X G0 (c.fact 35 (f := .glo "_law_small_box") rfl)
  have m__law_joint_box := He.glo_ok X G0 (c.fact 36 (f := .glo "_law_joint_box") rfl)
  have m__law_apart_word := He.glo_ok X G0 (c.fact 37 (f := .glo "_law_apart_word") rfl)
  have m__law_entries_in := He.glo_ok X G0 (c.fact 38 (f := .glo "_law_entries_in") rfl)
  have m__law_drawn_entries := He.glo_ok X G0 (c.fact 39 (f := .glo "_law_drawn_entries") rfl)
  have m__law_lots_of := He.glo_ok X G0 (c.fact 40 (f := .glo "_law_lots_of") rfl)
  have m__law_drawn_form := He.glo_ok X G0 (c.fact 41 (f := .glo "_law_drawn_form") rfl)
  have m__law_box_with := He.glo_ok X G0 (c.fact 42 (f := .glo "_law_box_with") rfl)
  have m__law_next_two := He.glo_ok X G0 (c.fact 43 (f := .glo "_law_next_two") rfl)
  have m__law_compared := He.glo_ok X G0 (c.fact 44 (f := .glo "_law_compared") rfl)
  have m__law_right := He.glo_ok X G0 (c.fact 45 (f := .glo "_law_right") rfl)
  have m_law := He.glo_ok X G0 (c.fact 46 (f := .glo "law") rfl)
  have m_Tree := He.glo_ok X G0 (c.fact 47 (f := .glo "Tree") rfl)
  have m_Kept := He.glo_ok X G0 (c.fact 48 (f := .glo "Kept") rfl)
  have g : G mg := ⟨He.free_ok X G0 (c.fact 49 (f := .free "len") rfl), He.free_ok X G0 (c.fact 50 (f := .free "abs") rfl), He.free_ok X G0 (c.fact 51 (f := .free "int") rfl), He.free_ok X G0 (c.fact 52 (f := .free "str") rfl), He.free_ok X G0 (c.fact 53 (f := .free "bool") rfl), He.free_ok X G0 (c.fact 54 (f := .free "tuple") rfl), He.free_ok X G0 (c.fact 55 (f := .free "list") rfl), He.free_ok X G0 (c.fact 56 (f := .free "dict") rfl), He.free_ok X G0 (c.fact 57 (f := .free "isinstance") rfl), He.free_ok X G0 (c.fact 58 (f := .free "all") rfl), He.free_ok X G0 (c.fact 59 (f := .free "any") rfl), He.free_ok X G0 (c.fact 60 (f := .free "max") rfl), He.free_ok X G0 (c.fact 61 (f := .free "min") rfl), He.free_ok X G0 (c.fact 62 (f := .free "sum") rfl), He.free_ok X G0 (c.fact 63 (f := .free "sorted") rfl), He.free_ok X G0 (c.fact 64 (f := .free "range") rfl), He.int_ok X G0 (c.fact 66 (f := .int "MAX_ENTRIES" 300) rfl), He.int_ok X G0 (c.fact 67 (f := .int "MOST" 4) rfl), He.int_ok X G0 (c.fact 68 (f := .int "LEAST" 2) rfl), He.str_ok X G0 (c.fact 69 (f := .str "LEAF" "leaf") rfl), He.str_ok X G0 (c.fact 70 (f := .str "NODE" "node") rfl)⟩
  have ct := He.cls_ok (c.fact 71 (f := .cls "Tree") rfl)
  have na := He.noat_ok (c.fact 74 (f := .noat "Tree" "own_form") rfl)
  have nb := He.noat_ok (c.fact 75 (f := .noat "Tree" "own_boxes") rfl)
  have mkT := He.mkr_ok (c.fact 72 (f := .mkr "Tree") rfl)
  have mkK := He.mkr_ok (c.fact 73 (f := .mkr "Kept") rfl)
  have mTF := He.meth_ok (c.fact 76 (f := .meth "Tree" "told_form") rfl)
  have mPr := He.meth_ok (c.fact 77 (f := .meth "Tree" "pairs") rfl)
  have mPl := He.meth_ok (c.fact 78 (f := .meth "Tree" "pairs_looked") rfl)
  have E := exB_ok cx.more mkK mkT ct
  have hcc : d_halves.code = .ref (He.cT K ("halves", none)).1 := by
    obtain ⟨oc, od, dV, kV, doc, pm, an, cdv, ct2, osl, e, lk, hcd, _, _⟩ := F_halves.ex
    obtain ⟨c2, rfl⟩ := He.codeIn_ref hcd
    subst e
    have e2 := He.codeOf_eq (p := ("halves", none)) lk rfl
    show Value.ref c2 = .ref (He.codeOf K ("halves", none))
    rw [e2]
  cases hfa.symm.trans m_law
  have b := FunD.bindsA (ps := ["_law_script"]) F_law fun _ _ _ _ _ _ us hl => match us, hl with | [_], _ => rfl
  refine ⟨d_law, fun s v => b s [v] rfl, fun base _ _ TB => ?_⟩
  have c_is_integer : Cl PySem.Challenge.pw_wherebase_k52_whole_pairs_of_two_trees w K mg base 1 "is_integer" (sp_is_integer K) := ⟨⟨_, _, _, ok_is_integer F_is_integer g  , m_is_integer, F_is_integer.kp, F_is_integer.bindsN (ps := ["value"]) fun _ _ _ _ _ _ us hl => match us, hl with | [_], _ => rfl⟩⟩
  have c_is_box : Cl PySem.Challenge.pw_wherebase_k52_whole_pairs_of_two_trees w K mg base 2 "is_box" (sp_is_box K) := ⟨⟨_, _, _, ok_is_box F_is_box g  c_is_integer, m_is_box, F_is_box.kp, F_is_box.bindsN (ps := ["value"]) fun _ _ _ _ _ _ us hl => match us, hl with | [_], _ => rfl⟩⟩
  have c_require_box : Cl PySem.Challenge.pw_wherebase_k52_whole_pairs_of_two_trees w K mg base 3 "require_box" (sp_require_box K) := ⟨⟨_, _, _, ok_require_box F_require_box g  c_is_box, m_require_box, F_require_box.kp, F_require_box.bindsN (ps := ["value"]) fun _ _ _ _ _ _ us hl => match us, hl with | [_], _ => rfl⟩⟩
  have c_do_meet_in : Cl PySem.Challenge.pw_wherebase_k52_whole_pairs_of_two_trees w K mg base 1 "do_meet_in" (sp_do_meet_in K) := ⟨⟨_, _, _, ok_do_meet_in F_do_meet_in g  , m_do_meet_in, F_do_meet_in.kp, F_do_meet_in.bindsN (ps := ["box", "other_box"]) fun _ _ _ _ _ _ us hl => match us, hl with | [_, _], _ => rfl⟩⟩
  have c_is_entry : Cl PySem.Challenge.pw_wherebase_k52_whole_pairs_of_two_trees w K mg base 3 "is_entry" (sp_is_entry K) := ⟨⟨_, _, _, ok_is_entry F_is_entry g  c_is_integer c_is_box, m_is_entry, F_is_entry.kp, F_is_entry.bindsN (ps := ["value"]) fun _ _ _ _ _ _ us hl => match us, hl with | [_], _ => rfl⟩⟩
  have c_joint_in : Cl PySem.Challenge.pw_wherebase_k52_whole_pairs_of_two_trees w K mg base 1 "joint_in" (sp_joint_in K) := ⟨⟨_, _, _, ok_joint_in F_joint_in g  , m_joint_in, F_joint_in.kp, F_joint_in.bindsN (ps := ["boxes"]) fun _ _ _ _ _ _ us hl => match us, hl with | [_], _ => rfl⟩⟩
  have c_has_size : Cl PySem.Challenge.pw_wherebase_k52_whole_pairs_of_two_trees w K mg base 1 "has_size" (sp_has_size K) := ⟨⟨_, _, _, ok_has_size F_has_size g  , m_has_size, F_has_size.kp, F_has_size.bindsN (ps := ["form", "least"]) fun _ _ _ _ _ _ us hl => match us, hl with | [_, _], _ => rfl⟩⟩
  have c_box_at : Cl PySem.Challenge.pw_wherebase_k52_whole_pairs_of_two_trees w K mg base 1 "box_at" (sp_box_at K) := ⟨⟨_, _, _, ok_box_at F_box_at g  , m_box_at, F_box_at.kp, F_box_at.bindsN (ps := ["form", "item"]) fun _ _ _ _ _ _ us hl => match us, hl with | [_, _], _ => rfl⟩⟩
  have c_wider : Cl PySem.Challenge.pw_wherebase_k52_whole_pairs_of_two_trees w K mg base 1 "wider" (sp_wider K) := ⟨⟨_, _, _, ok_wider F_wider g  , m_wider, F_wider.kp, F_wider.bindsN (ps := ["box", "reach"]) fun _ _ _ _ _ _ us hl => match us, hl with | [_, _], _ => rfl⟩⟩
  have c_centre_of : Cl PySem.Challenge.pw_wherebase_k52_whole_pairs_of_two_trees w K mg base 1 "centre_of" (sp_centre_of K) := ⟨⟨_, _, _, ok_centre_of F_centre_of g  , m_centre_of, F_centre_of.kp, F_centre_of.bindsN (ps := ["box"]) fun _ _ _ _ _ _ us hl => match us, hl with | [_], _ => rfl⟩⟩
  have c_grows_by : Cl PySem.Challenge.pw_wherebase_k52_whole_pairs_of_two_trees w K mg base 2 "grows_by" (sp_grows_by K) := ⟨⟨_, _, _, ok_grows_by F_grows_by g  c_joint_in, m_grows_by, F_grows_by.kp, F_grows_by.bindsN (ps := ["box", "other"]) fun _ _ _ _ _ _ us hl => match us, hl with | [_, _], _ => rfl⟩⟩
  have c_branch_of : Cl PySem.Challenge.pw_wherebase_k52_whole_pairs_of_two_trees w K mg base 2 "branch_of" (sp_branch_of K) := ⟨⟨_, _, _, ok_branch_of F_branch_of g  c_joint_in, m_branch_of, F_branch_of.kp, F_branch_of.bindsN (ps := ["form"]) fun _ _ _ _ _ _ us hl => match us, hl with | [_], _ => rfl⟩⟩
  have c_is_any_met : Cl PySem.Challenge.pw_wherebase_k52_whole_pairs_of_two_trees w K mg base 2 "is_any_met" (sp_is_any_met K) := ⟨⟨_, _, _, ok_is_any_met F_is_any_met g  c_do_meet_in, m_is_any_met, F_is_any_met.kp, F_is_any_met.bindsN (ps := ["boxes", "goal"]) fun _ _ _ _ _ _ us hl => match us, hl with | [_, _], _ => rfl⟩⟩
  have c_items_of : Cl PySem.Challenge.pw_wherebase_k52_whole_pairs_of_two_trees w K mg base 1 "items_of" (sp_items_of K) := ⟨⟨_, _, _, ok_items_of F_items_of g  , m_items_of, F_items_of.kp, F_items_of.bindsN (ps := ["form"]) fun _ _ _ _ _ _ us hl => match us, hl with | [_], _ => rfl⟩⟩
  have c_halves : Cl PySem.Challenge.pw_wherebase_k52_whole_pairs_of_two_trees w K mg base 5 "halves" (sp_halves K [((He.cT K ("halves", none)).2, hlq)]) := ⟨⟨_, _, _, ok_halves F_halves hcc TB g c_box_at c_centre_of, m_halves, F_halves.kp, F_halves.bindsN (ps := ["word", "items"]) fun _ _ _ _ _ _ us hl => match us, hl with | [_, _], _ => rfl⟩⟩
  have c_fitting : Cl PySem.Challenge.pw_wherebase_k52_whole_pairs_of_two_trees w K mg base 6 "fitting" (sp_fitting K [((He.cT K ("halves", none)).2, hlq)]) := ⟨⟨_, _, _, ok_fitting F_fitting g  c_halves, m_fitting, F_fitting.kp, F_fitting.bindsN (ps := ["word", "items"]) fun _ _ _ _ _ _ us hl => match us, hl with | [_, _], _ => rfl⟩⟩
  have r_put_into : ∀ n : Nat, Cl PySem.Challenge.pw_wherebase_k52_whole_pairs_of_two_trees w K mg base (n + 6) "put_into" (sp_put_into K [((He.cT K ("halves", none)).2, hlq)] n) := fun n => by
    induction n with
    | zero => exact ⟨⟨_, _, _, fnOk_no fun vs H Q E h => by obtain ⟨_, _, _, m, h, _⟩ := h; exact absurd h (Nat.not_lt_zero m), m_put_into, F_put_into.kp, F_put_into.bindsN (ps := ["form", "entry"]) fun _ _ _ _ _ _ us hl => match us, hl with | [_, _], _ => rfl⟩⟩
    | succ n ih => exact ⟨⟨_, _, _, ok_put_into F_put_into g c_fitting c_grows_by c_branch_of ih, m_put_into, F_put_into.kp, F_put_into.bindsN (ps := ["form", "entry"]) fun _ _ _ _ _ _ us hl => match us, hl with | [_, _], _ => rfl⟩⟩
  have c_with_entry : Cl PySem.Challenge.pw_wherebase_k52_whole_pairs_of_two_trees w K mg base 11 "with_entry" (sp_with_entry K [((He.cT K ("halves", none)).2, hlq)]) := ⟨⟨_, _, _, ok_with_entry F_with_entry g  (r_put_into 4) c_branch_of, m_with_entry, F_with_entry.kp, F_with_entry.bindsN (ps := ["form", "entry"]) fun _ _ _ _ _ _ us hl => match us, hl with | [_, _], _ => rfl⟩⟩
  have c_form_with : Cl PySem.Challenge.pw_wherebase_k52_whole_pairs_of_two_trees w K mg base 12 "form_with" (sp_form_with K [((He.cT K ("halves", none)).2, hlq)]) := ⟨⟨_, _, _, ok_form_with F_form_with g  c_with_entry, m_form_with, F_form_with.kp, F_form_with.bindsN (ps := ["entries"]) fun _ _ _ _ _ _ us hl => match us, hl with | [_], _ => rfl⟩⟩
  have c_require_entries : Cl PySem.Challenge.pw_wherebase_k52_whole_pairs_of_two_trees w K mg base 4 "require_entries" (sp_require_entries K) := ⟨⟨_, _, _, ok_require_entries F_require_entries g  c_is_entry, m_require_entries, F_require_entries.kp, F_require_entries.bindsN (ps := ["entries"]) fun _ _ _ _ _ _ us hl => match us, hl with | [_], _ => rfl⟩⟩
  have c_require_tree : Cl PySem.Challenge.pw_wherebase_k52_whole_pairs_of_two_trees w K mg base 1 "require_tree" (sp_require_tree K (He.ga K "Tree")) := ⟨⟨_, _, _, ok_require_tree F_require_tree g m_Tree E.ti , m_require_tree, F_require_tree.kp, F_require_tree.bindsN (ps := ["value"]) fun _ _ _ _ _ _ us hl => match us, hl with | [_], _ => rfl⟩⟩
  have c_pairs_walk : Cl PySem.Challenge.pw_wherebase_k52_whole_pairs_of_two_trees w K mg base 3 "pairs_walk" (sp_pairs_walk K (He.ga K "Tree")) := ⟨⟨_, _, _, ok_pairs_walk F_pairs_walk g  c_items_of c_do_meet_in c_wider c_is_any_met, m_pairs_walk, F_pairs_walk.kp, F_pairs_walk.bindsN (ps := ["one", "other", "reach"]) fun _ _ _ _ _ _ us hl => match us, hl with | [_, _, _], _ => rfl⟩⟩
  have c__law_draw : Cl PySem.Challenge.pw_wherebase_k52_whole_pairs_of_two_trees w K mg base 1 "_law_draw" (sp__law_draw K) := ⟨⟨_, _, _, ok__law_draw F__law_draw g  , m__law_draw, F__law_draw.kp, F__law_draw.bindsN (ps := ["_law_bag_here", "_law_total"]) fun _ _ _ _ _ _ us hl => match us, hl with | [_, _], _ => rfl⟩⟩
  have c__law_bag : Cl PySem.Challenge.pw_wherebase_k52_whole_pairs_of_two_trees w K mg base 1 "_law_bag" (sp__law_bag K) := ⟨⟨_, _, _, ok__law_bag F__law_bag g  , m__law_bag, F__law_bag.kp, F__law_bag.bindsN (ps := ["_law_script", "_law_at"]) fun _ _ _ _ _ _ us hl => match us, hl with | [_, _], _ => rfl⟩⟩
  have c__law_one_of : Cl PySem.Challenge.pw_wherebase_k52_whole_pairs_of_two_trees w K mg base 2 "_law_one_of" (sp__law_one_of K) := ⟨⟨_, _, _, ok__law_one_of F__law_one_of g  c__law_draw, m__law_one_of, F__law_one_of.kp, F__law_one_of.bindsN (ps := ["_law_bag_here", "_law_items"]) fun _ _ _ _ _ _ us hl => match us, hl with | [_, _], _ => rfl⟩⟩
  have c__law_shuffled : Cl PySem.Challenge.pw_wherebase_k52_whole_pairs_of_two_trees w K mg base 2 "_law_shuffled" (sp__law_shuffled K) := ⟨⟨_, _, _, ok__law_shuffled F__law_shuffled g  c__law_draw, m__law_shuffled, F__law_shuffled.kp, F__law_shuffled.bindsN (ps := ["_law_bag_here", "_law_items"]) fun _ _ _ _ _ _ us hl => match us, hl with | [_, _], _ => rfl⟩⟩
  have c__law_apart_word : Cl PySem.Challenge.pw_wherebase_k52_whole_pairs_of_two_trees w K mg base 1 "_law_apart_word" (sp__law_apart_word K) := ⟨⟨_, _, _, ok__law_apart_word F__law_apart_word g  , m__law_apart_word, F__law_apart_word.kp, F__law_apart_word.bindsN (ps := ["_law_box", "_law_other"]) fun _ _ _ _ _ _ us hl => match us, hl with | [_, _], _ => rfl⟩⟩
  have c__law_small_box : Cl PySem.Challenge.pw_wherebase_k52_whole_pairs_of_two_trees w K mg base 3 "_law_small_box" (sp__law_small_box K) := ⟨⟨_, _, _, ok__law_small_box F__law_small_box g  c__law_one_of c__law_draw, m__law_small_box, F__law_small_box.kp, F__law_small_box.bindsN (ps := ["_law_bag_here"]) fun _ _ _ _ _ _ us hl => match us, hl with | [_], _ => rfl⟩⟩
  have c__law_joint_box : Cl PySem.Challenge.pw_wherebase_k52_whole_pairs_of_two_trees w K mg base 1 "_law_joint_box" (sp__law_joint_box K) := ⟨⟨_, _, _, ok__law_joint_box F__law_joint_box g  , m__law_joint_box, F__law_joint_box.kp, F__law_joint_box.bindsN (ps := ["_law_boxes"]) fun _ _ _ _ _ _ us hl => match us, hl with | [_], _ => rfl⟩⟩
  have c__law_entries_in : Cl PySem.Challenge.pw_wherebase_k52_whole_pairs_of_two_trees w K mg base 1 "_law_entries_in" (sp__law_entries_in K) := ⟨⟨_, _, _, ok__law_entries_in F__law_entries_in g  , m__law_entries_in, F__law_entries_in.kp, F__law_entries_in.bindsN (ps := ["_law_form"]) fun _ _ _ _ _ _ us hl => match us, hl with | [_], _ => rfl⟩⟩
  have c__law_boxes_in : Cl PySem.Challenge.pw_wherebase_k52_whole_pairs_of_two_trees w K mg base 2 "_law_boxes_in" (sp__law_boxes_in K) := ⟨⟨_, _, _, ok__law_boxes_in F__law_boxes_in g  c__law_entries_in, m__law_boxes_in, F__law_boxes_in.kp, F__law_boxes_in.bindsN (ps := ["_law_form"]) fun _ _ _ _ _ _ us hl => match us, hl with | [_], _ => rfl⟩⟩
  have c__law_drawn_entries : Cl PySem.Challenge.pw_wherebase_k52_whole_pairs_of_two_trees w K mg base 4 "_law_drawn_entries" (sp__law_drawn_entries K) := ⟨⟨_, _, _, ok__law_drawn_entries F__law_drawn_entries g  c__law_shuffled c__law_small_box, m__law_drawn_entries, F__law_drawn_entries.kp, F__law_drawn_entries.bindsN (ps := ["_law_bag_here", "_law_size"]) fun _ _ _ _ _ _ us hl => match us, hl with | [_, _], _ => rfl⟩⟩
  have c__law_lots_of : Cl PySem.Challenge.pw_wherebase_k52_whole_pairs_of_two_trees w K mg base 2 "_law_lots_of" (sp__law_lots_of K) := ⟨⟨_, _, _, ok__law_lots_of F__law_lots_of g  c__law_draw, m__law_lots_of, F__law_lots_of.kp, F__law_lots_of.bindsN (ps := ["_law_bag_here", "_law_items"]) fun _ _ _ _ _ _ us hl => match us, hl with | [_, _], _ => rfl⟩⟩
  have c__law_drawn_form : Cl PySem.Challenge.pw_wherebase_k52_whole_pairs_of_two_trees w K mg base 3 "_law_drawn_form" (sp__law_drawn_form K) := ⟨⟨_, _, _, ok__law_drawn_form F__law_drawn_form g  c__law_lots_of c__law_draw c__law_joint_box c__law_boxes_in, m__law_drawn_form, F__law_drawn_form.kp, F__law_drawn_form.bindsN (ps := ["_law_bag_here", "_law_entries"]) fun _ _ _ _ _ _ us hl => match us, hl with | [_, _], _ => rfl⟩⟩
  have c__law_box_with : Cl PySem.Challenge.pw_wherebase_k52_whole_pairs_of_two_trees w K mg base 1 "_law_box_with" (sp__law_box_with K) := ⟨⟨_, _, _, ok__law_box_with F__law_box_with g  , m__law_box_with, F__law_box_with.kp, F__law_box_with.bindsN (ps := ["_law_form", "_law_at"]) fun _ _ _ _ _ _ us hl => match us, hl with | [_, _], _ => rfl⟩⟩
  have c__law_next_two : Cl PySem.Challenge.pw_wherebase_k52_whole_pairs_of_two_trees w K mg base 2 "_law_next_two" (sp__law_next_two K) := ⟨⟨_, _, _, ok__law_next_two F__law_next_two g  c__law_box_with c__law_apart_word, m__law_next_two, F__law_next_two.kp, F__law_next_two.bindsN (ps := ["_law_first", "_law_second"]) fun _ _ _ _ _ _ us hl => match us, hl with | [_, _], _ => rfl⟩⟩
  have c__law_compared : Cl PySem.Challenge.pw_wherebase_k52_whole_pairs_of_two_trees w K mg base 3 "_law_compared" (sp__law_compared K) := ⟨⟨_, _, _, ok__law_compared F__law_compared g  c__law_next_two, m__law_compared, F__law_compared.kp, F__law_compared.bindsN (ps := ["_law_first", "_law_second"]) fun _ _ _ _ _ _ us hl => match us, hl with | [_, _], _ => rfl⟩⟩
  have r_entries_in : ∀ n : Nat, Cl PySem.Challenge.pw_wherebase_k52_whole_pairs_of_two_trees w K mg base n "entries_in" (sp_entries_in K n) := fun n => by
    induction n with
    | zero => exact ⟨⟨_, _, _, fnOk_no fun vs H Q E h => by obtain ⟨_, _, m, h, _⟩ := h; exact absurd h (Nat.not_lt_zero m), m_entries_in, F_entries_in.kp, F_entries_in.bindsN (ps := ["form"]) fun _ _ _ _ _ _ us hl => match us, hl with | [_], _ => rfl⟩⟩
    | succ n ih => exact ⟨⟨_, _, _, ok_entries_in F_entries_in g ih, m_entries_in, F_entries_in.kp, F_entries_in.bindsN (ps := ["form"]) fun _ _ _ _ _ _ us hl => match us, hl with | [_], _ => rfl⟩⟩
  have r_depths_in : ∀ n : Nat, Cl PySem.Challenge.pw_wherebase_k52_whole_pairs_of_two_trees w K mg base n "depths_in" (sp_depths_in K n) := fun n => by
    induction n with
    | zero => exact ⟨⟨_, _, _, fnOk_no fun vs H Q E h => by obtain ⟨_, _, m, h, _⟩ := h; exact absurd h (Nat.not_lt_zero m), m_depths_in, F_depths_in.kp, F_depths_in.bindsN (ps := ["form"]) fun _ _ _ _ _ _ us hl => match us, hl with | [_], _ => rfl⟩⟩
    | succ n ih => exact ⟨⟨_, _, _, ok_depths_in F_depths_in g ih, m_depths_in, F_depths_in.kp, F_depths_in.bindsN (ps := ["form"]) fun _ _ _ _ _ _ us hl => match us, hl with | [_], _ => rfl⟩⟩
  have r_forms_in : ∀ n : Nat, Cl PySem.Challenge.pw_wherebase_k52_whole_pairs_of_two_trees w K mg base n "forms_in" (sp_forms_in K n) := fun n => by
    induction n with
    | zero => exact ⟨⟨_, _, _, fnOk_no fun vs H Q E h => by obtain ⟨_, _, m, h, _⟩ := h; exact absurd h (Nat.not_lt_zero m), m_forms_in, F_forms_in.kp, F_forms_in.bindsN (ps := ["form"]) fun _ _ _ _ _ _ us hl => match us, hl with | [_], _ => rfl⟩⟩
    | succ n ih => exact ⟨⟨_, _, _, ok_forms_in F_forms_in g ih, m_forms_in, F_forms_in.kp, F_forms_in.bindsN (ps := ["form"]) fun _ _ _ _ _ _ us hl => match us, hl with | [_], _ => rfl⟩⟩
  have r_branches_in : ∀ n : Nat, Cl PySem.Challenge.pw_wherebase_k52_whole_pairs_of_two_trees w K mg base n "branches_in" (sp_branches_in K n) := fun n => by
    induction n with
    | zero => exact ⟨⟨_, _, _, fnOk_no fun vs H Q E h => by obtain ⟨_, _, m, h, _⟩ := h; exact absurd h (Nat.not_lt_zero m), m_branches_in, F_branches_in.kp, F_branches_in.bindsN (ps := ["form"]) fun _ _ _ _ _ _ us hl => match us, hl with | [_], _ => rfl⟩⟩
    | succ n ih => exact ⟨⟨_, _, _, ok_branches_in F_branches_in g ih, m_branches_in, F_branches_in.kp, F_branches_in.bindsN (ps := ["form"]) fun _ _ _ _ _ _ us hl => match us, hl with | [_], _ => rfl⟩⟩
  have r_is_built : ∀ n : Nat, Cl PySem.Challenge.pw_wherebase_k52_whole_pairs_of_two_trees w K mg base (2 * n + 2) "is_built" (sp_is_built K n) := fun n => by
    induction n with
    | zero => exact ⟨⟨_, _, _, fnOk_no fun vs H Q E h => by obtain ⟨_, _, m, h, _⟩ := h; exact absurd h (Nat.not_lt_zero m), m_is_built, F_is_built.kp, F_is_built.bindsN (ps := ["value"]) fun _ _ _ _ _ _ us hl => match us, hl with | [_], _ => rfl⟩⟩
    | succ n ih =>
      have cb : Cl PySem.Challenge.pw_wherebase_k52_whole_pairs_of_two_trees w K mg base (2 * n + 3) "is_branch" (sp_is_branch K n) := ⟨⟨_, _, _, ok_is_branch F_is_branch g c_is_box ih, m_is_branch, F_is_branch.kp, F_is_branch.bindsN (ps := ["value"]) fun _ _ _ _ _ _ us hl => match us, hl with | [_], _ => rfl⟩⟩
      exact ⟨⟨_, _, _, ok_is_built F_is_built g c_is_entry cb, m_is_built, F_is_built.kp, F_is_built.bindsN (ps := ["value"]) fun _ _ _ _ _ _ us hl => match us, hl with | [_], _ => rfl⟩⟩
  have c_has_box : Cl PySem.Challenge.pw_wherebase_k52_whole_pairs_of_two_trees w K mg base (4 + 2) "has_box" (sp_has_box K 4) := ⟨⟨_, _, _, ok_has_box F_has_box g (r_entries_in 4) c_joint_in, m_has_box, F_has_box.kp, F_has_box.bindsN (ps := ["branch"]) fun _ _ _ _ _ _ us hl => match us, hl with | [_], _ => rfl⟩⟩
  have c_flaws_of : Cl PySem.Challenge.pw_wherebase_k52_whole_pairs_of_two_trees w K mg base 11 "flaws_of" (sp_flaws_of K 4) := ⟨⟨_, _, _, ok_flaws_of (n := 4) F_flaws_of g (r_is_built 4) (r_entries_in 4) c_has_box (r_branches_in 4) (r_depths_in 4) c_has_size (r_forms_in 4), m_flaws_of, F_flaws_of.kp, F_flaws_of.bindsN (ps := ["value"]) fun _ _ _ _ _ _ us hl => match us, hl with | [_], _ => rfl⟩⟩
  have FTF := ok_Tree_told_form (P := PySem.Challenge.pw_wherebase_k52_whole_pairs_of_two_trees) (w := w) (base := base) F_Tree_told_form g m_Kept E.scl E.slt E.isi E.kt E.ku c_require_entries c_form_with
  have bTF : Binds K d_Tree_told_form ["self", "entries"] [] := F_Tree_told_form.bindsN fun _ _ _ _ _ _ us hl => match us, hl with | [_, _], _ => rfl
  have FK := ok_Kept_init (P := PySem.Challenge.pw_wherebase_k52_whole_pairs_of_two_trees) (w := w) (base := base) F_Kept___init__ g m_Kept E.scl E.slt E.isi E.kt E.ku
  have bK : Binds K d_Kept___init__ ["self", "form"] [] := F_Kept___init__.bindsN fun _ _ _ _ _ _ us hl => match us, hl with | [_, _], _ => rfl
  have FI := ok_Tree_init (P := PySem.Challenge.pw_wherebase_k52_whole_pairs_of_two_trees) (w := w) (base := base) F_Tree___init__ g ct na nb mTF FTF bTF (r_entries_in 4)
  have bI2 : Binds K d_Tree___init__ ["self", "entries"] [] := by
    obtain ⟨ds, v, b⟩ := FunD.binds1 (ps := ["self", "entries"]) F_Tree___init__ 2 1 (List.cons_ne_nil _ _) rfl fun T kV doc pm an cdv ct us its hl hl2 => match us, hl, its, hl2 with | [_, _], _, [_], _ => ⟨_, rfl, rfl⟩
    cases v
    exact b
  obtain ⟨ds1, v1, b1⟩ := FunD.binds1 (ps := ["self", "entries"]) F_Tree___init__ 1 0 (List.cons_ne_nil _ _) rfl fun T kV doc pm an cdv ct us its hl hl2 => match us, hl, its, hl2 with | [_], _, [_], _ => ⟨_, rfl, rfl⟩
  have FTo := ok_Tree_told (P := PySem.Challenge.pw_wherebase_k52_whole_pairs_of_two_trees) (w := w) (base := base) F_Tree_told g m_Kept mkT FI bI2 mkK FK bK c_flaws_of
  have bTo : Binds K d_Tree_told ["cls", "form"] [] := F_Tree_told.bindsN fun _ _ _ _ _ _ us hl => match us, hl with | [_, _], _ => rfl
  have FPr := ok_Tree_pairs (P := PySem.Challenge.pw_wherebase_k52_whole_pairs_of_two_trees) (w := w) (base := base) F_Tree_pairs g ct na c_require_tree c_pairs_walk
  have bPr : Binds K d_Tree_pairs ["self", "other"] [] := F_Tree_pairs.bindsN fun _ _ _ _ _ _ us hl => match us, hl with | [_, _], _ => rfl
  have FPl := ok_Tree_pairs_looked (P := PySem.Challenge.pw_wherebase_k52_whole_pairs_of_two_trees) (w := w) (base := base) F_Tree_pairs_looked g ct na c_require_tree c_pairs_walk
  have bPl : Binds K d_Tree_pairs_looked ["self", "other"] [] := F_Tree_pairs_looked.bindsN fun _ _ _ _ _ _ us hl => match us, hl with | [_, _], _ => rfl
  have c__law_right : Cl PySem.Challenge.pw_wherebase_k52_whole_pairs_of_two_trees w K mg base 17 "_law_right" (sp__law_right K [((He.cT K ("halves", none)).2, hlq)]) := ⟨⟨_, _, _, ok__law_right F__law_right g m_Tree ct mPr FPr bPr mPl FPl bPl mkT FI bI2 E.cr E.cm (fnR_of FTo bTo) c__law_draw c__law_drawn_entries c__law_drawn_form c__law_apart_word c__law_compared, m__law_right, F__law_right.kp, F__law_right.bindsN (ps := ["_law_bag_here"]) fun _ _ _ _ _ _ us hl => match us, hl with | [_], _ => rfl⟩⟩
  exact ok_law F_law g m_Tree ct mPr FPr bPr mPl FPl bPl mkT FI bI2 v1 b1 E.df c__law_bag c__law_right
end Wb
open PySem PySem.W PySem.Calls PyProof.Rows
theorem PySem.Challenge.cw_wherebase_k52_whole_pairs_of_two_trees_holds : PySem.Challenge.rw_wherebase_k52_whole_pairs_of_two_trees.Holds := by
  w_on; o_law
  refine HandSHeadRun.head_any (r := OpenLaw.row PySem.Challenge.rw_wherebase_k52_whole_pairs_of_two_trees) (q := view (OpenLaw.row PySem.Challenge.rw_wherebase_k52_whole_pairs_of_two_trees).prog [73]) (H := Wb.hk) (ob := Wb.ob) (M := 20000) (loose := Wb.loose) (d := HandSHeadRun.topDef (OpenLaw.row PySem.Challenge.rw_wherebase_k52_whole_pairs_of_two_trees).prog 73) (kwd := []) Wb.ob_eq
    (by kernel_rfl) (fun s => by kernel_rfl) Wb.run (by kernel_rfl) (by kernel_rfl) (by kernel_rfl) (by rfl) (by first | assumption | decide +kernel) (by decide +kernel) ⟨rfl, rfl, rfl, rfl, rfl, by decide +kernel⟩ ?hw ?hc
  case hw => w_witness2
  case hc =>
    refine LamX.walk_ofTsE (l := PySem.Challenge.rw_wherebase_k52_whole_pairs_of_two_trees) (n := 63) (k := 18) (x := "_law_script") (CX := fun _ => L2.CX0) rfl (by decide) (by kernel_rfl) ⟨rfl, by decide, by decide⟩ ?F (fun _ _ _ _ _ z => z)
    intro w mg fa h Y G hmg0
    obtain ⟨K, KX, c⟩ := Y
    have hmg : mg ("law" : PySem.Str) = some (.ref fa) := by
      have e : (HandSHeadRun.topDef (OpenLaw.row PySem.Challenge.rw_wherebase_k52_whole_pairs_of_two_trees).prog 73).name = ("law" : PySem.Str) := by kernel_rfl
      rw [← e]
      exact hmg0
    obtain ⟨fd, hb, hF⟩ := Wb.facts (w := w) KX G hmg c
    have one : ∀ {Z : PySem.Addr × PySem.Addr → Prop}, Z (He.cT K ("halves", none)) → ∀ p ∈ [He.cT K ("halves", none)], Z p := fun hz p hp => by
      rcases List.mem_singleton.mp hp with rfl
      exact hz
    refine ⟨K, KX, fd, [He.cT K ("halves", none)], Wb.sp_law K [((He.cT K ("halves", none)).2, Wb.hlq)], one (Z := fun p => h.get? p.2 = some { cls := .none, data := .fields #[] }) (c.empty _ List.mem_cons_self), one (Z := fun p => K.lookup p.2 = none) (c.out _ List.mem_cons_self), one (Z := fun p => PySem.W.CodeHd h p.1 p.2) (PySem.W.codeHd_of_K KX (c.hd _ List.mem_cons_self)), hb, fun H a ns hl _ hH hS => ⟨.ref a, rfl, a, ns, rfl, hS, fun p hp => ?_, fun _ => rfl⟩, fun base hK hG hTB => hF base hK hG (hTB _ List.mem_cons_self)⟩
    rcases List.mem_singleton.mp hp with rfl
    exact LamX.TabS.nil (hH _ List.mem_cons_self)

